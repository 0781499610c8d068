import PyProof.Rows.All
import Wide.All
import OpenK.AllK
import Wide.FinOn
import HandS.ForMost
import HandS.Exc
import HandS.TryOnly
import HandS.ExcOwn
import HandS.WordsExc
import HandS.IsInst
import HandS.Style
import HandS.Flow
import HandS.WideBits
import HandS.Wide
import HandS.EndBits
import HandS.More
import HandS.CallSlots
import HandS.ExcCtx
import HandS.SuiteRaise
import HandS.ExcInit
import HandS.ExcInitHot
import HandS.Defaults
import HandS.ClsMeth
import HandS.ExcField
import KE.KExcIs
import HandS.ExcValue
import HandS.HeadHook2
import HandS.HotCalls
import HandS.DeepEq
import KE.DataEq
import HandS.SortInts
import HandS.Strs
import KE.KSortedM
import HandS.Conv
import HandS.Deep
import KE.KEqDict
import HandS.Rev
import PySem.Challenge.RW_bytetongue_k54_whole_order_of_letters
set_option Elab.async false
set_option linter.all false
set_option maxRecDepth 100000
set_option maxHeartbeats 4000000
/-! BA: data trees D, owned trees T, how they lie in an abstract heap. -/
namespace BT
open PySem PySem.Spec PyProof.Rows L2

/-- where the text's own classes stand, by their names -/
class CA where
  ca : String → Addr
  ok : String → Prop
open CA (ca ok)
abbrev sS (x : String) : Str := Str.ofString x
theorem sS_inj {a b : String} (h : sS a = sS b) : a = b := by
  unfold sS at h
  rw [Str.ofString_eq_toList, Str.ofString_eq_toList] at h
  have h1 : (a.toList.map Char.toNat).toArray = (b.toList.map Char.toNat).toArray := Str.mk.inj h
  have h2 : a.toList.map Char.toNat = b.toList.map Char.toNat := by simpa using h1
  have h3 : a.toList = b.toList := (List.map_inj_right (f := Char.toNat) fun x y e => Char.ext (UInt32.toNat_inj.mp e)).mp h2
  exact String.toList_inj.mp h3
theorem sS_iff {a b : String} : sS a = sS b ↔ a = b := ⟨sS_inj, fun h => by rw [h]⟩
/-- data that stands still; any: nobody knows -/
inductive D where
  | non | bl (b : Bool) | int (i : Int) | str (x : String) | ty (n : String) | cls (C : String)
  | lst (xs : List D) | tup (xs : List D) | dic (kvs : List (Key × D)) | obj (C : String) (fs : List (String × D)) | err (C : String) (fs : List (String × D)) | any

/-- a tree with owned nodes; d: data that stands still; al: the k-th root of the store -/
inductive T where
  | d (x : D) | al (k : Nat)
  | lst (ts : List T) | tup (ts : List T) | dic (kvs : List (Key × T)) | obj (C : String) (fs : List (String × T))

/-- a list as it stands: tracked, frozen, or of the written part as it is laid -/
def SqX (K : PySem.W.Frag) (H : Hp) (a : Addr) (xs : List V) : Prop := Rd H a (.lst xs) ∨ ∃ (its : List Value) (n : Nat), K.lookup a = some { cls := .type "list", data := .seq its.toArray n } ∧ its.length ≤ sizeLine ∧ Vals xs its
/-- at a: an exception of the class cls, its own dict at d -/
def ErO (cls : Value) (d : Option Addr) (a : Addr) : HO := .ext fun h => ∃ (oe : Obj) (vs : Array Value), h.get? a = some oe ∧ Zc cls d oe ∧ oe.data = .fields vs
section
variable [CA]
mutual
inductive Vw (K : PySem.W.Frag) (H : Hp) : V → D → Prop
  | non : Vw K H .non .non
  | bl (b : Bool) : Vw K H (.bl b) (.bl b)
  | int (i : Int) : Vw K H (.int i) (.int i)
  | str (x : String) : Vw K H (.str (sS x)) (.str x)
  | ty (n : String) : Vw K H (.ty n) (.ty n)
  | cls (C : String) : Vw K H (.ref (ca C)) (.cls C)
  | lst {a : Addr} {vs : List V} {ds : List D} : SqX K H a vs → VwL K H vs ds → Vw K H (.ref a) (.lst ds)
  | tup {a : Addr} {vs : List V} {ds : List D} : SqT K H a vs → VwL K H vs ds → Vw K H (.ref a) (.tup ds)
  | dic {a : Addr} {vs : List (Key × V)} {ds : List (Key × D)} : H a = some (.dK vs) → VwK K H vs ds → Vw K H (.ref a) (.dic ds)
  | obj {a dx : Addr} {C : String} {vs : List (Str × V)} {ds : List (String × D)} : ok C → H a = some (.ins (ca C) dx vs) → VwF K H vs ds → Vw K H (.ref a) (.obj C ds)
  | err {a : Addr} {d : Option Addr} {C : String} {vs : List (Str × V)} {ds : List (String × D)} : ok C → H a = some (ErO (.ref (ca C)) d a) → (∀ e, d = some e → H e = some (.xd vs)) → (d = none → vs = []) → VwF K H vs ds → Vw K H (.ref a) (.err C ds)
  | any (v : V) : Vw K H v .any
inductive VwL (K : PySem.W.Frag) (H : Hp) : List V → List D → Prop
  | nil : VwL K H [] []
  | cons {v : V} {vs : List V} {d : D} {ds : List D} : Vw K H v d → VwL K H vs ds → VwL K H (v :: vs) (d :: ds)
inductive VwK (K : PySem.W.Frag) (H : Hp) : List (Key × V) → List (Key × D) → Prop
  | nil : VwK K H [] []
  | cons {k : Key} {v : V} {vs : List (Key × V)} {d : D} {ds : List (Key × D)} : Vw K H v d → VwK K H vs ds → VwK K H ((k, v) :: vs) ((k, d) :: ds)
inductive VwF (K : PySem.W.Frag) (H : Hp) : List (Str × V) → List (String × D) → Prop
  | nil : VwF K H [] []
  | cons {k : String} {v : V} {vs : List (Str × V)} {d : D} {ds : List (String × D)} : Vw K H v d → VwF K H vs ds → VwF K H ((sS k, v) :: vs) ((k, d) :: ds)
end
end

/-- all that stands in H stands in H' -/
abbrev Ex (H H' : Hp) : Prop := ∀ a o, H a = some o → H' a = some o
theorem Ex.rfl' {H : Hp} : Ex H H := fun _ _ h => h
theorem Ex.tr {H H1 H2 : Hp} (a : Ex H H1) (b : Ex H1 H2) : Ex H H2 := fun x o h => b x o (a x o h)
theorem Ex.new {H : Hp} {p : Addr} {o : HO} (h : H p = none) : Ex H (upd H p o) := fun a u e => by
  rw [upd_ne (ne_of_none e h)]
  exact e
theorem ex_rd {H H' : Hp} {a : Addr} {u : HO} (e : Ex H H') (h : Rd H a u) : Rd H' a u := by
  rcases h with h | ⟨o, h⟩
  · exact Or.inl (e a _ h)
  · exact Or.inr ⟨o, e a _ h⟩
theorem ex_l {K : PySem.W.Frag} {H H' : Hp} {a : Addr} {xs : List V} (e : Ex H H') (h : SqL K H a xs) : SqL K H' a xs := by
  rcases h with h | h
  · exact Or.inl (ex_rd e h)
  · exact Or.inr h
theorem ex_t {K : PySem.W.Frag} {H H' : Hp} {a : Addr} {xs : List V} (e : Ex H H') (h : SqT K H a xs) : SqT K H' a xs := by
  rcases h with h | h
  · exact Or.inl (ex_rd e h)
  · exact Or.inr h
theorem ex_x {K : PySem.W.Frag} {H H' : Hp} {a : Addr} {xs : List V} (e : Ex H H') (h : SqX K H a xs) : SqX K H' a xs := by
  rcases h with h | h
  · exact Or.inl (ex_rd e h)
  · exact Or.inr h
theorem SqX.l {K : PySem.W.Frag} {H : Hp} {a : Addr} {xs : List V} (h : SqX K H a xs) : SqL K H a xs := by
  rcases h with h | ⟨its, n, e, z, r⟩
  · exact Or.inl h
  · exact Or.inr ⟨_, its.toArray, n, e, rfl, rfl, rfl, by simpa using z, by simpa using r⟩
theorem sx_of {K : PySem.W.Frag} {H : Hp} {a : Addr} {xs : List V} (h : H a = some (.lst xs)) : SqX K H a xs := Or.inl (Or.inl h)
theorem sq_of {K : PySem.W.Frag} {H : Hp} {a : Addr} {xs : List V} (h : H a = some (.lst xs)) : SqL K H a xs := Or.inl (Or.inl h)
theorem st_of {K : PySem.W.Frag} {H : Hp} {a : Addr} {xs : List V} (h : H a = some (.tup xs)) : SqT K H a xs := Or.inl (Or.inl h)

section
variable [CA] {K : PySem.W.Frag} {H H' : Hp}
mutual
theorem Vw.ex (e : Ex H H') : ∀ {v : V} {d : D}, Vw K H v d → Vw K H' v d
  | _, _, .non => .non
  | _, _, .bl b => .bl b
  | _, _, .int i => .int i
  | _, _, .str x => .str x
  | _, _, .ty n => .ty n
  | _, _, .cls a => .cls a
  | _, _, .any v => .any v
  | _, _, .lst h l => .lst (ex_x e h) (VwL.ex e l)
  | _, _, .tup h l => .tup (ex_t e h) (VwL.ex e l)
  | _, _, .dic h l => .dic (e _ _ h) (VwK.ex e l)
  | _, _, .obj c h l => .obj c (e _ _ h) (VwF.ex e l)
  | _, _, .err c h h2 h3 l => .err c (e _ _ h) (fun d q => e _ _ (h2 d q)) h3 (VwF.ex e l)
theorem VwL.ex (e : Ex H H') : ∀ {vs : List V} {ds : List D}, VwL K H vs ds → VwL K H' vs ds
  | _, _, .nil => .nil
  | _, _, .cons h l => .cons (Vw.ex e h) (VwL.ex e l)
theorem VwK.ex (e : Ex H H') : ∀ {vs : List (Key × V)} {ds : List (Key × D)}, VwK K H vs ds → VwK K H' vs ds
  | _, _, .nil => .nil
  | _, _, .cons h l => .cons (Vw.ex e h) (VwK.ex e l)
theorem VwF.ex (e : Ex H H') : ∀ {vs : List (Str × V)} {ds : List (String × D)}, VwF K H vs ds → VwF K H' vs ds
  | _, _, .nil => .nil
  | _, _, .cons h l => .cons (Vw.ex e h) (VwF.ex e l)
end
end

mutual
/-- the data of a tree; sd: the data of the store's roots -/
def T.dat (sd : List D) : T → D
  | .d x => x
  | .al k => sd.getD k .any
  | .lst ts => .lst (T.datL sd ts)
  | .tup ts => .tup (T.datL sd ts)
  | .dic kvs => .dic (T.datK sd kvs)
  | .obj C fs => .obj C (T.datF sd fs)
def T.datL (sd : List D) : List T → List D
  | [] => []
  | t :: ts => T.dat sd t :: T.datL sd ts
def T.datK (sd : List D) : List (Key × T) → List (Key × D)
  | [] => []
  | (k, t) :: ts => (k, T.dat sd t) :: T.datK sd ts
def T.datF (sd : List D) : List (String × T) → List (String × D)
  | [] => []
  | (k, t) :: ts => (k, T.dat sd t) :: T.datF sd ts
end

abbrev AS := Addr → Prop
section
variable [CA]
mutual
/-- a tree lies at v: G holds what stands still, H all; A bounds the owned addresses; pv: where the store's roots lie -/
inductive Rp (K : PySem.W.Frag) (G H : Hp) (pv : List V) : V → T → AS → Prop
  | d {v : V} {x : D} {A : AS} : Vw K G v x → Rp K G H pv v (.d x) A
  | al {v : V} {k : Nat} {A : AS} : pv[k]? = some v → Rp K G H pv v (.al k) A
  | lst {a : Addr} {vs : List V} {ts : List T} {A B : AS} : H a = some (.lst vs) → A a → (∀ x, B x → A x ∧ x ≠ a) → RpL K G H pv vs ts B → Rp K G H pv (.ref a) (.lst ts) A
  | tup {a : Addr} {vs : List V} {ts : List T} {A B : AS} : H a = some (.tup vs) → A a → (∀ x, B x → A x ∧ x ≠ a) → RpL K G H pv vs ts B → Rp K G H pv (.ref a) (.tup ts) A
  | dic {a : Addr} {vs : List (Key × V)} {ts : List (Key × T)} {A B : AS} : H a = some (.dK vs) → A a → (∀ x, B x → A x ∧ x ≠ a) → RpK K G H pv vs ts B → Rp K G H pv (.ref a) (.dic ts) A
  | obj {a dx : Addr} {C : String} {vs : List (Str × V)} {ts : List (String × T)} {A B : AS} : ok C → H a = some (.ins (ca C) dx vs) → H dx = some (.own a) → A a → A dx → dx ≠ a → (∀ x, B x → A x ∧ x ≠ a ∧ x ≠ dx) → RpF K G H pv vs ts B →
      Rp K G H pv (.ref a) (.obj C ts) A
inductive RpL (K : PySem.W.Frag) (G H : Hp) (pv : List V) : List V → List T → AS → Prop
  | nil {A : AS} : RpL K G H pv [] [] A
  | cons {v : V} {vs : List V} {t : T} {ts : List T} {A A1 A2 : AS} : Rp K G H pv v t A1 → RpL K G H pv vs ts A2 → (∀ x, A1 x → A x ∧ ¬ A2 x) → (∀ x, A2 x → A x) → RpL K G H pv (v :: vs) (t :: ts) A
inductive RpK (K : PySem.W.Frag) (G H : Hp) (pv : List V) : List (Key × V) → List (Key × T) → AS → Prop
  | nil {A : AS} : RpK K G H pv [] [] A
  | cons {k : Key} {v : V} {vs : List (Key × V)} {t : T} {ts : List (Key × T)} {A A1 A2 : AS} : Rp K G H pv v t A1 → RpK K G H pv vs ts A2 → (∀ x, A1 x → A x ∧ ¬ A2 x) → (∀ x, A2 x → A x) → RpK K G H pv ((k, v) :: vs) ((k, t) :: ts) A
inductive RpF (K : PySem.W.Frag) (G H : Hp) (pv : List V) : List (Str × V) → List (String × T) → AS → Prop
  | nil {A : AS} : RpF K G H pv [] [] A
  | cons {k : String} {v : V} {vs : List (Str × V)} {t : T} {ts : List (String × T)} {A A1 A2 : AS} : Rp K G H pv v t A1 → RpF K G H pv vs ts A2 → (∀ x, A1 x → A x ∧ ¬ A2 x) → (∀ x, A2 x → A x) → RpF K G H pv ((sS k, v) :: vs) ((k, t) :: ts) A
end
end

section
variable [CA] {K : PySem.W.Frag} {G G' H H' : Hp} {pv pv' : List V}
/-- a wider bound; a wider still part; the owned cells as they were; a longer store -/
structure Fm (K : PySem.W.Frag) (G G' H H' : Hp) (pv pv' : List V) (A : AS) : Prop where
  g : Ex G G'
  h : ∀ a o, A a → H a = some o → H' a = some o
  p : ∀ (k : Nat) v, pv[k]? = some v → pv'[k]? = some v
theorem Fm.sub {A B : AS} (f : Fm K G G' H H' pv pv' A) (s : ∀ x, B x → A x) : Fm K G G' H H' pv pv' B := ⟨f.g, fun a o b e => f.h a o (s a b) e, f.p⟩
mutual
theorem Rp.fm : ∀ {v : V} {t : T} {A : AS}, Rp K G H pv v t A → Fm K G G' H H' pv pv' A → Rp K G' H' pv' v t A
  | _, _, _, .d h, f => .d (h.ex f.g)
  | _, _, _, .al h, f => .al (f.p _ _ h)
  | _, _, _, .lst h a s l, f => .lst (f.h _ _ a h) a s (RpL.fm l (f.sub fun x b => (s x b).1))
  | _, _, _, .tup h a s l, f => .tup (f.h _ _ a h) a s (RpL.fm l (f.sub fun x b => (s x b).1))
  | _, _, _, .dic h a s l, f => .dic (f.h _ _ a h) a s (RpK.fm l (f.sub fun x b => (s x b).1))
  | _, _, _, .obj c h h2 a b ne s l, f => .obj c (f.h _ _ a h) (f.h _ _ b h2) a b ne s (RpF.fm l (f.sub fun x b => (s x b).1))
theorem RpL.fm : ∀ {v : List V} {t : List T} {A : AS}, RpL K G H pv v t A → Fm K G G' H H' pv pv' A → RpL K G' H' pv' v t A
  | _, _, _, .nil, _ => .nil
  | _, _, _, .cons h l s1 s2, f => .cons (Rp.fm h (f.sub fun x b => (s1 x b).1)) (RpL.fm l (f.sub s2)) s1 s2
theorem RpK.fm : ∀ {v : List (Key × V)} {t : List (Key × T)} {A : AS}, RpK K G H pv v t A → Fm K G G' H H' pv pv' A → RpK K G' H' pv' v t A
  | _, _, _, .nil, _ => .nil
  | _, _, _, .cons h l s1 s2, f => .cons (Rp.fm h (f.sub fun x b => (s1 x b).1)) (RpK.fm l (f.sub s2)) s1 s2
theorem RpF.fm : ∀ {v : List (Str × V)} {t : List (String × T)} {A : AS}, RpF K G H pv v t A → Fm K G G' H H' pv pv' A → RpF K G' H' pv' v t A
  | _, _, _, .nil, _ => .nil
  | _, _, _, .cons h l s1 s2, f => .cons (Rp.fm h (f.sub fun x b => (s1 x b).1)) (RpF.fm l (f.sub s2)) s1 s2
end
mutual
theorem Rp.mono : ∀ {v : V} {t : T} {A B : AS}, Rp K G H pv v t A → (∀ x, A x → B x) → Rp K G H pv v t B
  | _, _, _, _, .d h, _ => .d h
  | _, _, _, _, .al h, _ => .al h
  | _, _, _, _, .lst h a s l, f => .lst h (f _ a) (fun x b => ⟨f _ (s x b).1, (s x b).2⟩) l
  | _, _, _, _, .tup h a s l, f => .tup h (f _ a) (fun x b => ⟨f _ (s x b).1, (s x b).2⟩) l
  | _, _, _, _, .dic h a s l, f => .dic h (f _ a) (fun x b => ⟨f _ (s x b).1, (s x b).2⟩) l
  | _, _, _, _, .obj c h h2 a b ne s l, f => .obj c h h2 (f _ a) (f _ b) ne (fun x b => ⟨f _ (s x b).1, (s x b).2⟩) l
end
theorem RpL.mono {v : List V} {t : List T} {A B : AS} (h : RpL K G H pv v t A) (f : ∀ x, A x → B x) : RpL K G H pv v t B := by
  cases h with
  | nil => exact .nil
  | cons h l s1 s2 => exact .cons h l (fun x b => ⟨f _ (s1 x b).1, (s1 x b).2⟩) fun x b => f _ (s2 x b)
mutual
/-- the data of a tree, seen in a heap that holds its still part, its owned cells and the store's data -/
theorem Rp.vw {sd : List D} (hs : ∀ (k : Nat) v, pv[k]? = some v → Vw K G' v (sd.getD k .any)) : ∀ {v : V} {t : T} {A : AS}, Rp K G H pv v t A → (∀ a o, A a → H a = some o → G' a = some o) → Ex G G' → Vw K G' v (t.dat sd)
  | _, _, _, .d h, _, g => h.ex g
  | _, _, _, .al h, _, _ => hs _ _ h
  | _, _, _, .lst h a s l, f, g => .lst (sx_of (f _ _ a h)) (RpL.vw hs l (fun x o b e => f x o (s x b).1 e) g)
  | _, _, _, .tup h a s l, f, g => .tup (st_of (f _ _ a h)) (RpL.vw hs l (fun x o b e => f x o (s x b).1 e) g)
  | _, _, _, .dic h a s l, f, g => .dic (f _ _ a h) (RpK.vw hs l (fun x o b e => f x o (s x b).1 e) g)
  | _, _, _, .obj c h h2 a b ne s l, f, g => .obj c (f _ _ a h) (RpF.vw hs l (fun x o b e => f x o (s x b).1 e) g)
theorem RpL.vw {sd : List D} (hs : ∀ (k : Nat) v, pv[k]? = some v → Vw K G' v (sd.getD k .any)) : ∀ {v : List V} {t : List T} {A : AS}, RpL K G H pv v t A → (∀ a o, A a → H a = some o → G' a = some o) → Ex G G' → VwL K G' v (T.datL sd t)
  | _, _, _, .nil, _, _ => .nil
  | _, _, _, .cons h l s1 s2, f, g => .cons (Rp.vw hs h (fun x o b e => f x o (s1 x b).1 e) g) (RpL.vw hs l (fun x o b e => f x o (s2 x b) e) g)
theorem RpK.vw {sd : List D} (hs : ∀ (k : Nat) v, pv[k]? = some v → Vw K G' v (sd.getD k .any)) : ∀ {v : List (Key × V)} {t : List (Key × T)} {A : AS}, RpK K G H pv v t A → (∀ a o, A a → H a = some o → G' a = some o) → Ex G G' → VwK K G' v (T.datK sd t)
  | _, _, _, .nil, _, _ => .nil
  | _, _, _, .cons h l s1 s2, f, g => .cons (Rp.vw hs h (fun x o b e => f x o (s1 x b).1 e) g) (RpK.vw hs l (fun x o b e => f x o (s2 x b) e) g)
theorem RpF.vw {sd : List D} (hs : ∀ (k : Nat) v, pv[k]? = some v → Vw K G' v (sd.getD k .any)) : ∀ {v : List (Str × V)} {t : List (String × T)} {A : AS}, RpF K G H pv v t A → (∀ a o, A a → H a = some o → G' a = some o) → Ex G G' → VwF K G' v (T.datF sd t)
  | _, _, _, .nil, _, _ => .nil
  | _, _, _, .cons h l s1 s2, f, g => .cons (Rp.vw hs h (fun x o b e => f x o (s1 x b).1 e) g) (RpF.vw hs l (fun x o b e => f x o (s2 x b) e) g)
end
end
end BT
/-! BB: states, what may come of a part, the readings by semantic functions. -/
namespace BT
open PySem PySem.Spec PyProof.Rows L2

/-- the names' trees, the store -/
structure S where
  r : List (Option T)
  p : List T
/-- an exception: its class, its fields (none where it has no dict of its own) -/
structure Xn where
  C : String
  fs : List (String × D)
inductive Res (α : Type) where
  | ok (a : α) (s : S) | exc (x : Xn) (s : S) | bad

section
variable [CA] (K : PySem.W.Frag) (G H : Hp) (pv : List V)
inductive RpO : L2.St → List (Option T) → AS → Prop
  | nil {A : AS} : RpO [] [] A
  | skip {o : Option V} {σ : L2.St} {r : List (Option T)} {A : AS} : RpO σ r A → RpO (o :: σ) (none :: r) A
  | cons {v : V} {σ : L2.St} {t : T} {r : List (Option T)} {A A1 A2 : AS} : Rp K G H pv v t A1 → RpO σ r A2 → (∀ x, A1 x → A x ∧ ¬ A2 x) → (∀ x, A2 x → A x) → RpO (some v :: σ) (some t :: r) A
end
section
variable [CA] {K : PySem.W.Frag} {G G' H H' : Hp} {pv pv' : List V}
theorem RpO.fm : ∀ {σ : L2.St} {r : List (Option T)} {A : AS}, RpO K G H pv σ r A → Fm K G G' H H' pv pv' A → RpO K G' H' pv' σ r A
  | _, _, _, .nil, _ => .nil
  | _, _, _, .skip h, f => .skip (RpO.fm h f)
  | _, _, _, .cons h l s1 s2, f => .cons (h.fm (f.sub fun x b => (s1 x b).1)) (RpO.fm l (f.sub s2)) s1 s2
theorem RpO.mono : ∀ {σ : L2.St} {r : List (Option T)} {A B : AS}, RpO K G H pv σ r A → (∀ x, A x → B x) → RpO K G H pv σ r B
  | _, _, _, _, .nil, _ => .nil
  | _, _, _, _, .skip h, f => .skip (RpO.mono h f)
  | _, _, _, _, .cons h l s1 s2, f => .cons h l (fun x b => ⟨f _ (s1 x b).1, (s1 x b).2⟩) fun x b => f _ (s2 x b)
theorem RpO.len : ∀ {σ : L2.St} {r : List (Option T)} {A : AS}, RpO K G H pv σ r A → σ.length = r.length
  | _, _, _, .nil => rfl
  | _, _, _, .skip h => congrArg (· + 1) (RpO.len h)
  | _, _, _, .cons _ l _ _ => congrArg (· + 1) (RpO.len l)
theorem RpL.len : ∀ {v : List V} {t : List T} {A : AS}, RpL K G H pv v t A → v.length = t.length
  | _, _, _, .nil => rfl
  | _, _, _, .cons _ l _ _ => congrArg (· + 1) (RpL.len l)
/-- a part of the names, and the others -/
theorem RpO.split : ∀ {σ1 : L2.St} {r1 : List (Option T)} {σ2 : L2.St} {r2 : List (Option T)} {A : AS}, σ1.length = r1.length → RpO K G H pv (σ1 ++ σ2) (r1 ++ r2) A →
    ∃ A1 A2 : AS, RpO K G H pv σ1 r1 A1 ∧ RpO K G H pv σ2 r2 A2 ∧ (∀ x, A1 x → A x ∧ ¬ A2 x) ∧ ∀ x, A2 x → A x
  | [], [], _, _, A, _, h => ⟨fun _ => False, A, .nil, h, fun _ z => z.elim, fun _ z => z⟩
  | [], _ :: _, _, _, _, e, _ => by cases e
  | _ :: _, [], _, _, _, e, _ => by cases e
  | o :: σ1, t :: r1, σ2, r2, A, e, h => by
    have e' : σ1.length = r1.length := by simpa using e
    cases h with
    | skip h =>
      obtain ⟨A1, A2, h1, h2, d1, d2⟩ := RpO.split e' h
      exact ⟨A1, A2, .skip h1, h2, d1, d2⟩
    | @cons v _ t _ _ B1 B2 h l s1 s2 =>
      obtain ⟨A1, A2, h1, h2, d1, d2⟩ := RpO.split e' l
      refine ⟨fun x => B1 x ∨ A1 x, A2, .cons h h1 (fun x b => ⟨.inl b, fun z => (s1 x b).2 (d1 x z).1⟩) (fun x b => .inr b), h2, fun x b => ?_, fun x b => s2 x (d2 x b)⟩
      rcases b with b | b
      · exact ⟨(s1 x b).1, fun z => (s1 x b).2 (d2 x z)⟩
      · exact ⟨s2 x (d1 x b).1, (d1 x b).2⟩
theorem RpO.join : ∀ {σ1 : L2.St} {r1 : List (Option T)} {σ2 : L2.St} {r2 : List (Option T)} {A A1 A2 : AS}, RpO K G H pv σ1 r1 A1 → RpO K G H pv σ2 r2 A2 → (∀ x, A1 x → A x ∧ ¬ A2 x) → (∀ x, A2 x → A x) →
    RpO K G H pv (σ1 ++ σ2) (r1 ++ r2) A
  | _, _, _, _, _, _, _, .nil, h2, _, d2 => h2.mono d2
  | _, _, _, _, _, _, _, .skip h, h2, d1, d2 => .skip (RpO.join h h2 d1 d2)
  | _, _, σ2, r2, A, _, A2, @RpO.cons _ _ _ _ _ v σ1 t r1 A1 B1 B2 h l s1 s2, h2, d1, d2 =>
    .cons (A2 := fun x => B2 x ∨ A2 x) h (RpO.join l h2 (fun x b => ⟨.inl b, (d1 x (s2 x b)).2⟩) fun x b => .inr b) (fun x b => ⟨(d1 x (s1 x b).1).1, fun z => z.elim (s1 x b).2 (d1 x (s1 x b).1).2⟩)
      (fun x b => b.elim (fun z => (d1 x (s2 x z)).1) (d2 x))
/-- the slot i taken out -/
theorem RpO.take : ∀ {σ : L2.St} {r : List (Option T)} {A : AS} {i : Nat} {t : T}, RpO K G H pv σ r A → r[i]? = some (some t) →
    ∃ (v : V) (A1 A2 : AS), σ[i]? = some (some v) ∧ Rp K G H pv v t A1 ∧ RpO K G H pv σ (r.set i none) A2 ∧ (∀ x, A1 x → A x ∧ ¬ A2 x) ∧ ∀ x, A2 x → A x
  | _, _, _, i, _, .nil, e => by simp at e
  | _, _, _, 0, _, .skip h, e => by simp at e
  | _, _, _, i + 1, t, .skip h, e => by
    obtain ⟨v, A1, A2, e1, h1, h2, d1, d2⟩ := RpO.take h (i := i) (t := t) (by simpa using e)
    exact ⟨v, A1, A2, by simpa using e1, h1, .skip h2, d1, d2⟩
  | _, _, _, 0, t, .cons h l s1 s2, e => by
    simp at e
    subst e
    exact ⟨_, _, _, by simp, h, .skip l, s1, s2⟩
  | _, _, A, i + 1, t, @RpO.cons _ _ _ _ _ w σ u r _ B1 B2 h l s1 s2, e => by
    obtain ⟨v, A1, A2, e1, h1, h2, d1, d2⟩ := RpO.take l (i := i) (t := t) (by simpa using e)
    refine ⟨v, A1, fun x => B1 x ∨ A2 x, by simpa using e1, h1, .cons (A2 := A2) h h2 (fun x b => ⟨.inl b, fun z => (s1 x b).2 (d2 x z)⟩) fun x b => .inr b, fun x b => ⟨s2 x (d1 x b).1, fun z => z.elim (fun z => (s1 x z).2 (d1 x b).1) (d1 x b).2⟩, fun x b => b.elim (fun z => (s1 x z).1) fun z => s2 x (d2 x z)⟩
/-- a tree laid into slot i -/
theorem RpO.put : ∀ {σ : L2.St} {r : List (Option T)} {A A1 A2 : AS} {i : Nat} {t : T} {v : V}, RpO K G H pv σ r A2 → i < σ.length → Rp K G H pv v t A1 → (∀ x, A1 x → A x ∧ ¬ A2 x) → (∀ x, A2 x → A x) → RpO K G H pv (σ.set i (some v)) (r.set i (some t)) A
  | _, _, _, _, _, i, _, _, .nil, e, _, _, _ => by simp at e
  | _, _, _, _, _, 0, t, v, .skip h, e, q, d1, d2 => .cons q h d1 d2
  | _, _, _, _, _, i + 1, t, v, .skip h, e, q, d1, d2 => .skip (RpO.put (i := i) h (by simpa using e) q d1 d2)
  | _, _, A, A1, A2, 0, t, v, .cons h l s1 s2, e, q, d1, d2 => .cons q l (fun x b => ⟨(d1 x b).1, fun z => (d1 x b).2 (s2 x z)⟩) fun x b => d2 x (s2 x b)
  | _, _, A, A1, A2, i + 1, t, v, @RpO.cons _ _ _ _ _ w σ u r _ B1 B2 h l s1 s2, e, q, d1, d2 =>
    .cons (A2 := fun x => B2 x ∨ A1 x) h (RpO.put (i := i) l (by simpa using e) q (fun x b => ⟨.inr b, fun z => (d1 x b).2 (s2 x z)⟩) fun x b => .inl b) (fun x b => ⟨d2 x (s1 x b).1, fun z => z.elim (s1 x b).2 fun z => (d1 x z).2 (s1 x b).1⟩)
      fun x b => b.elim (fun z => d2 x (s2 x z)) fun z => (d1 x z).1
/-- a slot forgotten -/
theorem RpO.drop : ∀ {σ : L2.St} {r : List (Option T)} {A : AS} {i : Nat} {o : Option V}, RpO K G H pv σ r A → RpO K G H pv (σ.set i o) (r.set i none) A
  | _, _, _, i, _, .nil => .nil
  | _, _, _, 0, _, .skip h => .skip h
  | _, _, _, i + 1, _, .skip h => .skip (RpO.drop h)
  | _, _, _, 0, _, .cons h l s1 s2 => .skip (l.mono s2)
  | _, _, _, i + 1, _, .cons h l s1 s2 => .cons h (RpO.drop l) s1 s2
/-- a store's root taken out and laid back otherwise -/
theorem RpL.at : ∀ {vs : List V} {ts : List T} {A : AS} {i : Nat} {t : T}, RpL K G H pv vs ts A → ts[i]? = some t →
    ∃ (v : V) (A1 A2 : AS), vs[i]? = some v ∧ Rp K G H pv v t A1 ∧ (∀ x, A1 x → A x ∧ ¬ A2 x) ∧ (∀ x, A2 x → A x) ∧
      ∀ (G' H' : Hp) (pv' : List V) (t' : T) (A' A1' : AS), Fm K G G' H H' pv pv' A2 → Rp K G' H' pv' v t' A1' → (∀ x, A1' x → A' x ∧ ¬ A2 x) → (∀ x, A2 x → A' x) → RpL K G' H' pv' vs (ts.set i t') A'
  | _, _, _, i, _, .nil, e => by simp at e
  | _, _, _, 0, t, .cons h l s1 s2, e => by
    simp at e
    subst e
    exact ⟨_, _, _, by simp, h, s1, s2, fun G' H' pv' t' A' A1' f q d1 d2 => .cons q (l.fm f) d1 d2⟩
  | _, _, A, i + 1, t, @RpL.cons _ _ _ _ _ w vs u ts _ B1 B2 h l s1 s2, e => by
    obtain ⟨v, A1, A2, e1, h1, d1, d2, k⟩ := RpL.at l (i := i) (t := t) (by simpa using e)
    refine ⟨v, A1, fun x => B1 x ∨ A2 x, by simpa using e1, h1, fun x b => ⟨s2 x (d1 x b).1, fun z => z.elim (fun z => (s1 x z).2 (d1 x b).1) (d1 x b).2⟩, fun x b => b.elim (fun z => (s1 x z).1) fun z => s2 x (d2 x z), fun G' H' pv' t' A' A1' f q e1' e2' => ?_⟩
    have hl := k G' H' pv' t' (fun x => A1' x ∨ A2 x) A1' (f.sub fun x b => .inr b) q (fun x b => ⟨.inl b, fun z => (e1' x b).2 (.inr z)⟩) fun x b => .inr b
    exact .cons (h.fm (f.sub fun x b => .inl b)) hl (fun x b => ⟨e2' x (.inl b), fun z => z.elim (fun z => (e1' x z).2 (.inl b)) fun z => (s1 x b).2 (d2 x z)⟩) fun x b => b.elim (fun z => (e1' x z).1) fun z => e2' x (.inr z)
end

/-- the state lies in H: F: what stands for others, G: what stands still, pv: where the store's roots lie -/
structure Sim [CA] (K : PySem.W.Frag) (F G H : Hp) (σ : L2.St) (s : S) (pv : List V) : Prop where
  ef : Ex F H
  eg : Ex G H
  own : ∃ A B : AS, RpO K G H pv σ s.r A ∧ RpL K G H pv pv s.p B ∧ (∀ x, A x → ¬ B x) ∧ ∀ x, A x ∨ B x → H x ≠ none ∧ F x = none ∧ G x = none
/-- behind a part: what stood still does, nothing of the others' came to stand still -/
structure Post (F G G' : Hp) : Prop where
  g : Ex G G'
  f : ∀ a o, F a = some o → G' a = G a
theorem Post.rfl' {F G : Hp} : Post F G G := ⟨Ex.rfl', fun _ _ _ => rfl⟩
theorem Post.tr {F G G1 G2 : Hp} (a : Post F G G1) (b : Post F G1 G2) : Post F G G2 := ⟨a.g.tr b.g, fun x o e => (b.f x o e).trans (a.f x o e)⟩
theorem pfx {pv pv' : List V} (h : pv <+: pv') : ∀ (k : Nat) v, pv[k]? = some v → pv'[k]? = some v := fun k v e => by
  obtain ⟨l, rfl⟩ := h
  have hk : k < pv.length := (List.getElem?_eq_some_iff.mp e).1
  rw [List.getElem?_append_left hk]
  exact e

section
variable [CA] {K : PySem.W.Frag} {F F2 G G' H H' : Hp} {σ σ1 σ2 σ' : L2.St} {s s' : S} {pv pv' : List V} {r1 r2 r' : List (Option T)} {p p' : List T}
/-- the roots σ1, r1 set aside: F2 bears their cells -/
structure Aside [CA] (K : PySem.W.Frag) (F F2 G H : Hp) (pv : List V) (σ1 : L2.St) (r1 : List (Option T)) : Prop where
  ff : Ex F F2
  h : Ex F2 H
  own : ∃ A : AS, RpO K G H pv σ1 r1 A ∧ ∀ x, A x → F x = none ∧ G x = none ∧ F2 x ≠ none
open Classical in
theorem Sim.out (h : Sim K F G H (σ1 ++ σ2) ⟨r1 ++ r2, p⟩ pv) (e : σ1.length = r1.length) : ∃ F2, Sim K F2 G H σ2 ⟨r2, p⟩ pv ∧ Aside K F F2 G H pv σ1 r1 := by
  obtain ⟨ef, eg, A, B, ho, hs, d, n⟩ := h
  obtain ⟨A1, A2, h1, h2, d1, d2⟩ := RpO.split e ho
  refine ⟨fun a => if A1 a then H a else F a, ⟨fun a o q => ?_, eg, A2, B, h2, hs, fun x b => d x (d2 x b), fun x b => ?_⟩, ⟨fun a o q => ?_, fun a o q => ?_, A1, h1, fun x b => ?_⟩⟩
  · by_cases hA : A1 a
    · rw [if_pos hA] at q; exact q
    · rw [if_neg hA] at q; exact ef a o q
  · have hx : A x ∨ B x := b.elim (fun z => .inl (d2 x z)) .inr
    have hA : ¬ A1 x := fun z => b.elim (d1 x z).2 (d x (d1 x z).1)
    refine ⟨(n x hx).1, ?_, (n x hx).2.2⟩
    show (if A1 x then H x else F x) = none
    rw [if_neg hA]
    exact (n x hx).2.1
  · have hA : ¬ A1 a := fun z => by
      have q2 := (n a (.inl (d1 a z).1)).2.1
      rw [q2] at q; cases q
    show (if A1 a then H a else F a) = some o
    rw [if_neg hA]; exact q
  · by_cases hA : A1 a
    · rw [if_pos hA] at q; exact q
    · rw [if_neg hA] at q; exact ef a o q
  · have q := n x (.inl (d1 x b).1)
    refine ⟨q.2.1, q.2.2, ?_⟩
    show (if A1 x then H x else F x) ≠ none
    rw [if_pos b]; exact q.1
/-- .. and laid back -/
theorem Sim.back (a : Aside K F F2 G H pv σ1 r1) (po : Post F2 G G') (px : pv <+: pv') (h : Sim K F2 G' H' σ' ⟨r', p'⟩ pv') : Sim K F G' H' (σ1 ++ σ') ⟨r1 ++ r', p'⟩ pv' := by
  obtain ⟨ff, fh, A1, h1, n1⟩ := a
  obtain ⟨ef, eg, A, B, ho, hs, d, n⟩ := h
  have dis : ∀ x, A1 x → ¬ A x ∧ ¬ B x := fun x b => ⟨fun z => (n1 x b).2.2 (n x (.inl z)).2.1, fun z => (n1 x b).2.2 (n x (.inr z)).2.1⟩
  have f1 : Fm K G G' H H' pv pv' A1 := ⟨po.g, fun a o b e => by
    cases q : F2 a with
    | none => exact absurd q (n1 a b).2.2
    | some o' =>
      have e1 := fh a o' q
      rw [e] at e1; cases e1
      exact ef a o q, pfx px⟩
  refine ⟨ff.tr ef, eg, fun x => A1 x ∨ A x, B, RpO.join (h1.fm f1) ho (fun x b => ⟨.inl b, (dis x b).1⟩) (fun x b => .inr b), hs, fun x b => b.elim (fun z => (dis x z).2) (d x), fun x b => ?_⟩
  rcases b with (b | b) | b
  · obtain ⟨q1, q2, q3⟩ := n1 x b
    cases q : F2 x with
    | none => exact absurd q q3
    | some o =>
      refine ⟨?_, q1, ?_⟩
      · rw [ef x o q]; exact fun z => nomatch z
      · rw [po.f x o q]; exact q2
  · obtain ⟨q1, q2, q3⟩ := n x (.inl b)
    refine ⟨q1, ?_, q3⟩
    cases q : F x with
    | none => rfl
    | some o => rw [ff x o q] at q2; cases q2
  · obtain ⟨q1, q2, q3⟩ := n x (.inr b)
    refine ⟨q1, ?_, q3⟩
    cases q : F x with
    | none => rfl
    | some o => rw [ff x o q] at q2; cases q2
end
end BT
/-! BC: the readings of expressions by semantic functions; looking without taking (pk). -/
namespace BT
open PySem PySem.Spec PyProof.Rows L2

abbrev Sem := S → Res T
abbrev SemA := S → Res (List T)
abbrev SemT := S → Res Bool
/-- an exception lies so -/
structure XRep [CA] (K : PySem.W.Frag) (F G : Hp) (x : Xn) (cls : Value) (d : Option Addr) : Prop where
  o : CA.ok x.C
  c : cls = .ref (CA.ca x.C)
  f : (d = none ∧ x.fs = []) ∨ ∃ a vs, d = some a ∧ F a = none ∧ G a = some (.xd vs) ∧ VwF K G vs x.fs
def Res.go {α : Type} (R : Res α) (k : α → S → Prop) (e : Xn → S → Prop) : Prop :=
  match R with
  | .ok a s => k a s
  | .exc x s => e x s
  | .bad => False
section
variable [CA] (K : PySem.W.Frag) (F G : Hp) (pv : List V) (σ : L2.St)
def KOk (Q : VK) (t : T) (s' : S) : Prop := ∀ v G' H' pv', Post F G G' → pv <+: pv' → Sim K F G' H' (some v :: σ) ⟨some t :: s'.r, s'.p⟩ pv' → Q v H'
def KOkA (Q : List V → Hp → Prop) (ts : List T) (s' : S) : Prop := ∀ vs G' H' pv', Post F G G' → pv <+: pv' → vs.length = ts.length → Sim K F G' H' (vs.map some ++ σ) ⟨ts.map some ++ s'.r, s'.p⟩ pv' → Q vs H'
def KOkT (Q : Bool → Hp → Prop) (b : Bool) (s' : S) : Prop := ∀ G' H' pv', Post F G G' → pv <+: pv' → Sim K F G' H' σ s' pv' → Q b H'
def KEx (W : WX) (x : Xn) (s' : S) : Prop := ∀ cls d G' H' pv', Post F G G' → pv <+: pv' → Sim K F G' H' σ s' pv' → XRep K F G' x cls d → W cls d σ H'
end
def tOf [CA] (K : PySem.W.Frag) (W : WX) (f : Sem) : TE := fun σ H Q => ∃ F G s pv, Sim K F G H σ s pv ∧ (f s).go (KOk K F G pv σ Q) (KEx K F G pv σ W)
def tOfA [CA] (K : PySem.W.Frag) (W : WX) (f : SemA) : TA := fun σ H Q => ∃ F G s pv, Sim K F G H σ s pv ∧ (f s).go (KOkA K F G pv σ Q) (KEx K F G pv σ W)
def tOfT [CA] (K : PySem.W.Frag) (W : WX) (f : SemT) : TT := fun σ H Q => ∃ F G s pv, Sim K F G H σ s pv ∧ (f s).go (KOkT K F G pv σ Q) (KEx K F G pv σ W)

theorem _root_.L2.PE.le {X : Cx} {e : Expr} {t t' : TE} (h : PE X e t) (i : ∀ σ H Q, t' σ H Q → t σ H Q) : PE X e t' := ⟨fun pins s σ H Q I q => h.run pins s σ H Q I (i σ H Q q)⟩
theorem _root_.L2.PT.le {X : Cx} {e : Expr} {t t' : TT} (h : PT X e t) (i : ∀ σ H Q, t' σ H Q → t σ H Q) : PT X e t' := ⟨fun pins s σ H Q I q => h.run pins s σ H Q I (i σ H Q q)⟩
theorem _root_.L2.PW.le {X : Cx} {e : Expr} {t t' : TT} (h : PW X e t) (i : ∀ σ H Q, t' σ H Q → t σ H Q) : PW X e t' := ⟨fun wh pins s σ H Q I q => h.run wh pins s σ H Q I (i σ H Q q)⟩
theorem _root_.L2.PA.le {X : Cx} {e : List Expr} {t t' : TA} (h : PA X e t) (i : ∀ σ H Q, t' σ H Q → t σ H Q) : PA X e t' := ⟨fun pos pins s σ H Q I q => h.run pos pins s σ H Q I (i σ H Q q)⟩
theorem _root_.L2.PS.le {X : Cx} {e : Stmt} {t t' : TS} (h : PS X e t) (i : ∀ D σ H, t' D σ H → t D σ H) : PS X e t' := ⟨fun pins s σ H D I q => h.run pins s σ H D I (i D σ H q)⟩
theorem _root_.L2.PSs.le {X : Cx} {e : List Stmt} {t t' : TS} (h : PSs X e t) (i : ∀ D σ H, t' D σ H → t D σ H) : PSs X e t' := ⟨fun pins s σ H D I q => h.run pins s σ H D I (i D σ H q)⟩

/-! ### looking -/
def S.sd (s : S) : List D := s.p.map (T.dat [])
def S.fz (s : S) : S := ⟨s.r.map (Option.map fun t => T.d (t.dat s.sd)), []⟩
/-- data without addresses that matter -/
def D.sc : D → Bool
  | .non | .bl _ | .int _ | .str _ | .ty _ | .cls _ => true
  | _ => false
def Xn.sc (x : Xn) : Bool := x.fs.all fun p => p.2.sc
def pk {α : Type} (f : Sem) (s : S) (k : D → Res α) : Res α :=
  match f s.fz with
  | .ok t s' => k (t.dat s'.sd)
  | .exc x _ => if x.sc then .exc x s else .bad
  | .bad => .bad
def pkA {α : Type} (f : SemA) (s : S) (k : List D → Res α) : Res α :=
  match f s.fz with
  | .ok ts s' => k (T.datL s'.sd ts)
  | .exc x _ => if x.sc then .exc x s else .bad
  | .bad => .bad
section
variable [CA] {K : PySem.W.Frag} {F G G' H H' : Hp} {σ : L2.St} {s s' : S} {pv pv' : List V} {W : WX}
theorem Vw.sc {v : V} {d : D} (h : Vw K H v d) (c : d.sc = true) : ∀ H', Vw K H' v d := fun H' => by
  cases h with
  | non => exact .non
  | bl b => exact .bl b
  | int i => exact .int i
  | str x => exact .str x
  | ty n => exact .ty n
  | cls a => exact .cls a
  | any v => cases c
  | err _ _ _ _ _ => cases c
  | lst _ _ => cases c
  | tup _ _ => cases c
  | dic _ _ => cases c
  | obj _ _ _ => cases c
theorem VwF.sc : ∀ {vs : List (Str × V)} {ds : List (String × D)}, VwF K H vs ds → (ds.all fun p => p.2.sc) = true → VwF K H' vs ds
  | _, _, .nil, _ => .nil
  | _, _, .cons h l, c => by
    rw [List.all_cons, Bool.and_eq_true] at c
    exact .cons (h.sc c.1 _) (VwF.sc l c.2)
theorem RpL.pv_get : ∀ {vs : List V} {ts : List T} {A : AS}, RpL K G H pv vs ts A → Ex G H → ∀ (k : Nat) v, vs[k]? = some v → Vw K H v ((ts.map (T.dat [])).getD k .any)
  | _, _, _, .nil, _, k, v, e => by simp at e
  | _, _, _, .cons h l s1 s2, g, 0, v, e => by
    simp at e
    subst e
    simpa using h.vw (sd := []) (G' := H) (fun k v e => .any v) (fun _ _ _ e => e) g
  | _, _, _, .cons h l s1 s2, g, k + 1, v, e => by
    simpa using RpL.pv_get l g k v (by simpa using e)
theorem RpO.fz {sd : List D} (hs : ∀ (k : Nat) v, pv[k]? = some v → Vw K H v (sd.getD k .any)) (g : Ex G H) : ∀ {σ : L2.St} {r : List (Option T)} {A : AS}, RpO K G H pv σ r A →
    RpO K H H [] σ (r.map (Option.map fun t => T.d (t.dat sd))) (fun _ => False)
  | _, _, _, .nil => .nil
  | _, _, _, .skip h => .skip (RpO.fz hs g h)
  | _, _, _, .cons h l s1 s2 => .cons (A1 := fun _ => False) (.d (h.vw hs (fun _ _ _ e => e) g)) (RpO.fz hs g l) (fun _ z => z.elim) fun _ z => z.elim
theorem Sim.fz (h : Sim K F G H σ s pv) : Sim K H H H σ s.fz [] := by
  obtain ⟨ef, eg, A, B, ho, hs, d, n⟩ := h
  exact ⟨Ex.rfl', Ex.rfl', fun _ => False, fun _ => False, RpO.fz (hs.pv_get eg) eg ho, .nil, fun _ z => z.elim, fun _ z => z.elim (fun z => z.elim) fun z => z.elim⟩
theorem Sim.grow (h : Sim K F G H σ s pv) (e : Ex H H') : Sim K F G H' σ s pv := by
  obtain ⟨ef, eg, A, B, ho, hs, d, n⟩ := h
  refine ⟨ef.tr e, eg.tr e, A, B, ho.fm ⟨Ex.rfl', fun a o _ q => e a o q, fun _ _ q => q⟩, hs.fm ⟨Ex.rfl', fun a o _ q => e a o q, fun _ _ q => q⟩, d, fun x b => ⟨fun z => ?_, (n x b).2⟩⟩
  cases q : H x with
  | none => exact (n x b).1 q
  | some o => rw [e x o q] at z; cases z
/-- the data of the names' first tree, and of the store -/
theorem Sim.top {v : V} {t : T} {r : List (Option T)} {p : List T} (h : Sim K F G H (some v :: σ) ⟨some t :: r, p⟩ pv) : Vw K H v (t.dat (p.map (T.dat []))) := by
  obtain ⟨ef, eg, A, B, ho, hs, d, n⟩ := h
  cases ho with
  | cons h l s1 s2 => exact h.vw (hs.pv_get eg) (fun _ _ _ e => e) eg
theorem Sim.pop {o : Option V} {q : Option T} {r : List (Option T)} {p : List T} (h : Sim K F G H (o :: σ) ⟨q :: r, p⟩ pv) : Sim K F G H σ ⟨r, p⟩ pv := by
  obtain ⟨ef, eg, A, B, ho, hs, d, n⟩ := h
  cases ho with
  | skip l => exact ⟨ef, eg, A, B, l, hs, d, n⟩
  | cons h l s1 s2 => exact ⟨ef, eg, _, B, l, hs, fun x b => d x (s2 x b), fun x b => n x (b.elim (fun z => .inl (s2 x z)) .inr)⟩
theorem Sim.push_d {v : V} {x : D} (h : Sim K F G H σ s pv) (q : Vw K G v x) : Sim K F G H (some v :: σ) ⟨some (.d x) :: s.r, s.p⟩ pv := by
  obtain ⟨ef, eg, A, B, ho, hs, d, n⟩ := h
  exact ⟨ef, eg, A, B, .cons (A1 := fun _ => False) (.d q) ho (fun _ z => z.elim) (fun _ z => z), hs, d, n⟩
theorem upd_none {H : Hp} {p a : Addr} {o : HO} (h : H p = none) (e : H a ≠ none) : a ≠ p := fun z => e (z ▸ h)
/-- an exception out of a look -/
theorem kex_look {x : Xn} {cls : Value} {dd : Option Addr} (h : Sim K F G H σ s pv) (k : KEx K F G pv σ W x s) (c : x.sc = true) (e : Ex H H') (g : Ex G' H') (r : XRep K H G' x cls dd) : W cls dd σ H' := by
  obtain ⟨ro, rc, rf⟩ := r
  rcases rf with rf | rf
  · exact k cls dd G H' pv .rfl' (List.prefix_refl _) (h.grow e) ⟨ro, rc, .inl rf⟩
  · obtain ⟨a, vs, ed, fn, ga, vf⟩ := rf
    have hsc : (x.fs.all fun p => p.2.sc) = true := c
    have gn : G a = none := by
      cases z : G a with
      | none => rfl
      | some o => rw [h.eg a o z] at fn; cases fn
    have fa : F a = none := by
      cases z : F a with
      | none => rfl
      | some o => rw [h.ef a o z] at fn; cases fn
    have po : Post F G (upd G a (.xd vs)) := ⟨Ex.new gn, fun b o z => by rw [upd_ne (fun w => by rw [w, fa] at z; cases z)]⟩
    have hg := h.grow e
    obtain ⟨ef, eg, A, B, ho, hs, d, n⟩ := h
    have ne : ∀ y, A y ∨ B y → y ≠ a := fun y b w => (n y b).1 (by rw [w]; exact fn)
    have e1 : Ex (upd G a (.xd vs)) H' := fun b o z => by
      by_cases w : b = a
      · subst w
        rw [upd_same] at z
        cases z
        exact g b _ ga
      · rw [upd_ne w] at z
        exact e b o (eg b o z)
    have f1 : ∀ Z : AS, Fm K G (upd G a (.xd vs)) H H' pv pv Z := fun Z => ⟨po.g, fun b o _ z => e b o z, fun _ _ z => z⟩
    refine k cls dd (upd G a (.xd vs)) H' pv po (List.prefix_refl _) ⟨ef.tr e, e1, A, B, ho.fm (f1 A), hs.fm (f1 B), d, fun y b => ⟨fun z => ?_, (n y b).2.1, by rw [upd_ne (ne y b)]; exact (n y b).2.2⟩⟩ ⟨ro, rc, .inr ⟨a, vs, ed, fa, upd_same, vf.sc hsc⟩⟩
    cases q : H y with
    | none => exact (n y b).1 q
    | some o => rw [e y o q] at z; cases z
/-- looking: the value, its data, the state as it was -/
theorem pk_use {α : Type} {f : Sem} {k : D → Res α} {kok : α → S → Prop} {Q : VK} (h : Sim K F G H σ s pv) (g : (pk f s k).go kok (KEx K F G pv σ W))
    (q : ∀ v x H', Ex H H' → Vw K H' v x → Sim K F G H' σ s pv → (k x).go kok (KEx K F G pv σ W) → Q v H') : tOf K W f σ H Q := by
  refine ⟨H, H, s.fz, [], h.fz, ?_⟩
  unfold pk at g
  cases e : f s.fz with
  | ok t s' =>
    rw [e] at g
    intro v G' H' pv' po px S
    have eh : Ex H H' := S.ef
    exact q v _ H' eh S.top (h.grow eh) g
  | exc x s' =>
    rw [e] at g
    intro cls d G' H' pv' po px S r
    have g' : (if x.sc then Res.exc x s else Res.bad : Res α).go kok (KEx K F G pv σ W) := g
    by_cases c : x.sc = true
    · rw [if_pos c] at g'
      exact kex_look h g' c S.ef S.eg r
    · rw [if_neg c] at g'
      exact g'.elim
  | bad =>
    rw [e] at g
    exact g.elim
theorem RpO.kids : ∀ {vs : List V} {ts : List T} {A : AS}, RpO K G H pv (vs.map some) (ts.map some) A → RpL K G H pv vs ts A
  | [], [], _, _ => .nil
  | [], _ :: _, _, h => by cases h
  | _ :: _, [], _, h => by cases h
  | _ :: _, _ :: _, _, .cons h l s1 s2 => .cons h (RpO.kids l) s1 s2
theorem RpL.roots : ∀ {vs : List V} {ts : List T} {A : AS}, RpL K G H pv vs ts A → RpO K G H pv (vs.map some) (ts.map some) A
  | _, _, _, .nil => .nil
  | _, _, _, .cons h l s1 s2 => .cons h (RpL.roots l) s1 s2
theorem Sim.tops {vs : List V} {ts : List T} {r : List (Option T)} {p : List T} (h : Sim K F G H (vs.map some ++ σ) ⟨ts.map some ++ r, p⟩ pv) (e : vs.length = ts.length) : VwL K H vs (T.datL (p.map (T.dat [])) ts) := by
  obtain ⟨ef, eg, A, B, ho, hs, d, n⟩ := h
  obtain ⟨A1, A2, h1, h2, d1, d2⟩ := RpO.split (by simpa using e) ho
  exact h1.kids.vw (hs.pv_get eg) (fun _ _ _ e => e) eg
theorem pkA_use {α : Type} {f : SemA} {k : List D → Res α} {kok : α → S → Prop} {Q : List V → Hp → Prop} (h : Sim K F G H σ s pv) (g : (pkA f s k).go kok (KEx K F G pv σ W))
    (q : ∀ v x H', Ex H H' → VwL K H' v x → Sim K F G H' σ s pv → (k x).go kok (KEx K F G pv σ W) → Q v H') : tOfA K W f σ H Q := by
  refine ⟨H, H, s.fz, [], h.fz, ?_⟩
  unfold pkA at g
  cases e : f s.fz with
  | ok t s' =>
    rw [e] at g
    intro v G' H' pv' po px el S
    have eh : Ex H H' := S.ef
    exact q v _ H' eh (S.tops el) (h.grow eh) g
  | exc x s' =>
    rw [e] at g
    intro cls d G' H' pv' po px S r
    have g' : (if x.sc then Res.exc x s else Res.bad : Res α).go kok (KEx K F G pv σ W) := g
    by_cases c : x.sc = true
    · rw [if_pos c] at g'
      exact kex_look h g' c S.ef S.eg r
    · rw [if_neg c] at g'
      exact g'.elim
  | bad =>
    rw [e] at g
    exact g.elim
/-- a value without addresses is handed on -/
theorem kok_sc {Q : VK} {x : D} (h : Sim K F G H σ s pv) (c : x.sc = true) (k : KOk K F G pv σ Q (.d x) s) {v : V} (q : Vw K H v x) : Q v H :=
  k v G H pv .rfl' (List.prefix_refl _) (h.push_d (q.sc c _))
end

/-! ### constants, names -/
def sC (x : D) : Sem := fun s => .ok (.d x) s
def sRd (i : Nat) : Sem := fun s => match s.r[i]? with
  | some (some (.d x)) => .ok (.d x) s
  | some (some (.al k)) => .ok (.al k) s
  | _ => .bad
/-- a name's last reading -/
def sMv (i : Nat) : Sem := fun s => match s.r[i]? with
  | some (some t) => .ok t ⟨s.r.set i none, s.p⟩
  | _ => .bad
section
variable [CA] {K : PySem.W.Frag} {F G G' H H' : Hp} {σ : L2.St} {s s' : S} {pv pv' : List V} {W : WX}
theorem sC_le {x : D} {v : V} {Q : VK} (c : ∀ G, Vw K G v x) (h : tOf K W (sC x) σ H Q) : Q v H := by
  obtain ⟨F, G, s, pv, S, q⟩ := h
  exact q v G H pv .rfl' (List.prefix_refl _) (S.push_d (c G))
theorem sRd_le {i : Nat} {Q : VK} (h : tOf K W (sRd i) σ H Q) : tVar i σ H Q := by
  obtain ⟨F, G, s, pv, S, q⟩ := h
  unfold sRd at q
  split at q
  · rename_i x e
    obtain ⟨ef, eg, A, B, ho, hs, d, n⟩ := id S
    obtain ⟨v, A1, A2, e1, h1, h2, d1, d2⟩ := ho.take e
    cases h1 with
    | d hv => exact ⟨v, e1, q v G H pv .rfl' (List.prefix_refl _) (S.push_d hv)⟩
  · rename_i k e
    obtain ⟨ef, eg, A, B, ho, hs, d, n⟩ := id S
    obtain ⟨v, A1, A2, e1, h1, h2, d1, d2⟩ := ho.take e
    cases h1 with
    | al hv => exact ⟨v, e1, q v G H pv .rfl' (List.prefix_refl _) ⟨ef, eg, A, B, .cons (A1 := fun _ => False) (.al hv) ho (fun _ z => z.elim) (fun _ z => z), hs, d, n⟩⟩
  · exact q.elim
theorem sMv_le {i : Nat} {Q : VK} (h : tOf K W (sMv i) σ H Q) : tVar i σ H Q := by
  obtain ⟨F, G, s, pv, S, q⟩ := h
  unfold sMv at q
  split at q
  · rename_i t e
    obtain ⟨ef, eg, A, B, ho, hs, d, n⟩ := id S
    obtain ⟨v, A1, A2, e1, h1, h2, d1, d2⟩ := ho.take e
    exact ⟨v, e1, q v G H pv .rfl' (List.prefix_refl _) ⟨ef, eg, A, B, .cons h1 h2 d1 d2, hs, d, n⟩⟩
  · exact q.elim
end
section
variable [CA] {X : Cx} {W : WX}
theorem r_int {i j pos} : PE X (.Constant (.int i) j pos) (tOf X.K W (sC (.int i))) := pe_int.le fun _ _ _ h => sC_le (fun _ => .int i) h
theorem r_bl {b j pos} : PE X (.Constant (.bool b) j pos) (tOf X.K W (sC (.bl b))) := pe_bl.le fun _ _ _ h => sC_le (fun _ => .bl b) h
theorem r_non {j pos} : PE X (.Constant .none j pos) (tOf X.K W (sC .non)) := pe_non.le fun _ _ _ h => sC_le (fun _ => .non) h
theorem r_str {x : String} {j pos} : PE X (.Constant (.str (sS x)) j pos) (tOf X.K W (sC (.str x))) := pe_str.le fun _ _ _ h => sC_le (fun _ => .str x) h
theorem r_glob {x : Str} {d : D} {v : V} {u : Value} {pos : Pos} (hm : X.mg x = some u) (r : RelV v u) (c : ∀ G, Vw X.K G v d) (hg : Gl X x := by rfl) (hd : (x == ("__debug__" : Str)) = false := by decide) :
    PE X (.Name x pos) (tOf X.K W (sC d)) := (pe_glob hg hm r hd).le fun _ _ _ h => sC_le c h
theorem r_rd (i : Nat) {x : Str} {pos : Pos} (hN : X.N[i]? = some x := by rfl) (hv : Vis X.env.scope x := by first | exact Or.inl rfl | exact Or.inr (Or.inl rfl) | exact Or.inr (Or.inr rfl)) (hd : (x == ("__debug__" : Str)) = false := by decide)
    (hcd : (x == ("__classdict__" : Str)) = false := by decide) : PE X (.Name x pos) (tOf X.K W (sRd i)) := (pe_var hN hv hd hcd).le fun _ _ _ h => sRd_le h
theorem r_mv (i : Nat) {x : Str} {pos : Pos} (hN : X.N[i]? = some x := by rfl) (hv : Vis X.env.scope x := by first | exact Or.inl rfl | exact Or.inr (Or.inl rfl) | exact Or.inr (Or.inr rfl)) (hd : (x == ("__debug__" : Str)) = false := by decide)
    (hcd : (x == ("__classdict__" : Str)) = false := by decide) : PE X (.Name x pos) (tOf X.K W (sMv i)) := (pe_var hN hv hd hcd).le fun _ _ _ h => sMv_le h
end
end BT
/-! BD: operations by their data; fresh lists and tuples; freezing. -/
namespace BT
open PySem PySem.Spec PyProof.Rows L2

def Res.bind {α β : Type} (R : Res α) (k : α → S → Res β) : Res β := match R with
  | .ok a s => k a s
  | .exc x s => .exc x s
  | .bad => .bad
/-- what an operation gives: a value; a new list; a new tuple -/
inductive Rv where
  | one (x : D) | lst (xs : List D) | tup (xs : List D)
def Rv.sc : Rv → Bool
  | .one x => x.sc
  | .lst xs => xs.all D.sc
  | .tup xs => xs.all D.sc
def Rv.fin : Rv → S → Res T
  | .one x, s => .ok (.d x) s
  | .lst xs, s => .ok (.lst (xs.map .d)) s
  | .tup xs, s => .ok (.d (.tup xs)) s
def RvOk [CA] (K : PySem.W.Frag) (G H : Hp) (R : Rv) (Q : VK) : Prop := match R with
  | .one x => ∀ v, Vw K G v x → Q v H
  | .lst xs => ∀ vs p, VwL K G vs xs → H p = none → Q (.ref p) (upd H p (.lst vs))
  | .tup xs => ∀ vs p, VwL K G vs xs → H p = none → Q (.ref p) (upd H p (.tup vs))
/-- an operation's rule, by its data -/
def Op2 [CA] (K : PySem.W.Frag) (r : R2) (g : D → D → Option Rv) : Prop := ∀ (G H : Hp) (x y : V) (a b : D) (R : Rv) (Q : VK), Ex G H → Vw K G x a → Vw K G y b → g a b = some R → RvOk K G H R Q → r x y H Q
def Op1 [CA] (K : PySem.W.Frag) (r : V → Hp → VK → Prop) (g : D → Option Rv) : Prop := ∀ (G H : Hp) (x : V) (a : D) (R : Rv) (Q : VK), Ex G H → Vw K G x a → g a = some R → RvOk K G H R Q → r x H Q
def OpA [CA] (K : PySem.W.Frag) (r : List V → Hp → VK → Prop) (g : List D → Option Rv) : Prop := ∀ (G H : Hp) (x : List V) (a : List D) (R : Rv) (Q : VK), Ex G H → VwL K G x a → g a = some R → RvOk K G H R Q → r x H Q
mutual
def T.na : T → Bool
  | .d _ => true
  | .al _ => false
  | .lst ts => T.naL ts
  | .tup ts => T.naL ts
  | .dic ts => T.naK ts
  | .obj _ ts => T.naF ts
def T.naL : List T → Bool
  | [] => true
  | t :: ts => t.na && T.naL ts
def T.naK : List (Key × T) → Bool
  | [] => true
  | (_, t) :: ts => t.na && T.naK ts
def T.naF : List (String × T) → Bool
  | [] => true
  | (_, t) :: ts => t.na && T.naF ts
end
section
variable [CA] {K : PySem.W.Frag} {F G G' H H' : Hp} {σ : L2.St} {s s' : S} {pv pv' : List V} {W : WX}
theorem and1 {a b : Bool} (h : (a && b) = true) : a = true := by cases a <;> simp_all
theorem and2 {a b : Bool} (h : (a && b) = true) : b = true := by cases a <;> simp_all
mutual
theorem Rp.nopv : ∀ {v : V} {t : T} {A : AS}, Rp K G H pv v t A → t.na = true → Rp K G H [] v t A
  | _, _, _, .d h, _ => .d h
  | _, _, _, .al h, c => by cases c
  | _, _, _, .lst h a s l, c => .lst h a s (RpL.nopv l c)
  | _, _, _, .tup h a s l, c => .tup h a s (RpL.nopv l c)
  | _, _, _, .dic h a s l, c => .dic h a s (RpK.nopv l c)
  | _, _, _, .obj k h h2 a b ne s l, c => .obj k h h2 a b ne s (RpF.nopv l c)
theorem RpL.nopv : ∀ {v : List V} {t : List T} {A : AS}, RpL K G H pv v t A → T.naL t = true → RpL K G H [] v t A
  | _, _, _, .nil, _ => .nil
  | _, _, _, .cons h l s1 s2, c => .cons (Rp.nopv h (and1 c)) (RpL.nopv l (and2 c)) s1 s2
theorem RpK.nopv : ∀ {v : List (Key × V)} {t : List (Key × T)} {A : AS}, RpK K G H pv v t A → T.naK t = true → RpK K G H [] v t A
  | _, _, _, .nil, _ => .nil
  | _, _, _, .cons h l s1 s2, c => .cons (Rp.nopv h (and1 c)) (RpK.nopv l (and2 c)) s1 s2
theorem RpF.nopv : ∀ {v : List (Str × V)} {t : List (String × T)} {A : AS}, RpF K G H pv v t A → T.naF t = true → RpF K G H [] v t A
  | _, _, _, .nil, _ => .nil
  | _, _, _, .cons h l s1 s2, c => .cons (Rp.nopv h (and1 c)) (RpF.nopv l (and2 c)) s1 s2
end
theorem VwL.sc {vs : List V} {ds : List D} : VwL K H vs ds → ds.all D.sc = true → VwL K H' vs ds := by
  intro h
  induction ds generalizing vs with
  | nil => intro _; cases h; exact .nil
  | cons d ds ih =>
    intro c
    cases h with
    | cons h l =>
      rw [List.all_cons, Bool.and_eq_true] at c
      exact .cons (h.sc c.1 _) (ih l c.2)
theorem VwL.rpl {vs : List V} {ds : List D} {A : AS} : VwL K G vs ds → RpL K G H pv vs (ds.map .d) A := by
  intro h
  induction ds generalizing vs A with
  | nil => cases h; exact .nil
  | cons d ds ih =>
    cases h with
    | cons h l => exact .cons (A1 := fun _ => False) (A2 := A) (.d h) (ih l) (fun _ z => z.elim) fun _ z => z
theorem VwL.len {vs : List V} {ds : List D} : VwL K H vs ds → vs.length = ds.length := by
  intro h
  induction ds generalizing vs with
  | nil => cases h; rfl
  | cons d ds ih =>
    cases h with
    | cons h l => rw [List.length_cons, List.length_cons, ih l]
/-- a new object, its roots set within: behind a push -/
theorem Sim.push_new {p : Addr} {o : HO} {t : T} (h : Sim K F G H σ s pv) (hp : H p = none) (q : ∀ H1, H1 = upd H p o → Rp K G H1 pv (.ref p) t (fun x => x = p)) : Sim K F G (upd H p o) (some (.ref p) :: σ) ⟨some t :: s.r, s.p⟩ pv := by
  have e : Ex H (upd H p o) := Ex.new hp
  obtain ⟨ef, eg, _⟩ := h.grow e
  obtain ⟨ef0, eg0, A0, B0, ho0, hs0, d0, n0⟩ := h
  have f1 : ∀ Z : AS, Fm K G G H (upd H p o) pv pv Z := fun Z => ⟨Ex.rfl', fun b o _ z => e b o z, fun _ _ z => z⟩
  have f2 : ∀ Z : AS, Fm K G G H (upd H p o) [] [] Z := fun Z => ⟨Ex.rfl', fun b o _ z => e b o z, fun _ _ z => z⟩
  have ne : ∀ x, A0 x ∨ B0 x → x ≠ p := fun x b w => (n0 x b).1 (by rw [w]; exact hp)
  have fp : F p = none := by
    cases z : F p with
    | none => rfl
    | some o => rw [ef0 p o z] at hp; cases hp
  have gp : G p = none := by
    cases z : G p with
    | none => rfl
    | some o => rw [eg0 p o z] at hp; cases hp
  refine ⟨ef, eg, fun x => x = p ∨ A0 x, B0, .cons (q _ rfl) (ho0.fm (f1 _)) (fun x b => ⟨.inl b, fun z => ne x (.inl z) b⟩) (fun x b => .inr b), hs0.fm (f1 _), fun x b c => ?_, fun x b => ?_⟩
  · rcases b with b | b
    · exact ne x (.inr c) b
    · exact d0 x b c
  · by_cases w : x = p
    · subst w
      rw [upd_same]
      exact ⟨(fun z => by cases z), fp, gp⟩
    · have b' : A0 x ∨ B0 x := by
        rcases b with (b | b) | b
        · exact absurd b w
        · exact .inl b
        · exact .inr b
      rw [upd_ne w]
      exact n0 x b'
theorem fin_use {R : Rv} {Q : VK} {e : Xn → S → Prop} (h : Sim K F G H σ s pv) (g : (R.fin s).go (KOk K F G pv σ Q) e) : RvOk K G H R Q := by
  cases R with
  | one x => exact fun v q => g v G H pv .rfl' (List.prefix_refl _) (h.push_d q)
  | lst xs =>
    intro vs p q hp
    refine g (.ref p) G _ pv .rfl' (List.prefix_refl _) (h.push_new hp fun H1 e1 => ?_)
    subst e1
    exact .lst (B := fun _ => False) upd_same rfl (fun _ z => z.elim) q.rpl
  | tup xs =>
    intro vs p q hp
    have gp : G p = none := by
      cases z : G p with
      | none => rfl
      | some o => rw [h.eg p o z] at hp; cases hp
    have fp : F p = none := by
      cases z : F p with
      | none => rfl
      | some o => rw [h.ef p o z] at hp; cases hp
    have po : Post F G (upd G p (.tup vs)) := ⟨Ex.new gp, fun b o z => by rw [upd_ne (fun w => by rw [w, fp] at z; cases z)]⟩
    refine g (.ref p) (upd G p (.tup vs)) (upd H p (.tup vs)) pv po (List.prefix_refl _) ?_
    have e : Ex H (upd H p (.tup vs)) := Ex.new hp
    have h' : Sim K F (upd G p (.tup vs)) (upd H p (.tup vs)) σ s pv := by
      obtain ⟨ef, eg, A, B, ho, hs, d, n⟩ := h
      refine ⟨ef.tr e, fun b o z => ?_, A, B, ho.fm ⟨po.g, fun b o _ z => e b o z, fun _ _ z => z⟩, hs.fm ⟨po.g, fun b o _ z => e b o z, fun _ _ z => z⟩, d, fun x b => ?_⟩
      · by_cases w : b = p
        · subst w; rw [upd_same] at z ⊢; exact z
        · rw [upd_ne w] at z ⊢; exact eg b o z
      · have w : x ≠ p := fun w => (n x b).1 (by rw [w]; exact hp)
        rw [upd_ne w, upd_ne w]
        exact n x b
    exact h'.push_d (.tup (st_of upd_same) (q.ex po.g))
theorem VwL.ex' {vs : List V} {ds : List D} (q : VwL K H vs ds) (e : Ex H H') : VwL K H' vs ds := q.ex e
/-- of data without addresses a look's answer is an answer -/
theorem RvOk.look {R : Rv} {Q : VK} (c : R.sc = true) (h : RvOk K G H R Q) : RvOk K H' H R Q := by
  cases R with
  | one x => exact fun v q => h v (q.sc c _)
  | lst xs => exact fun vs p q hp => h vs p (q.sc c) hp
  | tup xs => exact fun vs p q hp => h vs p (q.sc c) hp
end
/-- an operation's end: of a look -/
def lk (o : Option Rv) (s : S) : Res T := match o with
  | some R => if R.sc then R.fin s else .bad
  | none => .bad
def sBin (g : D → D → Option Rv) (fa fb : Sem) : Sem := fun s => pk fa s fun a => pk fb s fun b => lk (g a b) s
def sUn (g : D → Option Rv) (fa : Sem) : Sem := fun s => pk fa s fun a => lk (g a) s
def sCB (g : List D → Option Rv) (fs : SemA) : Sem := fun s => pkA fs s fun a => lk (g a) s
section
variable [CA] {K : PySem.W.Frag} {F G G' H H' : Hp} {σ : L2.St} {s s' : S} {pv pv' : List V} {W : WX}
theorem lk_use {o : Option Rv} {Q : VK} {e : Xn → S → Prop} (h : Sim K F G H σ s pv) (g : (lk o s).go (KOk K F G pv σ Q) e) : ∃ R, o = some R ∧ ∀ H', RvOk K H' H R Q := by
  unfold lk at g
  cases o with
  | none => exact g.elim
  | some R =>
    have g' : (if R.sc then R.fin s else .bad).go (KOk K F G pv σ Q) e := g
    by_cases c : R.sc = true
    · rw [if_pos c] at g'
      exact ⟨R, rfl, fun H' => (fin_use h g').look c⟩
    · rw [if_neg c] at g'
      exact g'.elim
theorem sBin_le {r : R2} {g : D → D → Option Rv} {fa fb : Sem} {Q : VK} (o : Op2 K r g) (h : tOf K W (sBin g fa fb) σ H Q) : tOp r (tOf K W fa) (tOf K W fb) σ H Q := by
  obtain ⟨F, G, s, pv, S, q⟩ := h
  refine pk_use S q fun x a H1 e1 va S1 q1 => pk_use S1 q1 fun y b H2 e2 vb S2 q2 => ?_
  obtain ⟨R, eR, k⟩ := lk_use S2 q2
  exact o H2 H2 x y a b R Q Ex.rfl' (va.ex e2) vb eR (k H2)
theorem sUn_le {r : V → Hp → VK → Prop} {g : D → Option Rv} {fa : Sem} {Q : VK} (o : Op1 K r g) (h : tOf K W (sUn g fa) σ H Q) : tUn r (tOf K W fa) σ H Q := by
  obtain ⟨F, G, s, pv, S, q⟩ := h
  refine pk_use S q fun x a H1 e1 va S1 q1 => ?_
  obtain ⟨R, eR, k⟩ := lk_use S1 q1
  exact o H1 H1 x a R Q Ex.rfl' va eR (k H1)
theorem sCB_le {r : List V → Hp → VK → Prop} {g : List D → Option Rv} {fs : SemA} {Q : VK} (o : OpA K r g) (h : tOf K W (sCB g fs) σ H Q) : tCB r (tOfA K W fs) σ H Q := by
  obtain ⟨F, G, s, pv, S, q⟩ := h
  refine pkA_use S q fun x a H1 e1 va S1 q1 => ?_
  obtain ⟨R, eR, k⟩ := lk_use S1 q1
  exact o H1 H1 x a R Q Ex.rfl' va eR (k H1)
end
/-! ### arguments -/
def sAn : SemA := fun s => .ok [] s
def sAc (f : Sem) (g : SemA) : SemA := fun s => (f s).bind fun t s1 => (g s1).bind fun ts s2 => .ok (t :: ts) s2
section
variable [CA] {K : PySem.W.Frag} {F G G' H H' : Hp} {σ : L2.St} {s s' : S} {pv pv' : List V} {W : WX}
theorem sAn_le {Q : List V → Hp → Prop} (h : tOfA K W sAn σ H Q) : tNil σ H Q := by
  obtain ⟨F, G, s, pv, S, q⟩ := h
  exact q [] G H pv .rfl' (List.prefix_refl _) rfl S
/-- a part first, then the rest with its value set aside -/
theorem bind_use {α β : Type} {R : Res α} {k : α → S → Res β} {kok : β → S → Prop} {e : Xn → S → Prop} (h : (R.bind k).go kok e) : R.go (fun a s => (k a s).go kok e) e := by
  cases R with
  | ok a s => exact h
  | exc x s => exact h
  | bad => exact h
theorem Res.go.imp {α : Type} {R : Res α} {k k' : α → S → Prop} {e e' : Xn → S → Prop} (h : R.go k e) (h1 : ∀ a s, k a s → k' a s) (h2 : ∀ x s, e x s → e' x s) : R.go k' e' := by
  cases R with
  | ok a s => exact h1 a s h
  | exc x s => exact h2 x s h
  | bad => exact h.elim
theorem KEx.after {x : Xn} (po : Post F G G') (px : pv <+: pv') (h : KEx K F G pv σ W x s') : KEx K F G' pv' σ W x s' := fun cls d G2 H2 pv2 po2 px2 S2 r => h cls d G2 H2 pv2 (po.tr po2) (px.trans px2) S2 r
theorem KOk.after {Q : VK} {t : T} (po : Post F G G') (px : pv <+: pv') (h : KOk K F G pv σ Q t s') : KOk K F G' pv' σ Q t s' := fun v G2 H2 pv2 po2 px2 S2 => h v G2 H2 pv2 (po.tr po2) (px.trans px2) S2
theorem KOkA.after {Q : List V → Hp → Prop} {t : List T} (po : Post F G G') (px : pv <+: pv') (h : KOkA K F G pv σ Q t s') : KOkA K F G' pv' σ Q t s' := fun v G2 H2 pv2 po2 px2 l S2 => h v G2 H2 pv2 (po.tr po2) (px.trans px2) l S2
theorem KOkT.after {Q : Bool → Hp → Prop} {t : Bool} (po : Post F G G') (px : pv <+: pv') (h : KOkT K F G pv σ Q t s') : KOkT K F G' pv' σ Q t s' := fun G2 H2 pv2 po2 px2 S2 => h G2 H2 pv2 (po.tr po2) (px.trans px2) S2
/-- Post for the larger ground is Post for the smaller -/
theorem Aside.post {F2 : Hp} {σ1 : L2.St} {r1 : List (Option T)} (a : Aside K F F2 G H pv σ1 r1) (po : Post F2 G G') : Post F G G' := ⟨po.g, fun x o e => po.f x o (a.ff x o e)⟩
theorem Aside.xrep {F2 : Hp} {σ1 : L2.St} {r1 : List (Option T)} {x : Xn} {cls : Value} {d : Option Addr} (a : Aside K F F2 G H pv σ1 r1) (r : XRep K F2 G' x cls d) : XRep K F G' x cls d := by
  obtain ⟨o, c, f⟩ := r
  refine ⟨o, c, ?_⟩
  rcases f with f | ⟨b, vs, e1, e2, e3, e4⟩
  · exact .inl f
  · refine .inr ⟨b, vs, e1, ?_, e3, e4⟩
    cases z : F b with
    | none => rfl
    | some o => rw [a.ff b o z] at e2; cases e2
theorem sAc_le {f : Sem} {g : SemA} {Q : List V → Hp → Prop} (h : tOfA K W (sAc f g) σ H Q) : tCons (tOf K W f) (tOfA K W g) σ H Q := by
  obtain ⟨F, G, s, pv, S, q⟩ := h
  refine ⟨F, G, s, pv, S, (bind_use q).imp (fun t s1 q1 => ?_) fun _ _ z => z⟩
  intro v G1 H1 pv1 po1 px1 S1
  obtain ⟨F2, S2, a⟩ := Sim.out (σ1 := [some v]) (r1 := [some t]) S1 rfl
  refine ⟨F2, G1, s1, pv1, S2, (bind_use q1).imp (fun ts s2 q2 => ?_) fun x s2 q2 => ?_⟩
  · intro vs G3 H3 pv3 po3 px3 el S3
    have S4 := Sim.back a po3 px3 S3
    exact q2 (v :: vs) G3 H3 pv3 (po1.tr (a.post po3)) (px1.trans px3) (by rw [List.length_cons, List.length_cons, el]) S4
  · intro cls d G3 H3 pv3 po3 px3 S3 r
    have S4 := Sim.back a po3 px3 S3
    exact q2 cls d G3 H3 pv3 (po1.tr (a.post po3)) (px1.trans px3) S4.pop (a.xrep r)
end
section
variable [CA] {X : Cx} {W : WX} {e a b : Expr} {es : List Expr} {f fa fb : Sem} {g : SemA} {pos : Pos}
theorem r_an : PA X [] (tOfA X.K W sAn) := pa_nil.le fun _ _ _ h => sAn_le h
theorem r_ac (ha : PE X e (tOf X.K W f)) (hr : PA X es (tOfA X.K W g)) (hs : starEach (e :: es) X.env = (false, eval e X.env) :: starEach es X.env := by rfl) : PA X (e :: es) (tOfA X.K W (sAc f g)) := (pa_cons ha hr hs).le fun _ _ _ h => sAc_le h
theorem r_bin {op : Operator} {r : R2} {gg : D → D → Option Rv} (ho : OpR X (binaryOp op) r) (o : Op2 X.K r gg) (ha : PE X a (tOf X.K W fa)) (hb : PE X b (tOf X.K W fb)) : PE X (.BinOp a op b pos) (tOf X.K W (sBin gg fa fb)) :=
  (pe_op ho ha hb).le fun _ _ _ h => sBin_le o h
theorem r_un {op : UnaryOp} {r : V → Hp → VK → Prop} {gg : D → Option Rv} (ho : UnR X (unaryOp op) r) (o : Op1 X.K r gg) (ha : PE X a (tOf X.K W fa)) : PE X (.UnaryOp op a pos) (tOf X.K W (sUn gg fa)) :=
  (pe_un ho ha).le fun _ _ _ h => sUn_le o h
theorem r_cmp {op : CmpOp} {r : R2} {gg : D → D → Option Rv} (ho : OpR X (compareOp op) r) (o : Op2 X.K r gg) (ha : PE X a (tOf X.K W fa)) (hb : PE X b (tOf X.K W fb)) (hm : behindInMarks op b = false := by first | exact nomark _ | rfl) :
    PE X (.Compare a [op] [b] pos) (tOf X.K W (sBin gg fa fb)) := (pe_cmpR ho ha hb hm).le fun _ _ _ h => sBin_le o h
theorem r_ix {r : R2} {gg : D → D → Option Rv} (ho : IxR X r) (o : Op2 X.K r gg) (ha : PE X a (tOf X.K W fa)) (hb : PE X b (tOf X.K W fb)) (hs : PlainIx b := by exact fun _ _ => rfl) : PE X (.Subscript a b pos) (tOf X.K W (sBin gg fa fb)) :=
  (pe_ix ho ha hb hs).le fun _ _ _ h => sBin_le o h
theorem r_callB {id : String} {r : List V → Hp → VK → Prop} {gg : List D → Option Rv} {x : Str} {p : Pos} (hc : CallR X (.builtin id) r) (o : OpA X.K r gg) (hm : X.mg x = none) (hv : bootBuiltins x = some (.builtin id)) (ha : PA X (e :: es) (tOfA X.K W g))
    (hg : Gl X x := by rfl) (hn : x ≠ "__name__" := by decide) (hdb : (x == ("__debug__" : Str)) = false := by decide) (he : starEach (e :: es) X.env = (false, eval e X.env) :: starEach es X.env := by rfl) (hpl : (backTo pos (starEach es X.env)).any (·.1) = false := by rfl) :
    PE X (.Call (.Name x p) (e :: es) [] pos) (tOf X.K W (sCB gg g)) := (pe_callB hc hg hm hv ha hn hdb he hpl).le fun _ _ _ h => sCB_le o h
theorem r_callTy {T : String} {r : List V → Hp → VK → Prop} {gg : List D → Option Rv} {x : Str} {p : Pos} (hc : CallR X (.type T) r) (o : OpA X.K r gg) (hm : X.mg x = none) (hv : bootBuiltins x = some (.type T)) (ha : PA X (e :: es) (tOfA X.K W g))
    (hg : Gl X x := by rfl) (hn : x ≠ "__name__" := by decide) (hdb : (x == ("__debug__" : Str)) = false := by decide) (he : starEach (e :: es) X.env = (false, eval e X.env) :: starEach es X.env := by rfl) (hpl : (backTo pos (starEach es X.env)).any (·.1) = false := by rfl) :
    PE X (.Call (.Name x p) (e :: es) [] pos) (tOf X.K W (sCB gg g)) := (pe_callTy hc hg hm hv ha hn hdb he hpl).le fun _ _ _ h => sCB_le o h
end
end BT
/-! BE: tests, and / or / not, chains, displays; statements; loops. -/
namespace BT
open PySem PySem.Spec PyProof.Rows L2

/-! ### tests -/
def D.tru : D → Option Bool
  | .non => some false
  | .bl b => some b
  | .int i => some (i != 0)
  | .lst xs => some (!xs.isEmpty)
  | .tup xs => some (!xs.isEmpty)
  | _ => none
/-- a value that is a truth, as a test -/
def sTb (f : Sem) : SemT := fun s => (f s).bind fun t s' => match t with
  | .d (.bl b) => .ok b s'
  | _ => .bad
/-- a value by its truth -/
def sTt (f : Sem) : SemT := fun s => pk f s fun x => match x.tru with
  | some b => .ok b s
  | none => .bad
def sTand (f g : SemT) : SemT := fun s => (f s).bind fun b s' => if b then g s' else .ok false s'
def sTor (f g : SemT) : SemT := fun s => (f s).bind fun b s' => if b then .ok true s' else g s'
def sTnot (f : SemT) : SemT := fun s => (f s).bind fun b s' => .ok (!b) s'
def sAnd (f g : Sem) : Sem := fun s => (f s).bind fun t s' => match t with
  | .d (.bl b) => if b then g s' else .ok (.d (.bl false)) s'
  | _ => .bad
def sOr (f g : Sem) : Sem := fun s => (f s).bind fun t s' => match t with
  | .d (.bl b) => if b then .ok (.d (.bl true)) s' else g s'
  | _ => .bad
def sNot (f : Sem) : Sem := fun s => (f s).bind fun t s' => match t with
  | .d (.bl b) => .ok (.d (.bl (!b))) s'
  | _ => .bad
def sIfE (c : SemT) (f g : Sem) : Sem := fun s => (c s).bind fun b s' => if b then f s' else g s'
def sChain (g g' : D → D → Option Rv) (fa fb fc : Sem) : Sem := fun s => pk fa s fun a => pk fb s fun b => match g a b with
  | some (.one (.bl k)) => if k then pk fc s fun c => lk (g' b c) s else .ok (.d (.bl false)) s
  | _ => .bad
section
variable [CA] {K : PySem.W.Frag} {F G G' H H' : Hp} {σ : L2.St} {s s' : S} {pv pv' : List V} {W : WX}
theorem vbl {v : V} {b : Bool} (h : Vw K H v (.bl b)) : v = .bl b := by cases h; rfl
theorem Vw.tru_ok {v : V} {x : D} {b : Bool} (h : Vw K H v x) (e : x.tru = some b) : TruV K v H b := by
  cases h with
  | non => exact (Option.some.inj e).symm
  | bl c => exact (Option.some.inj e).symm
  | int i => exact (Option.some.inj e).symm
  | str x => cases e
  | ty n => cases e
  | cls a => cases e
  | lst h l =>
    refine .inl ⟨_, h.l, ?_⟩
    rw [← Option.some.inj e]
    cases l <;> rfl
  | tup h l =>
    refine .inr (.inl ⟨_, h, ?_⟩)
    rw [← Option.some.inj e]
    cases l <;> rfl
  | dic h l => cases e
  | obj _ h l => cases e
  | err _ _ _ _ _ => cases e
  | any v => cases e
theorem sTb_le {f : Sem} {Q : Bool → Hp → Prop} (h : tOfT K W (sTb f) σ H Q) : tOf K W f σ H fun x H' => ∃ k, x = .bl k ∧ Q k H' := by
  obtain ⟨F, G, s, pv, S, q⟩ := h
  refine ⟨F, G, s, pv, S, (bind_use q).imp (fun t s1 q1 => ?_) fun _ _ z => z⟩
  intro v G1 H1 pv1 po px S1
  split at q1
  · rename_i b
    exact ⟨b, vbl S1.top, q1 G1 H1 pv1 po px S1.pop⟩
  · exact q1.elim
theorem sTt_le {f : Sem} {Q : Bool → Hp → Prop} (h : tOfT K W (sTt f) σ H Q) : tOf K W f σ H fun x H' => ∃ k, TruV K x H' k ∧ Q k H' := by
  obtain ⟨F, G, s, pv, S, q⟩ := h
  refine pk_use S q fun v x H1 e1 va S1 q1 => ?_
  cases e : x.tru with
  | none => rw [e] at q1; exact q1.elim
  | some b =>
    rw [e] at q1
    exact ⟨b, va.tru_ok e, q1 G H1 pv .rfl' (List.prefix_refl _) S1⟩
theorem sTand_le {f g : SemT} {Q : Bool → Hp → Prop} (h : tOfT K W (sTand f g) σ H Q) : tAnd (tOfT K W f) (tOfT K W g) σ H Q := by
  obtain ⟨F, G, s, pv, S, q⟩ := h
  refine ⟨F, G, s, pv, S, (bind_use q).imp (fun b s1 q1 => ?_) fun _ _ z => z⟩
  intro G1 H1 pv1 po px S1
  cases b with
  | true => exact ⟨F, G1, s1, pv1, S1, q1.imp (fun _ _ z => z.after po px) fun _ _ z => z.after po px⟩
  | false => exact q1 G1 H1 pv1 po px S1
theorem sTor_le {f g : SemT} {Q : Bool → Hp → Prop} (h : tOfT K W (sTor f g) σ H Q) : tOr (tOfT K W f) (tOfT K W g) σ H Q := by
  obtain ⟨F, G, s, pv, S, q⟩ := h
  refine ⟨F, G, s, pv, S, (bind_use q).imp (fun b s1 q1 => ?_) fun _ _ z => z⟩
  intro G1 H1 pv1 po px S1
  cases b with
  | true => exact q1 G1 H1 pv1 po px S1
  | false => exact ⟨F, G1, s1, pv1, S1, q1.imp (fun _ _ z => z.after po px) fun _ _ z => z.after po px⟩
theorem sTnot_le {f : SemT} {Q : Bool → Hp → Prop} (h : tOfT K W (sTnot f) σ H Q) : tNot (tOfT K W f) σ H Q := by
  obtain ⟨F, G, s, pv, S, q⟩ := h
  exact ⟨F, G, s, pv, S, (bind_use q).imp (fun b s1 q1 => q1) fun _ _ z => z⟩
theorem sAnd_le {f g : Sem} {Q : VK} (h : tOf K W (sAnd f g) σ H Q) : tAndV (tOf K W f) (tOf K W g) σ H Q := by
  obtain ⟨F, G, s, pv, S, q⟩ := h
  refine ⟨F, G, s, pv, S, (bind_use q).imp (fun t s1 q1 => ?_) fun _ _ z => z⟩
  intro v G1 H1 pv1 po px S1
  split at q1
  · rename_i b
    refine ⟨b, vbl S1.top, ?_⟩
    cases b with
    | true => exact ⟨F, G1, s1, pv1, S1.pop, q1.imp (fun _ _ z => z.after po px) fun _ _ z => z.after po px⟩
    | false => exact q1 _ G1 H1 pv1 po px (S1.pop.push_d (.bl false))
  · exact q1.elim
theorem sOr_le {f g : Sem} {Q : VK} (h : tOf K W (sOr f g) σ H Q) : tOrV (tOf K W f) (tOf K W g) σ H Q := by
  obtain ⟨F, G, s, pv, S, q⟩ := h
  refine ⟨F, G, s, pv, S, (bind_use q).imp (fun t s1 q1 => ?_) fun _ _ z => z⟩
  intro v G1 H1 pv1 po px S1
  split at q1
  · rename_i b
    refine ⟨b, vbl S1.top, ?_⟩
    cases b with
    | true => exact q1 _ G1 H1 pv1 po px (S1.pop.push_d (.bl true))
    | false => exact ⟨F, G1, s1, pv1, S1.pop, q1.imp (fun _ _ z => z.after po px) fun _ _ z => z.after po px⟩
  · exact q1.elim
theorem sNot_le {f : Sem} {Q : VK} (h : tOf K W (sNot f) σ H Q) : tNotV (tOf K W f) σ H Q := by
  obtain ⟨F, G, s, pv, S, q⟩ := h
  refine ⟨F, G, s, pv, S, (bind_use q).imp (fun t s1 q1 => ?_) fun _ _ z => z⟩
  intro v G1 H1 pv1 po px S1
  split at q1
  · rename_i b
    exact ⟨b, vbl S1.top, q1 _ G1 H1 pv1 po px (S1.pop.push_d (.bl (!b)))⟩
  · exact q1.elim
theorem sIfE_le {c : SemT} {f g : Sem} {Q : VK} (h : tOf K W (sIfE c f g) σ H Q) : tIf (tOfT K W c) (tOf K W f) (tOf K W g) σ H Q := by
  obtain ⟨F, G, s, pv, S, q⟩ := h
  refine ⟨F, G, s, pv, S, (bind_use q).imp (fun b s1 q1 => ?_) fun _ _ z => z⟩
  intro G1 H1 pv1 po px S1
  cases b with
  | true => exact ⟨F, G1, s1, pv1, S1, q1.imp (fun _ _ z => z.after po px) fun _ _ z => z.after po px⟩
  | false => exact ⟨F, G1, s1, pv1, S1, q1.imp (fun _ _ z => z.after po px) fun _ _ z => z.after po px⟩
theorem sChain_le {r r' : R2} {g g' : D → D → Option Rv} {fa fb fc : Sem} {Q : VK} (o : Op2 K r g) (o' : Op2 K r' g') (h : tOf K W (sChain g g' fa fb fc) σ H Q) : tChain r r' (tOf K W fa) (tOf K W fb) (tOf K W fc) σ H Q := by
  obtain ⟨F, G, s, pv, S, q⟩ := h
  refine pk_use S q fun x a H1 e1 va S1 q1 => pk_use S1 q1 fun y b H2 e2 vb S2 q2 => ?_
  split at q2
  · rename_i k ek
    refine o H2 H2 x y a b _ _ Ex.rfl' (va.ex e2) vb ek fun v hv => ⟨k, vbl hv, ?_⟩
    cases k with
    | true =>
      rw [if_pos rfl] at q2
      refine pk_use S2 q2 fun z c H3 e3 vc S3 q3 => ?_
      obtain ⟨R, eR, kR⟩ := lk_use S3 q3
      exact o' H3 H3 y z b c R Q Ex.rfl' (vb.ex e3) vc eR (kR H3)
    | false => exact q2 _ G H2 pv .rfl' (List.prefix_refl _) (S2.push_d (.bl false))
  · exact q2.elim
end
section
variable [CA] {X : Cx} {W : WX} {e a b c : Expr} {es : List Expr} {f fa fb fc : Sem} {g g' : SemT} {pos : Pos}
/-- a comparison as a test -/
theorem r_tcmp {op : CmpOp} {r : R2} {gg : D → D → Option Rv} (ho : OpR X (compareOp op) r) (o : Op2 X.K r gg) (ha : PE X a (tOf X.K W fa)) (hb : PE X b (tOf X.K W fb)) (hm : behindInMarks op b = false := by first | exact nomark _ | rfl) :
    PT X (.Compare a [op] [b] pos) (tOfT X.K W (sTb (sBin gg fa fb))) := (pt_cmpR ho ha hb hm).le fun σ H Q h => by
  obtain ⟨F, G, s, pv, S, q⟩ := sTb_le h
  exact sBin_le o ⟨F, G, s, pv, S, q⟩
theorem r_chain {op op' : CmpOp} {r r' : R2} {gg gg' : D → D → Option Rv} (ho : OpR X (compareOp op) r) (ho' : OpR X (compareOp op') r') (o : Op2 X.K r gg) (o' : Op2 X.K r' gg') (ha : PE X a (tOf X.K W fa)) (hb : PE X b (tOf X.K W fb)) (hc : PE X c (tOf X.K W fc))
    (hm : lastMarks [op, op'] [b, c] = false := by with_unfolding_all rfl) : PE X (.Compare a [op, op'] [b, c] pos) (tOf X.K W (sChain gg gg' fa fb fc)) := (pe_chain ho ho' ha hb hc hm).le fun _ _ _ h => sChain_le o o' h
theorem r_tchain {op op' : CmpOp} {r r' : R2} {gg gg' : D → D → Option Rv} (ho : OpR X (compareOp op) r) (ho' : OpR X (compareOp op') r') (o : Op2 X.K r gg) (o' : Op2 X.K r' gg') (ha : PE X a (tOf X.K W fa)) (hb : PE X b (tOf X.K W fb)) (hc : PE X c (tOf X.K W fc))
    (hm : lastMarks [op, op'] [b, c] = false := by with_unfolding_all rfl) : PT X (.Compare a [op, op'] [b, c] pos) (tOfT X.K W (sTb (sChain gg gg' fa fb fc))) := (pt_chain ho ho' ha hb hc hm).le fun _ _ _ h => sChain_le o o' (sTb_le h)
/-- a call, a name .. by its truth -/
theorem r_tval (ha : PE X a (tOf X.K W fa)) (he : ∀ whole, isTrue a X.env whole = (do let v ← whole; standAt a.pos; holding [v] (truthy v)) := by intro _; rfl) : PT X a (tOfT X.K W (sTt fa)) := (pt_truth ha he).le fun _ _ _ h => sTt_le h
/-- .. a truth, whatever it does -/
theorem r_tb (ha : PE X a (tOf X.K W fa)) (he : ∀ whole, isTrue a X.env whole = (do let v ← whole; standAt a.pos; holding [v] (truthy v)) := by intro _; rfl) : PT X a (tOfT X.K W (sTb fa)) := (pt_val ha he).le fun _ _ _ h => sTb_le h
theorem r_tand1 (ha : PT X a (tOfT X.K W g)) : PW X (.BoolOp .And [a] pos) (tOfT X.K W g) := pw_and1 ha
theorem r_tor1 (ha : PT X a (tOfT X.K W g)) : PW X (.BoolOp .Or [a] pos) (tOfT X.K W g) := pw_or1 ha
theorem r_tand (ha : PT X a (tOfT X.K W g)) (hb : PW X (.BoolOp .And (b :: es) pos) (tOfT X.K W g')) : PW X (.BoolOp .And (a :: b :: es) pos) (tOfT X.K W (sTand g g')) := (pw_and ha hb).le fun _ _ _ h => sTand_le h
theorem r_tor (ha : PT X a (tOfT X.K W g)) (hb : PW X (.BoolOp .Or (b :: es) pos) (tOfT X.K W g')) : PW X (.BoolOp .Or (a :: b :: es) pos) (tOfT X.K W (sTor g g')) := (pw_or ha hb).le fun _ _ _ h => sTor_le h
theorem r_tnot (ha : PT X a (tOfT X.K W g)) : PT X (.UnaryOp .Not a pos) (tOfT X.K W (sTnot g)) := (pt_not ha).le fun _ _ _ h => sTnot_le h
theorem r_one {op : BoolOp} (ha : PE X a (tOf X.K W fa)) : PE X (.BoolOp op [a] pos) (tOf X.K W fa) := pe_one ha
theorem r_and (ha : PE X a (tOf X.K W fa)) (hb : PE X (.BoolOp .And (b :: es) pos) (tOf X.K W fb)) : PE X (.BoolOp .And (a :: b :: es) pos) (tOf X.K W (sAnd fa fb)) := (pe_and ha hb).le fun _ _ _ h => sAnd_le h
theorem r_or (ha : PE X a (tOf X.K W fa)) (hb : PE X (.BoolOp .Or (b :: es) pos) (tOf X.K W fb)) : PE X (.BoolOp .Or (a :: b :: es) pos) (tOf X.K W (sOr fa fb)) := (pe_or ha hb).le fun _ _ _ h => sOr_le h
theorem r_not (ha : PE X a (tOf X.K W fa)) : PE X (.UnaryOp .Not a pos) (tOf X.K W (sNot fa)) := (pe_not ha).le fun _ _ _ h => sNot_le h
theorem r_ife (hc : PT X c (tOfT X.K W g)) (ha : PE X a (tOf X.K W fa)) (hb : PE X b (tOf X.K W fb)) : PE X (.IfExp c a b pos) (tOf X.K W (sIfE g fa fb)) := (pe_ifExp hc ha hb).le fun _ _ _ h => sIfE_le h
end

/-! ### displays -/
/-- trees that are all data -/
def T.allD : List T → Option (List D)
  | [] => some []
  | .d x :: ts => (T.allD ts).map (x :: ·)
  | _ :: _ => none
def sLst (fs : SemA) : Sem := fun s => (fs s).bind fun ts s' => if ts.length ≤ 1000 then .ok (.lst ts) s' else .bad
def sTup (fs : SemA) : Sem := fun s => (fs s).bind fun ts s' => if ts.length ≤ 1000 then (match T.allD ts with
  | some xs => .ok (.d (.tup xs)) s'
  | none => .ok (.tup ts) s') else .bad
section
variable [CA] {K : PySem.W.Frag} {F G G' H H' : Hp} {σ : L2.St} {s s' : S} {pv pv' : List V} {W : WX}
theorem RpL.allD {vs : List V} {ts : List T} {A : AS} {xs : List D} (h : RpL K G H pv vs ts A) (e : T.allD ts = some xs) : VwL K G vs xs := by
  induction ts generalizing vs A xs with
  | nil =>
    cases h
    cases e
    exact .nil
  | cons t ts ih =>
    cases h with
    | cons h l s1 s2 =>
      cases t with
      | d x =>
        have e' : (T.allD ts).map (x :: ·) = some xs := e
        cases q : T.allD ts with
        | none => rw [q] at e'; cases e'
        | some ys =>
          rw [q] at e'
          cases e'
          cases h with
          | d hv => exact .cons hv (ih l q)
      | al k => cases e
      | lst _ => cases e
      | tup _ => cases e
      | dic _ => cases e
      | obj _ _ => cases e
/-- roots gathered under a new list or tuple -/
theorem Sim.wrap {vs : List V} {ts : List T} {p : Addr} {o : HO} {t : T} (h : Sim K F G H (vs.map some ++ σ) ⟨ts.map some ++ s.r, s.p⟩ pv) (e : vs.length = ts.length) (hp : H p = none)
    (q : ∀ H1 A B, H1 p = some o → RpL K G H1 pv vs ts B → A p → (∀ x, B x → A x ∧ x ≠ p) → Rp K G H1 pv (.ref p) t A) : Sim K F G (upd H p o) (some (.ref p) :: σ) ⟨some t :: s.r, s.p⟩ pv := by
  have ex : Ex H (upd H p o) := Ex.new hp
  obtain ⟨ef, eg, A, B, ho, hs, d, n⟩ := h
  obtain ⟨A1, A2, h1, h2, d1, d2⟩ := RpO.split (by simpa using e) ho
  have ne : ∀ x, A x ∨ B x → x ≠ p := fun x b w => (n x b).1 (by rw [w]; exact hp)
  have fp : F p = none := by
    cases z : F p with
    | none => rfl
    | some o => rw [ef p o z] at hp; cases hp
  have gp : G p = none := by
    cases z : G p with
    | none => rfl
    | some o => rw [eg p o z] at hp; cases hp
  have fm : ∀ (pw : List V) (Z : AS), Fm K G G H (upd H p o) pw pw Z := fun pw Z => ⟨Ex.rfl', fun b o _ z => ex b o z, fun _ _ z => z⟩
  have r1 := q (upd H p o) (fun x => x = p ∨ A1 x) A1 upd_same (h1.kids.fm (fm pv A1)) (.inl rfl) fun x b => ⟨.inr b, ne x (.inl (d1 x b).1)⟩
  refine ⟨ef.tr ex, eg.tr ex, fun x => x = p ∨ A x, B, .cons r1 (h2.fm (fm pv A2)) (fun x b => ?_) (fun x b => .inr (d2 x b)), hs.fm (fm pv B), fun x b c => ?_, fun x b => ?_⟩
  · rcases b with b | b
    · exact ⟨.inl b, fun z => ne x (.inl (d2 x z)) b⟩
    · exact ⟨.inr (d1 x b).1, (d1 x b).2⟩
  · rcases b with b | b
    · exact ne x (.inr c) b
    · exact d x b c
  · by_cases w : x = p
    · subst w
      rw [upd_same]
      exact ⟨(fun z => by cases z), fp, gp⟩
    · have b' : A x ∨ B x := by
        rcases b with (b | b) | b
        · exact absurd b w
        · exact .inl b
        · exact .inr b
      rw [upd_ne w]
      exact n x b'
theorem small_line {n : Nat} (h : n ≤ 1000) : n ≤ sizeLine := Nat.le_of_lt (small1000 h)
theorem sLst_le {fs : SemA} {Q : VK} (h : tOf K W (sLst fs) σ H Q) : tLst (tOfA K W fs) σ H Q := by
  obtain ⟨F, G, s, pv, S, q⟩ := h
  refine ⟨F, G, s, pv, S, (bind_use q).imp (fun ts s1 q1 => ?_) fun _ _ z => z⟩
  intro vs G1 H1 pv1 po px el S1
  have q1' : (if ts.length ≤ 1000 then Res.ok (.lst ts) s1 else .bad : Res T).go (KOk K F G pv σ Q) (KEx K F G pv σ W) := q1
  by_cases c : ts.length ≤ 1000
  · rw [if_pos c] at q1'
    refine ⟨by rw [el]; exact small_line c, fun p hp => ?_⟩
    exact q1' (.ref p) G1 _ pv1 po px (S1.wrap el hp fun H2 A B e1 hl a b => .lst e1 a b hl)
  · rw [if_neg c] at q1'
    exact q1'.elim
theorem sTup_le {fs : SemA} {Q : VK} (h : tOf K W (sTup fs) σ H Q) : tTup (tOfA K W fs) σ H Q := by
  obtain ⟨F, G, s, pv, S, q⟩ := h
  refine ⟨F, G, s, pv, S, (bind_use q).imp (fun ts s1 q1 => ?_) fun _ _ z => z⟩
  intro vs G1 H1 pv1 po px el S1
  have q1' : (if ts.length ≤ 1000 then (match T.allD ts with | some xs => .ok (.d (.tup xs)) s1 | none => .ok (.tup ts) s1) else .bad : Res T).go (KOk K F G pv σ Q) (KEx K F G pv σ W) := q1
  by_cases c : ts.length ≤ 1000
  · rw [if_pos c] at q1'
    refine ⟨by rw [el]; exact small_line c, fun p hp => ?_⟩
    cases ed : T.allD ts with
    | none =>
      rw [ed] at q1'
      exact q1' (.ref p) G1 _ pv1 po px (S1.wrap el hp fun H2 A B e1 hl a b => .tup e1 a b hl)
    | some xs =>
      rw [ed] at q1'
      have hv : VwL K G1 vs xs := by
        obtain ⟨ef, eg, A, B, ho, hs, d, n⟩ := S1
        obtain ⟨A1, A2, h1, h2, d1, d2⟩ := RpO.split (by simpa using el) ho
        exact h1.kids.allD ed
      have S2 : Sim K F G1 H1 σ s1 pv1 := by
        obtain ⟨ef, eg, A, B, ho, hs, d, n⟩ := S1
        obtain ⟨A1, A2, h1, h2, d1, d2⟩ := RpO.split (by simpa using el) ho
        exact ⟨ef, eg, A2, B, h2, hs, fun x b => d x (d2 x b), fun x b => n x (b.elim (fun z => .inl (d2 x z)) .inr)⟩
      have k : (Rv.fin (.tup xs) s1).go (KOk K F G1 pv1 σ Q) (fun _ _ => False) := KOk.after po px q1'
      exact fin_use S2 k vs p hv hp
  · rw [if_neg c] at q1'
    exact q1'.elim
end
section
variable [CA] {X : Cx} {W : WX} {es : List Expr} {g : SemA} {pos : Pos}
theorem r_lst (h : PA X es (tOfA X.K W g)) : PE X (.List es pos) (tOf X.K W (sLst g)) := (pe_lst h).le fun _ _ _ h => sLst_le h
theorem r_tup {x1} (h : PA X es (tOfA X.K W g)) : PE X (.Tuple es x1 pos) (tOf X.K W (sTup g)) := (pe_tup h).le fun _ _ _ h => sTup_le h
end
end BT
/-! BF: statements: assignment, return, if, expression; changes of lists. -/
namespace BT
open PySem PySem.Spec PyProof.Rows L2

/-- what comes of a statement -/
inductive Fl where
  | next (s : S) | ret (t : T) (s : S) | brk (s : S) | cont (s : S) | exc (x : Xn) (s : S) | bad
abbrev SemS := S → Fl
def Fl.go (R : Fl) (nx : S → Prop) (rt : T → S → Prop) (bk ct : S → Prop) (e : Xn → S → Prop) : Prop := match R with
  | .next s => nx s
  | .ret t s => rt t s
  | .brk s => bk s
  | .cont s => ct s
  | .exc x s => e x s
  | .bad => False
def Res.bindF {α : Type} (R : Res α) (k : α → S → Fl) : Fl := match R with
  | .ok a s => k a s
  | .exc x s => .exc x s
  | .bad => .bad
section
variable [CA] (K : PySem.W.Frag) (F G : Hp) (pv : List V)
def GN (P : L2.St → Hp → Prop) (s' : S) : Prop := ∀ σ' G' H' pv', Post F G G' → pv <+: pv' → Sim K F G' H' σ' s' pv' → P σ' H'
def GR (Q : VK) (t : T) (s' : S) : Prop := ∀ v σ' G' H' pv', Post F G G' → pv <+: pv' → Sim K F G' H' (some v :: σ') ⟨some t :: s'.r, s'.p⟩ pv' → Q v H'
def GX (W : WX) (x : Xn) (s' : S) : Prop := ∀ cls d σ' G' H' pv', Post F G G' → pv <+: pv' → Sim K F G' H' σ' s' pv' → XRep K F G' x cls d → W cls d σ' H'
def Fin (W : WX) (D : Ends) (R : Fl) : Prop := R.go (GN K F G pv D.nx) (GR K F G pv D.rt) (GN K F G pv D.bk) (GN K F G pv D.ct) (GX K F G pv W)
end
def sOf [CA] (K : PySem.W.Frag) (W : WX) (f : SemS) : TS := fun D σ H => ∃ F G s pv, Sim K F G H σ s pv ∧ Fin K F G pv W D (f s)
section
variable [CA] {K : PySem.W.Frag} {F G G' H H' : Hp} {σ : L2.St} {s s' : S} {pv pv' : List V} {W : WX} {D : Ends}
theorem GN.after {P : L2.St → Hp → Prop} (po : Post F G G') (px : pv <+: pv') (h : GN K F G pv P s') : GN K F G' pv' P s' := fun σ2 G2 H2 pv2 po2 px2 S2 => h σ2 G2 H2 pv2 (po.tr po2) (px.trans px2) S2
theorem GR.after {Q : VK} {t : T} (po : Post F G G') (px : pv <+: pv') (h : GR K F G pv Q t s') : GR K F G' pv' Q t s' := fun v σ2 G2 H2 pv2 po2 px2 S2 => h v σ2 G2 H2 pv2 (po.tr po2) (px.trans px2) S2
theorem GX.after {x : Xn} (po : Post F G G') (px : pv <+: pv') (h : GX K F G pv W x s') : GX K F G' pv' W x s' := fun c d σ2 G2 H2 pv2 po2 px2 S2 r => h c d σ2 G2 H2 pv2 (po.tr po2) (px.trans px2) S2 r
theorem GX.kex {x : Xn} (h : GX K F G pv W x s') : KEx K F G pv σ W x s' := fun c d G2 H2 pv2 po2 px2 S2 r => h c d σ G2 H2 pv2 po2 px2 S2 r
theorem Fl.go.imp {R : Fl} {nx nx' : S → Prop} {rt rt' : T → S → Prop} {bk bk' ct ct' : S → Prop} {e e' : Xn → S → Prop} (h : R.go nx rt bk ct e) (h1 : ∀ s, nx s → nx' s) (h2 : ∀ t s, rt t s → rt' t s) (h3 : ∀ s, bk s → bk' s) (h4 : ∀ s, ct s → ct' s) (h5 : ∀ x s, e x s → e' x s) :
    R.go nx' rt' bk' ct' e' := by
  cases R with
  | next s => exact h1 s h
  | ret t s => exact h2 t s h
  | brk s => exact h3 s h
  | cont s => exact h4 s h
  | exc x s => exact h5 x s h
  | bad => exact h.elim
theorem Fin.after {R : Fl} (po : Post F G G') (px : pv <+: pv') (h : Fin K F G pv W D R) : Fin K F G' pv' W D R :=
  Fl.go.imp h (fun _ z => z.after po px) (fun _ _ z => z.after po px) (fun _ z => z.after po px) (fun _ z => z.after po px) fun _ _ z => z.after po px
theorem bindF_use {α : Type} {R : Res α} {k : α → S → Fl} (h : Fin K F G pv W D (R.bindF k)) : R.go (fun a s => Fin K F G pv W D (k a s)) (GX K F G pv W) := by
  cases R with
  | ok a s => exact h
  | exc x s => exact h
  | bad => exact h
end
def sSkip : SemS := fun s => .next s
def sSeq (f g : SemS) : SemS := fun s => match f s with
  | .next s' => g s'
  | R => R
def sRet (f : Sem) : SemS := fun s => (f s).bindF fun t s' => .ret t s'
def sRetN : SemS := fun s => .ret (.d .non) s
def sIf (c : SemT) (f g : SemS) : SemS := fun s => (c s).bindF fun b s' => if b then f s' else g s'
def sEx (f : Sem) : SemS := fun s => (f s).bindF fun _ s' => .next s'
def sBrk : SemS := fun s => .brk s
def sCont : SemS := fun s => .cont s
/-- a name is given a tree -/
def S.st (i : Nat) (t : T) (s : S) : S := ⟨s.r.set i (some t), s.p⟩
def sAsg (i : Nat) (f : Sem) : SemS := fun s => (f s).bindF fun t s' => .next (s'.st i t)
def sNev : SemS := fun _ => .bad
section
variable [CA] {K : PySem.W.Frag} {F G G' H H' : Hp} {σ : L2.St} {s s' : S} {pv pv' : List V} {W : WX} {D : Ends}
theorem sSkip_le (h : sOf K W sSkip D σ H) : tNext D σ H := by
  obtain ⟨F, G, s, pv, S, q⟩ := h
  exact q σ G H pv .rfl' (List.prefix_refl _) S
theorem sBrk_le (h : sOf K W sBrk D σ H) : tBreak D σ H := by
  obtain ⟨F, G, s, pv, S, q⟩ := h
  exact q σ G H pv .rfl' (List.prefix_refl _) S
theorem sCont_le (h : sOf K W sCont D σ H) : tCont D σ H := by
  obtain ⟨F, G, s, pv, S, q⟩ := h
  exact q σ G H pv .rfl' (List.prefix_refl _) S
theorem sNev_le (h : sOf K W sNev D σ H) : tNever D σ H := by
  obtain ⟨F, G, s, pv, S, q⟩ := h
  exact q
theorem sSeq_le {f g : SemS} (h : sOf K W (sSeq f g) D σ H) : tSeq (sOf K W f) (sOf K W g) D σ H := by
  obtain ⟨F, G, s, pv, S, q⟩ := h
  refine ⟨F, G, s, pv, S, ?_⟩
  unfold sSeq at q
  cases e : f s with
  | next s1 =>
    rw [e] at q
    exact fun σ1 G1 H1 pv1 po px S1 => ⟨F, G1, s1, pv1, S1, Fin.after po px q⟩
  | ret t s1 => rw [e] at q; exact q
  | brk s1 => rw [e] at q; exact q
  | cont s1 => rw [e] at q; exact q
  | exc x s1 => rw [e] at q; exact q
  | bad => rw [e] at q; exact q
theorem sRet_le {f : Sem} (h : sOf K W (sRet f) D σ H) : tRet (tOf K W f) D σ H := by
  obtain ⟨F, G, s, pv, S, q⟩ := h
  refine ⟨F, G, s, pv, S, (bindF_use q).imp (fun t s1 q1 => ?_) fun _ _ z => z.kex⟩
  exact fun v G1 H1 pv1 po px S1 => q1 v σ G1 H1 pv1 po px S1
theorem sRetN_le (h : sOf K W sRetN D σ H) : tRetN D σ H := by
  obtain ⟨F, G, s, pv, S, q⟩ := h
  exact q .non σ G H pv .rfl' (List.prefix_refl _) (S.push_d .non)
theorem sIf_le {c : SemT} {f g : SemS} (h : sOf K W (sIf c f g) D σ H) : tIfS (tOfT K W c) (sOf K W f) (sOf K W g) D σ H := by
  obtain ⟨F, G, s, pv, S, q⟩ := h
  refine ⟨F, G, s, pv, S, (bindF_use q).imp (fun b s1 q1 => ?_) fun _ _ z => z.kex⟩
  intro G1 H1 pv1 po px S1
  cases b with
  | true => exact ⟨F, G1, s1, pv1, S1, Fin.after po px q1⟩
  | false => exact ⟨F, G1, s1, pv1, S1, Fin.after po px q1⟩
theorem sEx_le {f : Sem} (h : sOf K W (sEx f) D σ H) : tDrop (tOf K W f) D σ H := by
  obtain ⟨F, G, s, pv, S, q⟩ := h
  refine ⟨F, G, s, pv, S, (bindF_use q).imp (fun t s1 q1 => ?_) fun _ _ z => z.kex⟩
  exact fun v G1 H1 pv1 po px S1 => q1 σ G1 H1 pv1 po px S1.pop
/-- the first tree goes to name i -/
theorem Sim.store {v : V} {t : T} {r : List (Option T)} {p : List T} {i : Nat} (h : Sim K F G H (some v :: σ) ⟨some t :: r, p⟩ pv) : Sim K F G H (σ.set i (some v)) ⟨r.set i (some t), p⟩ pv := by
  obtain ⟨ef, eg, A, B, ho, hs, d, n⟩ := h
  cases ho with
  | @cons _ _ _ _ _ A1 A2 h l s1 s2 =>
    by_cases c : i < σ.length
    · exact ⟨ef, eg, A, B, l.put c h s1 s2, hs, d, n⟩
    · have e1 : σ.set i (some v) = σ := List.set_eq_of_length_le (by omega)
      have e2 : r.set i (some t) = r := List.set_eq_of_length_le (by have := l.len; omega)
      rw [e1, e2]
      exact ⟨ef, eg, A2, B, l, hs, fun x b => d x (s2 x b), fun x b => n x (b.elim (fun z => .inl (s2 x z)) .inr)⟩
theorem sAsg_le {i : Nat} {f : Sem} (h : sOf K W (sAsg i f) D σ H) : tAsg (tOf K W f) (gName i) D σ H := by
  obtain ⟨F, G, s, pv, S, q⟩ := h
  refine ⟨F, G, s, pv, S, (bindF_use q).imp (fun t s1 q1 => ?_) fun _ _ z => z.kex⟩
  exact fun v G1 H1 pv1 po px S1 => q1 _ G1 H1 pv1 po px S1.store
end
section
variable [CA] {X : Cx} {W : WX} {e : Expr} {st : Stmt} {rest : List Stmt} {f : Sem} {g g' : SemS} {c : SemT} {pos : Pos}
theorem r_nil : PSs X [] (sOf X.K W sSkip) := pss_nil.le fun _ _ _ h => sSkip_le h
theorem r_seq (h1 : PS X st (sOf X.K W g)) (h2 : PSs X rest (sOf X.K W g')) : PSs X (st :: rest) (sOf X.K W (sSeq g g')) := (pss_cons h1 h2).le fun _ _ _ h => sSeq_le h
theorem r_last (h1 : PS X st (sOf X.K W g)) : PSs X [st] (sOf X.K W g) := pss_one h1
theorem r_pass : PS X (.Pass pos) (sOf X.K W sSkip) := ps_pass.le fun _ _ _ h => sSkip_le h
theorem r_brk : PS X (.Break pos) (sOf X.K W sBrk) := ps_break.le fun _ _ _ h => sBrk_le h
theorem r_cont : PS X (.Continue pos) (sOf X.K W sCont) := ps_continue.le fun _ _ _ h => sCont_le h
theorem r_doc {x j pos pos'} : PS X (.Expr (.Constant (.str x) j pos) pos') (sOf X.K W sSkip) := ps_doc.le fun _ _ _ h => sSkip_le h
theorem r_never : PS X st (sOf X.K W sNev) := ps_never.le fun _ _ _ h => sNev_le h
theorem r_ret (he : PE X e (tOf X.K W f)) : PS X (.Return (some e) pos) (sOf X.K W (sRet f)) := (ps_ret he).le fun _ _ _ h => sRet_le h
theorem r_retN : PS X (.Return none pos) (sOf X.K W sRetN) := ps_retN.le fun _ _ _ h => sRetN_le h
theorem r_if {ce : Expr} {a b : List Stmt} (hc : PT X ce (tOfT X.K W c)) (ha : PSs X a (sOf X.K W g)) (hb : PSs X b (sOf X.K W g')) : PS X (.If ce a b pos) (sOf X.K W (sIf c g g')) := (ps_if hc ha hb).le fun _ _ _ h => sIf_le h
theorem r_ex (he : PE X e (tOf X.K W f)) (hs : swapsWith e none pos.line X.env = pure false := by rfl) : PS X (.Expr e pos) (sOf X.K W (sEx f)) := (ps_expr he hs).le fun _ _ _ h => sEx_le h
theorem r_asg (i : Nat) {x : Str} {pos' : Pos} (hN : X.N.Nodup) (he : PE X e (tOf X.K W f)) (hi : X.N[i]? = some x := by rfl) (hx : Loc X.env.scope x := by first | exact Or.inl rfl | exact Or.inr rfl) (hs : swapsWith e (some (.Name x pos')) pos.line X.env = pure false := by rfl)
    (hf : X.fn x = true ∨ X.env.scope.names.lookup x = some .local := by first | exact .inl rfl | exact .inr rfl | assumption) : PS X (.Assign [.Name x pos'] e pos) (sOf X.K W (sAsg i f)) := (ps_set hN hi hx he hs hf).le fun _ _ _ h => sAsg_le h
end

/-! ### places: a name, or the store's root that it tells -/
def S.getP (s : S) (i : Nat) : Option T := match s.r[i]? with
  | some (some (.al k)) => s.p[k]?
  | some (some t) => some t
  | _ => none
def S.putP (s : S) (i : Nat) (t : T) : S := match s.r[i]? with
  | some (some (.al k)) => ⟨s.r, s.p.set k t⟩
  | _ => ⟨s.r.set i (some t), s.p⟩
/-- what a change of a list makes of it and the arguments -/
def Chg [CA] (c : (α : Type) → List α → List α → Option (List α)) : Prop := ∀ (K : PySem.W.Frag) (G H : Hp) (pv : List V) (A : AS) (vs ws us : List V) (ts rs qs : List T), ws.length = rs.length → vs.length = ts.length →
  RpL K G H pv (vs ++ ws) (ts ++ rs) A → c T ts rs = some qs → c V vs ws = some us → RpL K G H pv us qs A
section
variable [CA] {K : PySem.W.Frag} {F G G' H H' : Hp} {σ : L2.St} {s s' : S} {pv pv' : List V} {W : WX} {D : Ends}
theorem RpL.app : ∀ {vs ws : List V} {ts us : List T} {A A1 A2 : AS}, RpL K G H pv vs ts A1 → RpL K G H pv ws us A2 → (∀ x, A1 x → A x ∧ ¬ A2 x) → (∀ x, A2 x → A x) → RpL K G H pv (vs ++ ws) (ts ++ us) A
  | _, _, _, _, _, _, _, .nil, h2, _, d2 => h2.mono d2
  | _, ws, _, us, A, _, A2, @RpL.cons _ _ _ _ _ v vs t ts A1 B1 B2 h l s1 s2, h2, d1, d2 =>
    .cons (A2 := fun x => B2 x ∨ A2 x) h (RpL.app l h2 (fun x b => ⟨.inl b, (d1 x (s2 x b)).2⟩) fun x b => .inr b) (fun x b => ⟨(d1 x (s1 x b).1).1, fun z => z.elim (s1 x b).2 (d1 x (s1 x b).1).2⟩)
      (fun x b => b.elim (fun z => (d1 x (s2 x z)).1) (d2 x))
theorem RpL.part : ∀ {vs ws : List V} {ts us : List T} {A : AS}, vs.length = ts.length → RpL K G H pv (vs ++ ws) (ts ++ us) A → ∃ A1 A2 : AS, RpL K G H pv vs ts A1 ∧ RpL K G H pv ws us A2 ∧ (∀ x, A1 x → A x ∧ ¬ A2 x) ∧ ∀ x, A2 x → A x
  | [], _, [], _, A, _, h => ⟨fun _ => False, A, .nil, h, fun _ z => z.elim, fun _ z => z⟩
  | [], _, _ :: _, _, _, e, _ => by cases e
  | _ :: _, _, [], _, _, e, _ => by cases e
  | v :: vs, ws, t :: ts, us, A, e, h => by
    cases h with
    | @cons _ _ _ _ _ B1 B2 h l s1 s2 =>
    obtain ⟨A1, A2, h1, h2, d1, d2⟩ := RpL.part (vs := vs) (ts := ts) (by simpa using e) l
    refine ⟨fun x => B1 x ∨ A1 x, A2, .cons h h1 (fun x b => ⟨.inl b, fun z => (s1 x b).2 (d1 x z).1⟩) (fun x b => .inr b), h2, fun x b => ?_, fun x b => s2 x (d2 x b)⟩
    rcases b with b | b
    · exact ⟨(s1 x b).1, fun z => (s1 x b).2 (d2 x z)⟩
    · exact ⟨s2 x (d1 x b).1, (d1 x b).2⟩
/-- a list at a place is changed; ws, us: the arguments' roots -/
theorem Sim.chg {c : (α : Type) → List α → List α → Option (List α)} {i : Nat} {ws : List V} {rs ts qs : List T} {r : List (Option T)} {p : List T} (hc : Chg c) (h : Sim K F G H (ws.map some ++ σ) ⟨rs.map some ++ r, p⟩ pv) (e : ws.length = rs.length)
    (g : S.getP ⟨r, p⟩ i = some (.lst ts)) (hq : c T ts rs = some qs) :
    ∃ a vs, σ[i]? = some (some (.ref a)) ∧ H a = some (.lst vs) ∧ vs.length = ts.length ∧ ∀ us, c V vs ws = some us → Sim K F G (upd H a (.lst us)) σ (S.putP ⟨r, p⟩ i (.lst qs)) pv := by
  obtain ⟨ef, eg, A, B, ho, hs, d, n⟩ := h
  obtain ⟨A1, A2, h1, h2, d1, d2⟩ := RpO.split (by simpa using e) ho
  have put : ∀ {a : Addr} {us : List V} {Z : AS} (pw : List V), (∀ x, Z x → x ≠ a) → Fm K G G H (upd H a (.lst us)) pw pw Z := fun {a us Z} pw ne => ⟨Ex.rfl', fun b o z q => by rw [upd_ne (ne b z)]; exact q, fun _ _ z => z⟩
  unfold S.getP at g
  split at g
  · rename_i k ek
    obtain ⟨v, C1, C2, e1, h3, h4, c1, c2⟩ := h2.take ek
    cases h3 with
    | al hk =>
      obtain ⟨v2, E1, E2, e2, h5, f1, f2, back⟩ := hs.at g
      rw [hk] at e2
      cases e2
      cases h5 with
      | @lst a vs _ _ E3 ha aa s l =>
        refine ⟨a, vs, e1, ha, l.len, fun us hu => ?_⟩
        have na1 : a ∈ [a] := by simp
        have Ba : B a := (f1 a aa).1
        have nA : ∀ x, A x → x ≠ a := fun x b w => d x b (by rw [w]; exact Ba)
        have all : RpL K G (upd H a (.lst us)) pv (vs ++ ws) (ts ++ rs) (fun x => E3 x ∨ A1 x) :=
          RpL.app (l.fm (put pv fun x b => (s x b).2)) (h1.kids.fm (put pv fun x b => nA x (d1 x b).1)) (fun x b => ⟨.inl b, fun z => d x (d1 x z).1 (f1 x (s x b).1).1⟩) fun x b => .inr b
        have hl := hc K G _ pv _ vs ws us ts rs qs e l.len all hq hu
        have pr := back G (upd H a (.lst us)) pv (.lst qs) (fun x => B x ∨ A1 x) (fun x => x = a ∨ E3 x ∨ A1 x) (put pv fun x b w => (f1 a aa).2 (by rw [← w]; exact b)) (.lst upd_same (.inl rfl) (fun x b => ⟨.inr b, b.elim (fun z => (s x z).2) fun z => nA x (d1 x z).1⟩) hl)
          (fun x b => by
            rcases b with b | b | b
            · subst b; exact ⟨.inl Ba, (f1 x aa).2⟩
            · exact ⟨.inl (f1 x (s x b).1).1, (f1 x (s x b).1).2⟩
            · exact ⟨.inr b, fun z => d x (d1 x b).1 (f2 x z)⟩) (fun x b => .inl (f2 x b))
        have e4 : S.putP ⟨r, p⟩ i (.lst qs) = ⟨r, p.set k (.lst qs)⟩ := by
          unfold S.putP
          rw [show (S.mk r p).r[i]? = some (some (T.al k)) from ek]
        rw [e4]
        refine ⟨fun b o z => ?_, fun b o z => ?_, A2, fun x => B x ∨ A1 x, h2.fm (put pv fun x b => nA x (d2 x b)), ?_, fun x b z => z.elim (d x (d2 x b)) fun z => (d1 x z).2 b, fun x b => ?_⟩
        · rw [upd_ne (fun w => by rw [w, (n a (.inr Ba)).2.1] at z; cases z)]; exact ef b o z
        · rw [upd_ne (fun w => by rw [w, (n a (.inr Ba)).2.2] at z; cases z)]; exact eg b o z
        · exact pr
        · have b' : A x ∨ B x := b.elim (fun z => .inl (d2 x z)) fun z => z.elim .inr fun z => .inl (d1 x z).1
          obtain ⟨q1, q2⟩ := n x b'
          refine ⟨?_, q2⟩
          by_cases w : x = a
          · subst w; rw [upd_same]; exact fun z => nomatch z
          · rw [upd_ne w]; exact q1
  · rename_i t nal ek
    have et : t = .lst ts := Option.some.inj g
    subst et
    obtain ⟨v, C1, C2, e1, h3, h4, c1, c2⟩ := h2.take ek
    cases h3 with
    | @lst a vs _ _ E3 ha aa s l =>
      refine ⟨a, vs, e1, ha, l.len, fun us hu => ?_⟩
      have Aa : A a := d2 a (c1 a aa).1
      have n1 : ∀ x, A1 x → x ≠ a := fun x b w => (d1 x b).2 (by rw [w]; exact (c1 a aa).1)
      have n2 : ∀ x, C2 x → x ≠ a := fun x b w => (c1 a aa).2 (by rw [← w]; exact b)
      have nB : ∀ x, B x → x ≠ a := fun x b w => d a Aa (by rw [← w]; exact b)
      have all : RpL K G (upd H a (.lst us)) pv (vs ++ ws) (ts ++ rs) (fun x => E3 x ∨ A1 x) :=
        RpL.app (l.fm (put pv fun x b => (s x b).2)) (h1.kids.fm (put pv n1)) (fun x b => ⟨.inl b, fun z => (d1 x z).2 (c1 x (s x b).1).1⟩) fun x b => .inr b
      have hl := hc K G _ pv _ vs ws us ts rs qs e l.len all hq hu
      have hr : Rp K G (upd H a (.lst us)) pv (.ref a) (.lst qs) (fun x => x = a ∨ E3 x ∨ A1 x) := .lst upd_same (.inl rfl) (fun x b => ⟨.inr b, b.elim (fun z => (s x z).2) (n1 x)⟩) hl
      have hi : i < σ.length := (List.getElem?_eq_some_iff.mp e1).1
      have pr := RpO.put (A := A) (h4.fm (put pv n2)) hi hr (fun x b => by
            rcases b with b | b | b
            · subst b; exact ⟨Aa, (c1 x aa).2⟩
            · exact ⟨d2 x (c1 x (s x b).1).1, (c1 x (s x b).1).2⟩
            · exact ⟨(d1 x b).1, fun z => (d1 x b).2 (c2 x z)⟩) fun x b => d2 x (c2 x b)
      have e3 : σ.set i (some (.ref a)) = σ := by
        apply List.ext_getElem?
        intro j
        by_cases w : i = j
        · subst w
          rw [List.getElem?_set_self hi, e1]
        · rw [List.getElem?_set_ne w]
      rw [e3, List.set_set] at pr
      have e4 : S.putP ⟨r, p⟩ i (.lst qs) = ⟨r.set i (some (.lst qs)), p⟩ := by
        unfold S.putP
        rw [show (S.mk r p).r[i]? = some (some (T.lst ts)) from ek]
      rw [e4]
      refine ⟨fun b o z => ?_, fun b o z => ?_, A, B, ?_, ?_, d, fun x b => ?_⟩
      · rw [upd_ne (fun w => by rw [w, (n a (.inl Aa)).2.1] at z; cases z)]; exact ef b o z
      · rw [upd_ne (fun w => by rw [w, (n a (.inl Aa)).2.2] at z; cases z)]; exact eg b o z
      · exact pr
      · exact hs.fm (put pv nB)
      · obtain ⟨q1, q2⟩ := n x b
        refine ⟨?_, q2⟩
        by_cases w : x = a
        · subst w; rw [upd_same]; exact fun z => nomatch z
        · rw [upd_ne w]; exact q1
  · cases g
end
end BT
/-! BG: changes of lists by methods; loops; comprehensions. -/
namespace BT
open PySem PySem.Spec PyProof.Rows L2

/-! ### children, freezing -/
def T.kids : T → Option (List T)
  | .d (.lst ds) => some (ds.map .d)
  | .lst ts => some ts
  | _ => none
section
variable [CA] {K : PySem.W.Frag} {F G G' G2 H H' : Hp} {σ : L2.St} {s s' : S} {pv pv' : List V} {W : WX} {D : Ends}
theorem Sim.more (h : Sim K F G H σ s pv) (e : Ex H H') (g : Ex G G2) (g2 : Ex G2 H') (n2 : ∀ a, H a ≠ none → G2 a = G a) : Sim K F G2 H' σ s pv := by
  obtain ⟨ef, eg, A, B, ho, hs, d, n⟩ := h
  refine ⟨ef.tr e, g2, A, B, ho.fm ⟨g, fun a o _ q => e a o q, fun _ _ q => q⟩, hs.fm ⟨g, fun a o _ q => e a o q, fun _ _ q => q⟩, d, fun x b => ⟨fun z => ?_, (n x b).2.1, (n2 x (n x b).1).trans (n x b).2.2⟩⟩
  cases q : H x with
  | none => exact (n x b).1 q
  | some o => rw [e x o q] at z; cases z
theorem Sim.kids {v : V} {t : T} {us : List T} {r : List (Option T)} {p : List T} (h : Sim K F G H (some v :: σ) ⟨some t :: r, p⟩ pv) (e : t.kids = some us) :
    ∃ b zs, v = .ref b ∧ SqX K H b zs ∧ zs.length = us.length ∧ Sim K F G H (zs.map some ++ σ) ⟨us.map some ++ r, p⟩ pv := by
  obtain ⟨ef, eg, A, B, ho, hs, d, n⟩ := h
  cases ho with
  | cons h l s1 s2 =>
    cases h with
    | d hv =>
      cases hv with
      | lst hr hl =>
        cases e
        have hl' : RpL K G H pv _ _ (fun _ => False) := hl.rpl
        exact ⟨_, _, rfl, ex_x eg hr, by rw [List.length_map]; exact hl.len, ef, eg, A, B, RpO.join hl'.roots l (fun _ z => z.elim) s2, hs, d, n⟩
      | non => cases e
      | bl _ => cases e
      | int _ => cases e
      | str _ => cases e
      | ty _ => cases e
      | cls _ => cases e
      | tup _ _ => cases e
      | dic _ _ => cases e
      | obj _ _ _ => cases e
      | err _ _ _ _ _ => cases e
      | any _ => cases e
    | al _ => cases e
    | lst ha aa ss hl =>
      cases e
      exact ⟨_, _, rfl, sx_of ha, hl.len, ef, eg, A, B, RpO.join hl.roots l (fun x b => s1 x (ss x b).1) s2, hs, d, n⟩
    | tup _ _ _ _ => cases e
    | dic _ _ _ _ => cases e
    | obj _ _ _ _ _ _ _ _ => cases e
open Classical in
/-- the first tree is laid still -/
theorem Sim.freeze {v : V} {t : T} {r : List (Option T)} {p : List T} (h : Sim K F G H (some v :: σ) ⟨some t :: r, p⟩ pv) : ∃ G', Post F G G' ∧ Sim K F G' H (some v :: σ) ⟨some (.d (t.dat [])) :: r, p⟩ pv := by
  obtain ⟨ef, eg, A, B, ho, hs, d, n⟩ := h
  cases ho with
  | @cons _ _ _ _ _ A1 A2 h l s1 s2 =>
    have gg : Ex G (fun a => if A1 a then H a else G a) := fun a o z => by
      by_cases c : A1 a
      · rw [(n a (.inl (s1 a c).1)).2.2] at z; cases z
      · show (if A1 a then H a else G a) = some o
        rw [if_neg c]; exact z
    have fm : ∀ (pw : List V) (Z : AS), Fm K G (fun a => if A1 a then H a else G a) H H pw pw Z := fun pw Z => ⟨gg, fun _ _ _ z => z, fun _ _ z => z⟩
    refine ⟨fun a => if A1 a then H a else G a, ⟨gg, fun a o z => ?_⟩, ef, fun a o z => ?_, A2, B, .cons (A1 := fun _ => False) (.d ?_) (l.fm (fm pv A2)) (fun _ z => z.elim) (fun _ z => z), hs.fm (fm pv B), fun x b => d x (s2 x b), fun x b => ?_⟩
    · show (if A1 a then H a else G a) = G a
      rw [if_neg (fun c => by rw [(n a (.inl (s1 a c).1)).2.1] at z; cases z)]
    · by_cases c : A1 a
      · have z' : (if A1 a then H a else G a) = some o := z
        rw [if_pos c] at z'; exact z'
      · have z' : (if A1 a then H a else G a) = some o := z
        rw [if_neg c] at z'; exact eg a o z'
    · refine h.vw (fun k v e => .any v) (fun a o c z => ?_) gg
      show (if A1 a then H a else G a) = some o
      rw [if_pos c]; exact z
    · have b' : A x ∨ B x := b.elim (fun z => .inl (s2 x z)) .inr
      obtain ⟨q1, q2, q3⟩ := n x b'
      refine ⟨q1, q2, ?_⟩
      show (if A1 x then H x else G x) = none
      rw [if_neg (fun c => b.elim (s1 x c).2 (d x (s1 x c).1))]
      exact q3
end

/-! ### append, extend .. -/
/-- a list at place i is changed by c with the arguments -/
def sMut (i : Nat) (c : (α : Type) → List α → List α → Option (List α)) (fs : SemA) : Sem := fun s => match s.getP i with
  | some (.lst _) => (fs s).bind fun rs s1 => match s1.getP i with
    | some (.lst ts) => (match c T ts rs with
      | some qs => if qs.length ≤ sizeLine then .ok (.d .non) (s1.putP i (.lst qs)) else .bad
      | none => .bad)
    | _ => .bad
  | _ => .bad
/-- a list at place i gets the children of the argument behind -/
def sExt (i : Nat) (f : Sem) : Sem := fun s => match s.getP i with
  | some (.lst _) => (f s).bind fun r s1 => match s1.getP i, r.kids with
    | some (.lst ts), some us => if (ts ++ us).length ≤ sizeLine then .ok (.d .non) (s1.putP i (.lst (ts ++ us))) else .bad
    | _, _ => .bad
  | _ => .bad
def cApp (α : Type) (xs ys : List α) : Option (List α) := match ys with
  | [y] => some (xs ++ [y])
  | _ => none
def cRev (α : Type) (xs ys : List α) : Option (List α) := match ys with
  | [] => some xs.reverse
  | _ => none
def cClr (α : Type) (xs ys : List α) : Option (List α) := match ys with
  | [] => some []
  | _ => none
def cIns (i : Nat) (α : Type) (xs ys : List α) : Option (List α) := match ys with
  | [y] => some (xs.take i ++ [y] ++ xs.drop i)
  | _ => none
def cSet (i : Nat) (α : Type) (xs ys : List α) : Option (List α) := match ys with
  | [y] => if i < xs.length then some (xs.set i y) else none
  | _ => none
def cExt (α : Type) (xs ys : List α) : Option (List α) := some (xs ++ ys)
section
variable [CA] {K : PySem.W.Frag} {F G G' H H' : Hp} {σ : L2.St} {s s' : S} {pv pv' : List V} {W : WX} {D : Ends}
theorem chg_app : Chg cApp := by
  intro K G H pv A vs ws us ts rs qs e e2 h h1 h2
  match rs, ws, h1, h2, h with
  | [_], [_], h1, h2, h =>
    cases h1
    cases h2
    exact h
  | [_], [], _, h2, _ => cases h2
  | [_], _ :: _ :: _, _, h2, _ => cases h2
  | [], _, h1, _, _ => cases h1
  | _ :: _ :: _, _, h1, _, _ => cases h1
theorem chg_ext : Chg cExt := by
  intro K G H pv A vs ws us ts rs qs e e2 h h1 h2
  cases h1
  cases h2
  exact h
theorem chg_clr : Chg cClr := by
  intro K G H pv A vs ws us ts rs qs e e2 h h1 h2
  match rs, ws, h1, h2 with
  | [], [], h1, h2 =>
    cases h1
    cases h2
    exact .nil
  | [], _ :: _, _, h2 => cases h2
  | _ :: _, _, h1, _ => cases h1
theorem rpl_rev : ∀ {vs : List V} {ts : List T} {A : AS}, RpL K G H pv vs ts A → RpL K G H pv vs.reverse ts.reverse A
  | _, _, _, .nil => .nil
  | _, _, A, @RpL.cons _ _ _ _ _ v vs t ts _ A1 A2 h l s1 s2 => by
    rw [List.reverse_cons, List.reverse_cons]
    exact RpL.app (A2 := A1) (rpl_rev l) (.cons (A2 := fun _ => False) h .nil (fun x b => ⟨b, id⟩) fun x z => z.elim) (fun x b => ⟨s2 x b, fun z => (s1 x z).2 b⟩) fun x b => (s1 x b).1
theorem chg_rev : Chg cRev := by
  intro K G H pv A vs ws us ts rs qs e e2 h h1 h2
  match rs, ws, h1, h2, h with
  | [], [], h1, h2, h =>
    cases h1
    cases h2
    rw [List.append_nil, List.append_nil] at h
    exact rpl_rev h
  | [], _ :: _, _, h2, _ => cases h2
  | _ :: _, _, h1, _, _ => cases h1
theorem rpl_ins {v : V} {t : T} : ∀ {vs : List V} {ts : List T} {A A1 A2 : AS} (i : Nat), RpL K G H pv vs ts A2 → Rp K G H pv v t A1 → (∀ x, A1 x → A x ∧ ¬ A2 x) → (∀ x, A2 x → A x) → RpL K G H pv (vs.take i ++ [v] ++ vs.drop i) (ts.take i ++ [t] ++ ts.drop i) A
  | _, _, A, A1, A2, i, .nil, q, d1, d2 => by
    simp
    exact .cons (A2 := fun _ => False) q .nil (fun x b => ⟨(d1 x b).1, id⟩) fun x z => z.elim
  | _, _, A, A1, A2, 0, .cons h l s1 s2, q, d1, d2 => .cons q (.cons h l s1 s2) d1 d2
  | _, _, A, A1, A2, i + 1, @RpL.cons _ _ _ _ _ w vs u ts _ B1 B2 h l s1 s2, q, d1, d2 =>
    .cons (A2 := fun x => B2 x ∨ A1 x) h (rpl_ins i l q (fun x b => ⟨.inr b, fun z => (d1 x b).2 (s2 x z)⟩) fun x b => .inl b) (fun x b => ⟨d2 x (s1 x b).1, fun z => z.elim (s1 x b).2 fun z => (d1 x z).2 (s1 x b).1⟩) fun x b => b.elim (fun z => d2 x (s2 x z)) fun z => (d1 x z).1
theorem chg_ins (i : Nat) : Chg (cIns i) := by
  intro K G H pv A vs ws us ts rs qs e e2 h h1 h2
  match rs, ws, h1, h2, h with
  | [_], [_], h1, h2, h =>
    cases h1
    cases h2
    obtain ⟨A1, A2, g1, g2, d1, d2⟩ := RpL.part e2 h
    cases g2 with
    | cons q l s1 s2 => exact rpl_ins i g1 q (fun x b => ⟨d2 x (s1 x b).1, fun z => (d1 x z).2 (s1 x b).1⟩) fun x b => (d1 x b).1
  | [_], [], _, h2, _ => cases h2
  | [_], _ :: _ :: _, _, h2, _ => cases h2
  | [], _, h1, _, _ => cases h1
  | _ :: _ :: _, _, h1, _, _ => cases h1
theorem rpl_set {v : V} {t : T} : ∀ {vs : List V} {ts : List T} {A A1 A2 : AS} (i : Nat), RpL K G H pv vs ts A2 → i < ts.length → Rp K G H pv v t A1 → (∀ x, A1 x → A x ∧ ¬ A2 x) → (∀ x, A2 x → A x) → RpL K G H pv (vs.set i v) (ts.set i t) A
  | _, _, A, A1, A2, i, .nil, c, q, d1, d2 => by simp at c
  | _, _, A, A1, A2, 0, .cons h l s1 s2, c, q, d1, d2 => .cons q l (fun x b => ⟨(d1 x b).1, fun z => (d1 x b).2 (s2 x z)⟩) fun x b => d2 x (s2 x b)
  | _, _, A, A1, A2, i + 1, @RpL.cons _ _ _ _ _ w vs u ts _ B1 B2 h l s1 s2, c, q, d1, d2 =>
    .cons (A2 := fun x => B2 x ∨ A1 x) h (rpl_set i l (by simpa using c) q (fun x b => ⟨.inr b, fun z => (d1 x b).2 (s2 x z)⟩) fun x b => .inl b) (fun x b => ⟨d2 x (s1 x b).1, fun z => z.elim (s1 x b).2 fun z => (d1 x z).2 (s1 x b).1⟩)
      fun x b => b.elim (fun z => d2 x (s2 x z)) fun z => (d1 x z).1
theorem chg_set (i : Nat) : Chg (cSet i) := by
  intro K G H pv A vs ws us ts rs qs e e2 h h1 h2
  match rs, ws, h1, h2, h with
  | [y], [w], h1, h2, h =>
    have h1' : (if i < ts.length then some (ts.set i y) else none) = some qs := h1
    have h2' : (if i < vs.length then some (vs.set i w) else none) = some us := h2
    by_cases c : i < ts.length
    · rw [if_pos c] at h1'
      rw [if_pos (by omega)] at h2'
      cases h1'
      cases h2'
      obtain ⟨A1, A2, g1, g2, d1, d2⟩ := RpL.part e2 h
      cases g2 with
      | cons q l s1 s2 => exact rpl_set i g1 c q (fun x b => ⟨d2 x (s1 x b).1, fun z => (d1 x z).2 (s1 x b).1⟩) fun x b => (d1 x b).1
    · rw [if_neg c] at h1'; cases h1'
  | [_], [], _, h2, _ => cases h2
  | [_], _ :: _ :: _, _, h2, _ => cases h2
  | [], _, h1, _, _ => cases h1
  | _ :: _ :: _, _, h1, _, _ => cases h1
/-- what a change's method asks -/
def MutOk (r : V → List V → Hp → VK → Prop) (c : (α : Type) → List α → List α → Option (List α)) : Prop := ∀ (a : Addr) (xs ws us : List V) (H : Hp) (Q : VK), H a = some (.lst xs) → c V xs ws = some us → us.length ≤ sizeLine → Q .non (upd H a (.lst us)) → r (.ref a) ws H Q
/-- the same shape of both lists -/
def CLen (c : (α : Type) → List α → List α → Option (List α)) : Prop := ∀ (ts rs qs : List T) (vs ws : List V), vs.length = ts.length → ws.length = rs.length → c T ts rs = some qs → ∃ us, c V vs ws = some us ∧ us.length = qs.length
theorem getP_lst {i : Nat} {ts : List T} (h : Sim K F G H σ s pv) (g : s.getP i = some (.lst ts)) : ∃ a vs, σ[i]? = some (some (.ref a)) ∧ H a = some (.lst vs) ∧ vs.length = ts.length := by
  obtain ⟨ef, eg, A, B, ho, hs, d, n⟩ := h
  unfold S.getP at g
  split at g
  · rename_i k ek
    obtain ⟨v, C1, C2, e1, h3, h4, c1, c2⟩ := ho.take ek
    cases h3 with
    | al hk =>
      obtain ⟨v2, E1, E2, e2, h5, f1, f2, back⟩ := hs.at g
      rw [hk] at e2
      cases e2
      cases h5 with
      | lst ha aa s l => exact ⟨_, _, e1, ha, l.len⟩
  · rename_i t nal ek
    have et : t = .lst ts := Option.some.inj g
    subst et
    obtain ⟨v, C1, C2, e1, h3, h4, c1, c2⟩ := ho.take ek
    cases h3 with
    | lst ha aa s l => exact ⟨_, _, e1, ha, l.len⟩
  · cases g
theorem sMut_le {r : V → List V → Hp → VK → Prop} {c : (α : Type) → List α → List α → Option (List α)} {i : Nat} {fs : SemA} {Q : VK} (hc : Chg c) (hl : CLen c) (ok : MutOk r c)
    (h : tOf K W (sMut i c fs) σ H Q) : tBM K "list" r (tVar i) (tOfA K W fs) σ H Q := by
  obtain ⟨F, G, s, pv, S, q⟩ := h
  unfold sMut at q
  split at q
  · rename_i ts0 g0
    obtain ⟨a, vs0, e0, h0, _⟩ := getP_lst S g0
    refine ⟨.ref a, e0, .inl ⟨rfl, _, .inl (.inl h0)⟩, F, G, s, pv, S, (bind_use q).imp (fun rs s1 q1 => ?_) fun _ _ z => z⟩
    intro ws G1 H1 pv1 po px el S1
    split at q1
    · rename_i ts g1
      cases ec : c T ts rs with
      | none => rw [ec] at q1; exact q1.elim
      | some qs =>
        rw [ec] at q1
        have q2 : (if qs.length ≤ sizeLine then Res.ok (.d .non) (s1.putP i (.lst qs)) else .bad : Res T).go (KOk K F G pv σ Q) (KEx K F G pv σ W) := q1
        by_cases cc : qs.length ≤ sizeLine
        · rw [if_pos cc] at q2
          obtain ⟨a2, vs, e1, h1, lv, k⟩ := Sim.chg (r := s1.r) (p := s1.p) hc S1 el g1 ec
          rw [e0] at e1
          cases e1
          obtain ⟨us, hu, lu⟩ := hl ts rs qs vs ws lv el ec
          exact ok a vs ws us H1 Q h1 hu (by rw [lu]; exact cc) (q2 .non G1 _ pv1 po px ((k us hu).push_d .non))
        · rw [if_neg cc] at q2
          exact q2.elim
    · exact q1.elim
  · exact q.elim
theorem len_app : CLen cApp := by
  intro ts rs qs vs ws e1 e2 h
  match rs, ws, h, e2 with
  | [_], [w], h, _ =>
    cases h
    exact ⟨_, rfl, by rw [List.length_append, List.length_append, e1]; rfl⟩
  | [], _, h, _ => cases h
  | _ :: _ :: _, _, h, _ => cases h
theorem len_rev : CLen cRev := by
  intro ts rs qs vs ws e1 e2 h
  match rs, ws, h, e2 with
  | [], [], h, _ =>
    cases h
    exact ⟨_, rfl, by rw [List.length_reverse, List.length_reverse, e1]⟩
  | _ :: _, _, h, _ => cases h
theorem len_clr : CLen cClr := by
  intro ts rs qs vs ws e1 e2 h
  match rs, ws, h, e2 with
  | [], [], h, _ =>
    cases h
    exact ⟨_, rfl, rfl⟩
  | _ :: _, _, h, _ => cases h
theorem len_ins (i : Nat) : CLen (cIns i) := by
  intro ts rs qs vs ws e1 e2 h
  match rs, ws, h, e2 with
  | [_], [w], h, _ =>
    cases h
    exact ⟨_, rfl, by simp [e1]⟩
  | [], _, h, _ => cases h
  | _ :: _ :: _, _, h, _ => cases h
theorem mok_app : MutOk rAppend cApp := by
  intro a xs ws us H Q h c l q
  match ws, c with
  | [w], c =>
    cases c
    rw [List.length_append] at l
    exact ⟨a, xs, w, rfl, rfl, h, l, q⟩
  | [], c => cases c
  | _ :: _ :: _, c => cases c
theorem mok_rev : MutOk rReverse cRev := by
  intro a xs ws us H Q h c l q
  match ws, c with
  | [], c =>
    cases c
    exact ⟨a, xs, rfl, rfl, h, q⟩
  | _ :: _, c => cases c
theorem mok_clr : MutOk rClear cClr := by
  intro a xs ws us H Q h c l q
  match ws, c with
  | [], c =>
    cases c
    exact ⟨a, xs, rfl, rfl, h, q⟩
  | _ :: _, c => cases c
/-- extend, of a list that stands or is frozen -/
def rExtR [CA] (K : PySem.W.Frag) : V → List V → Hp → VK → Prop := fun x vs H Q => ∃ l b xs zs, x = .ref l ∧ vs = [.ref b] ∧ H l = some (.lst xs) ∧ SqX K H b zs ∧ xs.length + zs.length ≤ sizeLine ∧ Q .non (upd H l (.lst (xs ++ zs)))
theorem sExt_le {i : Nat} {f : Sem} {Q : VK} (h : tOf K W (sExt i f) σ H Q) : tBM K "list" (rExtR K) (tVar i) (tCons (tOf K W f) tNil) σ H Q := by
  obtain ⟨F, G, s, pv, S, q⟩ := h
  unfold sExt at q
  split at q
  · rename_i ts0 g0
    obtain ⟨a, vs0, e0, h0, _⟩ := getP_lst S g0
    refine ⟨.ref a, e0, .inl ⟨rfl, _, .inl (.inl h0)⟩, F, G, s, pv, S, (bind_use q).imp (fun r s1 q1 => ?_) fun _ _ z => z⟩
    intro v G1 H1 pv1 po px S1
    split at q1
    · rename_i ts us g1 ek
      obtain ⟨b, zs, rfl, hb, lz, S2⟩ := Sim.kids (r := s1.r) (p := s1.p) S1 ek
      have q2 : (if (ts ++ us).length ≤ sizeLine then Res.ok (.d .non) (s1.putP i (.lst (ts ++ us))) else .bad : Res T).go (KOk K F G pv σ Q) (KEx K F G pv σ W) := q1
      by_cases cc : (ts ++ us).length ≤ sizeLine
      · rw [if_pos cc] at q2
        obtain ⟨a2, vs, e1, h1, lv, k⟩ := Sim.chg (r := s1.r) (p := s1.p) chg_ext S2 lz g1 rfl
        rw [e0] at e1
        cases e1
        have l2 := cc
        rw [List.length_append] at l2
        exact ⟨a, b, vs, zs, rfl, rfl, h1, hb, by omega, q2 .non G1 _ pv1 po px ((k _ rfl).push_d .non)⟩
      · rw [if_neg cc] at q2
        exact q2.elim
    · exact q1.elim
  · exact q.elim
end
section
variable [CA] {X : Cx}
theorem rd_obj {pins : List (Addr × Obj)} {σ : L2.St} {H : Hp} {s : Shared} {l : Addr} {xs : List V} (I : Inv X pins σ H s) (hH : SqX X.K H l xs) : xs.length ≤ sizeLine ∧ ∃ (its : List Value) (n : Nat), Vals xs its ∧ s.heap.get? l = some { cls := .type "list", data := .seq its.toArray n } := by
  rcases hH with hH | ⟨its, n, e, z, r⟩
  · obtain ⟨z, its, n, r, e⟩ := hH.ok I.hok
    exact ⟨z, its, n, r, e⟩
  · exact ⟨by rw [r.length]; exact z, its, n, r, I.kIn _ _ e⟩
theorem mt_extR : MtM X "list.extend" (rExtR X.K) := by
  intro pins s σ H x vs v us Q I rx rv ⟨l, b, xs, zs, ex, ev, hl, hb, sz, q⟩
  subst ex
  subst ev
  cases rx
  obtain ⟨u, eu, ru⟩ := rv.one
  subst eu
  cases ru
  obtain ⟨_, as, n, ra, oa⟩ := rd_obj I (sx_of hl)
  obtain ⟨_, bs, m, rb, ob⟩ := rd_obj I hb
  have la := ra.length
  have lb := rb.length
  have both : as.toArray.size + bs.toArray.size ≤ sizeLine := by
    rw [List.size_toArray, List.size_toArray, ← la, ← lb]
    exact sz
  have short : ¬ (!as.toArray.isEmpty && Builtin.List.listTooLong (as.toArray.size + bs.toArray.size)) = true := by
    rw [notLongL both, Bool.and_false]
    exact fun z => nomatch z
  refine call_meets F.slot_list_extend ⟨_, oa, rfl⟩ F.entry_list_extend (F.args_list_extend_2 _ _) (AutoSeq1.list_extend_list_list_0 l as.toArray n b bs.toArray m short (by rw [List.size_toArray]; omega) (by omega)) ⟨oa, ob, ?_⟩
  exact ⟨.non, _, I.lset (its' := as ++ bs) hl oa (by simp) (ra.append rb) (by rw [List.length_append]; exact sz), rfl, q⟩
/-- + of lists that stand or are frozen -/
def rCatR [CA] (K : PySem.W.Frag) : R2 := fun x y H Q => ∃ l b xs zs, x = .ref l ∧ y = .ref b ∧ SqX K H l xs ∧ SqX K H b zs ∧ xs.length + zs.length ≤ sizeLine ∧ ∀ p, H p = none → Q (.ref p) (upd H p (.lst (xs ++ zs)))
theorem op_catR : OpR X (binaryOp .Add) (rCatR X.K) := by
  intro pins s σ H x y v u Q I rx ry ⟨l, b, xs, zs, ex, ey, hl, hb, sz, q⟩
  subst ex
  subst ey
  cases rx
  cases ry
  obtain ⟨_, as, n, ra, oa⟩ := rd_obj I hl
  obtain ⟨_, bs, m, rb, ob⟩ := rd_obj I hb
  have la := ra.length
  have lb := rb.length
  refine PySem.P.add_list oa ob ?_ (by rw [List.size_toArray, List.size_toArray, ← la, ← lb]; exact sz)
  rw [show as.toArray ++ bs.toArray = (as ++ bs).toArray by simp]
  exact ⟨.ref _, _, I.lnew (t' := s.toks) (ra.append rb) (by rw [List.length_append]; exact sz), rfl, q _ I.fresh⟩
end
section
variable [CA] {X : Cx} {W : WX} {e : Expr} {es : List Expr} {f : Sem} {g : SemA} {x : Str} {p apos cpos : Pos}
theorem MtR.of {id : String} {r : V → List V → Hp → VK → Prop} (h : MtM X id r) : MtR X id r := h
theorem r_app (i : Nat) (ha : PA X (e :: es) (tOfA X.K W g)) (hN : X.N[i]? = some x := by rfl) (hv : Vis X.env.scope x := by first | exact Or.inl rfl | exact Or.inr (Or.inl rfl) | exact Or.inr (Or.inr rfl)) (hd : (x == ("__debug__" : Str)) = false := by decide)
    (hcd : (x == ("__classdict__" : Str)) = false := by decide) (hbase : attributeBase (.Name x p) "append" X.env (eval (.Name x p) X.env) = eval (.Name x p) X.env := by rfl)
    (hfew : ((backTo cpos (starEach (e :: es) X.env)).all (fun x => !x.1) && (backToKw cpos (keywordEach [] X.env)).all (fun x => x.1.isSome) && decide ((e :: es).length + ([] : List Keyword).length + (if ([] : List Keyword).isEmpty then 0 else 1) < 30)) = true := by rfl)
    (hline : (apos.endLine == cpos.line) = true := by rfl) (hs : starEach (e :: es) X.env = (false, eval e X.env) :: starEach es X.env := by rfl) (hplain : (backTo cpos (starEach es X.env)).any (·.1) = false := by rfl) :
    PE X (.Call (.Attribute (.Name x p) "append" apos) (e :: es) [] cpos) (tOf X.K W (sMut i cApp g)) :=
  (pe_bm PySem.F.plainAttrs_list PySem.F.slot_list_append PySem.F.type_list_append mt_append (pe_var hN hv hd hcd) ha hbase hfew hline hs hplain).le fun _ _ _ h => sMut_le chg_app len_app mok_app h
theorem r_ext (i : Nat) (he : PE X e (tOf X.K W f)) (hN : X.N[i]? = some x := by rfl) (hv : Vis X.env.scope x := by first | exact Or.inl rfl | exact Or.inr (Or.inl rfl) | exact Or.inr (Or.inr rfl)) (hd : (x == ("__debug__" : Str)) = false := by decide)
    (hcd : (x == ("__classdict__" : Str)) = false := by decide) (hbase : attributeBase (.Name x p) "extend" X.env (eval (.Name x p) X.env) = eval (.Name x p) X.env := by rfl)
    (hfew : ((backTo cpos (starEach [e] X.env)).all (fun x => !x.1) && (backToKw cpos (keywordEach [] X.env)).all (fun x => x.1.isSome) && decide ([e].length + ([] : List Keyword).length + (if ([] : List Keyword).isEmpty then 0 else 1) < 30)) = true := by rfl)
    (hline : (apos.endLine == cpos.line) = true := by rfl) (hs : starEach [e] X.env = (false, eval e X.env) :: starEach [] X.env := by rfl) (hplain : (backTo cpos (starEach [] X.env)).any (·.1) = false := by rfl) :
    PE X (.Call (.Attribute (.Name x p) "extend" apos) [e] [] cpos) (tOf X.K W (sExt i f)) :=
  (pe_bm PySem.F.plainAttrs_list PySem.F.slot_list_extend PySem.F.type_list_extend mt_extR (pe_var hN hv hd hcd) (pa_cons he pa_nil hs) hbase hfew hline hs hplain).le fun _ _ _ h => sExt_le h
end
end BT
/-! BH: loops, comprehensions. -/
namespace BT
open PySem PySem.Spec PyProof.Rows L2

abbrev SemI := S → Res (List D)
/-- what an iterator does: item i is the data ds[i] -/
def IOk [CA] (K : PySem.W.Frag) (F G : Hp) (J : It) (ds : List D) : Prop := ∀ G1 H, Post F G G1 → Ex G1 H → Ex F H → ∀ i : Nat, (i < ds.length → J.go i H) ∧ (ds.length ≤ i → J.stop i H) ∧
  ∀ x H' d, ds[i]? = some d → J.yld i H x H' → ∃ G2, Ex H H' ∧ Ex G1 G2 ∧ Ex G2 H' ∧ (∀ a, H a ≠ none → G2 a = G1 a) ∧ Vw K G2 x d
def tOfI [CA] (K : PySem.W.Frag) (W : WX) (f : SemI) : TI := fun σ H R => ∃ F G s pv, Sim K F G H σ s pv ∧
  (f s).go (fun ds s' => ∀ J G' H' pv', Post F G G' → pv <+: pv' → Sim K F G' H' σ s' pv' → IOk K F G' J ds → R J H') (KEx K F G pv σ W)
/-- a target takes data -/
def Off (ns : List Nat) (σ σ' : L2.St) : Prop := σ'.length = σ.length ∧ ∀ j : Nat, j ∉ ns → σ'[j]? = σ[j]?
def gOf [CA] (K : PySem.W.Frag) (ns : List Nat) (h : D → S → Option S) : TG := fun v σ H Q => ∃ F G s pv d s', Sim K F G H σ s pv ∧ Vw K G v d ∧ h d s = some s' ∧ ∀ σ', Off ns σ σ' → Sim K F G H σ' s' pv → Q σ' H
def gOfs [CA] (K : PySem.W.Frag) (ns : List Nat) (h : List D → S → Option S) : TGs := fun vs σ H Q => ∃ F G s pv ds s', Sim K F G H σ s pv ∧ VwL K G vs ds ∧ h ds s = some s' ∧ ∀ σ', Off ns σ σ' → Sim K F G H σ' s' pv → Q σ' H
def hName (i : Nat) : D → S → Option S := fun d s => some (s.st i (.d d))
def hNil : List D → S → Option S := fun ds s => match ds with
  | [] => some s
  | _ => none
def hCons (h : D → S → Option S) (hs : List D → S → Option S) : List D → S → Option S := fun ds s => match ds with
  | d :: r => (h d s).bind fun s' => hs r s'
  | [] => none
def hTup (hs : List D → S → Option S) : D → S → Option S := fun d s => match d with
  | .tup ds => hs ds s
  | _ => none
/-- a loop over data -/
def sLoop (h : D → S → Option S) (body : SemS) : List D → SemS
  | [], s => .next s
  | d :: ds, s => match h d s with
    | none => .bad
    | some s1 => match body s1 with
      | .next s2 => sLoop h body ds s2
      | .cont s2 => sLoop h body ds s2
      | .brk s2 => .next s2
      | .ret t s2 => .ret t s2
      | .exc x s2 => .exc x s2
      | .bad => .bad
def sFor (fi : SemI) (h : D → S → Option S) (body : SemS) : SemS := fun s => (fi s).bindF fun ds s' => sLoop h body ds s'
section
variable [CA] {K : PySem.W.Frag} {F G G' H H' : Hp} {σ : L2.St} {s s' : S} {pv pv' : List V} {W : WX} {D : Ends}
theorem hName_le {i : Nat} {v : V} {Q : L2.St → Hp → Prop} (h : gOf K [i] (hName i) v σ H Q) : gName i v σ H Q := by
  obtain ⟨F, G, s, pv, d, s', S, hv, e, q⟩ := h
  cases e
  exact q _ ⟨by rw [List.length_set], fun j n => List.getElem?_set_ne (fun w => n (by simp [w]))⟩ (S.push_d hv).store
theorem hNil_le {vs : List V} {Q : L2.St → Hp → Prop} (h : gOfs K [] hNil vs σ H Q) : gNil vs σ H Q := by
  obtain ⟨F, G, s, pv, ds, s', S, hv, e, q⟩ := h
  cases ds with
  | nil =>
    cases hv
    cases e
    exact ⟨rfl, q _ ⟨rfl, fun _ _ => rfl⟩ S⟩
  | cons d ds => cases e
theorem hCons_le {h : BT.D → S → Option S} {hs : List BT.D → S → Option S} {n1 n2 : List Nat} {vs : List V} {Q : L2.St → Hp → Prop} (g : gOfs K (n1 ++ n2) (hCons h hs) vs σ H Q) : gCons (gOf K n1 h) (gOfs K n2 hs) vs σ H Q := by
  obtain ⟨F, G, s, pv, ds, s', S, hv, e, q⟩ := g
  cases hv with
  | nil => cases e
  | @cons v vs d ds hv hl =>
    have e' : (h d s).bind (fun s' => hs ds s') = some s' := e
    cases e1 : h d s with
    | none => rw [e1] at e'; cases e'
    | some s1 =>
      rw [e1] at e'
      exact ⟨v, vs, rfl, F, G, s, pv, d, s1, S, hv, e1, fun σ1 o1 S1 => ⟨F, G, s1, pv, ds, s', S1, hl, e', fun σ2 o2 S2 => q σ2 ⟨o2.1.trans o1.1, fun j n => (o2.2 j fun z => n (List.mem_append_right _ z)).trans (o1.2 j fun z => n (List.mem_append_left _ z))⟩ S2⟩⟩
theorem hTup_le {hs : List BT.D → S → Option S} {n : Nat} {ns : List Nat} {v : V} {Q : L2.St → Hp → Prop} (hn : ∀ ds s s', hs ds s = some s' → ds.length = n) (g : gOf K ns (hTup hs) v σ H Q) : gTup K n (gOfs K ns hs) v σ H Q := by
  obtain ⟨F, G, s, pv, d, s', S, hv, e, q⟩ := g
  cases hv with
  | tup ht hl => exact ⟨_, _, rfl, ex_t S.eg ht, hl.len.trans (hn _ _ _ e), F, G, s, pv, _, s', S, hl, e, q⟩
  | non => cases e
  | bl _ => cases e
  | int _ => cases e
  | str _ => cases e
  | ty _ => cases e
  | cls _ => cases e
  | lst _ _ => cases e
  | dic _ _ => cases e
  | obj _ _ _ => cases e
  | err _ _ _ _ _ => cases e
  | any _ => cases e
theorem hNil_len (ds : List BT.D) (s s' : S) (h : hNil ds s = some s') : ds.length = 0 := by
  cases ds with
  | nil => rfl
  | cons _ _ => cases h
theorem hCons_len {h : BT.D → S → Option S} {hs : List BT.D → S → Option S} {n : Nat} (k : ∀ ds s s', hs ds s = some s' → ds.length = n) (ds : List BT.D) (s s' : S) (e : hCons h hs ds s = some s') : ds.length = n + 1 := by
  cases ds with
  | nil => cases e
  | cons d ds =>
    have e' : (h d s).bind (fun s' => hs ds s') = some s' := e
    cases e1 : h d s with
    | none => rw [e1] at e'; cases e'
    | some s1 =>
      rw [e1] at e'
      rw [List.length_cons, k ds s1 s' e']
theorem sFor_le {fi : SemI} {h : BT.D → S → Option S} {ns : List Nat} {body : SemS} (g : sOf K W (sFor fi h body) D σ H) : tFor (tOfI K W fi) (gOf K ns h) (sOf K W body) D σ H := by
  obtain ⟨F, G, s, pv, S, q⟩ := g
  refine ⟨F, G, s, pv, S, (bindF_use q).imp (fun ds s1 q1 => ?_) fun _ _ z => z.kex⟩
  intro J G1 H1 pv1 po px S1 io
  refine ⟨fun i m σ H => m = ds.length - i ∧ i ≤ ds.length ∧ ∃ G2 s2 pv2, Post F G1 G2 ∧ pv1 <+: pv2 ∧ Sim K F G2 H σ s2 pv2 ∧ Fin K F G2 pv2 W D (sLoop h body (ds.drop i) s2),
    ⟨ds.length, by simp, Nat.zero_le _, G1, s1, pv1, .rfl', List.prefix_refl _, S1, by rw [List.drop_zero]; exact Fin.after po px q1⟩, fun i m σ2 H2 w => ?_⟩
  obtain ⟨rfl, hi, G2, s2, pv2, po2, px2, S2, f2⟩ := w
  obtain ⟨go, stop, yld⟩ := io G2 H2 po2 S2.eg S2.ef i
  by_cases hlt : i < ds.length
  · refine .inr ⟨go hlt, fun σ3 H3 => i + 1 ≤ ds.length ∧ ∃ G3 s3 pv3, Post F G1 G3 ∧ pv1 <+: pv3 ∧ Sim K F G3 H3 σ3 s3 pv3 ∧ Fin K F G3 pv3 W D (sLoop h body (ds.drop (i + 1)) s3), fun σ3 H3 n => ⟨ds.length - (i + 1), by omega, rfl, n.1, n.2⟩, fun x H3 y => ?_⟩
    obtain ⟨G3, e1, e2, e3, e4, hv⟩ := yld x H3 ds[i] (by rw [List.getElem?_eq_getElem hlt]) y
    have S3 := S2.more e1 e2 e3 e4
    have po3 : Post F G2 G3 := ⟨e2, fun a o z => e4 a (by rw [S2.ef a o z]; exact fun z => nomatch z)⟩
    rw [List.drop_eq_getElem_cons hlt] at f2
    unfold sLoop at f2
    cases eh : h ds[i] s2 with
    | none => rw [eh] at f2; exact f2.elim
    | some s3 =>
      rw [eh] at f2
      refine ⟨F, G3, s2, pv2, ds[i], s3, S3, hv, eh, fun σ4 _ S4 => ⟨F, G3, s3, pv2, S4, ?_⟩⟩
      have again : ∀ s5, Fin K F G2 pv2 W D (sLoop h body (ds.drop (i + 1)) s5) → GN K F G3 pv2 (fun σ3 H3 => i + 1 ≤ ds.length ∧ ∃ G3 s3 pv3, Post F G1 G3 ∧ pv1 <+: pv3 ∧ Sim K F G3 H3 σ3 s3 pv3 ∧ Fin K F G3 pv3 W D (sLoop h body (ds.drop (i + 1)) s3)) s5 := fun s5 z σ5 G5 H5 pv5 po5 px5 S5 =>
        ⟨hlt, G5, s5, pv5, (po2.tr po3).tr po5, px2.trans px5, S5, z.after (po3.tr po5) px5⟩
      cases eb : body s3 with
      | next s5 =>
        have f3 : Fin K F G2 pv2 W D (sLoop h body (ds.drop (i + 1)) s5) := by simpa [eb] using f2
        exact again s5 f3
      | cont s5 =>
        have f3 : Fin K F G2 pv2 W D (sLoop h body (ds.drop (i + 1)) s5) := by simpa [eb] using f2
        exact again s5 f3
      | brk s5 =>
        have f3 : Fin K F G2 pv2 W D (.next s5) := by simpa [eb] using f2
        exact GN.after po3 (List.prefix_refl _) f3
      | ret t s5 =>
        have f3 : Fin K F G2 pv2 W D (.ret t s5) := by simpa [eb] using f2
        exact GR.after po3 (List.prefix_refl _) f3
      | exc x s5 =>
        have f3 : Fin K F G2 pv2 W D (.exc x s5) := by simpa [eb] using f2
        exact GX.after po3 (List.prefix_refl _) f3
      | bad =>
        have f3 : Fin K F G2 pv2 W D .bad := by simpa [eb] using f2
        exact f3.elim
  · have hd : ds.drop i = [] := List.drop_eq_nil_of_le (by omega)
    rw [hd] at f2
    exact .inl ⟨stop (by omega), f2 σ2 G2 H2 pv2 .rfl' (List.prefix_refl _) S2⟩
end
/-! ### while -/
def sLoopW (c : SemT) (body : SemS) : Nat → SemS
  | 0, _ => .bad
  | n + 1, s => (c s).bindF fun b s1 => if b then (match body s1 with
      | .next s2 => sLoopW c body n s2
      | .cont s2 => sLoopW c body n s2
      | .brk s2 => .next s2
      | .ret t s2 => .ret t s2
      | .exc x s2 => .exc x s2
      | .bad => .bad) else .next s1
/-- fuel by the state -/
def sWhile (fuel : S → Nat) (c : SemT) (body : SemS) : SemS := fun s => sLoopW c body (fuel s) s
section
variable [CA] {K : PySem.W.Frag} {F G G' H H' : Hp} {σ : L2.St} {s s' : S} {pv pv' : List V} {W : WX} {D : Ends}
theorem sWhile_le {fuel : S → Nat} {c : SemT} {body : SemS} (g : sOf K W (sWhile fuel c body) D σ H) : tWhile (tOfT K W c) (sOf K W body) D σ H := by
  obtain ⟨F, G, s, pv, S, q⟩ := g
  refine ⟨fun m σ H => ∃ G2 s2 pv2, Post F G G2 ∧ pv <+: pv2 ∧ Sim K F G2 H σ s2 pv2 ∧ Fin K F G2 pv2 W D (sLoopW c body m s2), ⟨fuel s, G, s, pv, .rfl', List.prefix_refl _, S, q⟩, fun m σ2 H2 w => ?_⟩
  obtain ⟨G2, s2, pv2, po2, px2, S2, f2⟩ := w
  cases m with
  | zero => exact f2.elim
  | succ m =>
    refine ⟨F, G2, s2, pv2, S2, (bindF_use f2).imp (fun b s3 f3 => ?_) fun _ _ z => z.kex⟩
    intro G3 H3 pv3 po3 px3 S3
    cases b with
    | false => exact f3 σ2 G3 H3 pv3 po3 px3 S3
    | true =>
      rw [if_pos rfl] at f3
      have f4 := Fin.after po3 px3 f3
      refine ⟨fun σ' H' => ∃ G2 s2 pv2, Post F G G2 ∧ pv <+: pv2 ∧ Sim K F G2 H' σ' s2 pv2 ∧ Fin K F G2 pv2 W D (sLoopW c body m s2), fun σ' H' n => ⟨m, Nat.lt_succ_self _, n⟩, F, G3, s3, pv3, S3, ?_⟩
      have again : ∀ s5, Fin K F G3 pv3 W D (sLoopW c body m s5) → GN K F G3 pv3 (fun σ' H' => ∃ G2 s2 pv2, Post F G G2 ∧ pv <+: pv2 ∧ Sim K F G2 H' σ' s2 pv2 ∧ Fin K F G2 pv2 W D (sLoopW c body m s2)) s5 := fun s5 z σ5 G5 H5 pv5 po5 px5 S5 =>
        ⟨G5, s5, pv5, (po2.tr po3).tr po5, (px2.trans px3).trans px5, S5, z.after po5 px5⟩
      cases eb : body s3 with
      | next s5 =>
        have f5 : Fin K F G3 pv3 W D (sLoopW c body m s5) := by simpa [eb] using f4
        exact again s5 f5
      | cont s5 =>
        have f5 : Fin K F G3 pv3 W D (sLoopW c body m s5) := by simpa [eb] using f4
        exact again s5 f5
      | brk s5 =>
        have f5 : Fin K F G3 pv3 W D (.next s5) := by simpa [eb] using f4
        exact f5
      | ret t s5 =>
        have f5 : Fin K F G3 pv3 W D (.ret t s5) := by simpa [eb] using f4
        exact f5
      | exc x s5 =>
        have f5 : Fin K F G3 pv3 W D (.exc x s5) := by simpa [eb] using f4
        exact f5
      | bad =>
        have f5 : Fin K F G3 pv3 W D .bad := by simpa [eb] using f4
        exact f5.elim
end
/-! ### what is walked -/
/-- a list, laid still -/
def iL (f : Sem) : SemI := fun s => (f s).bind fun t s' => match t.dat [] with
  | .lst ds => .ok ds s'
  | _ => .bad
def iT (f : Sem) : SemI := fun s => (f s).bind fun t s' => match t.dat [] with
  | .tup ds => .ok ds s'
  | _ => .bad
def intsFrom (lo : Int) : Nat → List D
  | 0 => []
  | n + 1 => .int lo :: intsFrom (lo + 1) n
def stepsFrom (lo c : Int) : Nat → List D
  | 0 => []
  | n + 1 => .int lo :: stepsFrom (lo + c) c n
noncomputable def iR1 (f : Sem) : SemI := fun s => pk f s fun x => match x with
  | .int j => @ite _ (-(2 ^ 62) ≤ j ∧ j < 2 ^ 62) (Classical.propDecidable _) (.ok (intsFrom 0 j.toNat) s) .bad
  | _ => .bad
noncomputable def iR2 (f g : Sem) : SemI := fun s => pk f s fun x => pk g s fun y => match x, y with
  | .int i, .int j => @ite _ ((-(2 ^ 62) ≤ i ∧ i < 2 ^ 62) ∧ (-(2 ^ 62) ≤ j ∧ j < 2 ^ 62)) (Classical.propDecidable _) (.ok (intsFrom i (j - i).toNat) s) .bad
  | _, _ => .bad
/-- range(i, j, -1) -/
noncomputable def iRm (f g : Sem) : SemI := fun s => pk f s fun x => pk g s fun y => match x, y with
  | .int i, .int j => @ite _ ((-(2 ^ 62) ≤ i ∧ i < 2 ^ 62) ∧ (-(2 ^ 62) ≤ j ∧ j < 2 ^ 62)) (Classical.propDecidable _) (.ok (stepsFrom i (-1) (i - j).toNat) s) .bad
  | _, _ => .bad
def enumFrom' : Nat → List D → List D
  | _, [] => []
  | k, d :: ds => .tup [.int k, d] :: enumFrom' (k + 1) ds
def iE (f : Sem) : SemI := fun s => (f s).bind fun t s' => match t.dat [] with
  | .lst ds => .ok (enumFrom' 0 ds) s'
  | _ => .bad
def zipD : List D → List D → List D
  | a :: r, b :: q => .tup [a, b] :: zipD r q
  | _, _ => []
def iZ (f g : Sem) : SemI := fun s => (f s).bind fun t s1 => (g s1).bind fun u s2 => match t.dat [], u.dat [] with
  | .lst ds, .lst es => .ok (zipD ds es) s2
  | _, _ => .bad
section
variable [CA] {K : PySem.W.Frag} {F G G' H H' : Hp} {σ : L2.St} {s s' : S} {pv pv' : List V} {W : WX}
theorem VwL.at {vs : List V} {ds : List D} {i : Nat} {x : V} {d : D} (h : VwL K H vs ds) (e1 : vs[i]? = some x) (e2 : ds[i]? = some d) : Vw K H x d := by
  induction ds generalizing vs i with
  | nil => simp at e2
  | cons d' ds ih =>
    cases h with
    | cons h l =>
      cases i with
      | zero =>
        simp at e1 e2
        subst e1
        subst e2
        exact h
      | succ i => exact ih (i := i) l (by simpa using e1) (by simpa using e2)
theorem io_list {a : Addr} {vs : List V} {ds : List D} (h : SqX K G a vs) (l : VwL K G vs ds) : IOk K F G (Itl K a) ds := by
  intro G1 H po eg ef i
  have hq : SqL K H a vs := (ex_x (po.g.tr eg) h).l
  refine ⟨fun c => ⟨vs, vs[i]'(by rw [l.len]; exact c), hq, by rw [List.getElem?_eq_getElem]⟩, fun c => ⟨vs, hq, by rw [l.len]; exact c⟩, fun x H' d e y => ?_⟩
  obtain ⟨rfl, y⟩ := y
  exact ⟨G1, Ex.rfl', Ex.rfl', eg, fun _ _ => rfl, (l.ex po.g).at (y vs hq) e⟩
theorem io_tup {a : Addr} {vs : List V} {ds : List D} (h : SqT K G a vs) (l : VwL K G vs ds) : IOk K F G (Itt K a) ds := by
  intro G1 H po eg ef i
  have hq : SqT K H a vs := ex_t (po.g.tr eg) h
  refine ⟨fun c => ⟨vs, vs[i]'(by rw [l.len]; exact c), hq, by rw [List.getElem?_eq_getElem]⟩, fun c => ⟨vs, hq, by rw [l.len]; exact c⟩, fun x H' d e y => ?_⟩
  obtain ⟨rfl, y⟩ := y
  exact ⟨G1, Ex.rfl', Ex.rfl', eg, fun _ _ => rfl, (l.ex po.g).at (y vs hq) e⟩
theorem intsFrom_len : ∀ (n : Nat) (lo : Int), (intsFrom lo n).length = n
  | 0, _ => rfl
  | n + 1, lo => congrArg (· + 1) (intsFrom_len n (lo + 1))
theorem intsFrom_at : ∀ (n : Nat) (lo : Int) (i : Nat) (d : D), (intsFrom lo n)[i]? = some d → d = .int (lo + i)
  | 0, _, i, d, h => by simp [intsFrom] at h
  | n + 1, lo, 0, d, h => by
    simp [intsFrom] at h
    subst h
    simp
  | n + 1, lo, i + 1, d, h => by
    have := intsFrom_at n (lo + 1) i d (by simpa [intsFrom] using h)
    rw [this]
    congr 1
    omega
theorem stepsFrom_len : ∀ (n : Nat) (lo c : Int), (stepsFrom lo c n).length = n
  | 0, _, _ => rfl
  | n + 1, lo, c => congrArg (· + 1) (stepsFrom_len n (lo + c) c)
theorem stepsFrom_at : ∀ (n : Nat) (lo c : Int) (i : Nat) (d : D), (stepsFrom lo c n)[i]? = some d → d = .int (lo + i * c)
  | 0, _, _, i, d, h => by simp [stepsFrom] at h
  | n + 1, lo, c, 0, d, h => by
    simp [stepsFrom] at h
    subst h
    simp
  | n + 1, lo, c, i + 1, d, h => by
    have := stepsFrom_at n (lo + c) c i d (by simpa [stepsFrom] using h)
    rw [this]
    congr 1
    have : ((i + 1 : Nat) : Int) * c = (i : Int) * c + c := by
      rw [show ((i + 1 : Nat) : Int) = (i : Int) + 1 by omega, Int.add_mul, Int.one_mul]
    rw [this]
    omega
theorem io_range {lo : Int} {n : Nat} : IOk K F G (Itr lo n) (intsFrom lo n) := by
  intro G1 H po eg ef i
  refine ⟨fun c => by rw [intsFrom_len] at c; exact c, fun c => by rw [intsFrom_len] at c; exact c, fun x H' d e y => ?_⟩
  obtain ⟨rfl, rfl⟩ := y
  rw [intsFrom_at n lo i d e]
  exact ⟨G1, Ex.rfl', Ex.rfl', eg, fun _ _ => rfl, .int _⟩
theorem io_steps {lo c : Int} {n : Nat} : IOk K F G (Itc lo c n) (stepsFrom lo c n) := by
  intro G1 H po eg ef i
  refine ⟨fun z => by rw [stepsFrom_len] at z; exact z, fun z => by rw [stepsFrom_len] at z; exact z, fun x H' d e y => ?_⟩
  obtain ⟨rfl, rfl⟩ := y
  rw [stepsFrom_at n lo c i d e]
  exact ⟨G1, Ex.rfl', Ex.rfl', eg, fun _ _ => rfl, .int _⟩
theorem enum_len : ∀ (ds : List D) (k : Nat), (enumFrom' k ds).length = ds.length
  | [], _ => rfl
  | _ :: ds, k => congrArg (· + 1) (enum_len ds (k + 1))
theorem enum_at : ∀ (ds : List D) (k i : Nat) (d : D), (enumFrom' k ds)[i]? = some d → ∃ x, ds[i]? = some x ∧ d = .tup [.int ((k + i : Nat) : Int), x]
  | [], _, i, d, h => by simp [enumFrom'] at h
  | x :: ds, k, 0, d, h => by
    simp [enumFrom'] at h
    subst h
    exact ⟨x, by simp, by simp⟩
  | x :: ds, k, i + 1, d, h => by
    obtain ⟨y, e1, e2⟩ := enum_at ds (k + 1) i d (by simpa [enumFrom'] using h)
    exact ⟨y, by simpa using e1, by rw [e2]; congr 3; omega⟩
/-- a new tuple laid still -/
theorem tup_new {p : Addr} {vs : List V} {ds : List D} (eg : Ex G H) (hp : H p = none) (l : VwL K G vs ds) :
    ∃ G2, Ex H (upd H p (.tup vs)) ∧ Ex G G2 ∧ Ex G2 (upd H p (.tup vs)) ∧ (∀ a, H a ≠ none → G2 a = G a) ∧ Vw K G2 (.ref p) (.tup ds) := by
  have gp : G p = none := by
    cases z : G p with
    | none => rfl
    | some o => rw [eg p o z] at hp; cases hp
  refine ⟨upd G p (.tup vs), Ex.new hp, Ex.new gp, fun a o z => ?_, fun a z => upd_ne (fun w => z (w ▸ hp)), .tup (st_of upd_same) (l.ex (Ex.new gp))⟩
  by_cases w : a = p
  · subst w; rw [upd_same] at z ⊢; exact z
  · rw [upd_ne w] at z ⊢; exact eg a o z
theorem io_enum {a : Addr} {vs : List V} {ds : List D} (h : SqX K G a vs) (l : VwL K G vs ds) : IOk K F G (Ite K a) (enumFrom' 0 ds) := by
  intro G1 H po eg ef i
  have hq : SqL K H a vs := (ex_x (po.g.tr eg) h).l
  rw [enum_len]
  refine ⟨fun c => ⟨vs, vs[i]'(by rw [l.len]; exact c), hq, by rw [List.getElem?_eq_getElem]⟩, fun c => ⟨vs, hq, by rw [l.len]; exact c⟩, fun x H' d e y => ?_⟩
  obtain ⟨T, y, rfl, hT, rfl, hy⟩ := y
  obtain ⟨z, e1, e2⟩ := enum_at ds 0 i d e
  subst e2
  have hv := (l.ex po.g).at (hy vs hq) e1
  rw [Nat.zero_add]
  exact tup_new eg hT (.cons (.int _) (.cons hv .nil))
theorem zip_at : ∀ (ds es : List D) (i : Nat) (d : D), (zipD ds es)[i]? = some d → ∃ x y, ds[i]? = some x ∧ es[i]? = some y ∧ d = .tup [x, y]
  | [], _, i, d, h => by simp [zipD] at h
  | _ :: _, [], i, d, h => by simp [zipD] at h
  | x :: ds, y :: es, 0, d, h => by
    simp [zipD] at h
    subst h
    exact ⟨x, y, by simp, by simp, rfl⟩
  | x :: ds, y :: es, i + 1, d, h => by
    obtain ⟨u, v, e1, e2, e3⟩ := zip_at ds es i d (by simpa [zipD] using h)
    exact ⟨u, v, by simpa using e1, by simpa using e2, e3⟩
theorem zip_len : ∀ (ds es : List D), (zipD ds es).length = min ds.length es.length
  | [], _ => by simp [zipD]
  | _ :: _, [] => by simp [zipD]
  | _ :: ds, _ :: es => by
    simp only [zipD, List.length_cons, zip_len ds es]
    omega
theorem io_zip {a b : Addr} {vs ws : List V} {ds es : List D} (h : SqX K G a vs) (l : VwL K G vs ds) (h2 : SqX K G b ws) (l2 : VwL K G ws es) : IOk K F G (Itz K a b) (zipD ds es) := by
  intro G1 H po eg ef i
  have hq : SqL K H a vs := (ex_x (po.g.tr eg) h).l
  have hq2 : SqL K H b ws := (ex_x (po.g.tr eg) h2).l
  have n1 := l.len
  have n2 := l2.len
  rw [zip_len]
  refine ⟨fun c => ⟨vs, ws, vs[i]'(by omega), ws[i]'(by omega), hq, hq2, by rw [List.getElem?_eq_getElem], by rw [List.getElem?_eq_getElem]⟩, fun c => ⟨vs, ws, hq, hq2, by omega⟩, fun x H' d e y => ?_⟩
  obtain ⟨T, y1, y2, rfl, hT, rfl, hy1, hy2⟩ := y
  obtain ⟨z1, z2, e1, e2, e3⟩ := zip_at ds es i d e
  subst e3
  exact tup_new eg hT (.cons ((l.ex po.g).at (hy1 vs hq) e1) (.cons ((l2.ex po.g).at (hy2 ws hq2) e2) .nil))
/-- a frozen first tree's data -/
theorem Sim.top_d {v : V} {x : D} {r : List (Option T)} {p : List T} (h : Sim K F G H (some v :: σ) ⟨some (.d x) :: r, p⟩ pv) : Vw K G v x := by
  obtain ⟨ef, eg, A, B, ho, hs, d, n⟩ := h
  cases ho with
  | cons h l s1 s2 =>
    cases h with
    | d hv => exact hv
theorem Vw.lst_inv {v : V} {ds : List BT.D} (h : Vw K H v (.lst ds)) : ∃ a vs, v = .ref a ∧ SqX K H a vs ∧ VwL K H vs ds := by
  cases h with
  | lst hr hl => exact ⟨_, _, rfl, hr, hl⟩
theorem Vw.tup_inv {v : V} {ds : List BT.D} (h : Vw K H v (.tup ds)) : ∃ a vs, v = .ref a ∧ SqT K H a vs ∧ VwL K H vs ds := by
  cases h with
  | tup hr hl => exact ⟨_, _, rfl, hr, hl⟩
theorem iL_le {f : Sem} {R : It → Hp → Prop} (h : tOfI K W (iL f) σ H R) : iList K (tOf K W f) σ H R := by
  obtain ⟨F, G, s, pv, S, q⟩ := h
  refine ⟨F, G, s, pv, S, (bind_use q).imp (fun t s1 q1 => ?_) fun _ _ z => z⟩
  intro v G1 H1 pv1 po px S1
  obtain ⟨G2, po2, S2⟩ := S1.freeze
  have hv := S2.top_d
  cases e : t.dat [] with
  | lst ds =>
    rw [e] at q1 hv
    obtain ⟨a, vs, rfl, hr, hl⟩ := hv.lst_inv
    exact ⟨_, rfl, ⟨_, (ex_x S2.eg hr).l⟩, q1 _ G2 H1 pv1 (po.tr po2) px S2.pop (io_list hr hl)⟩
  | _ => rw [e] at q1; exact q1.elim
theorem iT_le {f : Sem} {R : It → Hp → Prop} (h : tOfI K W (iT f) σ H R) : iTup K (tOf K W f) σ H R := by
  obtain ⟨F, G, s, pv, S, q⟩ := h
  refine ⟨F, G, s, pv, S, (bind_use q).imp (fun t s1 q1 => ?_) fun _ _ z => z⟩
  intro v G1 H1 pv1 po px S1
  obtain ⟨G2, po2, S2⟩ := S1.freeze
  have hv := S2.top_d
  cases e : t.dat [] with
  | tup ds =>
    rw [e] at q1 hv
    obtain ⟨a, vs, rfl, hr, hl⟩ := hv.tup_inv
    exact ⟨_, rfl, ⟨_, ex_t S2.eg hr⟩, q1 _ G2 H1 pv1 (po.tr po2) px S2.pop (io_tup hr hl)⟩
  | _ => rw [e] at q1; exact q1.elim
theorem vint {v : V} {i : Int} (h : Vw K H v (.int i)) : v = .int i := by cases h; rfl
theorem iR1_le {f : Sem} {R : It → Hp → Prop} (h : tOfI K W (iR1 f) σ H R) : iRng1 (tCons (tOf K W f) tNil) σ H R := by
  obtain ⟨F, G, s, pv, S, q⟩ := h
  refine pk_use S q fun v x H1 e1 va S1 q1 => ?_
  split at q1
  · rename_i j
    split at q1
    · rename_i c
      rw [vint va]
      exact ⟨j, rfl, c.1, c.2, q1 _ G H1 pv .rfl' (List.prefix_refl _) S1 io_range⟩
    · exact q1.elim
  · exact q1.elim
theorem iR2_le {f g : Sem} {R : It → Hp → Prop} (h : tOfI K W (iR2 f g) σ H R) : iRng2 (tCons (tOf K W f) (tCons (tOf K W g) tNil)) σ H R := by
  obtain ⟨F, G, s, pv, S, q⟩ := h
  refine pk_use S q fun v x H1 e1 va S1 q1 => pk_use S1 q1 fun u y H2 e2 vb S2 q2 => ?_
  split at q2
  · rename_i i j
    split at q2
    · rename_i c
      rw [vint va, vint vb]
      exact ⟨i, j, rfl, ⟨c.1.1, c.1.2, c.2.1, c.2.2⟩, q2 _ G H2 pv .rfl' (List.prefix_refl _) S2 io_range⟩
    · exact q2.elim
  · exact q2.elim
theorem iRm_le {f g : Sem} {R : It → Hp → Prop} (h : tOfI K W (iRm f g) σ H R) : iRng3 (tCons (tOf K W f) (tCons (tOf K W g) (tCons (tUn (rU fun i => .int (-i)) (tC (.int 1))) tNil))) σ H R := by
  obtain ⟨F, G, s, pv, S, q⟩ := h
  refine pk_use S q fun v x H1 e1 va S1 q1 => pk_use S1 q1 fun u y H2 e2 vb S2 q2 => ?_
  split at q2
  · rename_i i j
    split at q2
    · rename_i c
      rw [vint va, vint vb]
      exact ⟨1, rfl, i, j, -1, (i - j).toNat, rfl, RgC.neg c.1.1 c.1.2 c.2.1 c.2.2, q2 _ G H2 pv .rfl' (List.prefix_refl _) S2 io_steps⟩
    · exact q2.elim
  · exact q2.elim
theorem iE_le {f : Sem} {R : It → Hp → Prop} (h : tOfI K W (iE f) σ H R) : iEnum K (tCons (tOf K W f) tNil) σ H R := by
  obtain ⟨F, G, s, pv, S, q⟩ := h
  refine ⟨F, G, s, pv, S, (bind_use q).imp (fun t s1 q1 => ?_) fun _ _ z => z⟩
  intro v G1 H1 pv1 po px S1
  obtain ⟨G2, po2, S2⟩ := S1.freeze
  have hv := S2.top_d
  cases e : t.dat [] with
  | lst ds =>
    rw [e] at q1 hv
    obtain ⟨a, vs, rfl, hr, hl⟩ := hv.lst_inv
    exact ⟨_, _, rfl, (ex_x S2.eg hr).l, q1 _ G2 H1 pv1 (po.tr po2) px S2.pop (io_enum hr hl)⟩
  | _ => rw [e] at q1; exact q1.elim
theorem iZ_le {f g : Sem} {R : It → Hp → Prop} (h : tOfI K W (iZ f g) σ H R) : iZip K (tCons (tOf K W f) (tCons (tOf K W g) tNil)) σ H R := by
  obtain ⟨F, G, s, pv, S, q⟩ := h
  refine ⟨F, G, s, pv, S, (bind_use q).imp (fun t s1 q1 => ?_) fun _ _ z => z⟩
  intro v G1 H1 pv1 po px S1
  obtain ⟨F2, S2, a⟩ := Sim.out (σ1 := [some v]) (r1 := [some t]) S1 rfl
  refine ⟨F2, G1, s1, pv1, S2, (bind_use q1).imp (fun u s2 q2 => ?_) fun x s2 q2 => ?_⟩
  · intro w G3 H3 pv3 po3 px3 S3
    have S4 := Sim.back a po3 px3 S3
    have po4 := po1 a po po3
    obtain ⟨G5, po5, S5⟩ := S4.freeze
    have hv := S5.top_d
    obtain ⟨G6, po6, S6⟩ := S5.pop.freeze
    have hw := S6.top_d
    cases e : t.dat [] with
    | lst ds =>
      cases e2 : u.dat [] with
      | lst es =>
        rw [e, e2] at q2
        rw [e] at hv
        rw [e2] at hw
        obtain ⟨a1, vs, rfl, hr, hl⟩ := (hv.ex po6.g).lst_inv
        obtain ⟨a2, ws, rfl, hr2, hl2⟩ := hw.lst_inv
        exact ⟨_, _, _, _, rfl, (ex_x S6.eg hr).l, (ex_x S6.eg hr2).l, q2 _ G6 H3 pv3 ((po4.tr po5).tr po6) (px.trans px3) S6.pop (io_zip hr hl hr2 hl2)⟩
      | _ => rw [e, e2] at q2; exact q2.elim
    | _ => rw [e] at q2; exact q2.elim
  · intro cls d G3 H3 pv3 po3 px3 S3 r
    have S4 := Sim.back a po3 px3 S3
    exact q2 cls d G3 H3 pv3 (po1 a po po3) (px.trans px3) S4.pop (a.xrep r)
where
  po1 {F F2 G G1 G3 H1 : Hp} {pv1 : List V} {σ1 : L2.St} {r1 : List (Option T)} (a : Aside K F F2 G1 H1 pv1 σ1 r1) (po : Post F G G1) (po3 : Post F2 G1 G3) : Post F G G3 := po.tr (a.post po3)
end
end BT
/-! BI: rules for loops and comprehensions. -/
namespace BT
open PySem PySem.Spec PyProof.Rows L2
theorem _root_.L2.PI.le {X : Cx} {tg e : Expr} {t t' : TI} (h : PI X tg e t) (i : ∀ σ H Q, t' σ H Q → t σ H Q) : PI X tg e t' := ⟨fun pins s σ H Q I q => h.run pins s σ H Q I (i σ H Q q)⟩
theorem _root_.L2.PG.le {X : Cx} {e : Expr} {t t' : TG} (h : PG X e t) (i : ∀ v σ H Q, t' v σ H Q → t v σ H Q) : PG X e t' := ⟨fun pins s σ H v u Q I r q => h.run pins s σ H v u Q I r (i v σ H Q q)⟩
theorem _root_.L2.PGs.le {X : Cx} {e : List Expr} {t t' : TGs} (h : PGs X e t) (i : ∀ v σ H Q, t' v σ H Q → t v σ H Q) : PGs X e t' := ⟨fun pins s σ H v u Q I r q => h.run pins s σ H v u Q I r (i v σ H Q q)⟩
section
variable [CA] {X : Cx} {W : WX} {e e1 e2 : Expr} {es : List Expr} {f f1 f2 : Sem} {g : SemA} {c : SemT} {tg : Expr} {x : Str} {p pos pos' : Pos} {fi : SemI} {h : D → S → Option S} {hs : List D → S → Option S} {n1 n2 : List Nat} {body : SemS} {bs : List Stmt}
theorem g_name (i : Nat) (hN : X.N.Nodup) (hi : X.N[i]? = some x := by rfl) (hx : Loc X.env.scope x := by first | exact Or.inl rfl | exact Or.inr rfl) (hf : X.fn x = true ∨ X.env.scope.names.lookup x = some .local := by first | exact .inl rfl | exact .inr rfl | assumption) : PG X (.Name x pos) (gOf X.K [i] (hName i)) :=
  (pg_name hN hi hx hf).le fun _ _ _ _ q => hName_le q
theorem g_nil : PGs X [] (gOfs X.K [] hNil) := pgs_nil.le fun _ _ _ _ q => hNil_le q
theorem g_cons (h1 : PG X e (gOf X.K n1 h)) (h2 : PGs X es (gOfs X.K n2 hs)) (hz : (assignEach (e :: es) X.env).map (·.2) = assign e X.env :: (assignEach es X.env).map (·.2) := by rfl) : PGs X (e :: es) (gOfs X.K (n1 ++ n2) (hCons h hs)) := (pgs_cons h1 h2 hz).le fun _ _ _ _ q => hCons_le q
theorem g_tup {k n : Nat} (hc : X.calm = true) (q : PGs X es (gOfs X.K n1 hs)) (hl : ∀ ds s s', hs ds s = some s' → ds.length = n) (hn : (assignEach es X.env).length = n := by rfl) (hst : (assignEach es X.env).findIdx? (·.1) = none := by rfl) : PG X (.Tuple es k pos) (gOf X.K n1 (hTup hs)) :=
  (pg_tup hc q hn hst).le fun _ _ _ _ q => hTup_le hl q
theorem i_list (he : PE X e (tOf X.K W f)) : PI X tg e (tOfI X.K W (iL f)) := (pi_list he).le fun _ _ _ q => iL_le q
theorem i_tup (he : PE X e (tOf X.K W f)) : PI X tg e (tOfI X.K W (iT f)) := (pi_tup he).le fun _ _ _ q => iT_le q
theorem i_r1 (hm : X.mg "range" = none) (he : PE X e (tOf X.K W f)) (hg : Gl X "range" := by rfl) (hs : starEach [e] X.env = [(false, eval e X.env)] := by rfl) : PI X tg (.Call (.Name "range" p) [e] [] pos) (tOfI X.K W (iR1 f)) := (pi_range1 hg hm (pa_cons he pa_nil (by rw [hs]; rfl)) hs).le fun _ _ _ q => iR1_le q
theorem i_r2 (hm : X.mg "range" = none) (h1 : PE X e1 (tOf X.K W f1)) (h2 : PE X e2 (tOf X.K W f2)) (hg : Gl X "range" := by rfl) (hs : starEach [e1, e2] X.env = [(false, eval e1 X.env), (false, eval e2 X.env)] := by rfl) (hs2 : starEach [e2] X.env = [(false, eval e2 X.env)] := by rfl) :
    PI X tg (.Call (.Name "range" p) [e1, e2] [] pos) (tOfI X.K W (iR2 f1 f2)) := (pi_range2 hg hm (pa_cons h1 (pa_cons h2 pa_nil (by rw [hs2]; rfl)) (by rw [hs, hs2])) hs hs2).le fun _ _ _ q => iR2_le q
theorem i_rm {j q1 q2} (hm : X.mg "range" = none) (h1 : PE X e1 (tOf X.K W f1)) (h2 : PE X e2 (tOf X.K W f2)) (hg : Gl X "range" := by rfl)
    (hs : starEach [e1, e2, .UnaryOp .USub (.Constant (.int 1) j q1) q2] X.env = (false, eval e1 X.env) :: starEach [e2, .UnaryOp .USub (.Constant (.int 1) j q1) q2] X.env := by rfl)
    (hs2 : starEach [e2, .UnaryOp .USub (.Constant (.int 1) j q1) q2] X.env = (false, eval e2 X.env) :: starEach [.UnaryOp .USub (.Constant (.int 1) j q1) q2] X.env := by rfl)
    (hpl : (backTo pos (starEach [e2, .UnaryOp .USub (.Constant (.int 1) j q1) q2] X.env)).any (·.1) = false := by rfl) :
    PI X tg (.Call (.Name "range" p) [e1, e2, .UnaryOp .USub (.Constant (.int 1) j q1) q2] [] pos) (tOfI X.K W (iRm f1 f2)) :=
  (pi_range3 hg hm (pa_cons h1 (pa_cons h2 (pa_cons (pe_un un_neg pe_int) pa_nil rfl) hs2) hs) hs hpl).le fun _ _ _ q => iRm_le q
theorem i_enum {elts : List Expr} {kk : Nat} (hm : X.mg "enumerate" = none) (he : PE X e (tOf X.K W f)) (hg : Gl X "enumerate" := by rfl) (hs : starEach [e] X.env = [(false, eval e X.env)] := by rfl) : PI X (.Tuple elts kk pos') (.Call (.Name "enumerate" p) [e] [] pos) (tOfI X.K W (iE f)) :=
  (pi_enum hg hm (pa_cons he pa_nil (by rw [hs]; rfl)) hs).le fun _ _ _ q => iE_le q
theorem i_zip {elts : List Expr} {kk : Nat} (hm : X.mg "zip" = none) (h1 : PE X e1 (tOf X.K W f1)) (h2 : PE X e2 (tOf X.K W f2)) (hg : Gl X "zip" := by rfl) (hs : starEach [e1, e2] X.env = (false, eval e1 X.env) :: starEach [e2] X.env := by rfl)
    (hs2 : starEach [e2] X.env = (false, eval e2 X.env) :: starEach [] X.env := by rfl) (hpl : (backTo pos (starEach [e2] X.env)).any (·.1) = false := by rfl) : PI X (.Tuple elts kk pos') (.Call (.Name "zip" p) [e1, e2] [] pos) (tOfI X.K W (iZ f1 f2)) :=
  (pi_zip hg hm (pa_cons h1 (pa_cons h2 pa_nil hs2) hs) hs hpl).le fun _ _ _ q => iZ_le q
theorem r_for {iter : Expr} (hp : PassesOwn (model X.prog X.w) X.A X.env X.xe) (hc : X.calm = true) (hi : PI X tg iter (tOfI X.K W fi)) (hg : PG X tg (gOf X.K n1 h)) (hb : PSs X bs (sOf X.K W body)) (hs : ∀ x, foldedSetIterable iter X.env x = pure x := by intro _; rfl) :
    PS X (.For tg iter bs [] pos) (sOf X.K W (sFor fi h body)) := (ps_for hp hc hi hg hb hs).le fun _ _ _ q => sFor_le q
theorem r_while {ce : Expr} (fuel : S → Nat) (hp : PassesOwn (model X.prog X.w) X.A X.env X.xe) (hc : PT X ce (tOfT X.K W c)) (hb : PSs X bs (sOf X.K W body)) : PS X (.While ce bs [] pos) (sOf X.K W (sWhile fuel c body)) := (ps_while hp hc hb).le fun _ _ _ q => sWhile_le q
end

/-! ### comprehensions -/
/-- the slots vs forgotten -/
def wipeR (r : List (Option T)) : List Nat → List (Option T)
  | [] => r
  | v :: vs => (wipeR r vs).set v none
def S.wipe (s : S) (vs : List Nat) : S := ⟨wipeR s.r vs, s.p⟩
/-- what stood still in the slots vs of r0 is seen again -/
def backR (r0 r : List (Option T)) : List Nat → List (Option T)
  | [] => r
  | v :: vs => (backR r0 r vs).set v (match r0[v]? with
    | some (some (.d x)) => some (.d x)
    | _ => none)
def sLcLoop (h : D → S → Option S) (c : SemT) (f : Sem) (vs : List Nat) : List D → S → List T → Res (List T)
  | [], s, acc => .ok acc s
  | d :: ds, s, acc => match h d (s.wipe vs) with
    | none => .bad
    | some s1 => match c s1 with
      | .ok true s2 => (match f s2 with
        | .ok t s3 => if acc.length < sizeLine then sLcLoop h c f vs ds (s3.wipe vs) (acc ++ [t]) else .bad
        | _ => .bad)
      | .ok false s2 => sLcLoop h c f vs ds (s2.wipe vs) acc
      | _ => .bad
def sLc (fi : SemI) (h : D → S → Option S) (c : SemT) (f : Sem) (vs : List Nat) : Sem := fun s => (fi s).bind fun ds s1 => (sLcLoop h c f vs ds s1 []).bind fun ts s2 => .ok (.lst ts) ⟨backR s.r (wipeR s2.r vs) vs, s2.p⟩
def tYesS : SemT := fun s => .ok true s
section
variable [CA] {K : PySem.W.Frag} {F G G' H H' : Hp} {σ : L2.St} {s s' : S} {pv pv' : List V} {W W0 : WX}
theorem tYes_le {Q : Bool → Hp → Prop} (h : tOfT K W tYesS σ H Q) : tYes σ H Q := by
  obtain ⟨F, G, s, pv, S, q⟩ := h
  exact q G H pv .rfl' (List.prefix_refl _) S
theorem RpO.wipe : ∀ {σ : L2.St} {r : List (Option T)} {A : AS} (vs : List Nat), RpO K G H pv σ r A → RpO K G H pv (wipe σ vs) (wipeR r vs) A
  | _, _, _, [], h => h
  | _, _, _, v :: vs, h => (RpO.wipe vs h).drop
theorem Sim.wipe (vs : List Nat) (h : Sim K F G H σ s pv) : Sim K F G H (wipe σ vs) (s.wipe vs) pv := by
  obtain ⟨ef, eg, A, B, ho, hs, d, n⟩ := h
  exact ⟨ef, eg, A, B, ho.wipe vs, hs, d, n⟩
/-- slots forgotten in the trees alone -/
theorem RpO.dropR {i : Nat} {σ : L2.St} {r : List (Option T)} {A : AS} (h : RpO K G H pv σ r A) : RpO K G H pv σ (r.set i none) A := by
  have h2 := h.drop (i := i) (o := σ[i]?.join)
  have e : σ.set i σ[i]?.join = σ := by
    apply List.ext_getElem?
    intro j
    by_cases w : i = j
    · subst w
      by_cases c : i < σ.length
      · rw [List.getElem?_set_self c]
        cases q : σ[i]? with
        | none => rw [List.getElem?_eq_none_iff] at q; omega
        | some o => rfl
      · rw [List.set_eq_of_length_le (by omega)]
    · rw [List.getElem?_set_ne w]
  rw [e] at h2
  exact h2
theorem wipe_get {σ : L2.St} {i : Nat} : ∀ {vs : List Nat}, i ∉ vs → (wipe σ vs)[i]? = σ[i]?
  | [], _ => rfl
  | v :: vs, h => by
    have h1 : v ≠ i := fun e => h (by simp [e])
    have h2 : i ∉ vs := fun e => h (List.mem_cons_of_mem _ e)
    show ((wipe σ vs).set v none)[i]? = _
    rw [List.getElem?_set_ne h1]
    exact wipe_get h2
theorem wipeR_none {r : List (Option T)} {i : Nat} : ∀ {vs : List Nat}, i ∈ vs → (wipeR r vs)[i]? = none ∨ (wipeR r vs)[i]? = some none
  | v :: vs, h => by
    show ((wipeR r vs).set v none)[i]? = none ∨ ((wipeR r vs).set v none)[i]? = some none
    by_cases w : v = i
    · subst w
      by_cases c : v < (wipeR r vs).length
      · right; rw [List.getElem?_set_self c]
      · left; rw [List.getElem?_eq_none_iff, List.length_set]; omega
    · rw [List.getElem?_set_ne w]
      have h' : i ∈ vs := by
        rcases List.mem_cons.mp h with e | e
        · exact absurd e.symm w
        · exact e
      exact wipeR_none h'
/-- roots of the same trees where trees are, other values elsewhere -/
theorem RpO.vals : ∀ {σ σ' : L2.St} {r : List (Option T)} {A : AS}, RpO K G H pv σ r A → σ'.length = σ.length → (∀ i : Nat, (r[i]? = none ∨ r[i]? = some none) ∨ σ'[i]? = σ[i]?) → RpO K G H pv σ' r A
  | _, [], _, _, .nil, _, _ => .nil
  | _, _ :: _, _, _, .nil, e, _ => by cases e
  | _, [], _, _, .skip _, e, _ => by cases e
  | _, o :: σ', _, _, .skip h, e, k => .skip (RpO.vals h (by simpa using e) fun i => by simpa using k (i + 1))
  | _, [], _, _, .cons _ _ _ _, e, _ => by cases e
  | _, o :: σ', _, _, .cons h l s1 s2, e, k => by
    have e0 := k 0
    simp at e0
    subst e0
    exact .cons h (RpO.vals l (by simpa using e) fun i => by simpa using k (i + 1)) s1 s2
theorem Sim.unwipe (vs : List Nat) (h : Sim K F G H (L2.wipe σ vs) (s.wipe vs) pv) : Sim K F G H σ (s.wipe vs) pv := by
  obtain ⟨ef, eg, A, B, ho, hs, d, n⟩ := h
  refine ⟨ef, eg, A, B, ho.vals (wipe_length σ vs).symm fun i => ?_, hs, d, n⟩
  by_cases c : i ∈ vs
  · exact .inl (wipeR_none c)
  · exact .inr (wipe_get c).symm
/-- what stood still at a slot is seen again -/
theorem Sim.seen {i : Nat} {v : V} {x : D} (h : Sim K F G H σ s pv) (e : σ[i]? = some (some v)) (q : Vw K G v x) : Sim K F G H σ ⟨s.r.set i (some (.d x)), s.p⟩ pv := by
  obtain ⟨ef, eg, A, B, ho, hs, d, n⟩ := h
  have hi : i < σ.length := (List.getElem?_eq_some_iff.mp e).1
  have h2 := ho.put (A := A) (A1 := fun _ => False) (t := .d x) hi (.d q) (fun _ z => z.elim) fun _ z => z
  have e3 : σ.set i (some v) = σ := by
    apply List.ext_getElem?
    intro j
    by_cases w : i = j
    · subst w
      rw [List.getElem?_set_self hi, e]
    · rw [List.getElem?_set_ne w]
  rw [e3] at h2
  exact ⟨ef, eg, A, B, h2, hs, d, n⟩
theorem Sim.backR {r0 : List (Option T)} {p0 : List T} {G0 H0 : Hp} {F0 : Hp} {pv0 : List V} (h0 : Sim K F0 G0 H0 σ ⟨r0, p0⟩ pv0) (g : Ex G0 G) : ∀ (vs : List Nat), Sim K F G H σ s pv → Sim K F G H σ ⟨backR r0 s.r vs, s.p⟩ pv
  | [], h => h
  | v :: vs, h => by
    have ih := Sim.backR h0 g vs h
    show Sim K F G H σ ⟨(BT.backR r0 s.r vs).set v _, s.p⟩ pv
    split
    · rename_i x e
      obtain ⟨ef, eg, A, B, ho, hs, d, n⟩ := h0
      obtain ⟨w, A1, A2, e1, h1, h2, d1, d2⟩ := ho.take e
      cases h1 with
      | d hv => exact ih.seen e1 (hv.ex g)
    · obtain ⟨ef, eg, A, B, ho, hs, d, n⟩ := ih
      exact ⟨ef, eg, A, B, ho.dropR, hs, d, n⟩
/-- the list made so far, and one more -/
theorem Sim.grown {D1 : Addr} {v : V} {t : T} {acc : List T} {r : List (Option T)} {p : List T} (h : Sim K F G H (some v :: some (.ref D1) :: σ) ⟨some t :: some (.lst acc) :: r, p⟩ pv) :
    ∃ vs, H D1 = some (.lst vs) ∧ vs.length = acc.length ∧ Sim K F G (upd H D1 (.lst (vs ++ [v]))) (some (.ref D1) :: σ) ⟨some (.lst (acc ++ [t])) :: r, p⟩ pv := by
  obtain ⟨ef, eg, A, B, ho, hs, d, n⟩ := h
  cases ho with
  | @cons _ _ _ _ _ A1 A2 h1 l s1 s2 =>
    cases l with
    | @cons _ _ _ _ _ B1 B2 h2 l2 q1 q2 =>
      cases h2 with
      | @lst _ vs _ _ C ha aa cs hl =>
        refine ⟨vs, ha, hl.len, ?_⟩
        have AD : A D1 := s2 _ (q1 _ aa).1
        have fm : ∀ (pw : List V) (Z : AS), (∀ x, Z x → x ≠ D1) → Fm K G G H (upd H D1 (.lst (vs ++ [v]))) pw pw Z := fun pw Z ne => ⟨Ex.rfl', fun b o z q => by rw [upd_ne (ne b z)]; exact q, fun _ _ z => z⟩
        have n1 : ∀ x, A1 x → x ≠ D1 := fun x b w => (s1 x b).2 (by rw [w]; exact (q1 _ aa).1)
        have n2 : ∀ x, B2 x → x ≠ D1 := fun x b w => (q1 _ aa).2 (by rw [← w]; exact b)
        have nB : ∀ x, B x → x ≠ D1 := fun x b w => d D1 AD (by rw [← w]; exact b)
        have hl2 : RpL K G (upd H D1 (.lst (vs ++ [v]))) pv (vs ++ [v]) (acc ++ [t]) (fun x => C x ∨ A1 x) :=
          RpL.app (hl.fm (fm pv C fun x b => (cs x b).2)) (.cons (A2 := fun _ => False) (h1.fm (fm pv A1 n1)) .nil (fun x b => ⟨b, id⟩) fun x z => z.elim) (fun x b => ⟨.inl b, fun z => (s1 x z).2 (q1 x (cs x b).1).1⟩) fun x b => .inr b
        refine ⟨fun b o z => ?_, fun b o z => ?_, A, B, .cons (A1 := fun x => x = D1 ∨ C x ∨ A1 x) (A2 := B2) (.lst upd_same (.inl rfl) (fun x b => ⟨.inr b, b.elim (fun z => (cs x z).2) (n1 x)⟩) hl2) (l2.fm (fm pv B2 n2)) (fun x b => ?_) (fun x b => s2 x (q2 x b)), hs.fm (fm pv B nB), d, fun x b => ?_⟩
        · rw [upd_ne (fun w => by rw [w, (n D1 (.inl AD)).2.1] at z; cases z)]; exact ef b o z
        · rw [upd_ne (fun w => by rw [w, (n D1 (.inl AD)).2.2] at z; cases z)]; exact eg b o z
        · rcases b with b | b | b
          · subst b; exact ⟨AD, (q1 _ aa).2⟩
          · exact ⟨s2 x (q1 x (cs x b).1).1, (q1 x (cs x b).1).2⟩
          · exact ⟨(s1 x b).1, fun z => (s1 x b).2 (q2 x z)⟩
        · obtain ⟨m1, m2⟩ := n x b
          refine ⟨?_, m2⟩
          by_cases w : x = D1
          · subst w; rw [upd_same]; exact fun z => nomatch z
          · rw [upd_ne w]; exact m1
theorem Sim.swap {o1 o2 : Option V} {t1 t2 : T} {r : List (Option T)} {p : List T} (h : Sim K F G H (o1 :: o2 :: σ) ⟨some t1 :: some t2 :: r, p⟩ pv) : Sim K F G H (o2 :: o1 :: σ) ⟨some t2 :: some t1 :: r, p⟩ pv := by
  obtain ⟨ef, eg, A, B, ho, hs, d, n⟩ := h
  cases ho with
  | @cons _ _ _ _ _ A1 A2 h1 l s1 s2 =>
    cases l with
    | @cons _ _ _ _ _ B1 B2 h2 l2 q1 q2 =>
      exact ⟨ef, eg, A, B, .cons (A2 := fun x => A1 x ∨ B2 x) h2 (.cons h1 l2 (fun x b => ⟨.inl b, fun z => (s1 x b).2 (q2 x z)⟩) fun x b => .inr b) (fun x b => ⟨s2 x (q1 x b).1, fun z => z.elim (fun z => (s1 x z).2 (q1 x b).1) (q1 x b).2⟩)
        (fun x b => b.elim (fun z => (s1 x z).1) fun z => s2 x (q2 x z)), hs, d, n⟩
theorem wipe_in {i : Nat} : ∀ {vs : List Nat} {σ : L2.St}, i ∈ vs → i < σ.length → (L2.wipe σ vs)[i]? = some none
  | v :: vs, σ, h, c => by
    show ((L2.wipe σ vs).set v none)[i]? = _
    by_cases w : v = i
    · subst w
      rw [List.getElem?_set_self (by rw [wipe_length]; exact c)]
    · rw [List.getElem?_set_ne w]
      have h' : i ∈ vs := by
        rcases List.mem_cons.mp h with e | e
        · exact absurd e.symm w
        · exact e
      exact wipe_in h' c
theorem wipe_off {vs : List Nat} {σ σ2 : L2.St} (o : Off vs (L2.wipe σ vs) σ2) : L2.wipe σ2 vs = L2.wipe σ vs := by
  have l : σ2.length = σ.length := o.1.trans (wipe_length σ vs)
  apply List.ext_getElem?
  intro j
  by_cases c : j ∈ vs
  · by_cases k : j < σ.length
    · rw [wipe_in c (by omega), wipe_in c k]
    · rw [List.getElem?_eq_none_iff.mpr (by rw [wipe_length]; omega), List.getElem?_eq_none_iff.mpr (by rw [wipe_length]; omega)]
  · rw [wipe_get c, o.2 j c]
theorem sLc_le {fi : SemI} {h : D → S → Option S} {c : SemT} {f : Sem} {vs : List Nat} {Q : VK} (g : tOf K W (sLc fi h c f vs) σ H Q) : tLc (tOfI K W fi) (gOf K vs h) (tOfT K W0 c) (tOf K W0 f) vs σ H Q := by
  obtain ⟨F, G, s, pv, S, q⟩ := g
  refine ⟨F, G, s, pv, S, (bind_use q).imp (fun ds s1 q1 => ?_) fun _ _ z => z⟩
  intro J G1 H1 pv1 po px S1 io D1 hD
  have S0 : Sim K F G1 (upd H1 D1 (.lst [])) (some (.ref D1) :: σ) ⟨some (.lst []) :: s1.r, s1.p⟩ pv1 := S1.push_new hD fun H2 e2 => by
    subst e2
    exact .lst (B := fun _ => False) upd_same rfl (fun _ z => z.elim) .nil
  have q2 := bind_use q1
  refine ⟨fun i m H => m = ds.length - i ∧ i ≤ ds.length ∧ ∃ G2 s2 pv2 acc, Post F G1 G2 ∧ pv1 <+: pv2 ∧ Sim K F G2 H (some (.ref D1) :: σ) ⟨some (.lst acc) :: s2.r, s2.p⟩ pv2 ∧
      (sLcLoop h c f vs (ds.drop i) s2 acc).go (fun ts s3 => KOk K F G pv σ Q (.lst ts) ⟨BT.backR s.r (wipeR s3.r vs) vs, s3.p⟩) (KEx K F G pv σ W),
    ⟨ds.length, by simp, Nat.zero_le _, G1, s1, pv1, [], .rfl', List.prefix_refl _, S0, by rw [List.drop_zero]; exact q2⟩, fun i m H2 w => ?_⟩
  obtain ⟨rfl, hi, G2, s2, pv2, acc, po2, px2, S2, f2⟩ := w
  obtain ⟨go, stop, yld⟩ := io G2 H2 po2 S2.eg S2.ef i
  by_cases hlt : i < ds.length
  · refine .inr ⟨go hlt, fun H3 => i + 1 ≤ ds.length ∧ ∃ G2 s2 pv2 acc, Post F G1 G2 ∧ pv1 <+: pv2 ∧ Sim K F G2 H3 (some (.ref D1) :: σ) ⟨some (.lst acc) :: s2.r, s2.p⟩ pv2 ∧
      (sLcLoop h c f vs (ds.drop (i + 1)) s2 acc).go (fun ts s3 => KOk K F G pv σ Q (.lst ts) ⟨BT.backR s.r (wipeR s3.r vs) vs, s3.p⟩) (KEx K F G pv σ W), fun H3 n => ⟨ds.length - (i + 1), by omega, rfl, n.1, n.2⟩, fun x H3 y => ?_⟩
    obtain ⟨G3, e1, e2, e3, e4, hv⟩ := yld x H3 ds[i] (by rw [List.getElem?_eq_getElem hlt]) y
    have S3 := S2.more e1 e2 e3 e4
    have po3 : Post F G2 G3 := ⟨e2, fun a o z => e4 a (by rw [S2.ef a o z]; exact fun z => nomatch z)⟩
    rw [List.drop_eq_getElem_cons hlt] at f2
    unfold sLcLoop at f2
    obtain ⟨F2, S4, a⟩ := Sim.out (σ1 := [some (.ref D1)]) (r1 := [some (.lst acc)]) S3 rfl
    have S5 : Sim K F2 G3 H3 (L2.wipe σ vs) (s2.wipe vs) pv2 := Sim.wipe vs S4
    cases eh : h ds[i] (s2.wipe vs) with
    | none => rw [eh] at f2; exact f2.elim
    | some s3 =>
      simp only [eh] at f2
      refine ⟨F2, G3, s2.wipe vs, pv2, ds[i], s3, S5, hv, eh, fun σ4 o4 S6 => ⟨wipe_off o4, F2, G3, s3, pv2, S6, ?_⟩⟩
      -- back to σ and the list
      have again : ∀ (s5 : BT.S) (G5 H5 : Hp) (pv5 : List V), Post F2 G3 G5 → pv2 <+: pv5 → Sim K F2 G5 H5 σ4 s5 pv5 → Sim K F G5 H5 (some (.ref D1) :: σ) ⟨some (.lst acc) :: wipeR s5.r vs, s5.p⟩ pv5 := fun s5 G5 H5 pv5 po5 px5 S7 => by
        have S8 := Sim.wipe vs S7
        rw [wipe_off o4] at S8
        exact Sim.back a po5 px5 (Sim.unwipe vs S8)
      cases ec : c s3 with
      | bad => simp only [ec] at f2; exact f2.elim
      | exc x5 s5 => simp only [ec] at f2; exact f2.elim
      | ok b s5 =>
        simp only [ec] at f2
        intro G5 H5 pv5 po5 px5 S7
        cases b with
        | false => exact ⟨hlt, G5, s5.wipe vs, pv5, acc, (po2.tr po3).tr (a.post po5), px2.trans px5, again s5 G5 H5 pv5 po5 px5 S7, f2⟩
        | true =>
          refine ⟨F2, G5, s5, pv5, S7, ?_⟩
          cases ef : f s5 with
          | bad => simp only [ef] at f2; exact f2.elim
          | exc x6 s6 => simp only [ef] at f2; exact f2.elim
          | ok t s6 =>
            simp only [ef] at f2
            intro v G6 H6 pv6 po6 px6 S8
            by_cases cl : acc.length < sizeLine
            · rw [if_pos cl] at f2
              -- v: t is set aside, the names wiped, the list laid back; then v goes to the list's end
              obtain ⟨F3, S9, a3⟩ := Sim.out (σ1 := [some v]) (r1 := [some t]) S8 rfl
              have S10 := Sim.wipe vs S9
              rw [wipe_off o4] at S10
              have S11 := Sim.unwipe vs S10
              have S12 : Sim K F2 G6 H6 (some v :: σ) ⟨some t :: wipeR s6.r vs, s6.p⟩ pv6 := Sim.back a3 .rfl' (List.prefix_refl _) S11
              have S13 : Sim K F G6 H6 (some (.ref D1) :: some v :: σ) ⟨some (.lst acc) :: some t :: wipeR s6.r vs, s6.p⟩ pv6 := Sim.back a (po5.tr po6) (px5.trans px6) S12
              obtain ⟨ws, h6, lw, S14⟩ := S13.swap.grown
              exact ⟨ws, h6, by omega, hlt, G6, s6.wipe vs, pv6, acc ++ [t], (po2.tr po3).tr (a.post (po5.tr po6)), (px2.trans px5).trans px6, S14, f2⟩
            · rw [if_neg cl] at f2
              exact f2.elim
  · have hd : ds.drop i = [] := List.drop_eq_nil_of_le (by omega)
    rw [hd] at f2
    have f3 : KOk K F G pv σ Q (.lst acc) ⟨BT.backR s.r (wipeR s2.r vs) vs, s2.p⟩ := f2
    refine .inl ⟨stop (by omega), f3 (.ref D1) G2 H2 pv2 (po.tr po2) (px.trans px2) ?_⟩
    obtain ⟨F2, S4, a⟩ := Sim.out (σ1 := [some (.ref D1)]) (r1 := [some (.lst acc)]) S2 rfl
    have S5 := Sim.backR S (po.tr po2).g vs (Sim.unwipe vs (Sim.wipe vs S4))
    exact Sim.back a .rfl' (List.prefix_refl _) S5
end
section
variable [CA] {X : Cx} {W W0 : WX} {elt tg iter : Expr} {ifs : List Expr} {scope : Scope} {own : List (Str × Nat)} {pos : Pos} {fi : SemI} {h : D → S → Option S} {c : SemT} {f : Sem}
theorem r_lc (hc : X.calm = true) (hN : X.N.Nodup) (hi : PI X tg iter (tOfI X.K W fi)) (ok : BlkOk X.N X.env.scope scope own)
    (hg : ∀ (s : Shared) (H : Hp) (C : Addr) (cl : List (Str × Addr)) (fp : List Addr), PG (X.blk s H scope (compEnvC scope cl C X.env) fp) tg (gOf X.K (own.map (·.2)) h)) (ht : ∀ (s : Shared) (H : Hp) (C : Addr) (cl : List (Str × Addr)) (fp : List Addr), PTs (X.blk s H scope (compEnvC scope cl C X.env) fp) ifs (tOfT X.K W0 c))
    (he : ∀ (s : Shared) (H : Hp) (C : Addr) (cl : List (Str × Addr)) (fp : List Addr), PE (X.blk s H scope (compEnvC scope cl C X.env) fp) elt (tOf X.K W0 f)) (hs : ∀ x, foldedSetIterable iter X.env x = pure x := by intro _; rfl) :
    PE X (.ListComp elt [⟨tg, iter, ifs, 0⟩] scope pos) (tOf X.K W (sLc fi h c f (own.map (·.2)))) := (pe_lc hc hN hi ok hg ht he hs).le fun _ _ _ q => sLc_le q
theorem r_setLc (i : Nat) {y : Str} {py spos : Pos} (hc : X.calm = true) (hN : X.N.Nodup) (hi : PI X tg iter (tOfI X.K W fi)) (ok : BlkOk X.N X.env.scope scope own)
    (hg : ∀ (s : Shared) (H : Hp) (C : Addr) (cl : List (Str × Addr)) (fp : List Addr), PG (X.blk s H scope (compEnvC scope cl C X.env) fp) tg (gOf X.K (own.map (·.2)) h)) (ht : ∀ (s : Shared) (H : Hp) (C : Addr) (cl : List (Str × Addr)) (fp : List Addr), PTs (X.blk s H scope (compEnvC scope cl C X.env) fp) ifs (tOfT X.K W0 c))
    (he : ∀ (s : Shared) (H : Hp) (C : Addr) (cl : List (Str × Addr)) (fp : List Addr), PE (X.blk s H scope (compEnvC scope cl C X.env) fp) elt (tOf X.K W0 f))
    (hy : X.N[i]? = some y := by rfl) (hyl : X.env.scope.names.lookup y = some .local := by rfl) (hsw : swapsWith (.ListComp elt [⟨tg, iter, ifs, 0⟩] scope pos) (some (.Name y py)) spos.line X.env = pure true := by exact sw_true rfl rfl rfl (by decide +kernel)) (hs : ∀ x, foldedSetIterable iter X.env x = pure x := by intro _; rfl) :
    PS X (.Assign [.Name y py] (.ListComp elt [⟨tg, iter, ifs, 0⟩] scope pos) spos) (sOf X.K W (sAsg i (sLc fi h c f (own.map (·.2))))) := (ps_setLc hc hN hy hyl hsw hi ok hg ht he hs).le fun D σ H q => by
  obtain ⟨F, G, s, pv, S, q⟩ := sAsg_le q
  exact sLc_le ⟨F, G, s, pv, S, q⟩
theorem t_nil : PTs X [] (tOfT X.K W tYesS) := ⟨fun pins s σ H Q I q => pts_nil.run pins s σ H Q I (tYes_le q)⟩
theorem t_one {ce : Expr} (h : PT X ce (tOfT X.K W c)) : PTs X [ce] (tOfT X.K W c) := pts_one h
end
end BT
/-! BJ: defs and calls. -/
namespace BT
open PySem PySem.Spec PyProof.Rows L2

/-- what comes of a def -/
inductive Fo where
  | ret (t : T) (p : List T) | exc (x : Xn) (p : List T) | bad
abbrev SemF := List T → List T → Fo
def spOf [CA] (K : PySem.W.Frag) (n : Nat) (Φ : SemF) : Sp := fun vs H Q E => vs.length = n ∧ ∃ F G ts p pv, vs.length = ts.length ∧ Sim K F G H (vs.map some) ⟨ts.map some, p⟩ pv ∧ (match Φ ts p with
  | .ret t p' => ∀ v G' H' pv', Post F G G' → pv <+: pv' → Sim K F G' H' [some v] ⟨[some t], p'⟩ pv' → Q v H'
  | .exc x p' => ∀ cls d G' H' pv', Post F G G' → pv <+: pv' → Sim K F G' H' [] ⟨[], p'⟩ pv' → XRep K F G' x cls d → E cls d H'
  | .bad => False)
/-- a def by its body: n arguments, N names; no exception leaves it -/
def runF (n N : Nat) (f : SemS) : SemF := fun ts p => if ts.length = n then (match f ⟨ts.map some ++ List.replicate (N - n) none, p⟩ with
  | .next s => .ret (.d .non) s.p
  | .ret t s => .ret t s.p
  | _ => .bad) else .bad
/-- .. one may leave it -/
def runX (n N : Nat) (f : SemS) : SemF := fun ts p => if ts.length = n then (match f ⟨ts.map some ++ List.replicate (N - n) none, p⟩ with
  | .next s => .ret (.d .non) s.p
  | .ret t s => .ret t s.p
  | .exc x s => .exc x s.p
  | _ => .bad) else .bad
/-- no exception -/
abbrev W0 : WX := fun _ _ _ _ => False
section
variable [CA] {K : PySem.W.Frag} {F G G' H H' : Hp} {σ : L2.St} {s s' : S} {pv pv' : List V} {W : WX}
theorem RpO.nones : ∀ (n : Nat) {A : AS}, RpO K G H pv (List.replicate n none) (List.replicate n none) A
  | 0, _ => .nil
  | n + 1, _ => .skip (RpO.nones n)
theorem Sim.pad {r : List (Option T)} {p : List T} (n : Nat) (h : Sim K F G H σ ⟨r, p⟩ pv) : Sim K F G H (σ ++ List.replicate n none) ⟨r ++ List.replicate n none, p⟩ pv := by
  obtain ⟨ef, eg, A, B, ho, hs, d, n'⟩ := h
  exact ⟨ef, eg, A, B, RpO.join (A2 := fun _ => False) ho (RpO.nones n) (fun x b => ⟨b, id⟩) fun x z => z.elim, hs, d, n'⟩
theorem Sim.none_left (h : Sim K F G H σ s pv) : Sim K F G H [] ⟨[], s.p⟩ pv := by
  obtain ⟨ef, eg, A, B, ho, hs, d, n⟩ := h
  exact ⟨ef, eg, fun _ => False, B, .nil, hs, fun _ z => z.elim, fun x b => n x (b.elim (fun z => z.elim) .inr)⟩
theorem Sim.just {v : V} {t : T} (h : Sim K F G H (some v :: σ) ⟨some t :: s.r, s.p⟩ pv) : Sim K F G H [some v] ⟨[some t], s.p⟩ pv := by
  obtain ⟨ef, eg, A, B, ho, hs, d, n⟩ := h
  cases ho with
  | cons h l s1 s2 => exact ⟨ef, eg, A, B, .cons (A2 := fun _ => False) h .nil (fun x b => ⟨(s1 x b).1, id⟩) fun x z => z.elim, hs, d, n⟩
def FoOk [CA] (K : PySem.W.Frag) (F G : Hp) (pv : List V) (Q : VK) (E : XK) (R : Fo) : Prop := match R with
  | .ret t p' => ∀ v G' H' pv', Post F G G' → pv <+: pv' → Sim K F G' H' [some v] ⟨[some t], p'⟩ pv' → Q v H'
  | .exc x p' => ∀ cls d G' H' pv', Post F G G' → pv <+: pv' → Sim K F G' H' [] ⟨[], p'⟩ pv' → XRep K F G' x cls d → E cls d H'
  | .bad => False
theorem runX_use {f : SemS} {ts : List T} {p : List T} {vs : List V} {Q : VK} {E : XK} {n : Nat} (N : List Str) (el : vs.length = ts.length) (S : Sim K F G H (vs.map some) ⟨ts.map some, p⟩ pv)
    (q : FoOk K F G pv Q E (runX n N.length f ts p)) (hW : ∀ cls d σ H, E cls d H → W cls d σ H) : sOf K W f { nx := fun _ H' => Q .non H', rt := Q } (start N vs) H := by
  unfold runX at q
  by_cases c : ts.length = n
  · rw [if_pos c] at q
    have S1 : Sim K F G H (start N vs) ⟨ts.map some ++ List.replicate (N.length - n) none, p⟩ pv := by
      show Sim K F G H (vs.map some ++ List.replicate (N.length - vs.length) none) _ pv
      rw [el, c]
      exact S.pad _
    refine ⟨F, G, _, pv, S1, ?_⟩
    cases e : f ⟨ts.map some ++ List.replicate (N.length - n) none, p⟩ with
    | next s1 => rw [e] at q; exact fun σ' G' H' pv' po px S2 => q .non G' H' pv' po px (S2.none_left.push_d .non)
    | ret t s1 => rw [e] at q; exact fun v σ' G' H' pv' po px S2 => q v G' H' pv' po px S2.just
    | exc x s1 => rw [e] at q; exact fun cls d σ' G' H' pv' po px S2 r => hW _ _ _ _ (q cls d G' H' pv' po px S2.none_left r)
    | brk s1 => rw [e] at q; exact q.elim
    | cont s1 => rw [e] at q; exact q.elim
    | bad => rw [e] at q; exact q.elim
  · rw [if_neg c] at q
    exact q.elim
theorem runF_use {f : SemS} {ts : List T} {p : List T} {vs : List V} {Q : VK} {E : XK} {n : Nat} (N : List Str) (el : vs.length = ts.length) (S : Sim K F G H (vs.map some) ⟨ts.map some, p⟩ pv)
    (q : FoOk K F G pv Q E (runF n N.length f ts p)) : sOf K W f { nx := fun _ H' => Q .non H', rt := Q } (start N vs) H := by
  unfold runF at q
  by_cases c : ts.length = n
  · rw [if_pos c] at q
    have S1 : Sim K F G H (start N vs) ⟨ts.map some ++ List.replicate (N.length - n) none, p⟩ pv := by
      show Sim K F G H (vs.map some ++ List.replicate (N.length - vs.length) none) _ pv
      rw [el, c]
      exact S.pad _
    refine ⟨F, G, _, pv, S1, ?_⟩
    cases e : f ⟨ts.map some ++ List.replicate (N.length - n) none, p⟩ with
    | next s1 => rw [e] at q; exact fun σ' G' H' pv' po px S2 => q .non G' H' pv' po px (S2.none_left.push_d .non)
    | ret t s1 => rw [e] at q; exact fun v σ' G' H' pv' po px S2 => q v G' H' pv' po px S2.just
    | exc x s1 => rw [e] at q; exact q.elim
    | brk s1 => rw [e] at q; exact q.elim
    | cont s1 => rw [e] at q; exact q.elim
    | bad => rw [e] at q; exact q.elim
  · rw [if_neg c] at q
    exact q.elim
end
/-- a def that takes n arguments -/
def Ar (Φ : SemF) (n : Nat) : Prop := ∀ ts p, Φ ts p ≠ .bad → ts.length = n
theorem ar_runF {n N : Nat} {f : SemS} : Ar (runF n N f) n := fun ts p h => by
  unfold runF at h
  by_cases c : ts.length = n
  · exact c
  · rw [if_neg c] at h; exact absurd rfl h
theorem ar_runX {n N : Nat} {f : SemS} : Ar (runX n N f) n := fun ts p h => by
  unfold runX at h
  by_cases c : ts.length = n
  · exact c
  · rw [if_neg c] at h; exact absurd rfl h
section
variable [CA] {P : Program} {w : World} {K : PySem.W.Frag} {mg : Str → Option Value} {base : Heap}
/-- a def that lets no exception out -/
theorem _root_.L2.Fun.sem {x qual : Str} {st : Stmt} {f : Addr} {fd : FuncData} {N ps : List Str} {k n : Nat} {g : SemS} (F : Fun K x qual st f fd) (S : FnScope N ps (defScope st)) (en : ps.length = n)
    (hb : ∀ (cdv : Value) (A : Around) (outer : List Env) (s : Shared) (H : Hp) (E : XK), Room k (A.deeper (envOfC qual (defScope st) s.heap.objs.size f cdv)) →
      PSs (cxOf CX0 P w K mg base N qual (defScope st) f cdv A outer s H E).nox (defBody st) (sOf K W0 g)) : FnOk P w K mg base CX0 (k + 1) f fd ps (spOf K n (runF n N.length g)) := by
  refine F.ok S (fun vs H Q E h => h.1.trans en.symm) fun cdv A outer s H vs Q E hr h => ?_
  obtain ⟨_, F1, G, ts, p, pv, el, Sm, q⟩ := h
  exact ⟨_, hb cdv A outer s H E hr, runF_use N el Sm q⟩
end

/-! ### calls -/
mutual
/-- no data with addresses -/
def T.ind : T → Bool
  | .d x => x.sc
  | .al _ => false
  | .lst ts => T.indL ts
  | .tup ts => T.indL ts
  | .dic ts => T.indK ts
  | .obj _ ts => T.indF ts
def T.indL : List T → Bool
  | [] => true
  | t :: ts => t.ind && T.indL ts
def T.indK : List (Key × T) → Bool
  | [] => true
  | (_, t) :: ts => t.ind && T.indK ts
def T.indF : List (String × T) → Bool
  | [] => true
  | (_, t) :: ts => t.ind && T.indF ts
end
section
variable [CA] {K : PySem.W.Frag} {F G G' H H' : Hp} {σ σ1 σ2 : L2.St} {s s' : S} {pv pv' : List V} {W : WX}
mutual
theorem Rp.ind : ∀ {v : V} {t : T} {A : AS}, Rp K G' H pv' v t A → t.ind = true → Rp K G H pv v t A
  | _, _, _, .d h, c => .d (h.sc c _)
  | _, _, _, .al h, c => by cases c
  | _, _, _, .lst h a s l, c => .lst h a s (RpL.ind l c)
  | _, _, _, .tup h a s l, c => .tup h a s (RpL.ind l c)
  | _, _, _, .dic h a s l, c => .dic h a s (RpK.ind l c)
  | _, _, _, .obj k h h2 a b ne s l, c => .obj k h h2 a b ne s (RpF.ind l c)
theorem RpL.ind : ∀ {v : List V} {t : List T} {A : AS}, RpL K G' H pv' v t A → T.indL t = true → RpL K G H pv v t A
  | _, _, _, .nil, _ => .nil
  | _, _, _, .cons h l s1 s2, c => .cons (Rp.ind h (and1 c)) (RpL.ind l (and2 c)) s1 s2
theorem RpK.ind : ∀ {v : List (Key × V)} {t : List (Key × T)} {A : AS}, RpK K G' H pv' v t A → T.indK t = true → RpK K G H pv v t A
  | _, _, _, .nil, _ => .nil
  | _, _, _, .cons h l s1 s2, c => .cons (Rp.ind h (and1 c)) (RpK.ind l (and2 c)) s1 s2
theorem RpF.ind : ∀ {v : List (Str × V)} {t : List (String × T)} {A : AS}, RpF K G' H pv' v t A → T.indF t = true → RpF K G H pv v t A
  | _, _, _, .nil, _ => .nil
  | _, _, _, .cons h l s1 s2, c => .cons (Rp.ind h (and1 c)) (RpF.ind l (and2 c)) s1 s2
end
theorem Sim.comm {r1 r2 : List (Option T)} {p : List T} (h : Sim K F G H (σ1 ++ σ2) ⟨r1 ++ r2, p⟩ pv) (e : σ1.length = r1.length) : Sim K F G H (σ2 ++ σ1) ⟨r2 ++ r1, p⟩ pv := by
  obtain ⟨ef, eg, A, B, ho, hs, d, n⟩ := h
  obtain ⟨A1, A2, h1, h2, d1, d2⟩ := RpO.split e ho
  exact ⟨ef, eg, A, B, RpO.join h2 h1 (fun x b => ⟨d2 x b, fun z => (d1 x z).2 b⟩) fun x b => (d1 x b).1, hs, d, n⟩
theorem Sim.len (h : Sim K F G H σ s pv) : σ.length = s.r.length := by
  obtain ⟨ef, eg, A, B, ho, hs, d, n⟩ := h
  exact ho.len
theorem VwL.simD {vs : List V} {ds : List D} (h : VwL K H vs ds) : Sim K H H H (vs.map some) ⟨(ds.map T.d).map some, []⟩ [] :=
  ⟨Ex.rfl', Ex.rfl', fun _ => False, fun _ => False, (VwL.rpl (A := fun _ => False) h).roots, .nil, fun _ z => z.elim, fun x b => b.elim (fun z => z.elim) fun z => z.elim⟩
/-- a fresh tree out of a look is taken -/
theorem Sim.take_ind {v : V} {t : T} {p : List T} (h : Sim K F G H σ s pv) (q : Sim K H G' H' [some v] ⟨[some t], p⟩ pv') (c : t.ind = true) : Sim K F G H' (some v :: σ) ⟨some t :: s.r, s.p⟩ pv := by
  have e : Ex H H' := q.ef
  obtain ⟨ef, eg, A, B, ho, hs, d, n⟩ := h.grow e
  obtain ⟨ef0, eg0, A0, B0, ho0, hs0, d0, n0⟩ := h
  obtain ⟨_, _, A1, B1, ho1, _, _, n1⟩ := q
  have fm : ∀ (pw : List V) (Z : AS), Fm K G G H H' pw pw Z := fun pw Z => ⟨Ex.rfl', fun b o _ z => e b o z, fun _ _ z => z⟩
  cases ho1 with
  | @cons _ _ _ _ _ C1 C2 h1 l s1 s2 =>
    have fr : ∀ x, C1 x → H x = none := fun x b => (n1 x (.inl (s1 x b).1)).2.1
    have old : ∀ x, A0 x ∨ B0 x → ¬ C1 x := fun x b z => (n0 x b).1 (fr x z)
    refine ⟨ef, eg, fun x => C1 x ∨ A0 x, B0, .cons (h1.ind c) (ho0.fm (fm pv A0)) (fun x b => ⟨.inl b, fun z => old x (.inl z) b⟩) (fun x b => .inr b), hs0.fm (fm pv B0), fun x b z => b.elim (old x (.inr z)) (fun w => d0 x w z), fun x b => ?_⟩
    have k : C1 x ∨ (A0 x ∨ B0 x) := by
      rcases b with (b | b) | b
      · exact .inl b
      · exact .inr (.inl b)
      · exact .inr (.inr b)
    rcases k with b | b
    · refine ⟨(n1 x (.inl (s1 x b).1)).1, ?_, ?_⟩
      · cases z : F x with
        | none => rfl
        | some o => have := fr x b; rw [ef0 x o z] at this; cases this
      · cases z : G x with
        | none => rfl
        | some o => have := fr x b; rw [eg0 x o z] at this; cases this
    · obtain ⟨q1, q2⟩ := n0 x b
      refine ⟨fun z => ?_, q2⟩
      cases w : H x with
      | none => exact q1 w
      | some o => rw [e x o w] at z; cases z
end
/-- a call upon what is seen: the defaults dd behind; its answer is fresh or has no addresses -/
def sCallP (Φ : SemF) (dd : List D) (fs : SemA) : Sem := fun s => pkA fs s fun ds => match Φ ((ds ++ dd).map .d) [] with
  | .ret t _ => if t.ind then .ok t s else .bad
  | .exc x _ => if x.sc then .exc x s else .bad
  | .bad => .bad
/-- a call with the arguments' own trees and the store -/
def sCallR (Φ : SemF) (dd : List D) (fs : SemA) : Sem := fun s => (fs s).bind fun ts s1 => match Φ (ts ++ dd.map .d) s1.p with
  | .ret t p => .ok t ⟨s1.r, p⟩
  | .exc x p => .exc x ⟨s1.r, p⟩
  | .bad => .bad
section
variable [CA] {K : PySem.W.Frag} {F G G' H H' : Hp} {σ σ1 σ2 : L2.St} {s s' : S} {pv pv' : List V} {W : WX}
theorem VwL.app {vs ws : List V} {ds es : List D} (h : VwL K H vs ds) (h2 : VwL K H ws es) : VwL K H (vs ++ ws) (ds ++ es) := by
  induction ds generalizing vs with
  | nil => cases h; exact h2
  | cons d ds ih =>
    cases h with
    | cons h l => exact .cons h (ih l)
/-- E: what is wanted of an exception at σ -/
theorem sCallP_le {Φ : SemF} {dd : List D} {dvs : List V} {fs : SemA} {n : Nat} {E : L2.St → XK} {Q : VK} (hd : ∀ H, VwL K H dvs dd) (hn : ∀ ts p, Φ ts p ≠ .bad → ts.length = n) (hE : ∀ cls d H, W cls d σ H → E σ cls d H) (h : tOf K W (sCallP Φ dd fs) σ H Q) :
    tOfA K W fs σ H fun vs H1 => spOf K n Φ (vs ++ dvs) H1 Q (E σ) := by
  obtain ⟨F, G, s, pv, S, q⟩ := h
  refine pkA_use S q fun vs ds H1 e1 va S1 q1 => ?_
  have va2 := va.app (hd H1)
  have len : vs.length + dvs.length = (ds ++ dd).length := by rw [← List.length_append]; exact va2.len
  have hl : (vs ++ dvs).length = n := by
    rw [va2.len, ← hn ((ds ++ dd).map .d) [] (fun z => by rw [z] at q1; exact q1.elim), List.length_map]
  refine ⟨hl, H1, H1, (ds ++ dd).map .d, [], [], by rw [List.length_map]; exact va2.len, va2.simD, ?_⟩
  cases e : Φ ((ds ++ dd).map .d) [] with
  | bad => rw [e] at q1; exact q1.elim
  | ret t p =>
    rw [e] at q1
    have q2 : (if t.ind then Res.ok t s else .bad : Res T).go (KOk K F G pv σ Q) (KEx K F G pv σ W) := q1
    intro v G2 H2 pv2 po px S2
    by_cases c : t.ind = true
    · rw [if_pos c] at q2
      exact q2 v G H2 pv .rfl' (List.prefix_refl _) (S1.take_ind S2 c)
    · rw [if_neg c] at q2
      exact q2.elim
  | exc x p =>
    rw [e] at q1
    have q2 : (if x.sc then Res.exc x s else .bad : Res T).go (KOk K F G pv σ Q) (KEx K F G pv σ W) := q1
    intro cls d G2 H2 pv2 po px S2 r
    by_cases c : x.sc = true
    · rw [if_pos c] at q2
      exact hE _ _ _ (kex_look S1 q2 c S2.ef S2.eg r)
    · rw [if_neg c] at q2
      exact q2.elim
theorem sCallR_le {Φ : SemF} {dd : List D} {dvs : List V} {fs : SemA} {n : Nat} {E : L2.St → XK} {Q : VK} (hd : ∀ H, VwL K H dvs dd) (hn : ∀ ts p, Φ ts p ≠ .bad → ts.length = n) (hE : ∀ cls d H, W cls d σ H → E σ cls d H) (h : tOf K W (sCallR Φ dd fs) σ H Q) :
    tOfA K W fs σ H fun vs H1 => spOf K n Φ (vs ++ dvs) H1 Q (E σ) := by
  obtain ⟨F, G, s, pv, S, q⟩ := h
  refine ⟨F, G, s, pv, S, (bind_use q).imp (fun ts s1 q1 => ?_) fun _ _ z => z⟩
  intro vs G1 H1 pv1 po1 px1 el S1
  have ldd := (hd H1).len
  have S2 : Sim K F G1 H1 (σ ++ vs.map some) ⟨s1.r ++ ts.map some, s1.p⟩ pv1 := S1.comm (by simpa using el)
  have lr : σ.length = s1.r.length := by
    have := S1.len
    rw [List.length_append, List.length_append, List.length_map, List.length_map, el] at this
    omega
  obtain ⟨F2, S3, a⟩ := Sim.out S2 lr
  have S4 : Sim K F2 G1 H1 ((vs ++ dvs).map some) ⟨(ts ++ dd.map T.d).map some, s1.p⟩ pv1 := by
    rw [List.map_append, List.map_append]
    obtain ⟨ef, eg, A, B, ho, hs, d, n'⟩ := S3
    exact ⟨ef, eg, A, B, RpO.join (A2 := fun _ => False) ho (VwL.rpl (hd G1)).roots (fun x b => ⟨b, id⟩) fun _ z => z.elim, hs, d, n'⟩
  have hl : (vs ++ dvs).length = n := by
    rw [← hn (ts ++ dd.map T.d) s1.p (fun z => by rw [z] at q1; exact q1.elim), List.length_append, List.length_append, List.length_map, el, ldd]
  refine ⟨hl, F2, G1, ts ++ dd.map T.d, s1.p, pv1, by rw [List.length_append, List.length_append, List.length_map, el, ldd], S4, ?_⟩
  cases e : Φ (ts ++ dd.map T.d) s1.p with
  | bad => rw [e] at q1; exact q1.elim
  | ret t p =>
    rw [e] at q1
    intro v G2 H2 pv2 po px S5
    have S6 := (Sim.back a po px (r' := [some t]) S5).comm lr
    exact q1 v G2 H2 pv2 (po1.tr (a.post po)) (px1.trans px) S6
  | exc x p =>
    rw [e] at q1
    intro cls d G2 H2 pv2 po px S5 r
    have S6 := Sim.back a po px (r' := []) S5
    rw [List.append_nil, List.append_nil] at S6
    exact hE _ _ _ (q1 cls d G2 H2 pv2 (po1.tr (a.post po)) (px1.trans px) S6 (a.xrep r))
end
section
variable [CA] {X : Cx} {k : Nat} {f : Addr} {fd : FuncData} {ps : List Str} {Φ : SemF} {n : Nat} {dd : List D} {dvs : List V} {ds : List Value} {x : Str} {p pos : Pos} {e : Expr} {es : List Expr} {fs : SemA}
/-- f(..) of a def that lets no exception out -/
theorem r_callP (Fo : FnOk X.prog X.w X.K X.mg X.base CX0 k f fd ps (spOf X.K n Φ)) (hr : Room k X.A) (hm : X.mg x = some (.ref f)) (hk : PySem.W.keepIn X.K (.ref f) = true) (hb : Binds X.K fd ps ds) (hd : Vals dvs ds) (hv : ∀ H, VwL X.K H dvs dd) (hn : Ar Φ n) (ha : PA X (e :: es) (tOfA X.K W0 fs))
    (hg : Gl X x := by rfl) (hdb : (x == ("__debug__" : Str)) = false := by decide) (he : starEach (e :: es) X.env = (false, eval e X.env) :: starEach es X.env := by rfl) (hpl : (backTo pos (starEach es X.env)).any (·.1) = false := by rfl) :
    PE X (.Call (.Name x p) (e :: es) [] pos) (tOf X.K W0 (sCallP Φ dd fs)) := (pe_call Fo hr hg hm hk hb hd pass0 ha hdb he hpl).le fun σ H Q h => sCallP_le (E := fun _ => E0) hv hn (fun _ _ _ z => z) h
theorem r_callR (Fo : FnOk X.prog X.w X.K X.mg X.base CX0 k f fd ps (spOf X.K n Φ)) (hr : Room k X.A) (hm : X.mg x = some (.ref f)) (hk : PySem.W.keepIn X.K (.ref f) = true) (hb : Binds X.K fd ps ds) (hd : Vals dvs ds) (hv : ∀ H, VwL X.K H dvs dd) (hn : Ar Φ n) (ha : PA X (e :: es) (tOfA X.K W0 fs))
    (hg : Gl X x := by rfl) (hdb : (x == ("__debug__" : Str)) = false := by decide) (he : starEach (e :: es) X.env = (false, eval e X.env) :: starEach es X.env := by rfl) (hpl : (backTo pos (starEach es X.env)).any (·.1) = false := by rfl) :
    PE X (.Call (.Name x p) (e :: es) [] pos) (tOf X.K W0 (sCallR Φ dd fs)) := (pe_call Fo hr hg hm hk hb hd pass0 ha hdb he hpl).le fun σ H Q h => sCallR_le (E := fun _ => E0) hv hn (fun _ _ _ z => z) h
end
end BT
/-! BK: operations by their data. -/
namespace BT
open PySem PySem.Spec PyProof.Rows L2

/-! ### numbers, lists -/
def gAdd : D → D → Option Rv
  | .int i, .int j => some (.one (.int (i + j)))
  | .lst xs, .lst ys => if xs.length + ys.length ≤ sizeLine then some (.lst (xs ++ ys)) else none
  | _, _ => none
def gSub : D → D → Option Rv
  | .int i, .int j => some (.one (.int (i - j)))
  | _, _ => none
noncomputable def gMul : D → D → Option Rv
  | .int i, .int j => @ite _ ((-(2 ^ 64) < i ∧ i < 2 ^ 64) ∨ (-(2 ^ 64) < j ∧ j < 2 ^ 64)) (Classical.propDecidable _) (some (.one (.int (i * j)))) none
  | _, _ => none
noncomputable def gDiv : D → D → Option Rv
  | .int i, .int j => @ite _ (0 < j ∧ (j < 1073741824 ∨ j.natAbs.log2 < 9000)) (Classical.propDecidable _) (some (.one (.int (i / j)))) none
  | _, _ => none
noncomputable def gMod : D → D → Option Rv
  | .int i, .int j => @ite _ (0 < j) (Classical.propDecidable _) (some (.one (.int (i % j)))) none
  | _, _ => none
noncomputable def gPow : D → D → Option Rv
  | .int i, .int j => @ite _ (0 ≤ j ∧ j ≤ 1000000 ∧ i.natAbs < 2 ^ 64) (Classical.propDecidable _) (some (.one (.int (i ^ j.toNat)))) none
  | _, _ => none
noncomputable def gShl : D → D → Option Rv
  | .int i, .int j => @ite _ ((0 ≤ j ∧ j ≤ 1000000 ∧ i.natAbs < 2 ^ 64) ∨ (0 ≤ j ∧ (Builtin.Int.intBits i : Int) + j ≤ 2 ^ 27)) (Classical.propDecidable _) (some (.one (.int (i * 2 ^ j.toNat)))) none
  | _, _ => none
noncomputable def gShr : D → D → Option Rv
  | .int i, .int j => @ite _ (0 ≤ j) (Classical.propDecidable _) (some (.one (.int (i / 2 ^ j.toNat)))) none
  | _, _ => none
def gAnd : D → D → Option Rv
  | .int i, .int j => some (.one (.int (Builtin.bitAnd i j)))
  | _, _ => none
def gOr : D → D → Option Rv
  | .int i, .int j => some (.one (.int (Builtin.bitOr i j)))
  | _, _ => none
/-- a list so many times -/
noncomputable def gRep : D → D → Option Rv
  | .lst xs, .int k => @ite _ (-(2 ^ 63) ≤ k ∧ k < 2 ^ 63 ∧ xs.length * k.toNat ≤ sizeLine) (Classical.propDecidable _) (some (.lst (List.replicate k.toNat xs).flatten)) none
  | _, _ => none
def gNeg : D → Option Rv
  | .int i => some (.one (.int (-i)))
  | _ => none
section
variable [CA] {K : PySem.W.Frag} {G H : Hp}
theorem rvI {i : Int} {Q : VK} (h : RvOk K G H (.one (.int i)) Q) : Q (.int i) H := h _ (.int i)
theorem rvB {b : Bool} {Q : VK} (h : RvOk K G H (.one (.bl b)) Q) : Q (.bl b) H := h _ (.bl b)
theorem o_int {C : Int → Int → Prop} {g : D → D → Option Rv} {r : Int → Int → Int} (h : ∀ a b R, g a b = some R → ∃ i j, a = .int i ∧ b = .int j ∧ C i j ∧ R = .one (.int (r i j))) : Op2 K (rI C fun i j => .int (r i j)) g := by
  intro G H x y a b R Q _ va vb e k
  obtain ⟨i, j, rfl, rfl, c, rfl⟩ := h a b R e
  exact ⟨i, j, vint va, vint vb, c, rvI k⟩
theorem o_int0 {g : D → D → Option Rv} {r : Int → Int → Int} (h : ∀ a b R, g a b = some R → ∃ i j, a = .int i ∧ b = .int j ∧ R = .one (.int (r i j))) : Op2 K (rI0 fun i j => .int (r i j)) g := by
  intro G H x y a b R Q _ va vb e k
  obtain ⟨i, j, rfl, rfl, rfl⟩ := h a b R e
  exact ⟨i, j, vint va, vint vb, rvI k⟩
theorem o_intB {g : D → D → Option Rv} {r : Int → Int → Bool} (h : ∀ a b R, g a b = some R → ∃ i j, a = .int i ∧ b = .int j ∧ R = .one (.bl (r i j))) : Op2 K (rI0 fun i j => .bl (r i j)) g := by
  intro G H x y a b R Q _ va vb e k
  obtain ⟨i, j, rfl, rfl, rfl⟩ := h a b R e
  exact ⟨i, j, vint va, vint vb, rvB k⟩
theorem Op2.or {r r' : R2} {g : D → D → Option Rv} (h : ∀ G H x y a b R Q, Ex G H → Vw K G x a → Vw K G y b → g a b = some R → RvOk K G H R Q → r x y H Q ∨ r' x y H Q) : Op2 K (fun x y H Q => r x y H Q ∨ r' x y H Q) g := h
theorem o_neg : Op1 K (rU fun i => .int (-i)) gNeg := by
  intro G H x a R Q g va e k
  unfold gNeg at e
  split at e
  · cases e; exact ⟨_, vint va, rvI k⟩
  · cases e
theorem o_sub : Op2 K (rI0 fun i j => .int (i - j)) gSub := o_int0 fun a b R e => by
  unfold gSub at e
  split at e
  · cases e; exact ⟨_, _, rfl, rfl, rfl⟩
  · cases e
theorem o_mul : Op2 K (rI CMul fun i j => .int (i * j)) gMul := o_int fun a b R e => by
  unfold gMul at e
  split at e
  · split at e
    · rename_i c; cases e; exact ⟨_, _, rfl, rfl, c, rfl⟩
    · cases e
  · cases e
theorem log_small {j : Int} (h0 : 0 < j) (h : j < 1073741824) : j.natAbs.log2 < 9000 := by
  have : j.natAbs < 2 ^ 30 := by omega
  have := (Nat.log2_lt (by omega)).mpr this
  omega
theorem o_div : Op2 K (rI CDivW fun i j => .int (i / j)) gDiv := o_int fun a b R e => by
  unfold gDiv at e
  split at e
  · split at e
    · rename_i c; cases e; exact ⟨_, _, rfl, rfl, ⟨c.1, c.2.elim (log_small c.1) id⟩, rfl⟩
    · cases e
  · cases e
theorem o_mod : Op2 K (rI (fun _ j => 0 < j) fun i j => .int (i % j)) gMod := o_int fun a b R e => by
  unfold gMod at e
  split at e
  · split at e
    · rename_i c; cases e; exact ⟨_, _, rfl, rfl, c, rfl⟩
    · cases e
  · cases e
theorem o_pow : Op2 K (rI CPow fun i j => .int (i ^ j.toNat)) gPow := o_int fun a b R e => by
  unfold gPow at e
  split at e
  · split at e
    · rename_i c; cases e; exact ⟨_, _, rfl, rfl, c, rfl⟩
    · cases e
  · cases e
theorem o_shl : Op2 K (fun x y H Q => rI CPow (fun i j => .int (i * 2 ^ j.toNat)) x y H Q ∨ rI CShl (fun i j => .int (i * 2 ^ j.toNat)) x y H Q) gShl := by
  intro G H x y a b R Q _ va vb e k
  unfold gShl at e
  split at e
  · split at e
    · rename_i c
      cases e
      rcases c with c | c
      · exact .inl ⟨_, _, vint va, vint vb, c, rvI k⟩
      · exact .inr ⟨_, _, vint va, vint vb, c, rvI k⟩
    · cases e
  · cases e
theorem o_shr : Op2 K (rI (fun _ j => 0 ≤ j) fun i j => .int (i / 2 ^ j.toNat)) gShr := o_int fun a b R e => by
  unfold gShr at e
  split at e
  · split at e
    · rename_i c; cases e; exact ⟨_, _, rfl, rfl, c, rfl⟩
    · cases e
  · cases e
theorem o_and : Op2 K (rI0 fun i j => .int (Builtin.bitAnd i j)) gAnd := o_int0 fun a b R e => by
  unfold gAnd at e
  split at e
  · cases e; exact ⟨_, _, rfl, rfl, rfl⟩
  · cases e
theorem o_or : Op2 K (rI0 fun i j => .int (Builtin.bitOr i j)) gOr := o_int0 fun a b R e => by
  unfold gOr at e
  split at e
  · cases e; exact ⟨_, _, rfl, rfl, rfl⟩
  · cases e
theorem o_add : Op2 K (fun x y H Q => rI0 (fun i j => .int (i + j)) x y H Q ∨ rCatR K x y H Q) gAdd := by
  intro G H x y a b R Q g va vb e k
  unfold gAdd at e
  split at e
  · cases e
    exact .inl ⟨_, _, vint va, vint vb, rvI k⟩
  · split at e
    · rename_i c
      cases e
      obtain ⟨a1, vs, rfl, h1, l1⟩ := va.lst_inv
      obtain ⟨a2, ws, rfl, h2, l2⟩ := vb.lst_inv
      exact .inr ⟨a1, a2, vs, ws, rfl, rfl, ex_x g h1, ex_x g h2, by rw [l1.len, l2.len]; exact c, fun p hp => k _ p (l1.app l2) hp⟩
    · cases e
  · cases e
theorem VwL.rep {vs : List V} {ds : List D} (h : VwL K G vs ds) : ∀ n : Nat, VwL K G (List.replicate n vs).flatten (List.replicate n ds).flatten
  | 0 => .nil
  | n + 1 => by
    rw [List.replicate_succ, List.replicate_succ, List.flatten_cons, List.flatten_cons]
    exact h.app (VwL.rep h n)
end
/-- a list that stands or is frozen, so many times -/
def rRepR [CA] (K : PySem.W.Frag) : R2 := fun x y H Q => ∃ l k xs, x = .ref l ∧ y = .int k ∧ SqX K H l xs ∧ (-(2 ^ 63) ≤ k ∧ k < 2 ^ 63 ∧ xs.length * k.toNat ≤ sizeLine) ∧ ∀ p, H p = none → Q (.ref p) (upd H p (.lst (List.replicate k.toNat xs).flatten))
theorem op_repR [CA] {X : Cx} : OpR X (binaryOp .Mult) (rRepR X.K) := by
  intro pins s σ H x y v u Q I rx ry ⟨l, k, xs, ex, ey, hl, ⟨b1, b2, sz⟩, q⟩
  subst ex
  subst ey
  cases rx
  obtain ⟨t, et⟩ := ry
  subst et
  obtain ⟨_, as, n, ra, oa⟩ := rd_obj I hl
  have la := ra.length
  have s1 : as.toArray.size * k.toNat ≤ sizeLine := by
    rw [List.size_toArray, ← la]
    exact sz
  have s2 : ¬ as.toArray.size * k.toNat > (2 ^ 63 - 1) / 8 := by
    have : (sizeLine : Nat) ≤ (2 ^ 63 - 1) / 8 := by decide
    omega
  have s3 : ¬ (!Builtin.List.listFitsIndex k) = true := by
    rw [fitsIndex_both b1 b2]
    exact fun z => nomatch z
  have s4 : ¬ Builtin.List.listTooLong (as.toArray.size * k.toNat) = true := by
    rw [notLongL s1]
    exact fun z => nomatch z
  have made : List.foldl (fun x1 x2 => x1 ++ x2) #[] (List.replicate (if as.toArray.isEmpty = true then 0 else k.toNat) as.toArray) = (List.replicate k.toNat as).flatten.toArray := by
    have one : ∀ m : Nat, List.foldl (fun x1 x2 => x1 ++ x2) #[] (List.replicate m as.toArray) = (List.replicate m as).flatten.toArray := fun m => by
      have z := foldl_rep as m []
      rw [List.nil_append] at z
      exact z
    rw [one]
    cases as with
    | nil => simp
    | cons a r => rw [if_neg (by simp)]
  refine wpAny_binaryOp_repeat_ref (T := "list") (U := "int") (by decide) ⟨_, oa, rfl⟩ (fun s' => typeIs_int s' k t) noFill_list_mul F.fills_int_mul F.slot_int_rmul repeat_list F.slot_int_index.lookup
    (call_meets F.slot_int_rmul (typeIs_int s k t) F.entry_int_rmul (F.args_int_rmul_2 _ _) (int___rmul___int_list k t l as.toArray n)
      ⟨oa, rfl, ⟨_, oa, rfl⟩, call_meets F.slot_list_mul ⟨_, oa, rfl⟩ F.entry_list_mul (F.args_list_mul_2 _ _) (AutoListH.list___mul___list_int_3 l as.toArray n k t s3 s2 s4) ⟨oa, ?_⟩⟩)
  rw [made]
  exact ⟨.ref _, _, I.lnew (t' := s.toks) (ra.rep k.toNat) (by rw [PyProof.Rows.lm_len_rep_flat, Nat.mul_comm]; exact sz), rfl, q _ I.fresh⟩
theorem o_rep [CA] {K : PySem.W.Frag} : Op2 K (rRepR K) gRep := by
  intro G H x y a b R Q g va vb e k
  unfold gRep at e
  split at e
  · split at e
    · rename_i c
      cases e
      obtain ⟨a1, vs, rfl, h1, l1⟩ := va.lst_inv
      exact ⟨a1, _, vs, rfl, vint vb, ex_x g h1, by rw [l1.len]; exact c, fun p hp => k _ p (l1.rep _) hp⟩
    · cases e
  · cases e
/-! ### comparisons -/
def gLt : D → D → Option Rv
  | .int i, .int j => some (.one (.bl (decide (i < j))))
  | _, _ => none
def gLe : D → D → Option Rv
  | .int i, .int j => some (.one (.bl (decide (i ≤ j))))
  | _, _ => none
def gGt : D → D → Option Rv
  | .int i, .int j => some (.one (.bl (decide (j < i))))
  | _, _ => none
def gGe : D → D → Option Rv
  | .int i, .int j => some (.one (.bl (decide (j ≤ i))))
  | _, _ => none
theorem sS_beq (x y : String) : (sS x == sS y) = (x == y) := by
  by_cases h : x = y
  · rw [h, beq_self_eq_true, beq_self_eq_true]
  · rw [beq_eq_false_iff_ne.mpr h, beq_eq_false_iff_ne.mpr fun e => h (sS_inj e)]
theorem sS_ok (x : String) : (sS x).cps.all (· < 0x110000) = true := by
  unfold sS
  rw [Str.ofString_eq_toList, List.all_toArray, List.all_map, List.all_eq_true]
  intro c _
  have h := c.valid
  simp only [Function.comp, decide_eq_true_eq]
  show c.val.toNat < 1114112
  rcases h with h | h
  · have : c.val.toNat < 0xd800 := h
    omega
  · exact h.2
mutual
/-- == -/
def D.deq : D → D → Bool
  | .non, .non => true
  | .bl a, .bl b => a == b
  | .bl a, .int j => (if a then 1 else 0) == j
  | .int i, .bl b => i == (if b then 1 else 0)
  | .int i, .int j => i == j
  | .str x, .str y => x == y
  | .lst xs, .lst ys => D.deqL xs ys
  | .tup xs, .tup ys => D.deqL xs ys
  | _, _ => false
def D.deqL : List D → List D → Bool
  | [], [] => true
  | x :: xs, y :: ys => D.deq x y && D.deqL xs ys
  | _, _ => false
end
/-- data that == speaks of, n deep at most -/
def D.flat : Nat → D → Bool
  | _, .non => true
  | _, .bl _ => true
  | _, .int _ => true
  | _, .str _ => true
  | n + 1, .lst xs => xs.all (D.flat n)
  | n + 1, .tup xs => xs.all (D.flat n)
  | _, _ => false
def gEq (a b : D) : Option Rv := if a.flat 60 && b.flat 60 then some (.one (.bl (a.deq b))) else none
def gNe (a b : D) : Option Rv := if a.flat 60 && b.flat 60 then some (.one (.bl (!a.deq b))) else none
mutual
def D.py : D → PyData
  | .non => .none
  | .bl b => .bool b
  | .int i => .int i
  | .str x => .str (sS x)
  | .lst xs => .list (D.pyL xs)
  | .tup xs => .tuple (D.pyL xs)
  | _ => .none
def D.pyL : List D → List PyData
  | [] => []
  | x :: xs => x.py :: D.pyL xs
end
/-- it is known -/
def D.kn : D → Bool
  | .any => false
  | _ => true
def D.isNon : D → Bool
  | .non => true
  | _ => false
def gIsN (a b : D) : Option Rv := match b with
  | .non => if a.kn then some (.one (.bl a.isNon)) else none
  | _ => none
def gNotN (a b : D) : Option Rv := match b with
  | .non => if a.kn then some (.one (.bl (!a.isNon))) else none
  | _ => none
def D.isB (c : Bool) : D → Bool
  | .bl b => b == c
  | _ => false
def gIsB (a b : D) : Option Rv := match b with
  | .bl c => if a.kn then some (.one (.bl (a.isB c))) else none
  | _ => none
def gNotB (a b : D) : Option Rv := match b with
  | .bl c => if a.kn then some (.one (.bl (!a.isB c))) else none
  | _ => none
/-- in, of flat things -/
def D.fl : D → Bool
  | .non | .bl _ | .int _ | .str _ => true
  | _ => false
def D.inL (a : D) (xs : List D) : Bool := xs.any fun y => y.deq a
def gIn (a b : D) : Option Rv := match b with
  | .lst xs => if a.fl && xs.all D.fl then some (.one (.bl (a.inL xs))) else none
  | .tup xs => if a.fl && xs.all D.fl then some (.one (.bl (a.inL xs))) else none
  | _ => none
def gNin (a b : D) : Option Rv := match b with
  | .lst xs => if a.fl && xs.all D.fl then some (.one (.bl (!a.inL xs))) else none
  | .tup xs => if a.fl && xs.all D.fl then some (.one (.bl (!a.inL xs))) else none
  | _ => none
section
variable [CA] {K : PySem.W.Frag} {G H : Hp}
theorem o_lt : Op2 K (rI0 fun i j => .bl (decide (i < j))) gLt := o_intB fun a b R e => by
  unfold gLt at e
  split at e
  · cases e; exact ⟨_, _, rfl, rfl, rfl⟩
  · cases e
theorem o_le : Op2 K (rI0 fun i j => .bl (decide (i ≤ j))) gLe := o_intB fun a b R e => by
  unfold gLe at e
  split at e
  · cases e; exact ⟨_, _, rfl, rfl, rfl⟩
  · cases e
theorem o_gt : Op2 K (rI0 fun i j => .bl (decide (j < i))) gGt := o_intB fun a b R e => by
  unfold gGt at e
  split at e
  · cases e; exact ⟨_, _, rfl, rfl, rfl⟩
  · cases e
theorem o_ge : Op2 K (rI0 fun i j => .bl (decide (j ≤ i))) gGe := o_intB fun a b R e => by
  unfold gGe at e
  split at e
  · cases e; exact ⟨_, _, rfl, rfl, rfl⟩
  · cases e
mutual
theorem Vw.dp : ∀ {v : V} {d : D} {n : Nat}, Vw K H v d → d.flat n = true → Dp K H v d.py
  | _, _, _, .non, _ => .non
  | _, _, _, .bl b, _ => .bl b
  | _, _, _, .int i, _ => .int i
  | _, _, _, .str x, _ => .str x
  | _, _, n, .ty _, c => by cases n <;> cases c
  | _, _, n, .cls _, c => by cases n <;> cases c
  | _, _, 0, .lst _ _, c => by cases c
  | _, _, n + 1, .lst h l, c => .lst h.l (VwL.dp l c)
  | _, _, 0, .tup _ _, c => by cases c
  | _, _, n + 1, .tup h l, c => .tup h (VwL.dp l c)
  | _, _, n, .dic _ _, c => by cases n <;> cases c
  | _, _, n, .obj _ _ _, c => by cases n <;> cases c
  | _, _, n, .err _ _ _ _ _, c => by cases n <;> cases c
  | _, _, n, .any _, c => by cases n <;> cases c
theorem VwL.dp : ∀ {vs : List V} {ds : List D} {n : Nat}, VwL K H vs ds → ds.all (D.flat n) = true → DpAll K H vs (D.pyL ds)
  | _, _, _, .nil, _ => .nil
  | _, _, _, .cons h l, c => by
    rw [List.all_cons, Bool.and_eq_true] at c
    exact .cons (Vw.dp h c.1) (VwL.dp l c.2)
end
mutual
theorem D.py_eq : ∀ (a b : D) (n m : Nat), a.flat n = true → b.flat m = true → PyData.eqv a.py b.py = a.deq b
  | .non, b, _, m, _, c => by cases b <;> first | rfl | (cases m <;> cases c)
  | .bl x, b, _, m, _, c => by cases b <;> first | rfl | (cases m <;> cases c)
  | .int x, b, _, m, _, c => by cases b <;> first | rfl | (cases m <;> cases c)
  | .str x, b, _, m, _, c => by
    cases b with
    | str y => exact (sS_beq x y)
    | _ => first | rfl | (cases m <;> cases c)
  | .ty _, _, n, _, c, _ => by cases n <;> cases c
  | .cls _, _, n, _, c, _ => by cases n <;> cases c
  | .dic _, _, n, _, c, _ => by cases n <;> cases c
  | .obj _ _, _, n, _, c, _ => by cases n <;> cases c
  | .err _ _, _, n, _, c, _ => by cases n <;> cases c
  | .any, _, n, _, c, _ => by cases n <;> cases c
  | .lst xs, b, n, m, c1, c2 => by
    cases b with
    | lst ys =>
      cases n with
      | zero => cases c1
      | succ n =>
        cases m with
        | zero => cases c2
        | succ m => exact D.py_eqL xs ys n m c1 c2
    | non => rfl
    | bl _ => rfl
    | int _ => rfl
    | str _ => rfl
    | tup _ => rfl
    | ty _ => cases m <;> cases c2
    | cls _ => cases m <;> cases c2
    | dic _ => cases m <;> cases c2
    | obj _ _ => cases m <;> cases c2
    | err _ _ => cases m <;> cases c2
    | any => cases m <;> cases c2
  | .tup xs, b, n, m, c1, c2 => by
    cases b with
    | tup ys =>
      cases n with
      | zero => cases c1
      | succ n =>
        cases m with
        | zero => cases c2
        | succ m => exact D.py_eqL xs ys n m c1 c2
    | non => rfl
    | bl _ => rfl
    | int _ => rfl
    | str _ => rfl
    | lst _ => rfl
    | ty _ => cases m <;> cases c2
    | cls _ => cases m <;> cases c2
    | dic _ => cases m <;> cases c2
    | obj _ _ => cases m <;> cases c2
    | err _ _ => cases m <;> cases c2
    | any => cases m <;> cases c2
theorem D.py_eqL : ∀ (xs ys : List D) (n m : Nat), xs.all (D.flat n) = true → ys.all (D.flat m) = true → PyData.eqvAll (D.pyL xs) (D.pyL ys) = D.deqL xs ys
  | [], [], _, _, _, _ => rfl
  | [], _ :: _, _, _, _, _ => rfl
  | _ :: _, [], _, _, _, _ => rfl
  | x :: xs, y :: ys, n, m, c1, c2 => by
    rw [List.all_cons, Bool.and_eq_true] at c1 c2
    show (PyData.eqv x.py y.py && PyData.eqvAll (D.pyL xs) (D.pyL ys)) = (x.deq y && D.deqL xs ys)
    rw [D.py_eq x y n m c1.1 c2.1, D.py_eqL xs ys n m c1.2 c2.2]
end
mutual
theorem D.py_lay : ∀ (a : D) (n : Nat), a.flat n = true → a.py.canLay0 = true ∧ a.py.depth ≤ n
  | .non, _, _ => ⟨rfl, Nat.zero_le _⟩
  | .bl _, _, _ => ⟨rfl, Nat.zero_le _⟩
  | .int _, _, _ => ⟨rfl, Nat.zero_le _⟩
  | .str x, n, c => ⟨sS_ok x, Nat.zero_le _⟩
  | .ty _, n, c => by cases n <;> cases c
  | .cls _, n, c => by cases n <;> cases c
  | .dic _, n, c => by cases n <;> cases c
  | .obj _ _, n, c => by cases n <;> cases c
  | .err _ _, n, c => by cases n <;> cases c
  | .any, n, c => by cases n <;> cases c
  | .lst xs, 0, c => by cases c
  | .tup xs, 0, c => by cases c
  | .lst xs, n + 1, c => by
    obtain ⟨h1, h2⟩ := D.py_layL xs n c
    exact ⟨h1, Nat.succ_le_succ h2⟩
  | .tup xs, n + 1, c => by
    obtain ⟨h1, h2⟩ := D.py_layL xs n c
    exact ⟨h1, Nat.succ_le_succ h2⟩
theorem D.py_layL : ∀ (xs : List D) (n : Nat), xs.all (D.flat n) = true → PyData.canLayAll0 (D.pyL xs) = true ∧ PyData.depthAll (D.pyL xs) ≤ n
  | [], _, _ => ⟨rfl, Nat.zero_le _⟩
  | x :: xs, n, c => by
    rw [List.all_cons, Bool.and_eq_true] at c
    obtain ⟨h1, h2⟩ := D.py_lay x n c.1
    obtain ⟨h3, h4⟩ := D.py_layL xs n c.2
    refine ⟨?_, Nat.max_le.mpr ⟨h2, h4⟩⟩
    show (x.py.canLay0 && PyData.canLayAll0 (D.pyL xs)) = true
    rw [h1, h3]
    rfl
end
theorem D.shp {a : D} (h : a.flat 60 = true) : SeqAt.shaped a.py = true := by
  obtain ⟨h1, h2⟩ := D.py_lay a 60 h
  unfold SeqAt.shaped
  rw [h1, decide_eq_true (by omega)]
  rfl
theorem o_eq : Op2 K (rEqD K) gEq := by
  intro G H x y a b R Q g va vb e k
  unfold gEq at e
  split at e
  · rename_i c
    cases e
    exact ⟨a.py, b.py, (va.ex g).dp (and1 c), (vb.ex g).dp (and2 c), D.shp (and1 c), D.shp (and2 c), by rw [D.py_eq a b 60 60 (and1 c) (and2 c)]; exact rvB k⟩
  · cases e
theorem o_ne : Op2 K (rNeD K) gNe := by
  intro G H x y a b R Q g va vb e k
  unfold gNe at e
  split at e
  · rename_i c
    cases e
    exact ⟨a.py, b.py, (va.ex g).dp (and1 c), (vb.ex g).dp (and2 c), D.shp (and1 c), D.shp (and2 c), by rw [D.py_eq a b 60 60 (and1 c) (and2 c)]; exact rvB k⟩
  · cases e
theorem Vw.isNon {v : V} {d : D} (h : Vw K H v d) (c : d.kn = true) : decide (v = .non) = d.isNon := by
  cases h <;> first | (cases c; done) | simp [D.isNon]
theorem vnon {v : V} (h : Vw K H v .non) : v = .non := by cases h; rfl
theorem o_isN : Op2 K (fun x y H Q => y = .non ∧ Q (.bl (decide (x = .non))) H) gIsN := by
  intro G H x y a b R Q g va vb e k
  unfold gIsN at e
  split at e
  · split at e
    · rename_i c
      cases e
      exact ⟨vnon vb, by rw [va.isNon c]; exact rvB k⟩
    · cases e
  · cases e
theorem o_notN : Op2 K (fun x y H Q => y = .non ∧ Q (.bl (!decide (x = .non))) H) gNotN := by
  intro G H x y a b R Q g va vb e k
  unfold gNotN at e
  split at e
  · split at e
    · rename_i c
      cases e
      exact ⟨vnon vb, by rw [va.isNon c]; exact rvB k⟩
    · cases e
  · cases e
/-- is, of anything and a truth -/
def rIsB' : R2 := fun x y H Q => ∃ b : Bool, y = .bl b ∧ Q (.bl (decide (x = .bl b))) H
def rNotB' : R2 := fun x y H Q => ∃ b : Bool, y = .bl b ∧ Q (.bl (!decide (x = .bl b))) H
theorem rel_bl {x : V} {v : Value} (r : RelV x v) (b : Bool) : plainIs v (.bool b) = true ∧ ((v = .bool b) ↔ x = .bl b) := by
  cases x with
  | non => cases (show v = .none from r); exact ⟨rfl, by simp⟩
  | bl c => cases (show v = .bool c from r); exact ⟨rfl, by simp⟩
  | int i => obtain ⟨t, e⟩ := (show ∃ t, v = .int i t from r); subst e; exact ⟨rfl, by simp⟩
  | str i => obtain ⟨t, e⟩ := (show ∃ t, v = .str i t from r); subst e; exact ⟨rfl, by simp⟩
  | byt i => obtain ⟨t, e⟩ := (show ∃ t, v = .bytes i t from r); subst e; exact ⟨rfl, by simp⟩
  | flt i => obtain ⟨t, e⟩ := (show ∃ t, v = .float i t from r); subst e; exact ⟨rfl, by simp⟩
  | ref a => cases (show v = .ref a from r); exact ⟨rfl, by simp⟩
  | ty n => cases (show v = .type n from r); exact ⟨rfl, by simp⟩
theorem op_isB' {X : Cx} : OpR X (compareOp .Is) rIsB' := by
  intro pins s σ H x y v u Q I rx ry ⟨b, ey, q⟩
  subst ey
  cases (show u = Value.bool b from ry)
  obtain ⟨h1, h2⟩ := rel_bl rx b
  by_cases e : x = .bl b
  · rw [h2.mpr e]
    exact wpAny_is_self rfl ⟨.bl true, H, I, rfl, by simpa [e] using q⟩
  · exact wpAny_is_other h1 (fun z => e (h2.mp z)) ⟨.bl false, H, I, rfl, by simpa [e] using q⟩
theorem op_notB' {X : Cx} : OpR X (compareOp .IsNot) rNotB' := by
  intro pins s σ H x y v u Q I rx ry ⟨b, ey, q⟩
  subst ey
  cases (show u = Value.bool b from ry)
  obtain ⟨h1, h2⟩ := rel_bl rx b
  by_cases e : x = .bl b
  · rw [h2.mpr e]
    exact wpAny_isNot_self rfl ⟨.bl false, H, I, rfl, by simpa [e] using q⟩
  · exact wpAny_isNot_other h1 (fun z => e (h2.mp z)) ⟨.bl true, H, I, rfl, by simpa [e] using q⟩
theorem Vw.isB {v : V} {d : D} (h : Vw K H v d) (k : d.kn = true) (c : Bool) : decide (v = .bl c) = d.isB c := by
  cases h <;> first | (cases k; done) | simp [D.isB]
  rename_i b
  cases b <;> cases c <;> rfl
theorem o_isB : Op2 K rIsB' gIsB := by
  intro G H x y a b R Q g va vb e k
  unfold gIsB at e
  split at e
  · split at e
    · rename_i c
      cases e
      exact ⟨_, vbl vb, by rw [va.isB c]; exact rvB k⟩
    · cases e
  · cases e
theorem o_notB : Op2 K rNotB' gNotB := by
  intro G H x y a b R Q g va vb e k
  unfold gNotB at e
  split at e
  · split at e
    · rename_i c
      cases e
      exact ⟨_, vbl vb, by rw [va.isB c]; exact rvB k⟩
    · cases e
  · cases e
theorem Vw.fl {v : V} {d : D} (h : Vw K H v d) (c : d.fl = true) : flatV v = true := by
  cases h <;> first | rfl | cases c
theorem VwL.fl {vs : List V} {ds : List D} (h : VwL K H vs ds) (c : ds.all D.fl = true) : vs.all flatV = true := by
  induction ds generalizing vs with
  | nil => cases h; rfl
  | cons d ds ih =>
    cases h with
    | cons h l =>
      rw [List.all_cons, Bool.and_eq_true] at c
      rw [List.all_cons, h.fl c.1, ih l c.2]
      rfl
theorem sS_beqV (x y : String) : L2.eqV (.str (sS x)) (.str (sS y)) = (D.str x).deq (.str y) := sS_beq x y
theorem Vw.eqV {v w : V} {d e : D} (h : Vw K H v d) (h2 : Vw K H w e) (c : d.fl = true) (c2 : e.fl = true) : L2.eqV v w = d.deq e := by
  cases h <;> first | (cases c; done) | skip
  all_goals (cases h2 <;> first | rfl | (cases c2; done) | exact sS_beqV _ _)
theorem VwL.inL {v : V} {d : D} {vs : List V} {ds : List D} (h : Vw K H v d) (l : VwL K H vs ds) (c : d.fl = true) (c2 : ds.all D.fl = true) : inV v vs = d.inL ds := by
  induction ds generalizing vs with
  | nil => cases l; rfl
  | cons e ds ih =>
    cases l with
    | cons h2 l =>
      rw [List.all_cons, Bool.and_eq_true] at c2
      have := ih l c2.2
      unfold inV D.inL at this ⊢
      rw [List.any_cons, List.any_cons, this, h2.eqV h c2.1 c]
theorem o_in : Op2 K (rIn K false) gIn := by
  intro G H x y a b R Q g va vb e k
  unfold gIn at e
  split at e
  · split at e
    · rename_i c
      cases e
      obtain ⟨a2, ws, rfl, h2, l2⟩ := vb.lst_inv
      exact ⟨a2, ws, rfl, .inl (ex_x g h2).l, va.fl (and1 c), l2.fl (and2 c), by rw [if_neg Bool.false_ne_true, VwL.inL va l2 (and1 c) (and2 c)]; exact rvB k⟩
    · cases e
  · split at e
    · rename_i c
      cases e
      obtain ⟨a2, ws, rfl, h2, l2⟩ := vb.tup_inv
      exact ⟨a2, ws, rfl, .inr (ex_t g h2), va.fl (and1 c), l2.fl (and2 c), by rw [if_neg Bool.false_ne_true, VwL.inL va l2 (and1 c) (and2 c)]; exact rvB k⟩
    · cases e
  · cases e
theorem o_nin : Op2 K (rIn K true) gNin := by
  intro G H x y a b R Q g va vb e k
  unfold gNin at e
  split at e
  · split at e
    · rename_i c
      cases e
      obtain ⟨a2, ws, rfl, h2, l2⟩ := vb.lst_inv
      exact ⟨a2, ws, rfl, .inl (ex_x g h2).l, va.fl (and1 c), l2.fl (and2 c), by rw [if_pos rfl, VwL.inL va l2 (and1 c) (and2 c)]; exact rvB k⟩
    · cases e
  · split at e
    · rename_i c
      cases e
      obtain ⟨a2, ws, rfl, h2, l2⟩ := vb.tup_inv
      exact ⟨a2, ws, rfl, .inr (ex_t g h2), va.fl (and1 c), l2.fl (and2 c), by rw [if_pos rfl, VwL.inL va l2 (and1 c) (and2 c)]; exact rvB k⟩
    · cases e
  · cases e
end
end BT
/-! BL: items, cuts, built-in functions, children taken. -/
namespace BT
open PySem PySem.Spec PyProof.Rows L2

def gIdx : D → D → Option Rv
  | .lst xs, .int i => (atI xs i).map .one
  | .tup xs, .int i => (atI xs i).map .one
  | _, _ => none
/-- the part of a list -/
def cut {α : Type} (xs : List α) (lo hi : Option Int) : List α := (xs.drop (HT.sIx xs.length 0 lo)).take (HT.sIx xs.length xs.length hi - HT.sIx xs.length 0 lo)
section
variable [CA] {K : PySem.W.Frag} {G H : Hp}
theorem VwL.atI {vs : List V} {ds : List D} {i : Int} {d : D} (h : VwL K G vs ds) (e : L2.atI ds i = some d) : ∃ v, L2.atI vs i = some v ∧ Vw K G v d := by
  unfold L2.atI at e ⊢
  rw [h.len]
  cases q : ixN ds.length i with
  | none => rw [q] at e; cases e
  | some j =>
    rw [q] at e
    have e' : ds[j]? = some d := e
    obtain ⟨hj, _⟩ := List.getElem?_eq_some_iff.mp e'
    have hj' : j < vs.length := by rw [h.len]; exact hj
    exact ⟨vs[j], by show vs[j]? = _; rw [List.getElem?_eq_getElem hj'], h.at (List.getElem?_eq_getElem hj') e'⟩
theorem o_idx : Op2 K (rIx K) gIdx := by
  intro G H x y a b R Q g va vb e k
  unfold gIdx at e
  split at e
  · rename_i xs i
    cases q : L2.atI xs i with
    | none => rw [q] at e; cases e
    | some d =>
      rw [q] at e
      cases e
      obtain ⟨a1, vs, rfl, h1, l1⟩ := va.lst_inv
      obtain ⟨v, e1, hv⟩ := l1.atI q
      exact .inl ⟨a1, vs, i, v, rfl, vint vb, (ex_x g h1).l, e1, k v hv⟩
  · rename_i xs i
    cases q : L2.atI xs i with
    | none => rw [q] at e; cases e
    | some d =>
      rw [q] at e
      cases e
      obtain ⟨a1, vs, rfl, h1, l1⟩ := va.tup_inv
      obtain ⟨v, e1, hv⟩ := l1.atI q
      exact .inr (.inl ⟨a1, vs, i, v, rfl, vint vb, ex_t g h1, e1, k v hv⟩)
  · cases e
theorem VwL.takes {vs : List V} {ds : List D} (h : VwL K G vs ds) : ∀ n, VwL K G (vs.take n) (ds.take n) := by
  intro n
  induction ds generalizing vs n with
  | nil => cases h; simp; exact .nil
  | cons d ds ih =>
    cases h with
    | cons h l =>
      cases n with
      | zero => exact .nil
      | succ n => exact .cons h (ih l n)
theorem VwL.drops {vs : List V} {ds : List D} (h : VwL K G vs ds) : ∀ n, VwL K G (vs.drop n) (ds.drop n) := by
  intro n
  induction ds generalizing vs n with
  | nil => cases h; simp; exact .nil
  | cons d ds ih =>
    cases h with
    | cons h l =>
      cases n with
      | zero => exact .cons h l
      | succ n => exact ih l n
theorem VwL.cut {vs : List V} {ds : List D} (h : VwL K G vs ds) (lo hi : Option Int) : VwL K G (cutV vs lo hi) (cut ds lo hi) := by
  unfold cutV BT.cut
  rw [h.len]
  exact (h.drops _).takes _
end
/-- a part of a slice -/
def pkO {α : Type} (o : Option Sem) (s : S) (k : Option Int → Res α) : Res α := match o with
  | none => k none
  | some f => pk f s fun x => match x with
    | .int i => k (some i)
    | _ => .bad
def sCut (fa : Sem) (lo hi : Option Sem) : Sem := fun s => pk fa s fun a => pkO lo s fun l => pkO hi s fun h => match a with
  | .lst xs => lk (some (.lst (cut xs l h))) s
  | _ => .bad
def tOfO [CA] (K : PySem.W.Frag) (W : WX) : Option Sem → TO
  | none => tNoPart
  | some f => tPart (tOf K W f)
section
variable [CA] {K : PySem.W.Frag} {F G G' H H' : Hp} {σ : L2.St} {s s' : S} {pv pv' : List V} {W : WX}
theorem pkO_use {α : Type} {o : Option Sem} {k : Option Int → Res α} {kok : α → S → Prop} {Q : Option Int → Hp → Prop} (h : Sim K F G H σ s pv) (g : (pkO o s k).go kok (KEx K F G pv σ W))
    (q : ∀ i H', Ex H H' → Sim K F G H' σ s pv → (k i).go kok (KEx K F G pv σ W) → Q i H') : tOfO K W o σ H Q := by
  cases o with
  | none => exact q none H Ex.rfl' h g
  | some f =>
    have g' : (pk f s fun x => match x with | .int i => k (some i) | _ => .bad).go kok (KEx K F G pv σ W) := g
    refine pk_use h g' fun v x H1 e1 va S1 q1 => ?_
    split at q1
    · exact ⟨_, vint va, q _ H1 e1 S1 q1⟩
    · exact q1.elim
theorem sCut_le {fa : Sem} {lo hi : Option Sem} {Q : VK} (h : tOf K W (sCut fa lo hi) σ H Q) : tSl (rSlL K) (tOf K W fa) (tOfO K W lo) (tOfO K W hi) σ H Q := by
  obtain ⟨F, G, s, pv, S, q⟩ := h
  refine pk_use S q fun x a H1 e1 va S1 q1 => pkO_use S1 q1 fun l H2 e2 S2 q2 => pkO_use S2 q2 fun u H3 e3 S3 q3 => ?_
  split at q3
  · rename_i xs
    obtain ⟨R, eR, k⟩ := lk_use S3 q3
    cases eR
    obtain ⟨a1, vs, rfl, h1, l1⟩ := ((va.ex e2).ex e3).lst_inv
    exact ⟨a1, vs, rfl, h1.l, fun p hp => k H3 _ p (l1.cut l u) hp⟩
  · exact q3.elim
end
/-! ### children taken -/
/-- children of a list or a tuple -/
def T.kidsA : T → Option (List T)
  | .d (.lst ds) => some (ds.map .d)
  | .d (.tup ds) => some (ds.map .d)
  | .lst ts => some ts
  | .tup ts => some ts
  | _ => none
/-- an item of a tree that is handed over or stands still -/
def sIt (fa fi : Sem) : Sem := fun s => (fa s).bind fun t s1 => pk fi s1 fun x => match x, t.kidsA with
  | .int i, some us => (match atI us i with
    | some u => .ok u s1
    | none => .bad)
  | _, _ => .bad
/-- list(x), x a list: the children in a new list -/
def sCopy (fa : Sem) : Sem := fun s => (fa s).bind fun t s1 => match t.kids with
  | some us => .ok (.lst us) s1
  | none => .bad
section
variable [CA] {K : PySem.W.Frag} {F G G' H H' : Hp} {σ : L2.St} {s s' : S} {pv pv' : List V} {W : WX}
theorem Sim.kidsA {v : V} {t : T} {us : List T} {r : List (Option T)} {p : List T} (h : Sim K F G H (some v :: σ) ⟨some t :: r, p⟩ pv) (e : t.kidsA = some us) :
    ∃ b zs, v = .ref b ∧ (SqL K H b zs ∨ SqT K H b zs) ∧ zs.length = us.length ∧ Sim K F G H (zs.map some ++ σ) ⟨us.map some ++ r, p⟩ pv := by
  obtain ⟨ef, eg, A, B, ho, hs, d, n⟩ := h
  cases ho with
  | cons h l s1 s2 =>
    cases h with
    | d hv =>
      cases hv with
      | lst hr hl =>
        cases e
        have hl' : RpL K G H pv _ _ (fun _ => False) := hl.rpl
        exact ⟨_, _, rfl, .inl (ex_x eg hr).l, by rw [List.length_map]; exact hl.len, ef, eg, A, B, RpO.join hl'.roots l (fun _ z => z.elim) s2, hs, d, n⟩
      | tup hr hl =>
        cases e
        have hl' : RpL K G H pv _ _ (fun _ => False) := hl.rpl
        exact ⟨_, _, rfl, .inr (ex_t eg hr), by rw [List.length_map]; exact hl.len, ef, eg, A, B, RpO.join hl'.roots l (fun _ z => z.elim) s2, hs, d, n⟩
      | non => cases e
      | bl _ => cases e
      | int _ => cases e
      | str _ => cases e
      | ty _ => cases e
      | cls _ => cases e
      | dic _ _ => cases e
      | obj _ _ _ => cases e
      | err _ _ _ _ _ => cases e
      | any _ => cases e
    | al _ => cases e
    | lst ha aa ss hl =>
      cases e
      exact ⟨_, _, rfl, .inl (sq_of ha), hl.len, ef, eg, A, B, RpO.join hl.roots l (fun x b => s1 x (ss x b).1) s2, hs, d, n⟩
    | tup ha aa ss hl =>
      cases e
      exact ⟨_, _, rfl, .inr (st_of ha), hl.len, ef, eg, A, B, RpO.join hl.roots l (fun x b => s1 x (ss x b).1) s2, hs, d, n⟩
    | dic _ _ _ _ => cases e
    | obj _ _ _ _ _ _ _ _ => cases e
/-- one of the first roots is kept -/
theorem Sim.pick : ∀ {vs : List V} {ts : List T} {j : Nat} {t : T} {r : List (Option T)} {p : List T}, Sim K F G H (vs.map some ++ σ) ⟨ts.map some ++ r, p⟩ pv → vs.length = ts.length → ts[j]? = some t →
    ∃ v, vs[j]? = some v ∧ Sim K F G H (some v :: σ) ⟨some t :: r, p⟩ pv
  | [], [], j, t, _, _, _, _, e => by simp at e
  | [], _ :: _, _, _, _, _, _, l, _ => by cases l
  | _ :: _, [], _, _, _, _, _, l, _ => by cases l
  | v :: vs, t' :: ts, 0, t, r, p, h, l, e => by
    simp at e
    subst e
    obtain ⟨ef, eg, A, B, ho, hs, d, n⟩ := h
    cases ho with
    | @cons _ _ _ _ _ A1 A2 h1 l1 s1 s2 =>
      obtain ⟨C1, C2, c1, c2, d1, d2⟩ := RpO.split (by simpa using l) l1
      exact ⟨v, by simp, ef, eg, A, B, .cons h1 c2 (fun x b => ⟨(s1 x b).1, fun z => (s1 x b).2 (d2 x z)⟩) (fun x b => s2 x (d2 x b)), hs, d, n⟩
  | v :: vs, t' :: ts, j + 1, t, r, p, h, l, e => by
    obtain ⟨w, e1, S1⟩ := Sim.pick (vs := vs) (ts := ts) (j := j) (t := t) h.pop (by simpa using l) (by simpa using e)
    exact ⟨w, by simpa using e1, S1⟩
theorem sIt_le {fa fi : Sem} {Q : VK} (h : tOf K W (sIt fa fi) σ H Q) : tOp (rIx K) (tOf K W fa) (tOf K W fi) σ H Q := by
  obtain ⟨F, G, s, pv, S, q⟩ := h
  refine ⟨F, G, s, pv, S, (bind_use q).imp (fun t s1 q1 => ?_) fun _ _ z => z⟩
  intro v G1 H1 pv1 po px S1
  obtain ⟨F2, S2, a⟩ := Sim.out (σ1 := [some v]) (r1 := [some t]) S1 rfl
  have q1' := Res.go.imp q1 (fun _ _ z => KOk.after po px z) fun _ _ z => KEx.after po px z
  -- the index is looked at in the whole state
  refine pk_use (W := W) (F := F) (G := G1) (pv := pv1) S1.pop q1' fun w x H2 e2 vw S3 q2 => ?_
  split at q2
  · rename_i i us ek
    cases ea : L2.atI us i with
    | none => rw [ea] at q2; exact q2.elim
    | some u =>
      rw [ea] at q2
      obtain ⟨b, zs, rfl, hb, lz, S4⟩ := Sim.kidsA (r := s1.r) (p := s1.p) (S1.grow e2) ek
      unfold L2.atI at ea
      cases ei : ixN us.length i with
      | none => rw [ei] at ea; cases ea
      | some j =>
        rw [ei] at ea
        obtain ⟨z, ez, S5⟩ := Sim.pick S4 lz ea
        have az : L2.atI zs i = some z := by
          unfold L2.atI
          rw [lz, ei]
          exact ez
        have fin : Q z H2 := q2 z G1 H2 pv1 .rfl' (List.prefix_refl _) S5
        rcases hb with hb | hb
        · exact .inl ⟨b, zs, i, z, rfl, vint vw, hb, az, fin⟩
        · exact .inr (.inl ⟨b, zs, i, z, rfl, vint vw, hb, az, fin⟩)
  · exact q2.elim
theorem sCopy_le {fa : Sem} {Q : VK} (h : tOf K W (sCopy fa) σ H Q) : tCB (fun xs H Q => ∃ p ys, xs = [.ref p] ∧ (SqL K H p ys ∨ SqT K H p ys) ∧ ∀ l, H l = none → Q (.ref l) (upd H l (.lst ys))) (tCons (tOf K W fa) tNil) σ H Q := by
  obtain ⟨F, G, s, pv, S, q⟩ := h
  refine ⟨F, G, s, pv, S, (bind_use q).imp (fun t s1 q1 => ?_) fun _ _ z => z⟩
  intro v G1 H1 pv1 po px S1
  cases ek : t.kids with
  | none => rw [ek] at q1; exact q1.elim
  | some us =>
    rw [ek] at q1
    obtain ⟨b, zs, rfl, hb, lz, S2⟩ := Sim.kids (r := s1.r) (p := s1.p) S1 ek
    refine ⟨b, zs, rfl, .inl hb.l, fun l hl => ?_⟩
    exact q1 (.ref l) G1 _ pv1 po px (S2.wrap lz hl fun H3 A B e1 hh a b => .lst e1 a b hh)
end
/-! ### built-in functions -/
def gLen : List D → Option Rv
  | [.lst xs] => some (.one (.int xs.length))
  | [.tup xs] => some (.one (.int xs.length))
  | _ => none
def gInt : List D → Option Rv
  | [.int i] => some (.one (.int i))
  | [.bl k] => some (.one (.int (if k then 1 else 0)))
  | _ => none
def gAbs : List D → Option Rv
  | [.int i] => some (.one (.int (if i < 0 then -i else i)))
  | _ => none
def gMax2 : List D → Option Rv
  | [.int i, .int j] => some (.one (.int (if j > i then j else i)))
  | _ => none
def gMin2 : List D → Option Rv
  | [.int i, .int j] => some (.one (.int (if j < i then j else i)))
  | _ => none
def gListOf : List D → Option Rv
  | [.lst xs] => some (.lst xs)
  | [.tup xs] => some (.lst xs)
  | _ => none
def gTupOf : List D → Option Rv
  | [.lst xs] => some (.tup xs)
  | _ => none
/-- lists of truths, of numbers -/
def D.bls : List D → Option (List Bool)
  | [] => some []
  | .bl b :: r => (D.bls r).map (b :: ·)
  | _ :: _ => none
def D.ints : List D → Option (List Int)
  | [] => some []
  | .int b :: r => (D.ints r).map (b :: ·)
  | _ :: _ => none
def gAll : List D → Option Rv
  | [.lst xs] => (D.bls xs).map fun bs => .one (.bl (bs.all id))
  | _ => none
def gAny : List D → Option Rv
  | [.lst xs] => (D.bls xs).map fun bs => .one (.bl (bs.any id))
  | _ => none
def gSum : List D → Option Rv
  | [.lst xs] => (D.ints xs).map fun ns => .one (.int ns.sum)
  | _ => none
noncomputable def gDivmod : List D → Option Rv
  | [.int i, .int j] => @ite _ (0 < j ∧ j < 1073741824) (Classical.propDecidable _) (some (.tup [.int (i / j), .int (i % j)])) none
  | _ => none
/-- whether it is of the built-in class -/
def D.isOf (T : String) : D → Option Bool
  | .non => kitB "NoneType" T
  | .bl _ => kitB "bool" T
  | .int _ => kitB "int" T
  | .str _ => kitB "str" T
  | .lst _ => kitB "list" T
  | .tup _ => kitB "tuple" T
  | .dic _ => kitB "dict" T
  | _ => none
def gIsi (T : String) : List D → Option Rv
  | [x, .ty n] => if n = T then (x.isOf T).map fun b => .one (.bl b) else none
  | _ => none
section
variable [CA] {K : PySem.W.Frag} {G H : Hp}
theorem vl1 {vs : List V} {d : D} (h : VwL K G vs [d]) : ∃ v, vs = [v] ∧ Vw K G v d := by
  cases h with
  | cons h l => cases l; exact ⟨_, rfl, h⟩
theorem vl2 {vs : List V} {d e : D} (h : VwL K G vs [d, e]) : ∃ v w, vs = [v, w] ∧ Vw K G v d ∧ Vw K G w e := by
  cases h with
  | cons h l =>
    obtain ⟨w, rfl, h2⟩ := vl1 l
    exact ⟨_, _, rfl, h, h2⟩
theorem o_len : OpA K (fun xs H Q => ∃ p ys, xs = [.ref p] ∧ (SqL K H p ys ∨ SqT K H p ys) ∧ Q (.int ys.length) H) gLen := by
  intro G H x a R Q g va e k
  unfold gLen at e
  split at e
  · cases e
    obtain ⟨v, rfl, hv⟩ := vl1 va
    obtain ⟨a1, vs, rfl, h1, l1⟩ := hv.lst_inv
    exact ⟨a1, vs, rfl, .inl (ex_x g h1).l, by rw [l1.len]; exact rvI k⟩
  · cases e
    obtain ⟨v, rfl, hv⟩ := vl1 va
    obtain ⟨a1, vs, rfl, h1, l1⟩ := hv.tup_inv
    exact ⟨a1, vs, rfl, .inr (ex_t g h1), by rw [l1.len]; exact rvI k⟩
  · cases e
theorem o_int1 : OpA K (fun xs H Q => (∃ i, xs = [.int i] ∧ Q (.int i) H) ∨ ∃ k, xs = [.bl k] ∧ Q (.int (if k then 1 else 0)) H) gInt := by
  intro G H x a R Q g va e k
  unfold gInt at e
  split at e
  · cases e
    obtain ⟨v, rfl, hv⟩ := vl1 va
    exact .inl ⟨_, by rw [vint hv], rvI k⟩
  · cases e
    obtain ⟨v, rfl, hv⟩ := vl1 va
    exact .inr ⟨_, by rw [vbl hv], rvI k⟩
  · cases e
theorem o_abs : OpA K (fun xs H Q => ∃ i, xs = [.int i] ∧ Q (.int (if i < 0 then -i else i)) H) gAbs := by
  intro G H x a R Q g va e k
  unfold gAbs at e
  split at e
  · cases e
    obtain ⟨v, rfl, hv⟩ := vl1 va
    exact ⟨_, by rw [vint hv], rvI k⟩
  · cases e
theorem o_max2 : OpA K (fun xs H Q => ∃ i j, xs = [.int i, .int j] ∧ Q (.int (if j > i then j else i)) H) gMax2 := by
  intro G H x a R Q g va e k
  unfold gMax2 at e
  split at e
  · cases e
    obtain ⟨v, w, rfl, hv, hw⟩ := vl2 va
    exact ⟨_, _, by rw [vint hv, vint hw], rvI k⟩
  · cases e
theorem o_min2 : OpA K (fun xs H Q => ∃ i j, xs = [.int i, .int j] ∧ Q (.int (if j < i then j else i)) H) gMin2 := by
  intro G H x a R Q g va e k
  unfold gMin2 at e
  split at e
  · cases e
    obtain ⟨v, w, rfl, hv, hw⟩ := vl2 va
    exact ⟨_, _, by rw [vint hv, vint hw], rvI k⟩
  · cases e
theorem o_listOf : OpA K (fun xs H Q => ∃ p ys, xs = [.ref p] ∧ (SqL K H p ys ∨ SqT K H p ys) ∧ ∀ l, H l = none → Q (.ref l) (upd H l (.lst ys))) gListOf := by
  intro G H x a R Q g va e k
  unfold gListOf at e
  split at e
  · cases e
    obtain ⟨v, rfl, hv⟩ := vl1 va
    obtain ⟨a1, vs, rfl, h1, l1⟩ := hv.lst_inv
    exact ⟨a1, vs, rfl, .inl (ex_x g h1).l, fun l hl => k vs l l1 hl⟩
  · cases e
    obtain ⟨v, rfl, hv⟩ := vl1 va
    obtain ⟨a1, vs, rfl, h1, l1⟩ := hv.tup_inv
    exact ⟨a1, vs, rfl, .inr (ex_t g h1), fun l hl => k vs l l1 hl⟩
  · cases e
theorem o_tupOf : OpA K (fun xs H Q => ∃ p ys, xs = [.ref p] ∧ ((SqL K H p ys ∧ ∀ l, H l = none → Q (.ref l) (upd H l (.tup ys))) ∨ (SqT K H p ys ∧ Q (.ref p) H))) gTupOf := by
  intro G H x a R Q g va e k
  unfold gTupOf at e
  split at e
  · cases e
    obtain ⟨v, rfl, hv⟩ := vl1 va
    obtain ⟨a1, vs, rfl, h1, l1⟩ := hv.lst_inv
    exact ⟨a1, vs, rfl, .inl ⟨(ex_x g h1).l, fun l hl => k vs l l1 hl⟩⟩
  · cases e
theorem VwL.bls {vs : List V} {ds : List D} {bs : List Bool} (h : VwL K G vs ds) (e : D.bls ds = some bs) : vs = bs.map V.bl := by
  induction ds generalizing vs bs with
  | nil => cases h; cases e; rfl
  | cons d ds ih =>
    cases h with
    | cons h l =>
      cases d with
      | bl b =>
        have e' : (D.bls ds).map (b :: ·) = some bs := e
        cases q : D.bls ds with
        | none => rw [q] at e'; cases e'
        | some r =>
          rw [q] at e'
          cases e'
          rw [vbl h, ih l q]
          rfl
      | _ => cases e
theorem VwL.ints {vs : List V} {ds : List D} {bs : List Int} (h : VwL K G vs ds) (e : D.ints ds = some bs) : vs = bs.map V.int := by
  induction ds generalizing vs bs with
  | nil => cases h; cases e; rfl
  | cons d ds ih =>
    cases h with
    | cons h l =>
      cases d with
      | int b =>
        have e' : (D.ints ds).map (b :: ·) = some bs := e
        cases q : D.ints ds with
        | none => rw [q] at e'; cases e'
        | some r =>
          rw [q] at e'
          cases e'
          rw [vint h, ih l q]
          rfl
      | _ => cases e
theorem o_all : OpA K (rAll K) gAll := by
  intro G H x a R Q g va e k
  unfold gAll at e
  split at e
  · rename_i xs
    cases q : D.bls xs with
    | none => rw [q] at e; cases e
    | some bs =>
      rw [q] at e
      cases e
      obtain ⟨v, rfl, hv⟩ := vl1 va
      obtain ⟨a1, vs, rfl, h1, l1⟩ := hv.lst_inv
      exact ⟨a1, bs, rfl, by rw [← l1.bls q]; exact (ex_x g h1).l, rvB k⟩
  · cases e
theorem o_any : OpA K (rAny K) gAny := by
  intro G H x a R Q g va e k
  unfold gAny at e
  split at e
  · rename_i xs
    cases q : D.bls xs with
    | none => rw [q] at e; cases e
    | some bs =>
      rw [q] at e
      cases e
      obtain ⟨v, rfl, hv⟩ := vl1 va
      obtain ⟨a1, vs, rfl, h1, l1⟩ := hv.lst_inv
      exact ⟨a1, bs, rfl, by rw [← l1.bls q]; exact (ex_x g h1).l, rvB k⟩
  · cases e
theorem o_sum : OpA K (rSum K) gSum := by
  intro G H x a R Q g va e k
  unfold gSum at e
  split at e
  · rename_i xs
    cases q : D.ints xs with
    | none => rw [q] at e; cases e
    | some bs =>
      rw [q] at e
      cases e
      obtain ⟨v, rfl, hv⟩ := vl1 va
      obtain ⟨a1, vs, rfl, h1, l1⟩ := hv.lst_inv
      exact ⟨a1, bs, rfl, by rw [← l1.ints q]; exact (ex_x g h1).l, rvI k⟩
  · cases e
theorem o_divmod : OpA K (fun xs H Q => ∃ i j, xs = [.int i, .int j] ∧ CDiv i j ∧ ∀ p, H p = none → Q (.ref p) (upd H p (.tup [.int (i / j), .int (i % j)]))) gDivmod := by
  intro G H x a R Q g va e k
  unfold gDivmod at e
  split at e
  · split at e
    · rename_i c
      cases e
      obtain ⟨v, w, rfl, hv, hw⟩ := vl2 va
      exact ⟨_, _, by rw [vint hv, vint hw], c, fun p hp => k _ p (.cons (.int _) (.cons (.int _) .nil)) hp⟩
    · cases e
  · cases e
theorem vty {v : V} {n : String} (h : Vw K H v (.ty n)) : v = .ty n := by cases h; rfl
theorem Vw.isOf {v : V} {d : D} {T : String} {b : Bool} (h : Vw K H v d) (e : d.isOf T = some b) : ∃ t, TyX K H v t ∧ PySem.W.kitOne K t (.type T) = some b := by
  cases h with
  | non => exact ⟨_, .base .non, kit_ty e⟩
  | bl _ => exact ⟨_, .base (.bl _), kit_ty e⟩
  | int _ => exact ⟨_, .base (.int _), kit_ty e⟩
  | str _ => exact ⟨_, .base (.str _), kit_ty e⟩
  | ty _ => cases e
  | cls _ => cases e
  | obj _ _ _ => cases e
  | err _ _ _ _ _ => cases e
  | any _ => cases e
  | lst h l =>
    rcases h with (h | ⟨o, h⟩) | ⟨its, n, h, _⟩
    · exact ⟨_, .base (.lst h), kit_ty e⟩
    · exact ⟨_, .base (.frz h), kit_ty e⟩
    · exact ⟨_, .kList h rfl, kit_ty e⟩
  | tup h l =>
    rcases h with (h | ⟨o, h⟩) | ⟨o, its, n, h, c, _⟩
    · exact ⟨_, .base (.tup h), kit_ty e⟩
    · exact ⟨_, .fTuple h, kit_ty e⟩
    · exact ⟨_, .kTuple h c, kit_ty e⟩
  | dic h l => exact ⟨_, .base (.dK h), kit_ty e⟩
theorem o_isi (T : String) : OpA K (rIsi K) (gIsi T) := by
  intro G H x a R Q g va e k
  unfold gIsi at e
  split at e
  · rename_i d n
    split at e
    · rename_i c
      subst c
      cases q : d.isOf n with
      | none => rw [q] at e; cases e
      | some b =>
        rw [q] at e
        cases e
        obtain ⟨v, w, rfl, hv, hw⟩ := vl2 va
        obtain ⟨t, h1, h2⟩ := (hv.ex g).isOf q
        exact ⟨v, w, t, .type n, b, rfl, by rw [vty hw]; exact .ty n, h1, h2, rvB k⟩
    · cases e
  · cases e
end
section
variable [CA] {X : Cx} {W : WX} {e a b : Expr} {es : List Expr} {f fa fb : Sem} {lo hi : Option Expr} {flo fhi : Option Sem} {g : SemA} {p p2 pos : Pos}
theorem r_no : PO X none (tOfO X.K W none) := po_none
theorem r_so (h : PE X e (tOf X.K W f)) : PO X (some e) (tOfO X.K W (some f)) := po_some h
theorem r_cut (he : PE X e (tOf X.K W f)) (hl : PO X lo (tOfO X.K W flo)) (hu : PO X hi (tOfO X.K W fhi)) : PE X (.Subscript e (.Slice lo hi none p2) pos) (tOf X.K W (sCut f flo fhi)) := (pe_slice sl_list he hl hu).le fun _ _ _ h => sCut_le h
theorem r_idx (ha : PE X a (tOf X.K W fa)) (hb : PE X b (tOf X.K W fb)) (hs : PlainIx b := by exact fun _ _ => rfl) : PE X (.Subscript a b pos) (tOf X.K W (sBin gIdx fa fb)) := r_ix ix_seq o_idx ha hb hs
theorem r_it (ha : PE X a (tOf X.K W fa)) (hb : PE X b (tOf X.K W fb)) (hs : PlainIx b := by exact fun _ _ => rfl) : PE X (.Subscript a b pos) (tOf X.K W (sIt fa fb)) := (pe_ix ix_seq ha hb hs).le fun _ _ _ h => sIt_le h
theorem r_bty {x : Str} {n : String} (hm : X.mg x = none) (hv : bootBuiltins x = some (.type n)) (hg : Gl X x := by rfl) (hn : x ≠ "__name__" := by decide) (hd : (x == ("__debug__" : Str)) = false := by decide) : PE X (.Name x pos) (tOf X.K W (sC (.ty n))) :=
  (pe_bltn (v := .ty n) hg hm hv rfl hn hd).le fun _ _ _ h => sC_le (fun _ => .ty n) h
theorem r_copy (hm : X.mg "list" = none) (he : PE X e (tOf X.K W f)) (hg : Gl X "list" := by rfl) (hs : starEach [e] X.env = (false, eval e X.env) :: starEach [] X.env := by rfl) (hpl : (backTo pos (starEach [] X.env)).any (·.1) = false := by rfl) :
    PE X (.Call (.Name "list" p) [e] [] pos) (tOf X.K W (sCopy f)) := (pe_callTy call_list_of hg hm (by decide +kernel) (pa_cons he pa_nil hs) (by decide) (by decide) hs hpl).le fun _ _ _ h => sCopy_le h
end
/-! ### the law's end -/
def scr (ns : List Int) : T := .d (.lst (ns.map D.int))
theorem vwl_ints [CA] {K : PySem.W.Frag} {H : Hp} : ∀ ns : List Int, VwL K H (ns.map V.int) (ns.map D.int)
  | [] => .nil
  | n :: ns => .cons (.int n) (vwl_ints ns)
/-- the law's promise, of the script at a -/
theorem sp_law [CA] {K : PySem.W.Frag} {H : Hp} {a : Addr} {ns : List Int} {Φ : SemF} (h : SqX K H a (ns.map V.int)) (t : ∃ p, Φ [scr ns] [] = .ret (.d (.bl true)) p) : spOf K 1 Φ [.ref a] H (fun v _ => v = .bl true) fun _ _ _ => False := by
  obtain ⟨p, e⟩ := t
  have va : VwL K H [.ref a] [.lst (ns.map D.int)] := .cons (.lst h (vwl_ints ns)) .nil
  refine ⟨rfl, H, H, [scr ns], [], [], rfl, va.simD, ?_⟩
  rw [e]
  intro v G' H' pv' _ _ S
  exact vbl S.top_d
end BT
/-! BM: what is known of a def; calls by that; the head's facts. -/
namespace BT
open PySem PySem.Spec PyProof.Rows L2

/-- a def of the text, at its name -/
def FunAt [CA] (K : PySem.W.Frag) (mg : Str → Option Value) (x : Str) (st : Stmt) : Prop := ∃ f fd, Fun K x x st f fd ∧ mg x = some (.ref f)
/-- a def's promise, at its name -/
def Kn [CA] (P : Program) (w : World) (K : PySem.W.Frag) (mg : Str → Option Value) (base : Heap) (x : Str) (ps : List Str) (n : Nat) (Φ : SemF) (k : Nat) : Prop :=
  ∃ f fd, FnOk P w K mg base CX0 k f fd ps (spOf K n Φ) ∧ mg x = some (.ref f) ∧ PySem.W.keepIn K (.ref f) = true ∧ Binds K fd ps [] ∧ Ar Φ n
section
variable [CA] {P : Program} {w : World} {K : PySem.W.Frag} {mg : Str → Option Value} {base : Heap}
theorem kn_mk {x : Str} {st : Stmt} {N ps : List Str} {n k : Nat} {g : SemS} (A : FunAt K mg x st) (S : FnScope N ps (defScope st)) (en : ps.length = n)
    (hb : ∀ (f : Addr) (cdv : Value) (A : Around) (outer : List Env) (s : Shared) (H : Hp) (E : XK), Room k (A.deeper (envOfC x (defScope st) s.heap.objs.size f cdv)) →
      PSs (cxOf CX0 P w K mg base N x (defScope st) f cdv A outer s H E).nox (defBody st) (sOf K W0 g))
    (bn : ∀ (kV doc pm : Value) (an : Option Addr) (cdv ct : Value) (us : List Value), us.length = ps.length → bindArgs (PySem.W.fnOf x x (defArgs st) (defBody st) (defScope st) .none kV doc pm an cdv ct) ⟨us, []⟩ = pure (ps.zip us)) :
    Kn P w K mg base x ps n (runF n N.length g) (k + 1) := by
  obtain ⟨f, fd, F, m⟩ := A
  exact ⟨f, fd, F.sem S en fun cdv A outer s H E hr => hb f cdv A outer s H E hr, m, F.kp, F.binds bn, ar_runF⟩
/-- from the head -/
theorem at_mk {h : Heap} {x : Str} {st : Stmt} {f : Addr} {oc : Value} {od an : Option Addr} {osl : Array (Option Value)} {kV doc pm cdv ct : Value} (X : K.In h) (G : h.Ns mainGlobals mg) (a : PySem.W.nsIn K mainGlobals x = some (some (.ref f)))
    (l : K.lookup f = some ⟨oc, od, .func (PySem.W.fnOf x x (defArgs st) (defBody st) (defScope st) .none kV doc pm an cdv ct), osl⟩) (c : PySem.W.codeIn K cdv x = true) (k : PySem.W.keepIn K (.ref f) = true) : FunAt K mg x st :=
  ⟨f, _, fun_mk l c k, PySem.W.mg_of X G a⟩
end
section
variable [CA] {X : Cx} {k n : Nat} {ps : List Str} {Φ : SemF} {x : Str} {p pos : Pos} {e : Expr} {es : List Expr} {fs : SemA}
theorem r_call (K0 : Kn X.prog X.w X.K X.mg X.base x ps n Φ k) (hr : Room k X.A) (ha : PA X (e :: es) (tOfA X.K W0 fs))
    (hg : Gl X x := by rfl) (hdb : (x == ("__debug__" : Str)) = false := by decide) (he : starEach (e :: es) X.env = (false, eval e X.env) :: starEach es X.env := by rfl) (hpl : (backTo pos (starEach es X.env)).any (·.1) = false := by rfl) :
    PE X (.Call (.Name x p) (e :: es) [] pos) (tOf X.K W0 (sCallP Φ [] fs)) := by
  obtain ⟨f, fd, Fo, m, kp, b, ar⟩ := K0
  exact r_callP Fo hr m kp b .nil (fun _ => .nil) ar ha hg hdb he hpl
theorem r_callr (K0 : Kn X.prog X.w X.K X.mg X.base x ps n Φ k) (hr : Room k X.A) (ha : PA X (e :: es) (tOfA X.K W0 fs))
    (hg : Gl X x := by rfl) (hdb : (x == ("__debug__" : Str)) = false := by decide) (he : starEach (e :: es) X.env = (false, eval e X.env) :: starEach es X.env := by rfl) (hpl : (backTo pos (starEach es X.env)).any (·.1) = false := by rfl) :
    PE X (.Call (.Name x p) (e :: es) [] pos) (tOf X.K W0 (sCallR Φ [] fs)) := by
  obtain ⟨f, fd, Fo, m, kp, b, ar⟩ := K0
  exact r_callR Fo hr m kp b .nil (fun _ => .nil) ar ha hg hdb he hpl
/-- a module's constant -/
def Cn [CA] (K : PySem.W.Frag) (mg : Str → Option Value) (x : Str) (d : D) : Prop := ∃ u v, mg x = some u ∧ RelV v u ∧ ∀ G, Vw K G v d
theorem r_cn {d : D} (c : Cn X.K X.mg x d) (hg : Gl X x := by rfl) (hd : (x == ("__debug__" : Str)) = false := by decide) : PE X (.Name x pos) (tOf X.K W0 (sC d)) := by
  obtain ⟨u, v, m, r, h⟩ := c
  exact r_glob m r h hg hd
end
section
variable [CA] {K : PySem.W.Frag} {mg : Str → Option Value} {h : Heap} {x : Str}
theorem cn_int {i : Int} {t : Tok} (X : K.In h) (G : h.Ns mainGlobals mg) (a : PySem.W.nsIn K mainGlobals x = some (some (.int i t))) : Cn K mg x (.int i) := ⟨_, .int i, PySem.W.mg_of X G a, ⟨t, rfl⟩, fun _ => .int i⟩
end
/-- the law's end, with the script's bits -/
theorem walk_bits {l : PySem.W.OpenLaw} {n k : Nat} {q : Program} {loose : List Str} {XP : (Str → Option Value) → Heap → Prop} {YP : World → Heap → Prop} {d : DefRec} {K : Params → PySem.W.Frag} {Φ : SemF} {x : Str}
    (hn : l.most = some n) (hn2 : n ≤ sizeLine) (hdf : d.params.defaults = []) (hr : Room k callerA) (hY : ∀ (w : World) (h : Heap), YP w h → (K w.params).In h)
    (Fo : ∀ (w : World) (mg : Str → Option Value) (fa : Addr) (h : Heap), (K w.params).In h → h.Ns mainGlobals mg → mg d.name = some (.ref fa) →
      ∃ (_ : CA) (fd : FuncData), (∀ (s : Shared) (u : Value), BindsTo s fd ⟨[u], []⟩ [(x, u)]) ∧ ∀ base : Heap, (K w.params).In base → base.Ns mainGlobals mg → FnOk l.prog w (K w.params) mg base CX0 k fa fd [x] (spOf (K w.params) 1 Φ))
    (hT : ∀ (ns : List Int), ns.length ≤ n → (∀ k ∈ ns, Builtin.Int.intBits k ≤ 1048576) → ∃ p, Φ [scr ns] [] = .ret (.d (.bl true)) p) :
    PySem.W.WalkO q loose XP YP l.row.toRowW d [] (fun f vs => PySem.call f vs) := by
  refine _root_.Att.attach_callB hn hdf fun w s₀ s₁ mg mb fa o pm cd doc a vs ns G Y ho hd hcd hmg hobj hints hlen hbits hg => ?_
  have KX := hY w _ Y
  obtain ⟨_, fd, hb, hF⟩ := Fo w mg fa _ KX G.T.g hmg
  refine law_call (CX := CX0) (sp := fun us H Q E => (∃ ms : List Int, us = [.ref a] ∧ SqL (K w.params) H a (ms.map V.int) ∧ ms.length ≤ n ∧ (∀ k ∈ ms, Builtin.Int.intBits k ≤ 1048576) ∧ (∀ v H', v = .bl true → Q v H')) ) KX G.T.g G.T.b G.T.builtins G.T.nolimit hg hobj hints (Nat.le_trans hlen hn2) hr (fun base h1 h2 => (hF base h1 h2).imp fun us H Q E hs => ?_) hb (fun H hO hS => ⟨ns, rfl, hS, hlen, hbits, fun _ _ z => z⟩) fun H e s' z => z
  obtain ⟨ms, rfl, hS, hl, hbt, q⟩ := hs
  have hX : SqX (K w.params) H a (ms.map V.int) := by
    rcases hS with hS | ⟨ob, its, m, lk, c1, c2, c3, sz, rv⟩
    · exact .inl hS
    · have eo := KX a ob lk
      rw [hobj] at eo
      cases eo
      cases c3
      exact .inr ⟨_, _, lk, by simpa using sz, by simpa using rv⟩
  have sp := sp_law (K := K w.params) (Φ := Φ) hX (hT ms hl hbt)
  obtain ⟨h1, F1, G1, ts, p, pv, el, Sm, z⟩ := sp
  refine ⟨h1, F1, G1, ts, p, pv, el, Sm, ?_⟩
  cases e : Φ ts p with
  | bad => rw [e] at z; exact z.elim
  | ret t p' => rw [e] at z; exact fun v G' H' pv' po px S => q v H' (z v G' H' pv' po px S)
  | exc x p' => rw [e] at z; exact fun cls d G' H' pv' po px S r => (z cls d G' H' pv' po px S r).elim
theorem law_mk [CA] {P : Program} {w : World} {K : PySem.W.Frag} {mg : Str → Option Value} {h : Heap} {fa : Addr} {k : Nat} {Φ : SemF} {st : Stmt} {x y : Str} {f : Addr} {oc : Value} {od an : Option Addr} {osl : Array (Option Value)} {kV doc pm cdv ct : Value}
    (X : K.In h) (G : h.Ns mainGlobals mg) (hfa : mg x = some (.ref fa)) (a : PySem.W.nsIn K mainGlobals x = some (some (.ref f)))
    (l : K.lookup f = some ⟨oc, od, .func (PySem.W.fnOf x x (defArgs st) (defBody st) (defScope st) .none kV doc pm an cdv ct), osl⟩) (c : PySem.W.codeIn K cdv x = true) (kp : PySem.W.keepIn K (.ref f) = true)
    (hb : ∀ (s : Shared) (u : Value), BindsTo s (PySem.W.fnOf x x (defArgs st) (defBody st) (defScope st) .none kV doc pm an cdv ct) ⟨[u], []⟩ [(y, u)])
    (ok : ∀ base : Heap, K.In base → base.Ns mainGlobals mg → ∀ f fd, Fun K x x st f fd → FnOk P w K mg base CX0 k f fd [y] (spOf K 1 Φ)) :
    ∃ fd : FuncData, (∀ (s : Shared) (u : Value), BindsTo s fd ⟨[u], []⟩ [(y, u)]) ∧ ∀ base : Heap, K.In base → base.Ns mainGlobals mg → FnOk P w K mg base CX0 k fa fd [y] (spOf K 1 Φ) := by
  have e := hfa.symm.trans (PySem.W.mg_of X G a)
  cases e
  exact ⟨_, hb, fun base h1 h2 => ok base h1 h2 _ _ (fun_mk l c kp)⟩
end BT
/-! BS: running semantic functions by simp. -/
namespace BT
open PySem PySem.Spec PyProof.Rows L2
section
variable {α β : Type} {s : S} {r : List (Option T)} {p : List T}
@[simp] theorem bind_ok {a : α} {k : α → S → Res β} : (Res.ok a s).bind k = k a s := id rfl
@[simp] theorem bind_exc {x : Xn} {k : α → S → Res β} : (Res.exc x s : Res α).bind k = .exc x s := id rfl
@[simp] theorem bind_bad {k : α → S → Res β} : (Res.bad : Res α).bind k = .bad := id rfl
@[simp] theorem bindF_ok {a : α} {k : α → S → Fl} : (Res.ok a s).bindF k = k a s := id rfl
@[simp] theorem bindF_exc {x : Xn} {k : α → S → Fl} : (Res.exc x s : Res α).bindF k = .exc x s := id rfl
@[simp] theorem bindF_bad {k : α → S → Fl} : (Res.bad : Res α).bindF k = .bad := id rfl
theorem cIf {α : Type} {c : Prop} [Decidable c] {a b : α} : @ite α c (Classical.propDecidable _) a b = if c then a else b := by
  by_cases h : c
  · rw [if_pos h, if_pos h]
  · rw [if_neg h, if_neg h]
theorem bind_ite {c : Prop} [Decidable c] {a b : Res α} {k : α → S → Res β} : (if c then a else b).bind k = if c then a.bind k else b.bind k := by split <;> rfl
theorem bindF_ite {c : Prop} [Decidable c] {a b : Res α} {k : α → S → Fl} : (if c then a else b).bindF k = if c then a.bindF k else b.bindF k := by split <;> rfl
@[simp] theorem sd_mk : (S.mk r p).sd = p.map (T.dat []) := id rfl
@[simp] theorem fz_mk : (S.mk r p).fz = ⟨r.map (Option.map fun t => T.d (t.dat (p.map (T.dat [])))), []⟩ := id rfl
@[simp] theorem dat_d {sd : List D} {x : D} : (T.d x).dat sd = x := id rfl
@[simp] theorem dat_al {sd : List D} {k : Nat} : (T.al k).dat sd = sd.getD k .any := id rfl
@[simp] theorem dat_lst {sd : List D} {ts : List T} : (T.lst ts).dat sd = .lst (T.datL sd ts) := id rfl
@[simp] theorem dat_tup {sd : List D} {ts : List T} : (T.tup ts).dat sd = .tup (T.datL sd ts) := id rfl
@[simp] theorem dat_obj {sd : List D} {C : String} {ts : List (String × T)} : (T.obj C ts).dat sd = .obj C (T.datF sd ts) := id rfl
@[simp] theorem datL_nil {sd : List D} : T.datL sd [] = [] := id rfl
@[simp] theorem datL_cons {sd : List D} {t : T} {ts : List T} : T.datL sd (t :: ts) = t.dat sd :: T.datL sd ts := id rfl
@[simp] theorem datF_nil {sd : List D} : T.datF sd [] = [] := id rfl
@[simp] theorem datF_cons {sd : List D} {x : String} {t : T} {ts : List (String × T)} : T.datF sd ((x, t) :: ts) = (x, t.dat sd) :: T.datF sd ts := id rfl
theorem datL_map {sd : List D} (ts : List T) : T.datL sd ts = ts.map (T.dat sd) := by induction ts <;> simp_all
@[simp] theorem datL_app {sd : List D} {ts us : List T} : T.datL sd (ts ++ us) = T.datL sd ts ++ T.datL sd us := by simp [datL_map]
@[simp] theorem datL_mapD {sd : List D} {ds : List D} : T.datL sd (ds.map T.d) = ds := by induction ds <;> simp_all
@[simp] theorem datL_mapDI {sd : List D} {ns : List Int} : T.datL sd (ns.map (T.d ∘ D.int)) = ns.map D.int := by induction ns <;> simp_all
@[simp] theorem na_d {x : D} : (T.d x).na = true := id rfl
@[simp] theorem na_al {k : Nat} : (T.al k).na = false := id rfl
@[simp] theorem na_lst {ts : List T} : (T.lst ts).na = T.naL ts := id rfl
@[simp] theorem na_tup {ts : List T} : (T.tup ts).na = T.naL ts := id rfl
@[simp] theorem naL_nil : T.naL [] = true := id rfl
@[simp] theorem naL_cons {t : T} {ts : List T} : T.naL (t :: ts) = (t.na && T.naL ts) := id rfl
theorem naL_all (ts : List T) : T.naL ts = ts.all T.na := by induction ts <;> simp_all
@[simp] theorem naL_app {ts us : List T} : T.naL (ts ++ us) = (T.naL ts && T.naL us) := by simp [naL_all]
@[simp] theorem naL_mapD {ds : List D} : T.naL (ds.map T.d) = true := by induction ds <;> simp_all
@[simp] theorem naL_mapDI {ns : List Int} : T.naL (ns.map (T.d ∘ D.int)) = true := by induction ns <;> simp_all
@[simp] theorem ind_d {x : D} : (T.d x).ind = x.sc := id rfl
@[simp] theorem ind_lst {ts : List T} : (T.lst ts).ind = T.indL ts := id rfl
@[simp] theorem ind_tup {ts : List T} : (T.tup ts).ind = T.indL ts := id rfl
@[simp] theorem indL_nil : T.indL [] = true := id rfl
@[simp] theorem indL_cons {t : T} {ts : List T} : T.indL (t :: ts) = (t.ind && T.indL ts) := id rfl
theorem indL_all (ts : List T) : T.indL ts = ts.all T.ind := by induction ts <;> simp_all
@[simp] theorem indL_app {ts us : List T} : T.indL (ts ++ us) = (T.indL ts && T.indL us) := by simp [indL_all]
@[simp] theorem indL_mapD {ds : List D} : T.indL (ds.map T.d) = ds.all D.sc := by induction ds <;> simp_all
@[simp] theorem indL_mapDI {ns : List Int} : T.indL (ns.map (T.d ∘ D.int)) = true := by
  induction ns with
  | nil => rfl
  | cons n ns ih => simp [ih, D.sc]
@[simp] theorem kids_lst {ts : List T} : (T.lst ts).kids = some ts := id rfl
@[simp] theorem kids_dl {ds : List D} : (T.d (.lst ds)).kids = some (ds.map .d) := id rfl
@[simp] theorem kidsA_lst {ts : List T} : (T.lst ts).kidsA = some ts := id rfl
@[simp] theorem kidsA_tup {ts : List T} : (T.tup ts).kidsA = some ts := id rfl
@[simp] theorem kidsA_dl {ds : List D} : (T.d (.lst ds)).kidsA = some (ds.map .d) := id rfl
@[simp] theorem kidsA_dt {ds : List D} : (T.d (.tup ds)).kidsA = some (ds.map .d) := id rfl
@[simp] theorem sc_non : D.non.sc = true := id rfl
@[simp] theorem sc_bl {b : Bool} : (D.bl b).sc = true := id rfl
@[simp] theorem sc_int {i : Int} : (D.int i).sc = true := id rfl
@[simp] theorem sc_str {x : String} : (D.str x).sc = true := id rfl
@[simp] theorem sc_ty {n : String} : (D.ty n).sc = true := id rfl
@[simp] theorem sc_lst {xs : List D} : (D.lst xs).sc = false := id rfl
@[simp] theorem sc_tup {xs : List D} : (D.tup xs).sc = false := id rfl
@[simp] theorem sc_dic {xs : List (Key × D)} : (D.dic xs).sc = false := id rfl
@[simp] theorem all_sc {ns : List Int} : (ns.map D.int).all D.sc = true := by induction ns <;> simp_all
@[simp] theorem sC_eq {x : D} : sC x s = .ok (.d x) s := id rfl
@[simp] theorem sRd_eq {i : Nat} : sRd i s = match s.r[i]? with
  | some (some (.d x)) => .ok (.d x) s
  | some (some (.al k)) => .ok (.al k) s
  | _ => .bad := id rfl
@[simp] theorem sMv_eq {i : Nat} : sMv i s = match s.r[i]? with
  | some (some t) => .ok t ⟨s.r.set i none, s.p⟩
  | _ => .bad := id rfl
def Res.look (R : Res T) (s : S) (k : D → Res α) : Res α := match R with
  | .ok t s' => k (t.dat s'.sd)
  | .exc x _ => if x.sc then .exc x s else .bad
  | .bad => .bad
def Res.lookA (R : Res (List T)) (s : S) (k : List D → Res α) : Res α := match R with
  | .ok ts s' => k (T.datL s'.sd ts)
  | .exc x _ => if x.sc then .exc x s else .bad
  | .bad => .bad
@[simp] theorem look_ok {t : T} {s' : S} {k : D → Res α} : (Res.ok t s').look s k = k (t.dat s'.sd) := id rfl
@[simp] theorem look_exc {x : Xn} {s' : S} {k : D → Res α} : (Res.exc x s').look s k = if x.sc then .exc x s else .bad := id rfl
@[simp] theorem look_bad {k : D → Res α} : Res.bad.look s k = .bad := id rfl
@[simp] theorem lookA_ok {t : List T} {s' : S} {k : List D → Res α} : (Res.ok t s').lookA s k = k (T.datL s'.sd t) := id rfl
@[simp] theorem lookA_exc {x : Xn} {s' : S} {k : List D → Res α} : (Res.exc x s').lookA s k = if x.sc then .exc x s else .bad := id rfl
@[simp] theorem lookA_bad {k : List D → Res α} : Res.bad.lookA s k = .bad := id rfl
@[simp] theorem pk_eq {f : Sem} {k : D → Res α} : pk f s k = (f s.fz).look s k := id rfl
@[simp] theorem pkA_eq {f : SemA} {k : List D → Res α} : pkA f s k = (f s.fz).lookA s k := id rfl
@[simp] theorem fin_one {x : D} : (Rv.one x).fin s = .ok (.d x) s := id rfl
@[simp] theorem fin_lst {xs : List D} : (Rv.lst xs).fin s = .ok (.lst (xs.map .d)) s := id rfl
@[simp] theorem fin_tup {xs : List D} : (Rv.tup xs).fin s = .ok (.d (.tup xs)) s := id rfl
@[simp] theorem rsc_one {x : D} : (Rv.one x).sc = x.sc := id rfl
@[simp] theorem rsc_lst {xs : List D} : (Rv.lst xs).sc = xs.all D.sc := id rfl
@[simp] theorem rsc_tup {xs : List D} : (Rv.tup xs).sc = xs.all D.sc := id rfl
@[simp] theorem lk_some {R : Rv} : lk (some R) s = if R.sc then R.fin s else .bad := id rfl
@[simp] theorem lk_none : lk none s = .bad := id rfl
@[simp] theorem sBin_eq {g : D → D → Option Rv} {fa fb : Sem} : sBin g fa fb s = pk fa s fun a => pk fb s fun b => lk (g a b) s := id rfl
@[simp] theorem sUn_eq {g : D → Option Rv} {fa : Sem} : sUn g fa s = pk fa s fun a => lk (g a) s := id rfl
@[simp] theorem sCB_eq {g : List D → Option Rv} {fs : SemA} : sCB g fs s = pkA fs s fun a => lk (g a) s := id rfl
@[simp] theorem sAn_eq : sAn s = .ok [] s := id rfl
@[simp] theorem sAc_eq {f : Sem} {g : SemA} : sAc f g s = (f s).bind fun t s1 => (g s1).bind fun ts s2 => .ok (t :: ts) s2 := id rfl
@[simp] theorem sTb_eq {f : Sem} : sTb f s = (f s).bind fun t s' => match t with
  | .d (.bl b) => .ok b s'
  | _ => .bad := id rfl
@[simp] theorem sTt_eq {f : Sem} : sTt f s = pk f s fun x => match x.tru with
  | some b => .ok b s
  | none => .bad := id rfl
@[simp] theorem sTand_eq {f g : SemT} : sTand f g s = (f s).bind fun b s' => if b then g s' else .ok false s' := id rfl
@[simp] theorem sTor_eq {f g : SemT} : sTor f g s = (f s).bind fun b s' => if b then .ok true s' else g s' := id rfl
@[simp] theorem sTnot_eq {f : SemT} : sTnot f s = (f s).bind fun b s' => .ok (!b) s' := id rfl
@[simp] theorem sAnd_eq {f g : Sem} : sAnd f g s = (f s).bind fun t s' => match t with
  | .d (.bl b) => if b then g s' else .ok (.d (.bl false)) s'
  | _ => .bad := id rfl
@[simp] theorem sOr_eq {f g : Sem} : sOr f g s = (f s).bind fun t s' => match t with
  | .d (.bl b) => if b then .ok (.d (.bl true)) s' else g s'
  | _ => .bad := id rfl
@[simp] theorem sNot_eq {f : Sem} : sNot f s = (f s).bind fun t s' => match t with
  | .d (.bl b) => .ok (.d (.bl (!b))) s'
  | _ => .bad := id rfl
@[simp] theorem sIfE_eq {c : SemT} {f g : Sem} : sIfE c f g s = (c s).bind fun b s' => if b then f s' else g s' := id rfl
@[simp] theorem sChain_eq {g g' : D → D → Option Rv} {fa fb fc : Sem} : sChain g g' fa fb fc s = pk fa s fun a => pk fb s fun b => match g a b with
  | some (.one (.bl k)) => if k then pk fc s fun c => lk (g' b c) s else .ok (.d (.bl false)) s
  | _ => .bad := id rfl
@[simp] theorem sLst_eq {fs : SemA} : sLst fs s = (fs s).bind fun ts s' => if ts.length ≤ 1000 then .ok (.lst ts) s' else .bad := id rfl
@[simp] theorem sTup_eq {fs : SemA} : sTup fs s = (fs s).bind fun ts s' => if ts.length ≤ 1000 then (match T.allD ts with
  | some xs => .ok (.d (.tup xs)) s'
  | none => .ok (.tup ts) s') else .bad := id rfl
@[simp] theorem allD_nil : T.allD [] = some [] := id rfl
@[simp] theorem allD_d {x : D} {ts : List T} : T.allD (.d x :: ts) = (T.allD ts).map (x :: ·) := id rfl
@[simp] theorem allD_al {k : Nat} {ts : List T} : T.allD (.al k :: ts) = none := id rfl
@[simp] theorem allD_lst {us ts : List T} : T.allD (.lst us :: ts) = none := id rfl
@[simp] theorem allD_tup {us ts : List T} : T.allD (.tup us :: ts) = none := id rfl
@[simp] theorem sSkip_eq : sSkip s = .next s := id rfl
@[simp] theorem sSeq_eq {f g : SemS} : sSeq f g s = match f s with
  | .next s' => g s'
  | R => R := id rfl
@[simp] theorem sRet_eq {f : Sem} : sRet f s = (f s).bindF fun t s' => .ret t s' := id rfl
@[simp] theorem sRetN_eq : sRetN s = .ret (.d .non) s := id rfl
@[simp] theorem sIf_eq {c : SemT} {f g : SemS} : sIf c f g s = (c s).bindF fun b s' => if b then f s' else g s' := id rfl
@[simp] theorem sEx_eq {f : Sem} : sEx f s = (f s).bindF fun _ s' => .next s' := id rfl
@[simp] theorem sBrk_eq : sBrk s = .brk s := id rfl
@[simp] theorem sCont_eq : sCont s = .cont s := id rfl
@[simp] theorem st_mk {i : Nat} {t : T} : (S.mk r p).st i t = ⟨r.set i (some t), p⟩ := id rfl
@[simp] theorem sAsg_eq {i : Nat} {f : Sem} : sAsg i f s = (f s).bindF fun t s' => .next (s'.st i t) := id rfl
@[simp] theorem sFor_eq {fi : SemI} {h : D → S → Option S} {body : SemS} : sFor fi h body s = (fi s).bindF fun ds s' => sLoop h body ds s' := id rfl
@[simp] theorem sLoop_nil {h : D → S → Option S} {body : SemS} : sLoop h body [] s = .next s := id rfl
theorem sLoop_cons {h : D → S → Option S} {body : SemS} {d : D} {ds : List D} : sLoop h body (d :: ds) s = match h d s with
  | none => .bad
  | some s1 => match body s1 with
    | .next s2 => sLoop h body ds s2
    | .cont s2 => sLoop h body ds s2
    | .brk s2 => .next s2
    | .ret t s2 => .ret t s2
    | .exc x s2 => .exc x s2
    | .bad => .bad := id rfl
@[simp] theorem hName_eq {i : Nat} {d : D} : hName i d s = some (s.st i (.d d)) := id rfl
@[simp] theorem hNil_eq : hNil [] s = some s := id rfl
@[simp] theorem hCons_eq {h : D → S → Option S} {hs : List D → S → Option S} {d : D} {ds : List D} : hCons h hs (d :: ds) s = (h d s).bind fun s' => hs ds s' := id rfl
@[simp] theorem hTup_eq {hs : List D → S → Option S} {ds : List D} : hTup hs (.tup ds) s = hs ds s := id rfl
@[simp] theorem iL_eq {f : Sem} : iL f s = (f s).bind fun t s' => match t.dat [] with
  | .lst ds => .ok ds s'
  | _ => .bad := id rfl
@[simp] theorem iT_eq {f : Sem} : iT f s = (f s).bind fun t s' => match t.dat [] with
  | .tup ds => .ok ds s'
  | _ => .bad := id rfl
@[simp] theorem iE_eq {f : Sem} : iE f s = (f s).bind fun t s' => match t.dat [] with
  | .lst ds => .ok (enumFrom' 0 ds) s'
  | _ => .bad := id rfl
@[simp] theorem iZ_eq {f g : Sem} : iZ f g s = (f s).bind fun t s1 => (g s1).bind fun u s2 => match t.dat [], u.dat [] with
  | .lst ds, .lst es => .ok (zipD ds es) s2
  | _, _ => .bad := id rfl
noncomputable def r1k (x : D) (s : S) : Res (List D) := match x with
  | .int j => @ite _ (-(2 ^ 62) ≤ j ∧ j < 2 ^ 62) (Classical.propDecidable _) (.ok (intsFrom 0 j.toNat) s) .bad
  | _ => .bad
noncomputable def r2k (x y : D) (s : S) : Res (List D) := match x, y with
  | .int i, .int j => @ite _ ((-(2 ^ 62) ≤ i ∧ i < 2 ^ 62) ∧ (-(2 ^ 62) ≤ j ∧ j < 2 ^ 62)) (Classical.propDecidable _) (.ok (intsFrom i (j - i).toNat) s) .bad
  | _, _ => .bad
noncomputable def rmk (x y : D) (s : S) : Res (List D) := match x, y with
  | .int i, .int j => @ite _ ((-(2 ^ 62) ≤ i ∧ i < 2 ^ 62) ∧ (-(2 ^ 62) ≤ j ∧ j < 2 ^ 62)) (Classical.propDecidable _) (.ok (stepsFrom i (-1) (i - j).toNat) s) .bad
  | _, _ => .bad
@[simp] theorem r1k_i {j : Int} : r1k (.int j) s = if -(2 ^ 62) ≤ j ∧ j < 2 ^ 62 then .ok (intsFrom 0 j.toNat) s else .bad := cIf
@[simp] theorem r2k_i {i j : Int} : r2k (.int i) (.int j) s = if (-(2 ^ 62) ≤ i ∧ i < 2 ^ 62) ∧ (-(2 ^ 62) ≤ j ∧ j < 2 ^ 62) then .ok (intsFrom i (j - i).toNat) s else .bad := cIf
@[simp] theorem rmk_i {i j : Int} : rmk (.int i) (.int j) s = if (-(2 ^ 62) ≤ i ∧ i < 2 ^ 62) ∧ (-(2 ^ 62) ≤ j ∧ j < 2 ^ 62) then .ok (stepsFrom i (-1) (i - j).toNat) s else .bad := cIf
@[simp] theorem iR1_eq {f : Sem} : iR1 f s = pk f s fun x => r1k x s := id rfl
@[simp] theorem iR2_eq {f g : Sem} : iR2 f g s = pk f s fun x => pk g s fun y => r2k x y s := id rfl
@[simp] theorem iRm_eq {f g : Sem} : iRm f g s = pk f s fun x => pk g s fun y => rmk x y s := id rfl
@[simp] theorem tYesS_eq : tYesS s = .ok true s := id rfl
@[simp] theorem wipeR_nil : wipeR r [] = r := id rfl
@[simp] theorem wipeR_cons {v : Nat} {vs : List Nat} : wipeR r (v :: vs) = (wipeR r vs).set v none := id rfl
@[simp] theorem wipe_mk {vs : List Nat} : (S.mk r p).wipe vs = ⟨wipeR r vs, p⟩ := id rfl
@[simp] theorem backR_nil {r0 : List (Option T)} : backR r0 r [] = r := id rfl
@[simp] theorem backR_cons {r0 : List (Option T)} {v : Nat} {vs : List Nat} : backR r0 r (v :: vs) = (backR r0 r vs).set v (match r0[v]? with
    | some (some (.d x)) => some (.d x)
    | _ => none) := id rfl
@[simp] theorem sLc_eq {fi : SemI} {h : D → S → Option S} {c : SemT} {f : Sem} {vs : List Nat} : sLc fi h c f vs s = (fi s).bind fun ds s1 => (sLcLoop h c f vs ds s1 []).bind fun ts s2 => .ok (.lst ts) ⟨backR s.r (wipeR s2.r vs) vs, s2.p⟩ := id rfl
@[simp] theorem sCut_eq {fa : Sem} {lo hi : Option Sem} : sCut fa lo hi s = pk fa s fun a => pkO lo s fun l => pkO hi s fun h => match a with
  | .lst xs => lk (some (.lst (cut xs l h))) s
  | _ => .bad := id rfl
@[simp] theorem pkO_none {k : Option Int → Res α} : pkO none s k = k none := id rfl
@[simp] theorem pkO_some {f : Sem} {k : Option Int → Res α} : pkO (some f) s k = pk f s fun x => match x with
    | .int i => k (some i)
    | _ => .bad := id rfl
@[simp] theorem sCallP_eq {Φ : SemF} {dd : List D} {fs : SemA} : sCallP Φ dd fs s = pkA fs s fun ds => match Φ ((ds ++ dd).map .d) [] with
  | .ret t _ => if t.ind then .ok t s else .bad
  | .exc x _ => if x.sc then .exc x s else .bad
  | .bad => .bad := id rfl
@[simp] theorem sCallR_eq {Φ : SemF} {dd : List D} {fs : SemA} : sCallR Φ dd fs s = (fs s).bind fun ts s1 => match Φ (ts ++ dd.map .d) s1.p with
  | .ret t p => .ok t ⟨s1.r, p⟩
  | .exc x p => .exc x ⟨s1.r, p⟩
  | .bad => .bad := id rfl
@[simp] theorem runF_eq {n N : Nat} {f : SemS} {ts : List T} : runF n N f ts p = if ts.length = n then (match f ⟨ts.map some ++ List.replicate (N - n) none, p⟩ with
  | .next s => .ret (.d .non) s.p
  | .ret t s => .ret t s.p
  | _ => .bad) else .bad := id rfl
@[simp] theorem getP_mk {i : Nat} : (S.mk r p).getP i = match r[i]? with
  | some (some (.al k)) => p[k]?
  | some (some t) => some t
  | _ => none := id rfl
@[simp] theorem putP_mk {i : Nat} {t : T} : (S.mk r p).putP i t = match r[i]? with
  | some (some (.al k)) => ⟨r, p.set k t⟩
  | _ => ⟨r.set i (some t), p⟩ := id rfl
@[simp] theorem sMut_eq {i : Nat} {c : (α : Type) → List α → List α → Option (List α)} {fs : SemA} : sMut i c fs s = match s.getP i with
  | some (.lst _) => (fs s).bind fun rs s1 => match s1.getP i with
    | some (.lst ts) => (match c T ts rs with
      | some qs => if qs.length ≤ sizeLine then .ok (.d .non) (s1.putP i (.lst qs)) else .bad
      | none => .bad)
    | _ => .bad
  | _ => .bad := id rfl
@[simp] theorem sExt_eq {i : Nat} {f : Sem} : sExt i f s = match s.getP i with
  | some (.lst _) => (f s).bind fun r s1 => match s1.getP i, r.kids with
    | some (.lst ts), some us => if (ts ++ us).length ≤ sizeLine then .ok (.d .non) (s1.putP i (.lst (ts ++ us))) else .bad
    | _, _ => .bad
  | _ => .bad := id rfl
@[simp] theorem cApp_eq {xs : List α} {y : α} : cApp α xs [y] = some (xs ++ [y]) := id rfl
@[simp] theorem sIt_eq {fa fi : Sem} : sIt fa fi s = (fa s).bind fun t s1 => pk fi s1 fun x => match x, t.kidsA with
  | .int i, some us => (match atI us i with
    | some u => .ok u s1
    | none => .bad)
  | _, _ => .bad := id rfl
@[simp] theorem sCopy_eq {fa : Sem} : sCopy fa s = (fa s).bind fun t s1 => match t.kids with
  | some us => .ok (.lst us) s1
  | none => .bad := id rfl
end
/-! operators -/
@[simp] theorem gAdd_i {i j : Int} : gAdd (.int i) (.int j) = some (.one (.int (i + j))) := id rfl
@[simp] theorem gAdd_l {xs ys : List D} : gAdd (.lst xs) (.lst ys) = if xs.length + ys.length ≤ sizeLine then some (.lst (xs ++ ys)) else none := id rfl
@[simp] theorem gSub_i {i j : Int} : gSub (.int i) (.int j) = some (.one (.int (i - j))) := id rfl
@[simp] theorem gNeg_i {i : Int} : gNeg (.int i) = some (.one (.int (-i))) := id rfl
@[simp] theorem gMul_i {i j : Int} : gMul (.int i) (.int j) = if (-(2 ^ 64) < i ∧ i < 2 ^ 64) ∨ (-(2 ^ 64) < j ∧ j < 2 ^ 64) then some (.one (.int (i * j))) else none := cIf
@[simp] theorem gDiv_i {i j : Int} : gDiv (.int i) (.int j) = if 0 < j ∧ (j < 1073741824 ∨ j.natAbs.log2 < 9000) then some (.one (.int (i / j))) else none := cIf
@[simp] theorem gMod_i {i j : Int} : gMod (.int i) (.int j) = if 0 < j then some (.one (.int (i % j))) else none := cIf
@[simp] theorem gPow_i {i j : Int} : gPow (.int i) (.int j) = if 0 ≤ j ∧ j ≤ 1000000 ∧ i.natAbs < 2 ^ 64 then some (.one (.int (i ^ j.toNat))) else none := cIf
@[simp] theorem gRep_l {xs : List D} {k : Int} : gRep (.lst xs) (.int k) = if -(2 ^ 63) ≤ k ∧ k < 2 ^ 63 ∧ xs.length * k.toNat ≤ sizeLine then some (.lst (List.replicate k.toNat xs).flatten) else none := cIf
@[simp] theorem gShr_i {i j : Int} : gShr (.int i) (.int j) = if 0 ≤ j then some (.one (.int (i / 2 ^ j.toNat))) else none := cIf
@[simp] theorem gAnd_i {i j : Int} : gAnd (.int i) (.int j) = some (.one (.int (Builtin.bitAnd i j))) := id rfl
@[simp] theorem gOr_i {i j : Int} : gOr (.int i) (.int j) = some (.one (.int (Builtin.bitOr i j))) := id rfl
@[simp] theorem gLt_i {i j : Int} : gLt (.int i) (.int j) = some (.one (.bl (decide (i < j)))) := id rfl
@[simp] theorem gLe_i {i j : Int} : gLe (.int i) (.int j) = some (.one (.bl (decide (i ≤ j)))) := id rfl
@[simp] theorem gGt_i {i j : Int} : gGt (.int i) (.int j) = some (.one (.bl (decide (j < i)))) := id rfl
@[simp] theorem gGe_i {i j : Int} : gGe (.int i) (.int j) = some (.one (.bl (decide (j ≤ i)))) := id rfl
@[simp] theorem flat_non {n : Nat} : D.flat n .non = true := by cases n <;> rfl
@[simp] theorem flat_bl {n : Nat} {b : Bool} : D.flat n (.bl b) = true := by cases n <;> rfl
@[simp] theorem flat_int {n : Nat} {i : Int} : D.flat n (.int i) = true := by cases n <;> rfl
@[simp] theorem flat_str {n : Nat} {x : String} : D.flat n (.str x) = true := by cases n <;> rfl
@[simp] theorem flat_lst {n : Nat} {xs : List D} : D.flat (n + 1) (.lst xs) = xs.all (D.flat n) := id rfl
@[simp] theorem flat_tup {n : Nat} {xs : List D} : D.flat (n + 1) (.tup xs) = xs.all (D.flat n) := id rfl
@[simp] theorem flat_lst60 {xs : List D} : D.flat 60 (.lst xs) = xs.all (D.flat 59) := id rfl
@[simp] theorem flat_tup60 {xs : List D} : D.flat 60 (.tup xs) = xs.all (D.flat 59) := id rfl
@[simp] theorem flat_lst59 {xs : List D} : D.flat 59 (.lst xs) = xs.all (D.flat 58) := id rfl
@[simp] theorem flat_tup59 {xs : List D} : D.flat 59 (.tup xs) = xs.all (D.flat 58) := id rfl
@[simp] theorem flat_lst58 {xs : List D} : D.flat 58 (.lst xs) = xs.all (D.flat 57) := id rfl
@[simp] theorem flat_tup58 {xs : List D} : D.flat 58 (.tup xs) = xs.all (D.flat 57) := id rfl
@[simp] theorem all_flat {n : Nat} {ns : List Int} : (ns.map D.int).all (D.flat n) = true := by induction ns <;> simp_all
@[simp] theorem deq_ii {i j : Int} : (D.int i).deq (.int j) = (i == j) := id rfl
@[simp] theorem deq_nn : D.non.deq .non = true := id rfl
@[simp] theorem deq_ss {i j : String} : (D.str i).deq (.str j) = (i == j) := id rfl
@[simp] theorem deq_bb {i j : Bool} : (D.bl i).deq (.bl j) = (i == j) := id rfl
@[simp] theorem deq_ll {xs ys : List D} : (D.lst xs).deq (.lst ys) = D.deqL xs ys := id rfl
@[simp] theorem deq_tt {xs ys : List D} : (D.tup xs).deq (.tup ys) = D.deqL xs ys := id rfl
@[simp] theorem deqL_nil : D.deqL [] [] = true := id rfl
@[simp] theorem deqL_cons {x y : D} {xs ys : List D} : D.deqL (x :: xs) (y :: ys) = (x.deq y && D.deqL xs ys) := id rfl
@[simp] theorem deqL_nc {y : D} {ys : List D} : D.deqL [] (y :: ys) = false := id rfl
@[simp] theorem deqL_cn {y : D} {ys : List D} : D.deqL (y :: ys) [] = false := id rfl
@[simp] theorem deqL_ints : ∀ {xs ys : List Int}, D.deqL (xs.map D.int) (ys.map D.int) = (xs == ys)
  | [], [] => rfl
  | [], _ :: _ => rfl
  | _ :: _, [] => rfl
  | x :: xs, y :: ys => by simp [deqL_ints]
theorem gEq_eq {a b : D} : gEq a b = if a.flat 60 && b.flat 60 then some (.one (.bl (a.deq b))) else none := id rfl
theorem gNe_eq {a b : D} : gNe a b = if a.flat 60 && b.flat 60 then some (.one (.bl (!a.deq b))) else none := id rfl
@[simp] theorem gIdx_l {xs : List D} {i : Int} : gIdx (.lst xs) (.int i) = (atI xs i).map .one := id rfl
@[simp] theorem gIdx_t {xs : List D} {i : Int} : gIdx (.tup xs) (.int i) = (atI xs i).map .one := id rfl
@[simp] theorem atI_zero {α : Type} {x : α} {xs : List α} : atI (x :: xs) 0 = some x := by simp [atI, ixN]
theorem atI_nn {α : Type} {xs : List α} {i : Int} (h0 : 0 ≤ i) (h : i < xs.length) : atI xs i = xs[i.toNat]? := by
  unfold atI ixN
  rw [if_pos h0, if_pos h]
  rfl
theorem atI_map {α β : Type} {f : α → β} {xs : List α} {i : Int} : atI (xs.map f) i = (atI xs i).map f := by
  unfold atI
  rw [List.length_map]
  cases ixN xs.length i <;> simp
@[simp] theorem gLen_l {xs : List D} : gLen [.lst xs] = some (.one (.int xs.length)) := id rfl
@[simp] theorem gLen_t {xs : List D} : gLen [.tup xs] = some (.one (.int xs.length)) := id rfl
@[simp] theorem gInt_i {i : Int} : gInt [.int i] = some (.one (.int i)) := id rfl
@[simp] theorem gInt_b {b : Bool} : gInt [.bl b] = some (.one (.int (if b then 1 else 0))) := id rfl
@[simp] theorem gAbs_i {i : Int} : gAbs [.int i] = some (.one (.int (if i < 0 then -i else i))) := id rfl
@[simp] theorem gMax2_i {i j : Int} : gMax2 [.int i, .int j] = some (.one (.int (if j > i then j else i))) := id rfl
@[simp] theorem gMin2_i {i j : Int} : gMin2 [.int i, .int j] = some (.one (.int (if j < i then j else i))) := id rfl
@[simp] theorem gListOf_l {xs : List D} : gListOf [.lst xs] = some (.lst xs) := id rfl
@[simp] theorem gListOf_t {xs : List D} : gListOf [.tup xs] = some (.lst xs) := id rfl
@[simp] theorem bls_map : ∀ {bs : List Bool}, D.bls (bs.map D.bl) = some bs
  | [] => rfl
  | b :: bs => by
    show (D.bls (bs.map D.bl)).map (b :: ·) = _
    rw [bls_map]
    rfl
@[simp] theorem ints_map : ∀ {bs : List Int}, D.ints (bs.map D.int) = some bs
  | [] => rfl
  | b :: bs => by
    show (D.ints (bs.map D.int)).map (b :: ·) = _
    rw [ints_map]
    rfl
@[simp] theorem gAll_l {xs : List D} : gAll [.lst xs] = (D.bls xs).map fun bs => .one (.bl (bs.all id)) := id rfl
@[simp] theorem gAny_l {xs : List D} : gAny [.lst xs] = (D.bls xs).map fun bs => .one (.bl (bs.any id)) := id rfl
@[simp] theorem gSum_l {xs : List D} : gSum [.lst xs] = (D.ints xs).map fun ns => .one (.int ns.sum) := id rfl
@[simp] theorem gIsi_eq {T n : String} {x : D} : gIsi T [x, .ty n] = if n = T then (x.isOf T).map fun b => .one (.bl b) else none := id rfl
@[simp] theorem isOf_int_int {i : Int} : (D.int i).isOf "int" = some true := by show kitB "int" "int" = _; decide +kernel
@[simp] theorem isOf_int_bool {i : Int} : (D.int i).isOf "bool" = some false := by show kitB "int" "bool" = _; decide +kernel
@[simp] theorem isOf_int_list {i : Int} : (D.int i).isOf "list" = some false := by show kitB "int" "list" = _; decide +kernel
@[simp] theorem isOf_int_tuple {i : Int} : (D.int i).isOf "tuple" = some false := by show kitB "int" "tuple" = _; decide +kernel
@[simp] theorem isOf_bl_int {i : Bool} : (D.bl i).isOf "int" = some true := by show kitB "bool" "int" = _; decide +kernel
@[simp] theorem isOf_bl_bool {i : Bool} : (D.bl i).isOf "bool" = some true := by show kitB "bool" "bool" = _; decide +kernel
@[simp] theorem isOf_bl_list {i : Bool} : (D.bl i).isOf "list" = some false := by show kitB "bool" "list" = _; decide +kernel
@[simp] theorem isOf_bl_tuple {i : Bool} : (D.bl i).isOf "tuple" = some false := by show kitB "bool" "tuple" = _; decide +kernel
@[simp] theorem isOf_non_int : D.non.isOf "int" = some false := by show kitB "NoneType" "int" = _; decide +kernel
@[simp] theorem isOf_non_bool : D.non.isOf "bool" = some false := by show kitB "NoneType" "bool" = _; decide +kernel
@[simp] theorem isOf_non_list : D.non.isOf "list" = some false := by show kitB "NoneType" "list" = _; decide +kernel
@[simp] theorem isOf_non_tuple : D.non.isOf "tuple" = some false := by show kitB "NoneType" "tuple" = _; decide +kernel
@[simp] theorem isOf_str_int {x : String} : (D.str x).isOf "int" = some false := by show kitB "str" "int" = _; decide +kernel
@[simp] theorem isOf_str_bool {x : String} : (D.str x).isOf "bool" = some false := by show kitB "str" "bool" = _; decide +kernel
@[simp] theorem isOf_str_list {x : String} : (D.str x).isOf "list" = some false := by show kitB "str" "list" = _; decide +kernel
@[simp] theorem isOf_str_tuple {x : String} : (D.str x).isOf "tuple" = some false := by show kitB "str" "tuple" = _; decide +kernel
@[simp] theorem isOf_lst_int {x : List D} : (D.lst x).isOf "int" = some false := by show kitB "list" "int" = _; decide +kernel
@[simp] theorem isOf_lst_bool {x : List D} : (D.lst x).isOf "bool" = some false := by show kitB "list" "bool" = _; decide +kernel
@[simp] theorem isOf_lst_list {x : List D} : (D.lst x).isOf "list" = some true := by show kitB "list" "list" = _; decide +kernel
@[simp] theorem isOf_lst_tuple {x : List D} : (D.lst x).isOf "tuple" = some false := by show kitB "list" "tuple" = _; decide +kernel
@[simp] theorem isOf_tup_int {x : List D} : (D.tup x).isOf "int" = some false := by show kitB "tuple" "int" = _; decide +kernel
@[simp] theorem isOf_tup_bool {x : List D} : (D.tup x).isOf "bool" = some false := by show kitB "tuple" "bool" = _; decide +kernel
@[simp] theorem isOf_tup_list {x : List D} : (D.tup x).isOf "list" = some false := by show kitB "tuple" "list" = _; decide +kernel
@[simp] theorem isOf_tup_tuple {x : List D} : (D.tup x).isOf "tuple" = some true := by show kitB "tuple" "tuple" = _; decide +kernel
@[simp] theorem isOf_dic_int {x : List (Key × D)} : (D.dic x).isOf "int" = some false := by show kitB "dict" "int" = _; decide +kernel
@[simp] theorem isOf_dic_bool {x : List (Key × D)} : (D.dic x).isOf "bool" = some false := by show kitB "dict" "bool" = _; decide +kernel
@[simp] theorem isOf_dic_list {x : List (Key × D)} : (D.dic x).isOf "list" = some false := by show kitB "dict" "list" = _; decide +kernel
@[simp] theorem isOf_dic_tuple {x : List (Key × D)} : (D.dic x).isOf "tuple" = some false := by show kitB "dict" "tuple" = _; decide +kernel
@[simp] theorem isOf_str_str {x : String} : (D.str x).isOf "str" = some true := by show kitB "str" "str" = _; decide +kernel
@[simp] theorem gIsN_eq {a : D} : gIsN a .non = if a.kn then some (.one (.bl a.isNon)) else none := id rfl
@[simp] theorem gNotN_eq {a : D} : gNotN a .non = if a.kn then some (.one (.bl (!a.isNon))) else none := id rfl
@[simp] theorem kn_non : (D.non).kn = true := id rfl
@[simp] theorem kn_bl {x : Bool} : (D.bl x).kn = true := id rfl
@[simp] theorem kn_int {x : Int} : (D.int x).kn = true := id rfl
@[simp] theorem kn_str {x : String} : (D.str x).kn = true := id rfl
@[simp] theorem kn_ty {x : String} : (D.ty x).kn = true := id rfl
@[simp] theorem kn_cls {x : String} : (D.cls x).kn = true := id rfl
@[simp] theorem kn_lst {x : List D} : (D.lst x).kn = true := id rfl
@[simp] theorem kn_tup {x : List D} : (D.tup x).kn = true := id rfl
@[simp] theorem kn_dic {x : List (Key × D)} : (D.dic x).kn = true := id rfl
@[simp] theorem kn_obj {x : String} {y : List (String × D)} : (D.obj x y).kn = true := id rfl
@[simp] theorem kn_err {x : String} {y : List (String × D)} : (D.err x y).kn = true := id rfl
@[simp] theorem isNon_non : D.non.isNon = true := id rfl
@[simp] theorem isNon_int {i : Int} : (D.int i).isNon = false := id rfl
@[simp] theorem isNon_lst {i : List D} : (D.lst i).isNon = false := id rfl
@[simp] theorem isNon_tup {i : List D} : (D.tup i).isNon = false := id rfl
@[simp] theorem gIsB_eq {a : D} {c : Bool} : gIsB a (.bl c) = if a.kn then some (.one (.bl (a.isB c))) else none := id rfl
@[simp] theorem gNotB_eq {a : D} {c : Bool} : gNotB a (.bl c) = if a.kn then some (.one (.bl (!a.isB c))) else none := id rfl
@[simp] theorem isB_int {i : Int} {c : Bool} : (D.int i).isB c = false := id rfl
@[simp] theorem isB_bl {i : Bool} {c : Bool} : (D.bl i).isB c = (i == c) := id rfl
@[simp] theorem cut_map {α β : Type} {f : α → β} {xs : List α} {lo hi : Option Int} : cut (xs.map f) lo hi = (cut xs lo hi).map f := by
  unfold cut
  rw [List.length_map, List.map_take, List.map_drop]
theorem all_cut_sc {ns : List Int} {lo hi : Option Int} : (cut (ns.map D.int) lo hi).all D.sc = true := by rw [cut_map]; exact all_sc
theorem sizeL : sizeLine = 16777216 := sizeLine_eq
/-- joined, as one word -/
def cat {α : Type} (xs ys : List α) : List α := xs ++ ys
theorem len_cat {α : Type} {xs ys : List α} : (cat xs ys).length = xs.length + ys.length := List.length_append
/-- many times over -/
def rep {α : Type} (xs : List α) (k : Int) : List α := (List.replicate k.toNat xs).flatten
theorem len_rep {α : Type} {xs : List α} {k : Int} : (rep xs k).length = k.toNat * xs.length := by
  unfold rep
  generalize k.toNat = n
  induction n with
  | zero => simp
  | succ n ih => rw [List.replicate_succ, List.flatten_cons, List.length_append, ih, Nat.succ_mul, Nat.add_comm]
theorem rep_map {α β : Type} {f : α → β} {xs : List α} {k : Int} : (List.replicate k.toNat (xs.map f)).flatten = (rep xs k).map f := by
  unfold rep
  generalize k.toNat = n
  induction n with
  | zero => rfl
  | succ n ih => rw [List.replicate_succ, List.replicate_succ, List.flatten_cons, List.flatten_cons, List.map_append, ih]
theorem mem_rep {α : Type} {xs : List α} {k : Int} {x : α} (h : x ∈ rep xs k) : x ∈ xs := by
  unfold rep at h
  obtain ⟨l, h1, h2⟩ := List.mem_flatten.mp h
  rw [(List.mem_replicate.mp h1).2] at h2
  exact h2
@[simp high] theorem gRep_li {xs : List Int} {k : Int} : gRep (.lst (xs.map D.int)) (.int k) = if -(2 ^ 63) ≤ k ∧ k < 2 ^ 63 ∧ xs.length * k.toNat ≤ sizeLine then some (.lst ((rep xs k).map D.int)) else none := by
  rw [gRep_l, rep_map, List.length_map]
@[simp high] theorem gAdd_li {xs ys : List Int} : gAdd (.lst (xs.map D.int)) (.lst (ys.map D.int)) = if xs.length + ys.length ≤ sizeLine then some (.lst ((cat xs ys).map D.int)) else none := by
  rw [gAdd_l, List.length_map, List.length_map, cat, List.map_append]
@[simp] theorem gIn_l {a : D} {xs : List D} : gIn a (.lst xs) = if a.fl && xs.all D.fl then some (.one (.bl (a.inL xs))) else none := id rfl
@[simp] theorem gIn_t {a : D} {xs : List D} : gIn a (.tup xs) = if a.fl && xs.all D.fl then some (.one (.bl (a.inL xs))) else none := id rfl
@[simp] theorem gNin_l {a : D} {xs : List D} : gNin a (.lst xs) = if a.fl && xs.all D.fl then some (.one (.bl (!a.inL xs))) else none := id rfl
@[simp] theorem gNin_t {a : D} {xs : List D} : gNin a (.tup xs) = if a.fl && xs.all D.fl then some (.one (.bl (!a.inL xs))) else none := id rfl
@[simp] theorem inL_nil {a : D} : a.inL [] = false := rfl
@[simp] theorem inL_cons {a y : D} {xs : List D} : a.inL (y :: xs) = (y.deq a || a.inL xs) := rfl
@[simp] theorem fl_int {i : Int} : (D.int i).fl = true := rfl
/-- lists of whole numbers, as data -/
abbrev li (xs : List Int) : D := .lst (xs.map .int)
/-- a list of whole numbers as data, as one word -/
def dl (l : List Int) : D := .lst (l.map .int)
/-- .. and as a tree -/
def tl (l : List Int) : T := .lst (l.map (T.d ∘ D.int))
@[simp] theorem dat_tl {sd : List D} {l : List Int} : (tl l).dat sd = dl l := by
  unfold tl dl
  rw [dat_lst, datL_mapDI]
@[simp] theorem na_tl {l : List Int} : (tl l).na = true := by
  unfold tl
  rw [na_lst, naL_mapDI]
@[simp] theorem ind_tl {l : List Int} : (tl l).ind = true := by
  unfold tl
  rw [ind_lst, indL_mapDI]
@[simp] theorem datL_tl {sd : List D} : ∀ {Ls : List (List Int)}, T.datL sd (Ls.map tl) = Ls.map dl
  | [] => rfl
  | l :: Ls => by rw [List.map_cons, datL_cons, datL_tl, dat_tl]; rfl
@[simp] theorem naL_tl : ∀ {Ls : List (List Int)}, T.naL (Ls.map tl) = true
  | [] => rfl
  | l :: Ls => by rw [List.map_cons, naL_cons, naL_tl, na_tl]; rfl
@[simp] theorem indL_tl : ∀ {Ls : List (List Int)}, T.indL (Ls.map tl) = true
  | [] => rfl
  | l :: Ls => by rw [List.map_cons, indL_cons, indL_tl, ind_tl]; rfl
@[simp] theorem flat_dl {n : Nat} {l : List Int} : D.flat (n + 1) (dl l) = true := by
  unfold dl
  rw [flat_lst]
  exact all_flat
@[simp] theorem flat_dl60 {l : List Int} : D.flat 60 (dl l) = true := flat_dl
@[simp] theorem flat_dl59 {l : List Int} : D.flat 59 (dl l) = true := flat_dl
@[simp] theorem all_flat_dl {n : Nat} {Ls : List (List Int)} : (Ls.map dl).all (D.flat (n + 1)) = true := by
  rw [List.all_map, List.all_eq_true]
  intro l _
  exact flat_dl
@[simp] theorem all_flat_dl59 {Ls : List (List Int)} : (Ls.map dl).all (D.flat 59) = true := all_flat_dl
@[simp] theorem deqL_dl_nil {Ls : List (List Int)} : D.deqL (Ls.map dl) [] = Ls.isEmpty := by
  cases Ls <;> rfl
@[simp] theorem deq_dl {a b : List Int} : (dl a).deq (dl b) = (a == b) := by
  unfold dl
  rw [deq_ll, deqL_ints]
@[simp] theorem deqL_ints_nil {l : List Int} : D.deqL (l.map D.int) [] = l.isEmpty := by
  cases l <;> rfl
end BT
/-! BU: plain lemmas about cuts, items, loops. -/
namespace BT
open PySem PySem.Spec PyProof.Rows L2
theorem six_nn {n d : Nat} {v : Int} (h : 0 ≤ v) : HT.sIx n d (some v) = min v.toNat n := by
  obtain ⟨k, rfl⟩ := Int.eq_ofNat_of_zero_le h
  exact HT.sIx_nat n d k
theorem drop_min {α : Type} (xs : List α) (k : Nat) : xs.drop (min k xs.length) = xs.drop k := by
  by_cases h : k ≤ xs.length
  · rw [Nat.min_eq_left h]
  · rw [Nat.min_eq_right (by omega), List.drop_length, List.drop_eq_nil_of_le (by omega)]
theorem cut_from {α : Type} {xs : List α} {a : Int} (h : 0 ≤ a) : cut xs (some a) none = xs.drop a.toNat := by
  unfold cut
  rw [six_nn h, HT.sIx_none, drop_min]
  apply List.take_of_length_le
  rw [List.length_drop]
  omega
theorem cut_to {α : Type} {xs : List α} {b : Int} (h : 0 ≤ b) : cut xs none (some b) = xs.take b.toNat := by
  unfold cut
  rw [six_nn h, HT.sIx_none, List.drop_zero, Nat.sub_zero]
  by_cases c : b.toNat ≤ xs.length
  · rw [Nat.min_eq_left c]
  · rw [Nat.min_eq_right (by omega), List.take_length, List.take_of_length_le (by omega)]
theorem cut_all {α : Type} {xs : List α} : cut xs none none = xs := by
  unfold cut
  rw [HT.sIx_none, HT.sIx_none, List.drop_zero, Nat.sub_zero, List.take_length]
theorem cut_two {α : Type} {xs : List α} {a b : Int} (ha : 0 ≤ a) (hb : 0 ≤ b) : cut xs (some a) (some b) = (xs.drop a.toNat).take (b.toNat - a.toNat) := by
  unfold cut
  rw [six_nn ha, six_nn hb, drop_min]
  by_cases c : b.toNat ≤ xs.length
  · rw [Nat.min_eq_left c]
    by_cases d : a.toNat ≤ xs.length
    · rw [Nat.min_eq_left d]
    · rw [Nat.min_eq_right (by omega), List.drop_eq_nil_of_le (by omega)]
      simp
  · rw [Nat.min_eq_right (by omega)]
    by_cases d : a.toNat ≤ xs.length
    · rw [Nat.min_eq_left d, List.take_of_length_le (by rw [List.length_drop]; omega), List.take_of_length_le (by rw [List.length_drop]; omega)]
    · rw [List.drop_eq_nil_of_le (by omega)]
      simp
/-- the script's cell k, 0 where there is none -/
def pick (ns : List Int) (k : Nat) : Int := ns.getD k 0
theorem pick_cut (ns : List Int) (k : Nat) : atI (cut (ns.map D.int) (some (k : Int)) (some ((k : Int) + 1)) ++ [D.int 0]) 0 = some (.int (pick ns k)) := by
  rw [cut_map, cut_two (by omega) (by omega)]
  have e : ((k : Int) + 1).toNat - ((k : Int)).toNat = 1 := by omega
  rw [e, Int.toNat_natCast]
  unfold pick
  cases h : ns.drop k with
  | nil =>
    have : ns.length ≤ k := List.drop_eq_nil_iff.mp h
    simp [List.getD_eq_getElem?_getD, List.getElem?_eq_none_iff.mpr this]
  | cons x r =>
    have : ns[k]? = some x := by
      have := congrArg (fun l => l[0]?) h
      simpa using this
    simp [List.getD_eq_getElem?_getD, this]
theorem len_cut_le {α : Type} {xs : List α} {lo hi : Option Int} : (cut xs lo hi).length ≤ xs.length := by
  unfold cut
  rw [List.length_take, List.length_drop]
  omega
/-! ### comprehensions -/
/-- every item kept -/
theorem lc_map {h : D → S → Option S} {c : SemT} {f : Sem} {vs : List Nat} {t : D → T} {s0 : S} : ∀ {ds : List D} {s : S} {acc : List T}, s.wipe vs = s0 → s0.wipe vs = s0 → acc.length + ds.length ≤ sizeLine →
    (∀ d ∈ ds, ∃ s1 s2 s3, h d s0 = some s1 ∧ c s1 = .ok true s2 ∧ f s2 = .ok (t d) s3 ∧ s3.wipe vs = s0) → ∃ s', sLcLoop h c f vs ds s acc = .ok (acc ++ ds.map t) s' ∧ s'.wipe vs = s0
  | [], s, acc, hw, _, _, _ => ⟨s, by simp [sLcLoop], hw⟩
  | d :: ds, s, acc, hw, h0, hl, hs => by
    obtain ⟨s1, s2, s3, e1, e2, e3, e4⟩ := hs d (by simp)
    have hl' : (acc ++ [t d]).length + ds.length ≤ sizeLine := by
      rw [List.length_append, List.length_singleton]
      rw [List.length_cons] at hl
      omega
    obtain ⟨s', e5, e6⟩ := lc_map (h := h) (c := c) (f := f) (t := t) (ds := ds) (s := s3.wipe vs) (acc := acc ++ [t d]) (by rw [e4]; exact h0) h0 hl' fun d' hd' => hs d' (by simp [hd'])
    refine ⟨s', ?_, e6⟩
    rw [List.length_cons] at hl
    unfold sLcLoop
    simp only [hw, e1, e2, e3, if_pos (show acc.length < sizeLine by omega), e5]
    simp
theorem sLc_map {fi : SemI} {h : D → S → Option S} {c : SemT} {f : Sem} {vs : List Nat} {ds : List D} {s s1 s0 : S} (t : D → T) (e : fi s = .ok ds s1) (hw : s1.wipe vs = s0) (h0 : s0.wipe vs = s0) (hl : ds.length ≤ sizeLine)
    (hs : ∀ d ∈ ds, ∃ s1 s2 s3, h d s0 = some s1 ∧ c s1 = .ok true s2 ∧ f s2 = .ok (t d) s3 ∧ s3.wipe vs = s0) : sLc fi h c f vs s = .ok (.lst (ds.map t)) ⟨backR s.r s0.r vs, s0.p⟩ := by
  obtain ⟨s', e5, e6⟩ := lc_map (h := h) (c := c) (f := f) (t := t) (acc := []) hw h0 (by simpa using hl) hs
  rw [sLc_eq, e, bind_ok, e5, bind_ok, ← e6]
  rfl
/-- .. or dropped -/
theorem lc_filter {h : D → S → Option S} {c : SemT} {f : Sem} {vs : List Nat} {t : D → T} {b : D → Bool} {s0 : S} : ∀ {ds : List D} {s : S} {acc : List T}, s.wipe vs = s0 → s0.wipe vs = s0 → acc.length + ds.length ≤ sizeLine →
    (∀ d ∈ ds, ∃ s1 s2, h d s0 = some s1 ∧ c s1 = .ok (b d) s2 ∧ s2.wipe vs = s0 ∧ (b d = true → ∃ s3, f s2 = .ok (t d) s3 ∧ s3.wipe vs = s0)) → ∃ s', sLcLoop h c f vs ds s acc = .ok (acc ++ (ds.filter b).map t) s' ∧ s'.wipe vs = s0
  | [], s, acc, hw, _, _, _ => ⟨s, by simp [sLcLoop], hw⟩
  | d :: ds, s, acc, hw, h0, hl, hs => by
    obtain ⟨s1, s2, e1, e2, e3, e4⟩ := hs d (by simp)
    rw [List.length_cons] at hl
    cases hb : b d with
    | true =>
      obtain ⟨s3, e7, e8⟩ := e4 hb
      have hl' : (acc ++ [t d]).length + ds.length ≤ sizeLine := by
        rw [List.length_append, List.length_singleton]
        omega
      obtain ⟨s', e5, e6⟩ := lc_filter (h := h) (c := c) (f := f) (t := t) (b := b) (ds := ds) (s := s3.wipe vs) (acc := acc ++ [t d]) (by rw [e8]; exact h0) h0 hl' fun d' hd' => hs d' (by simp [hd'])
      refine ⟨s', ?_, e6⟩
      unfold sLcLoop
      rw [hb] at e2
      simp only [hw, e1, e2, e7, if_pos (show acc.length < sizeLine by omega), e5, List.filter_cons, hb]
      simp
    | false =>
      obtain ⟨s', e5, e6⟩ := lc_filter (h := h) (c := c) (f := f) (t := t) (b := b) (ds := ds) (s := s2.wipe vs) (acc := acc) (by rw [e3]; exact h0) h0 (by omega) fun d' hd' => hs d' (by simp [hd'])
      refine ⟨s', ?_, e6⟩
      unfold sLcLoop
      rw [hb] at e2
      simp only [hw, e1, e2, e5, List.filter_cons, hb]
      simp
theorem sLc_filter {fi : SemI} {h : D → S → Option S} {c : SemT} {f : Sem} {vs : List Nat} {ds : List D} {s s1 s0 : S} (t : D → T) (b : D → Bool) (e : fi s = .ok ds s1) (hw : s1.wipe vs = s0) (h0 : s0.wipe vs = s0) (hl : ds.length ≤ sizeLine)
    (hs : ∀ d ∈ ds, ∃ s1 s2, h d s0 = some s1 ∧ c s1 = .ok (b d) s2 ∧ s2.wipe vs = s0 ∧ (b d = true → ∃ s3, f s2 = .ok (t d) s3 ∧ s3.wipe vs = s0)) : sLc fi h c f vs s = .ok (.lst ((ds.filter b).map t)) ⟨backR s.r s0.r vs, s0.p⟩ := by
  obtain ⟨s', e5, e6⟩ := lc_filter (h := h) (c := c) (f := f) (t := t) (b := b) (acc := []) hw h0 (by simpa using hl) hs
  rw [sLc_eq, e, bind_ok, e5, bind_ok, ← e6]
  rfl
theorem mem_intsFrom {d : D} : ∀ {n : Nat} {lo : Int}, d ∈ intsFrom lo n → ∃ i : Nat, i < n ∧ d = .int (lo + i)
  | 0, _, h => by simp [intsFrom] at h
  | n + 1, lo, h => by
    rcases List.mem_cons.mp h with e | h
    · exact ⟨0, by omega, by rw [e]; simp⟩
    · obtain ⟨i, hi, e⟩ := mem_intsFrom h
      exact ⟨i + 1, by omega, by rw [e]; congr 1; omega⟩
theorem intsFrom_map : ∀ (n : Nat) (lo : Int), intsFrom lo n = (List.range n).map fun i : Nat => .int (lo + i)
  | 0, _ => rfl
  | n + 1, lo => by
    rw [intsFrom, intsFrom_map n (lo + 1), List.range_succ_eq_map, List.map_cons, List.map_map]
    simp only [Int.natCast_zero, Int.add_zero, List.cons.injEq, true_and]
    apply List.map_congr_left
    intro i _
    simp only [Function.comp]
    congr 1
    omega
/-! ### one turn, as an equation -/
def Res.wp {α : Type} (vs : List Nat) : Res α → Res α
  | .ok a s => .ok a (s.wipe vs)
  | R => R
@[simp] theorem wp_ok {α : Type} {vs : List Nat} {a : α} {s : S} : (Res.ok a s).wp vs = .ok a (s.wipe vs) := rfl
def lcS (h : D → S → Option S) (c : SemT) (f : Sem) (vs : List Nat) (d : D) (s : S) : Res (Option T) :=
  (match h d s with
  | none => Res.bad
  | some s1 => (c s1).bind fun b s2 => if b then (f s2).bind fun t s3 => .ok (some t) s3 else .ok none s2).wp vs
theorem lcS_some {h : D → S → Option S} {c : SemT} {f : Sem} {vs : List Nat} {d : D} {s s0 : S} {t : T} (e : lcS h c f vs d s = .ok (some t) s0) :
    ∃ s1 s2 s3, h d s = some s1 ∧ c s1 = .ok true s2 ∧ f s2 = .ok t s3 ∧ s3.wipe vs = s0 := by
  unfold lcS at e
  cases e1 : h d s with
  | none => rw [e1] at e; cases e
  | some s1 =>
    rw [e1] at e
    simp only at e
    cases e2 : c s1 with
    | bad => rw [e2] at e; cases e
    | exc x s2 => rw [e2] at e; cases e
    | ok b s2 =>
      rw [e2] at e
      cases b with
      | false => cases e
      | true =>
        rw [bind_ok, if_pos rfl] at e
        cases e3 : f s2 with
        | bad => rw [e3] at e; cases e
        | exc x s3 => rw [e3] at e; cases e
        | ok t' s3 =>
          rw [e3] at e
          cases e
          exact ⟨s1, s2, s3, rfl, e2, e3, rfl⟩
theorem lcS_none {h : D → S → Option S} {c : SemT} {f : Sem} {vs : List Nat} {d : D} {s s0 : S} (e : lcS h c f vs d s = .ok none s0) :
    ∃ s1 s2, h d s = some s1 ∧ c s1 = .ok false s2 ∧ s2.wipe vs = s0 := by
  unfold lcS at e
  cases e1 : h d s with
  | none => rw [e1] at e; cases e
  | some s1 =>
    rw [e1] at e
    simp only at e
    cases e2 : c s1 with
    | bad => rw [e2] at e; cases e
    | exc x s2 => rw [e2] at e; cases e
    | ok b s2 =>
      rw [e2] at e
      cases b with
      | false => cases e; exact ⟨s1, s2, rfl, e2, rfl⟩
      | true =>
        rw [bind_ok, if_pos rfl] at e
        cases e3 : f s2 with
        | bad => rw [e3] at e; cases e
        | exc x s3 => rw [e3] at e; cases e
        | ok t' s3 => rw [e3] at e; cases e
theorem lc_fm {α : Type} {h : D → S → Option S} {c : SemT} {f : Sem} {vs : List Nat} {e : α → D} {g : α → Option T} {s0 : S} : ∀ {l : List α} {s : S} {acc : List T}, s.wipe vs = s0 → s0.wipe vs = s0 → acc.length + l.length ≤ sizeLine →
    (∀ a ∈ l, lcS h c f vs (e a) s0 = .ok (g a) s0) → ∃ s', sLcLoop h c f vs (l.map e) s acc = .ok (acc ++ l.filterMap g) s' ∧ s'.wipe vs = s0
  | [], s, acc, hw, _, _, _ => ⟨s, by simp [sLcLoop], hw⟩
  | a :: l, s, acc, hw, h0, hl, hs => by
    have E := hs a (by simp)
    rw [List.length_cons] at hl
    cases hb : g a with
    | some t =>
      rw [hb] at E
      obtain ⟨s1, s2, s3, e1, e2, e3, e4⟩ := lcS_some E
      have hl' : (acc ++ [t]).length + l.length ≤ sizeLine := by
        rw [List.length_append, List.length_singleton]
        omega
      obtain ⟨s', e5, e6⟩ := lc_fm (h := h) (c := c) (f := f) (e := e) (g := g) (l := l) (s := s3.wipe vs) (acc := acc ++ [t]) (by rw [e4]; exact h0) h0 hl' fun d' hd' => hs d' (by simp [hd'])
      refine ⟨s', ?_, e6⟩
      rw [List.map_cons]
      unfold sLcLoop
      simp only [hw, e1, e2, e3, if_pos (show acc.length < sizeLine by omega), e5, List.filterMap_cons, hb]
      simp
    | none =>
      rw [hb] at E
      obtain ⟨s1, s2, e1, e2, e3⟩ := lcS_none E
      obtain ⟨s', e5, e6⟩ := lc_fm (h := h) (c := c) (f := f) (e := e) (g := g) (l := l) (s := s2.wipe vs) (acc := acc) (by rw [e3]; exact h0) h0 (by omega) fun d' hd' => hs d' (by simp [hd'])
      refine ⟨s', ?_, e6⟩
      rw [List.map_cons]
      unfold sLcLoop
      simp only [hw, e1, e2, e5, List.filterMap_cons, hb]
      try simp
theorem sLc_fm {α : Type} {fi : SemI} {h : D → S → Option S} {c : SemT} {f : Sem} {vs : List Nat} {s s1 s0 : S} {l : List α} (e : α → D) (g : α → Option T) (ei : fi s = .ok (l.map e) s1) (hw : s1.wipe vs = s0) (h0 : s0.wipe vs = s0) (hl : l.length ≤ sizeLine)
    (hs : ∀ a ∈ l, lcS h c f vs (e a) s0 = .ok (g a) s0) : sLc fi h c f vs s = .ok (.lst (l.filterMap g)) ⟨backR s.r s0.r vs, s0.p⟩ := by
  obtain ⟨s', e5, e6⟩ := lc_fm (h := h) (c := c) (f := f) (acc := []) hw h0 (by simpa using hl) hs
  rw [sLc_eq, ei, bind_ok, e5, bind_ok, ← e6]
  rfl
theorem fm_map {α β : Type} {g : α → β} : ∀ {l : List α}, l.filterMap (fun a => some (g a)) = l.map g
  | [] => rfl
  | a :: l => by rw [List.filterMap_cons, List.map_cons, fm_map]
theorem sLc_mp {α : Type} {fi : SemI} {h : D → S → Option S} {c : SemT} {f : Sem} {vs : List Nat} {s s1 s0 : S} {l : List α} (e : α → D) (g : α → T) (ei : fi s = .ok (l.map e) s1) (hw : s1.wipe vs = s0) (h0 : s0.wipe vs = s0) (hl : l.length ≤ sizeLine)
    (hs : ∀ a ∈ l, lcS h c f vs (e a) s0 = .ok (some (g a)) s0) : sLc fi h c f vs s = .ok (.lst (l.map g)) ⟨backR s.r s0.r vs, s0.p⟩ := by
  rw [sLc_fm e (fun a => some (g a)) ei hw h0 hl hs, fm_map]
/-- one turn of a loop -/
def sTurn (h : D → S → Option S) (body : SemS) (d : D) (s : S) : Fl := match h d s with
  | none => .bad
  | some s1 => match body s1 with
    | .cont s2 => .next s2
    | R => R
theorem turn_next {h : D → S → Option S} {body : SemS} {d : D} {s s' : S} {ds : List D} (e : sTurn h body d s = .next s') : sLoop h body (d :: ds) s = sLoop h body ds s' := by
  rw [sLoop_cons]
  unfold sTurn at e
  cases e1 : h d s with
  | none => rw [e1] at e; cases e
  | some s1 =>
    rw [e1] at e
    simp only at e ⊢
    cases e2 : body s1 <;> rw [e2] at e <;> cases e <;> rfl
theorem turn_ret {h : D → S → Option S} {body : SemS} {d : D} {s s' : S} {t : T} {ds : List D} (e : sTurn h body d s = .ret t s') : sLoop h body (d :: ds) s = .ret t s' := by
  rw [sLoop_cons]
  unfold sTurn at e
  cases e1 : h d s with
  | none => rw [e1] at e; cases e
  | some s1 =>
    rw [e1] at e
    simp only at e ⊢
    cases e2 : body s1 <;> rw [e2] at e <;> cases e <;> rfl
theorem turn_brk {h : D → S → Option S} {body : SemS} {d : D} {s s' : S} {ds : List D} (e : sTurn h body d s = .brk s') : sLoop h body (d :: ds) s = .next s' := by
  rw [sLoop_cons]
  unfold sTurn at e
  cases e1 : h d s with
  | none => rw [e1] at e; cases e
  | some s1 =>
    rw [e1] at e
    simp only at e ⊢
    cases e2 : body s1 <;> rw [e2] at e <;> cases e <;> rfl
/-- a loop that goes on to its end: a fold, with an invariant, and with slots that nobody reads -/
theorem loop_fold {α σ U : Type} {h : D → S → Option S} {body : SemS} (e : α → D) (mk : σ → U → S) (upd : σ → α → σ) (I : List α → σ → Prop) : ∀ (l : List α) (st : σ) (u : U), I l st →
    (∀ a r st u, I (a :: r) st → I r (upd st a) ∧ ∃ u', sTurn h body (e a) (mk st u) = .next (mk (upd st a) u')) → ∃ u', sLoop h body (l.map e) (mk st u) = .next (mk (l.foldl upd st) u')
  | [], st, u, _, _ => ⟨u, rfl⟩
  | a :: l, st, u, hi, hs => by
    obtain ⟨h1, u', h2⟩ := hs a l st u hi
    obtain ⟨u'', h3⟩ := loop_fold (h := h) (body := body) e mk upd I l (upd st a) u' h1 hs
    exact ⟨u'', by rw [List.map_cons, turn_next h2, h3]; rfl⟩
/-- a loop that changes nothing but slots nobody reads -/
theorem loop_same {α U : Type} {h : D → S → Option S} {body : SemS} (e : α → D) (mk : U → S) : ∀ (l : List α) (u : U),
    (∀ a ∈ l, ∀ u, ∃ u', sTurn h body (e a) (mk u) = .next (mk u')) → ∃ u', sLoop h body (l.map e) (mk u) = .next (mk u')
  | [], u, _ => ⟨u, rfl⟩
  | a :: l, u, hs => by
    obtain ⟨u', h2⟩ := hs a (by simp) u
    obtain ⟨u'', h3⟩ := loop_same (h := h) (body := body) e mk l u' fun a ha => hs a (by simp [ha])
    exact ⟨u'', by rw [List.map_cons, turn_next h2, h3]⟩
theorem intsFrom_int (n : Nat) (lo : Int) : BT.intsFrom lo n = ((List.range n).map fun i : Nat => lo + (i : Int)).map D.int := by
  rw [intsFrom_map, List.map_map]
  rfl
theorem intsFrom0 (n : Nat) : BT.intsFrom 0 n = (List.range n).map fun i : Nat => D.int (i : Int) := by
  rw [intsFrom_map]
  simp
@[simp] theorem datL_f {α : Type} {sd : List D} {g : α → D} : ∀ {l : List α}, T.datL sd (l.map fun i => T.d (g i)) = l.map g
  | [] => rfl
  | a :: l => by rw [List.map_cons, datL_cons, datL_f]; rfl
@[simp] theorem naL_f {α : Type} {g : α → D} : ∀ {l : List α}, T.naL (l.map fun i => T.d (g i)) = true
  | [] => rfl
  | a :: l => by rw [List.map_cons, naL_cons, naL_f]; rfl
@[simp] theorem bls_f {α : Type} {g : α → Bool} {l : List α} : D.bls (l.map fun i => D.bl (g i)) = some (l.map g) := by
  have := bls_map (bs := l.map g)
  rw [List.map_map] at this
  exact this
@[simp] theorem ints_f {α : Type} {g : α → Int} {l : List α} : D.ints (l.map fun i => D.int (g i)) = some (l.map g) := by
  have := ints_map (bs := l.map g)
  rw [List.map_map] at this
  exact this
theorem getD_lt {α : Type} {xs : List α} {i : Nat} {z : α} (h : i < xs.length) : xs[i]?.getD z = xs[i] := by
  rw [List.getElem?_eq_getElem h]; rfl
/-- an item that is there -/
theorem at_get {xs : List Int} {i : Nat} (h : i < xs.length) : atI (xs.map D.int) (i : Int) = some (.int (xs[i]?.getD 0)) := by
  rw [atI_map, atI_nat (List.getElem?_eq_getElem h), getD_lt h]; rfl
theorem pick1 {ns : List Int} {k : Nat} : gAdd (.lst ((cut ns (some (k : Int)) (some ((k : Int) + 1))).map D.int)) (.lst [.int 0]) = if (cut ns (some (k : Int)) (some ((k : Int) + 1))).length + 1 ≤ sizeLine then some (.lst ((cut ns (some (k : Int)) (some ((k : Int) + 1))).map D.int ++ [.int 0])) else none := by
  rw [gAdd_l, List.length_map]
  rfl
/-- an index that is within -/
theorem at_mem {α : Type} {xs : List α} {m : Int} (h0 : 0 ≤ m) (h : m < xs.length) : ∃ d, d ∈ xs ∧ atI xs m = some d := by
  have hk : m.toNat < xs.length := by omega
  refine ⟨xs[m.toNat], List.getElem_mem hk, ?_⟩
  rw [atI_nn h0 h, List.getElem?_eq_getElem hk]
/-- a loop with an invariant over what is left and the state -/
theorem loop_inv {α : Type} {h : D → S → Option S} {body : SemS} (e : α → D) (I : List α → S → Prop) : ∀ (l : List α) (s : S), I l s →
    (∀ a r s, I (a :: r) s → ∃ s', sTurn h body (e a) s = .next s' ∧ I r s') → ∃ s', sLoop h body (l.map e) s = .next s' ∧ I [] s'
  | [], s, hi, _ => ⟨s, rfl, hi⟩
  | a :: l, s, hi, hs => by
    obtain ⟨s1, h1, h2⟩ := hs a l s hi
    obtain ⟨s', h3, h4⟩ := loop_inv (h := h) (body := body) e I l s1 h2 hs
    exact ⟨s', by rw [List.map_cons, turn_next h1, h3], h4⟩
/-- the last item -/
theorem at_last {α : Type} {xs : List α} (h : xs ≠ []) : ∃ v, atI xs (-1) = some v := by
  have hl : 0 < xs.length := List.length_pos_iff.mpr h
  refine ⟨xs[xs.length - 1], ?_⟩
  unfold atI ixN
  have e : (-1 + (xs.length : Int)).toNat = xs.length - 1 := by omega
  have hk : xs.length - 1 < xs.length := by omega
  simp [show (-(xs.length : Int)) ≤ -1 by omega, e, List.getElem?_eq_getElem hk]
end BT
/-! BN: a slot that comes to stand still; an empty dict. -/
namespace BT
open PySem PySem.Spec PyProof.Rows L2
section
variable [CA] {K : PySem.W.Frag} {F G G' H H' : Hp} {σ : L2.St} {s s' : S} {pv pv' : List V} {W : WX}
open Classical in
theorem Sim.still {i : Nat} {t : T} (h : Sim K F G H σ s pv) (e : s.r[i]? = some (some t)) :
    ∃ G' v, Post F G G' ∧ σ[i]? = some (some v) ∧ Vw K G' v (t.dat []) ∧ Sim K F G' H σ ⟨s.r.set i (some (.d (t.dat []))), s.p⟩ pv := by
  obtain ⟨ef, eg, A, B, ho, hs, d, n⟩ := h
  obtain ⟨v, A1, A2, e1, h1, h2, d1, d2⟩ := ho.take e
  have g : Ex G (fun a => if A1 a then H a else G a) := fun a o q => by
    have hA : ¬ A1 a := fun z => by
      have := (n a (.inl (d1 a z).1)).2.2
      rw [this] at q; cases q
    show (if A1 a then H a else G a) = some o
    rw [if_neg hA]; exact q
  have hv : Vw K (fun a => if A1 a then H a else G a) v (t.dat []) := h1.vw (sd := []) (fun k v q => .any v) (fun a o b q => by
    show (if A1 a then H a else G a) = some o
    rw [if_pos b]; exact q) g
  have iσ : i < σ.length := (List.getElem?_eq_some_iff.mp e1).1
  have hσ : σ.set i (some v) = σ := by
    apply List.ext_getElem?
    intro j
    by_cases c : i = j
    · subst c
      rw [List.getElem?_set_self iσ, e1]
    · rw [List.getElem?_set_ne c]
  refine ⟨_, v, ⟨g, fun a o q => ?_⟩, e1, hv, ⟨ef, fun a o q => ?_, A2, B, ?_, hs.fm ⟨g, fun _ _ _ q => q, fun _ _ q => q⟩, fun x b => d x (d2 x b), fun x b => ?_⟩⟩
  · have hA : ¬ A1 a := fun z => by
      have := (n a (.inl (d1 a z).1)).2.1
      rw [this] at q; cases q
    show (if A1 a then H a else G a) = G a
    rw [if_neg hA]
  · by_cases hA : A1 a
    · have q' : H a = some o := by
        have : (if A1 a then H a else G a) = some o := q
        rwa [if_pos hA] at this
      exact q'
    · have q' : G a = some o := by
        have : (if A1 a then H a else G a) = some o := q
        rwa [if_neg hA] at this
      exact eg a o q'
  · have h3 := (h2.fm (G' := fun a => if A1 a then H a else G a) (H' := H) (pv' := pv) ⟨g, fun _ _ _ q => q, fun _ _ q => q⟩).put (A := A2) (A1 := fun _ => False) (t := .d (t.dat [])) (v := v) iσ (.d hv) (fun _ z => z.elim) (fun _ z => z)
    rw [hσ, List.set_set] at h3
    exact h3
  · have hx : A x ∨ B x := b.elim (fun z => .inl (d2 x z)) .inr
    have hA : ¬ A1 x := fun z => b.elim (d1 x z).2 (d x (d1 x z).1)
    refine ⟨(n x hx).1, (n x hx).2.1, ?_⟩
    show (if A1 x then H x else G x) = none
    rw [if_neg hA]
    exact (n x hx).2.2
end
/-- a name's reading; what it names stands still from now on -/
def sFz (i : Nat) : Sem := fun s => match s.r[i]? with
  | some (some (.d x)) => .ok (.d x) s
  | some (some (.al k)) => .ok (.al k) s
  | some (some t) => .ok (.d (t.dat [])) ⟨s.r.set i (some (.d (t.dat []))), s.p⟩
  | _ => .bad
section
variable [CA] {K : PySem.W.Frag} {F G G' H H' : Hp} {σ : L2.St} {s s' : S} {pv pv' : List V} {W : WX}
theorem sFz_own {i : Nat} {Q : VK} {t : T} (S : Sim K F G H σ s pv) (e : s.r[i]? = some (some t)) (q : (Res.ok (.d (t.dat [])) ⟨s.r.set i (some (.d (t.dat []))), s.p⟩ : Res T).go (KOk K F G pv σ Q) (KEx K F G pv σ W)) : tVar i σ H Q := by
  obtain ⟨G', v, po, e1, hv, S1⟩ := S.still e
  exact ⟨v, e1, q v G' H pv po (List.prefix_refl _) (S1.push_d hv)⟩
theorem sFz_le {i : Nat} {Q : VK} (h : tOf K W (sFz i) σ H Q) : tVar i σ H Q := by
  obtain ⟨F, G, s, pv, S, q⟩ := h
  have q0 := q
  unfold sFz at q0
  cases e : s.r[i]? with
  | none => rw [e] at q0; exact q0.elim
  | some o =>
    rw [e] at q0
    cases o with
    | none => exact q0.elim
    | some t =>
      cases t with
      | d x => exact sRd_le ⟨F, G, s, pv, S, by unfold sRd; rw [e]; exact q0⟩
      | al k => exact sRd_le ⟨F, G, s, pv, S, by unfold sRd; rw [e]; exact q0⟩
      | lst ts => exact sFz_own S e q0
      | tup ts => exact sFz_own S e q0
      | dic ts => exact sFz_own S e q0
      | obj C ts => exact sFz_own S e q0
end
def sDic : Sem := fun s => .ok (.dic []) s
section
variable [CA] {X : Cx} {W : WX}
theorem r_fz (i : Nat) {x : Str} {pos : Pos} (hN : X.N[i]? = some x := by rfl) (hv : Vis X.env.scope x := by first | exact Or.inl rfl | exact Or.inr (Or.inl rfl) | exact Or.inr (Or.inr rfl)) (hd : (x == ("__debug__" : Str)) = false := by decide)
    (hcd : (x == ("__classdict__" : Str)) = false := by decide) : PE X (.Name x pos) (tOf X.K W (sFz i)) := (pe_var hN hv hd hcd).le fun _ _ _ h => sFz_le h
theorem r_dic {pos : Pos} : PE X (.Dict [] [] pos) (tOf X.K W sDic) := pe_dnewK.le fun σ H Q h p hp => by
  obtain ⟨F, G, s, pv, S, q⟩ := h
  refine q (.ref p) G _ pv .rfl' (List.prefix_refl _) (S.push_new hp fun H1 e => ?_)
  subst e
  exact .dic (B := fun _ => False) (by unfold upd; rw [if_pos rfl]) rfl (fun _ z => z.elim) .nil
end
section
variable {r : List (Option T)} {p : List T} {s : S}
@[simp] theorem sFz_eq {i : Nat} : sFz i s = match s.r[i]? with
  | some (some (.d x)) => .ok (.d x) s
  | some (some (.al k)) => .ok (.al k) s
  | some (some t) => .ok (.d (t.dat [])) ⟨s.r.set i (some (.d (t.dat []))), s.p⟩
  | _ => .bad := id rfl
@[simp] theorem sDic_eq : sDic s = .ok (.dic []) s := rfl
end
theorem sFz_d {i : Nat} {s : S} {x : D} (e : s.r[i]? = some (some (.d x))) : sFz i s = .ok (.d x) s := by
  unfold sFz
  rw [e]
theorem sFz_l {i : Nat} {s : S} {ts : List T} (e : s.r[i]? = some (some (.lst ts))) : sFz i s = .ok (.d (.lst (T.datL [] ts))) ⟨s.r.set i (some (.d (.lst (T.datL [] ts)))), s.p⟩ := by
  unfold sFz
  rw [e]
  rfl
@[simp] theorem na_dic0 : (T.dic []).na = true := rfl
@[simp] theorem ind_dic0 : (T.dic []).ind = true := rfl
@[simp] theorem dat_dic0 {sd : List D} : (T.dic []).dat sd = .dic [] := rfl
end BT
/-! BO: list methods insert, reverse, clear, pop; ranges with a step. -/
namespace BT
open PySem PySem.Spec PyProof.Rows L2
theorem rgC_pos {i j c : Int} (ha : -(2 ^ 62) ≤ i) (ha' : i < 2 ^ 62) (hb : -(2 ^ 62) ≤ j) (hb' : j < 2 ^ 62) (c1 : 1 ≤ c) (c2 : c < 1073741824) : RgC i j c ((j - i + c - 1) / c).toNat := by
  have e : Builtin.Range.rangeSize i j c = (((j - i + c - 1) / c).toNat : Int) := by
    unfold Builtin.Range.rangeSize
    rw [if_pos (show c > 0 by omega)]
    split
    · have e : j - i + c - 1 = (j - i - 1) + 1 * c := by omega
      rw [e, Int.add_mul_ediv_right _ _ (by omega)]
      have := Int.ediv_nonneg (show 0 ≤ j - i - 1 by omega) (show 0 ≤ c by omega)
      omega
    · rename_i h
      have : (j - i + c - 1) / c < 1 := Int.ediv_lt_of_lt_mul (by omega) (by omega)
      omega
  have e2 : 0 ≤ (j - i + c - 1) / c ∨ (j - i + c - 1) / c < 0 := by omega
  have e3 : j > i → (j - i + c - 1) / c ≤ j - i := fun h => by
    apply Int.ediv_le_of_le_mul (by omega)
    have := Int.mul_le_mul_of_nonneg_left (show 1 ≤ c by omega) (show 0 ≤ j - i - 1 by omega)
    rw [Int.mul_one] at this
    have e4 : (j - i) * c = (j - i - 1) * c + c := by rw [Int.sub_mul (j - i) 1 c]; omega
    omega
  refine ⟨by omega, by omega, ?_, e⟩
  unfold Builtin.Range.small
  rw [e]
  simp only [Builtin.Range.rangeFitsLong, Bool.and_eq_true, Bool.or_eq_true, decide_eq_true_eq, beq_iff_eq]
  by_cases h : i < j
  · have := e3 h
    have c0 : c > 0 := by omega
    simp only [c0, if_true, Bool.and_eq_true, decide_eq_true_eq]
    omega
  · have h1 : (j - i + c - 1) / c < 1 := Int.ediv_lt_of_lt_mul (by omega) (by omega)
    omega
def sIns (i : Nat) (fs : SemA) : Sem := fun s => match s.getP i with
  | some (.lst _) => (fs s).bind fun rs s1 => match rs, s1.getP i with
    | [.d (.int k), u], some (.lst ts) => if 0 ≤ k ∧ k ≤ 1073741824 then (if (ts.take k.toNat ++ [u] ++ ts.drop k.toNat).length ≤ sizeLine then .ok (.d .non) (s1.putP i (.lst (ts.take k.toNat ++ [u] ++ ts.drop k.toNat))) else .bad) else .bad
    | _, _ => .bad
  | _ => .bad
def rIns : V → List V → Hp → VK → Prop := fun x vs H Q => ∃ (l : Addr) (xs : List V) (i : Int) (y : V), x = .ref l ∧ vs = [.int i, y] ∧ H l = some (.lst xs) ∧ xs.length < sizeLine ∧ 0 ≤ i ∧ i < 2 ^ 63 ∧
    Q .non (upd H l (.lst (xs.take i.toNat ++ [y] ++ xs.drop i.toNat)))
section
variable [CA] {K : PySem.W.Frag} {F G G' H H' : Hp} {σ : L2.St} {s s' : S} {pv pv' : List V} {W : WX}
theorem sIns_le {i : Nat} {fs : SemA} {Q : VK} (h : tOf K W (sIns i fs) σ H Q) : tBM K "list" rIns (tVar i) (tOfA K W fs) σ H Q := by
  obtain ⟨F, G, s, pv, S, q⟩ := h
  unfold sIns at q
  split at q
  · rename_i ts0 g0
    obtain ⟨a, vs0, e0, h0, _⟩ := getP_lst S g0
    refine ⟨.ref a, e0, .inl ⟨rfl, _, .inl (.inl h0)⟩, F, G, s, pv, S, (bind_use q).imp (fun rs s1 q1 => ?_) fun _ _ z => z⟩
    intro ws G1 H1 pv1 po px el S1
    split at q1
    · rename_i k u ts g1
      match ws, el, S1 with
      | [w1, w2], el, S1 =>
        have hk := vint S1.top_d
        have S2 := S1.pop
        by_cases ck : 0 ≤ k ∧ k ≤ 1073741824
        · rw [if_pos ck] at q1
          by_cases cc : (ts.take k.toNat ++ [u] ++ ts.drop k.toNat).length ≤ sizeLine
          · rw [if_pos cc] at q1
            obtain ⟨a2, vs, e1, h1, lv, kk⟩ := Sim.chg (r := s1.r) (p := s1.p) (ws := [w2]) (rs := [u]) (chg_ins k.toNat) S2 rfl g1 rfl
            rw [e0] at e1
            cases e1
            obtain ⟨us, hu, lu⟩ := len_ins k.toNat ts [u] _ vs [w2] lv rfl rfl
            have hz := cc
            rw [← lu] at hz
            cases hu
            have hlen : vs.length < sizeLine := by
              rw [List.length_append, List.length_append, List.length_take, List.length_drop, List.length_singleton] at hz
              omega
            exact ⟨a, vs, k, w2, rfl, by rw [hk], h1, hlen, ck.1, by omega, q1 .non G1 _ pv1 po px ((kk _ rfl).push_d .non)⟩
          · rw [if_neg cc] at q1
            exact q1.elim
        · rw [if_neg ck] at q1
          exact q1.elim
    · exact q1.elim
  · exact q.elim
end
section
variable [CA] {X : Cx} {W : WX} {e : Expr} {es : List Expr} {f : Sem} {g : SemA} {x : Str} {p apos cpos : Pos}
theorem r_ins (i : Nat) (ha : PA X (e :: es) (tOfA X.K W g)) (hN : X.N[i]? = some x := by rfl) (hv : Vis X.env.scope x := by first | exact Or.inl rfl | exact Or.inr (Or.inl rfl) | exact Or.inr (Or.inr rfl)) (hd : (x == ("__debug__" : Str)) = false := by decide)
    (hcd : (x == ("__classdict__" : Str)) = false := by decide) (hbase : attributeBase (.Name x p) "insert" X.env (eval (.Name x p) X.env) = eval (.Name x p) X.env := by rfl)
    (hfew : ((backTo cpos (starEach (e :: es) X.env)).all (fun x => !x.1) && (backToKw cpos (keywordEach [] X.env)).all (fun x => x.1.isSome) && decide ((e :: es).length + ([] : List Keyword).length + (if ([] : List Keyword).isEmpty then 0 else 1) < 30)) = true := by rfl)
    (hline : (apos.endLine == cpos.line) = true := by rfl) (hs : starEach (e :: es) X.env = (false, eval e X.env) :: starEach es X.env := by rfl) (hplain : (backTo cpos (starEach es X.env)).any (·.1) = false := by rfl) :
    PE X (.Call (.Attribute (.Name x p) "insert" apos) (e :: es) [] cpos) (tOf X.K W (sIns i g)) :=
  (pe_bm PySem.F.plainAttrs_list PySem.F.slot_list_insert PySem.F.type_list_insert mt_insert (pe_var hN hv hd hcd) ha hbase hfew hline hs hplain).le fun _ _ _ h => sIns_le h
theorem r_rev (i : Nat) (hN : X.N[i]? = some x := by rfl) (hv : Vis X.env.scope x := by first | exact Or.inl rfl | exact Or.inr (Or.inl rfl) | exact Or.inr (Or.inr rfl)) (hd : (x == ("__debug__" : Str)) = false := by decide)
    (hcd : (x == ("__classdict__" : Str)) = false := by decide) (hbase : attributeBase (.Name x p) "reverse" X.env (eval (.Name x p) X.env) = eval (.Name x p) X.env := by rfl)
    (hline : (apos.endLine == cpos.line) = true := by rfl) :
    PE X (.Call (.Attribute (.Name x p) "reverse" apos) [] [] cpos) (tOf X.K W (sMut i cRev sAn)) :=
  (pe_bm0 PySem.F.plainAttrs_list PySem.F.slot_list_reverse PySem.F.type_list_reverse mt_reverse (pe_var hN hv hd hcd) hbase hline).le fun σ H Q h => by
    obtain ⟨v, e1, t, q⟩ := sMut_le chg_rev len_rev mok_rev h
    exact ⟨v, e1, t, sAn_le q⟩
theorem r_clr (i : Nat) (hN : X.N[i]? = some x := by rfl) (hv : Vis X.env.scope x := by first | exact Or.inl rfl | exact Or.inr (Or.inl rfl) | exact Or.inr (Or.inr rfl)) (hd : (x == ("__debug__" : Str)) = false := by decide)
    (hcd : (x == ("__classdict__" : Str)) = false := by decide) (hbase : attributeBase (.Name x p) "clear" X.env (eval (.Name x p) X.env) = eval (.Name x p) X.env := by rfl)
    (hline : (apos.endLine == cpos.line) = true := by rfl) :
    PE X (.Call (.Attribute (.Name x p) "clear" apos) [] [] cpos) (tOf X.K W (sMut i cClr sAn)) :=
  (pe_bm0 PySem.F.plainAttrs_list PySem.F.slot_list_clear PySem.F.type_list_clear mt_clear (pe_var hN hv hd hcd) hbase hline).le fun σ H Q h => by
    obtain ⟨v, e1, t, q⟩ := sMut_le chg_clr len_clr mok_clr h
    exact ⟨v, e1, t, sAn_le q⟩
end
noncomputable def iR3 (f g k : Sem) : SemI := fun s => pk f s fun x => pk g s fun y => pk k s fun z => match x, y, z with
  | .int i, .int j, .int c => @ite _ ((-(2 ^ 62) ≤ i ∧ i < 2 ^ 62) ∧ (-(2 ^ 62) ≤ j ∧ j < 2 ^ 62) ∧ 1 ≤ c ∧ c < 1073741824) (Classical.propDecidable _) (.ok (stepsFrom i c ((j - i + c - 1) / c).toNat) s) .bad
  | _, _, _ => .bad
section
variable [CA] {K : PySem.W.Frag} {F G G' H H' : Hp} {σ : L2.St} {s s' : S} {pv pv' : List V} {W : WX}
theorem iR3_le {f g k : Sem} {R : It → Hp → Prop} (h : tOfI K W (iR3 f g k) σ H R) : iRng3 (tCons (tOf K W f) (tCons (tOf K W g) (tCons (tOf K W k) tNil))) σ H R := by
  obtain ⟨F, G, s, pv, S, q⟩ := h
  refine pk_use S q fun v x H1 e1 va S1 q1 => pk_use S1 q1 fun u y H2 e2 vb S2 q2 => pk_use S2 q2 fun w z H3 e3 vc S3 q3 => ?_
  split at q3
  · rename_i i j c
    split at q3
    · rename_i cc
      rw [vint va, vint vb, vint vc]
      exact ⟨i, j, c, _, rfl, rgC_pos cc.1.1 cc.1.2 cc.2.1.1 cc.2.1.2 cc.2.2.1 cc.2.2.2, q3 _ G H3 pv .rfl' (List.prefix_refl _) S3 io_steps⟩
    · exact q3.elim
  · exact q3.elim
end
section
variable [CA] {X : Cx} {W : WX} {e1 e2 e3 : Expr} {f1 f2 f3 : Sem} {p pos : Pos} {tg : Expr}
theorem i_r3 (hm : X.mg "range" = none) (h1 : PE X e1 (tOf X.K W f1)) (h2 : PE X e2 (tOf X.K W f2)) (h3 : PE X e3 (tOf X.K W f3)) (hg : Gl X "range" := by rfl)
    (hs : starEach [e1, e2, e3] X.env = (false, eval e1 X.env) :: starEach [e2, e3] X.env := by rfl)
    (hs2 : starEach [e2, e3] X.env = (false, eval e2 X.env) :: starEach [e3] X.env := by rfl)
    (hs3 : starEach [e3] X.env = (false, eval e3 X.env) :: starEach [] X.env := by rfl)
    (hpl : (backTo pos (starEach [e2, e3] X.env)).any (·.1) = false := by rfl) :
    PI X tg (.Call (.Name "range" p) [e1, e2, e3] [] pos) (tOfI X.K W (iR3 f1 f2 f3)) :=
  (pi_range3 hg hm (pa_cons h1 (pa_cons h2 (pa_cons h3 pa_nil hs3) hs2) hs) hs hpl).le fun _ _ _ q => iR3_le q
end
section
variable {r : List (Option T)} {p : List T} {s : S}
noncomputable def r3k (x y z : D) (s : S) : Res (List D) := match x, y, z with
  | .int i, .int j, .int c => @ite _ ((-(2 ^ 62) ≤ i ∧ i < 2 ^ 62) ∧ (-(2 ^ 62) ≤ j ∧ j < 2 ^ 62) ∧ 1 ≤ c ∧ c < 1073741824) (Classical.propDecidable _) (.ok (stepsFrom i c ((j - i + c - 1) / c).toNat) s) .bad
  | _, _, _ => .bad
@[simp] theorem r3k_i {i j c : Int} : r3k (.int i) (.int j) (.int c) s = if (-(2 ^ 62) ≤ i ∧ i < 2 ^ 62) ∧ (-(2 ^ 62) ≤ j ∧ j < 2 ^ 62) ∧ 1 ≤ c ∧ c < 1073741824 then .ok (stepsFrom i c ((j - i + c - 1) / c).toNat) s else .bad := cIf
@[simp] theorem iR3_eq {f g k : Sem} : iR3 f g k s = pk f s fun x => pk g s fun y => pk k s fun z => r3k x y z s := id rfl
@[simp] theorem cRev_eq {α : Type} {xs : List α} : cRev α xs [] = some xs.reverse := rfl
@[simp] theorem cClr_eq {α : Type} {xs : List α} : cClr α xs [] = some [] := rfl
@[simp] theorem sIns_eq {i : Nat} {fs : SemA} : sIns i fs s = match s.getP i with
  | some (.lst _) => (fs s).bind fun rs s1 => match rs, s1.getP i with
    | [.d (.int k), u], some (.lst ts) => if 0 ≤ k ∧ k ≤ 1073741824 then (if (ts.take k.toNat ++ [u] ++ ts.drop k.toNat).length ≤ sizeLine then .ok (.d .non) (s1.putP i (.lst (ts.take k.toNat ++ [u] ++ ts.drop k.toNat))) else .bad) else .bad
    | _, _ => .bad
  | _ => .bad := id rfl
end
theorem stepsFrom_map : ∀ (n : Nat) (lo c : Int), stepsFrom lo c n = (List.range n).map fun i : Nat => D.int (lo + c * i)
  | 0, _, _ => rfl
  | n + 1, lo, c => by
    rw [stepsFrom, stepsFrom_map n (lo + c) c, List.range_succ_eq_map, List.map_cons, List.map_map]
    simp only [Int.natCast_zero, Int.mul_zero, Int.add_zero, List.cons.injEq, true_and]
    apply List.map_congr_left
    intro i _
    simp only [Function.comp]
    congr 1
    have : c * ((i.succ : Nat) : Int) = c * i + c := by
      rw [Int.natCast_succ, Int.mul_add, Int.mul_one]
    omega
/-- a dict of one pair of numbers -/
def sDic1 (k v : Int) : Sem := fun s => .ok (.dic [(.inl k, .d (.int v))]) s
theorem r_dic1 [CA] {X : Cx} {W : WX} {k v : Int} {j1 p1 j2 p2} {pos : Pos} : PE X (.Dict [some (.Constant (.int k) j1 p1)] [.Constant (.int v) j2 p2] pos) (tOf X.K W (sDic1 k v)) :=
  (pe_disp (pps_cons pe_int pe_int pps_nil) rfl rfl (by simp) (by simp)).le fun σ H Q h p hp => by
    obtain ⟨F, G, s, pv, S, q⟩ := h
    refine ⟨upd_same, [(.inl k, .int v)], rfl, by simp, ?_⟩
    rw [upd_upd]
    refine q (.ref p) G _ pv .rfl' (List.prefix_refl _) (S.push_new hp fun H1 e => ?_)
    subst e
    exact .dic (B := fun _ => False) (vs := [(.inl k, .int v)]) upd_same rfl (fun _ z => z.elim) (.cons (A1 := fun _ => False) (A2 := fun _ => False) (.d (.int v)) .nil (fun _ z => z.elim) (fun _ z => z))
@[simp] theorem sDic1_eq {k v : Int} {s : S} : sDic1 k v s = .ok (.dic [(.inl k, .d (.int v))]) s := rfl
@[simp] theorem na_dic1 {k : Key} {x : D} : (T.dic [(k, .d x)]).na = true := rfl
@[simp] theorem dat_dic1 {sd : List D} {k : Key} {x : D} : (T.dic [(k, .d x)]).dat sd = .dic [(k, x)] := rfl
end BT
/-! BP: lists that take over what others hold: joined, as a tuple. -/
namespace BT
open PySem PySem.Spec PyProof.Rows L2
def sCatO (fa fb : Sem) : Sem := fun s => (fa s).bind fun t s1 => (fb s1).bind fun u s2 => match t.kids, u.kids with
  | some ts, some us => if ts.length + us.length ≤ sizeLine then .ok (.lst (ts ++ us)) s2 else .bad
  | _, _ => .bad
def sTupO (fa : Sem) : Sem := fun s => (fa s).bind fun t s1 => match t.kids with
  | some us => .ok (.tup us) s1
  | none => .bad
section
variable [CA] {K : PySem.W.Frag} {F G G' H H' : Hp} {σ : L2.St} {s s' : S} {pv pv' : List V} {W : WX}
theorem sCatO_le {fa fb : Sem} {Q : VK} (h : tOf K W (sCatO fa fb) σ H Q) : tOp (rCatR K) (tOf K W fa) (tOf K W fb) σ H Q := by
  obtain ⟨F, G, s, pv, S, q⟩ := h
  refine ⟨F, G, s, pv, S, (bind_use q).imp (fun t s1 q1 => ?_) fun _ _ z => z⟩
  intro v G1 H1 pv1 po1 px1 S1
  obtain ⟨F2, S2, a⟩ := Sim.out (σ1 := [some v]) (r1 := [some t]) S1 rfl
  refine ⟨F2, G1, s1, pv1, S2, (bind_use q1).imp (fun u s2 q2 => ?_) fun x s2 q2 => ?_⟩
  · intro w G3 H3 pv3 po3 px3 S3
    cases et : t.kids with
    | none => rw [et] at q2; exact q2.elim
    | some ts =>
      cases eu : u.kids with
      | none => rw [et, eu] at q2; exact q2.elim
      | some us =>
        rw [et, eu] at q2
        have q3 : (if ts.length + us.length ≤ sizeLine then Res.ok (.lst (ts ++ us)) s2 else .bad : Res T).go (KOk K F G pv σ Q) (KEx K F G pv σ W) := q2
        by_cases c : ts.length + us.length ≤ sizeLine
        · rw [if_pos c] at q3
          obtain ⟨b, zs, rfl, hb, lz, S4⟩ := Sim.kids (r := s2.r) (p := s2.p) S3 eu
          have S5 := Sim.back a po3 px3 S4
          obtain ⟨l, xs, rfl, hl, lx, S6⟩ := Sim.kids (r := us.map some ++ s2.r) (p := s2.p) S5 et
          refine ⟨l, b, xs, zs, rfl, rfl, hl, hb, by rw [lx, lz]; exact c, fun p hp => ?_⟩
          have S7 : Sim K F G3 H3 ((xs ++ zs).map some ++ σ) ⟨(ts ++ us).map some ++ s2.r, s2.p⟩ pv3 := by
            rw [List.map_append, List.map_append, List.append_assoc, List.append_assoc]
            exact S6
          exact q3 (.ref p) G3 _ pv3 (po1.tr (a.post po3)) (px1.trans px3) (S7.wrap (by rw [List.length_append, List.length_append, lx, lz]) hp fun H4 A B e1 hh a b => .lst e1 a b hh)
        · rw [if_neg c] at q3
          exact q3.elim
  · intro cls d G3 H3 pv3 po3 px3 S3 r
    have S4 := Sim.back a po3 px3 S3
    exact q2 cls d G3 H3 pv3 (po1.tr (a.post po3)) (px1.trans px3) S4.pop (a.xrep r)
theorem sTupO_le {fa : Sem} {Q : VK} (h : tOf K W (sTupO fa) σ H Q) : tCB (fun xs H Q => ∃ p ys, xs = [.ref p] ∧ ((SqL K H p ys ∧ ∀ l, H l = none → Q (.ref l) (upd H l (.tup ys))) ∨ (SqT K H p ys ∧ Q (.ref p) H))) (tCons (tOf K W fa) tNil) σ H Q := by
  obtain ⟨F, G, s, pv, S, q⟩ := h
  refine ⟨F, G, s, pv, S, (bind_use q).imp (fun t s1 q1 => ?_) fun _ _ z => z⟩
  intro v G1 H1 pv1 po px S1
  cases ek : t.kids with
  | none => rw [ek] at q1; exact q1.elim
  | some us =>
    rw [ek] at q1
    obtain ⟨b, zs, rfl, hb, lz, S2⟩ := Sim.kids (r := s1.r) (p := s1.p) S1 ek
    refine ⟨b, zs, rfl, .inl ⟨hb.l, fun l hl => ?_⟩⟩
    exact q1 (.ref l) G1 _ pv1 po px (S2.wrap lz hl fun H3 A B e1 hh a b => .tup e1 a b hh)
end
section
variable [CA] {X : Cx} {W : WX} {e a b : Expr} {f fa fb : Sem} {p pos : Pos}
theorem r_catO (ha : PE X a (tOf X.K W fa)) (hb : PE X b (tOf X.K W fb)) : PE X (.BinOp a .Add b pos) (tOf X.K W (sCatO fa fb)) := (pe_op op_catR ha hb).le fun _ _ _ h => sCatO_le h
theorem r_tupO (hm : X.mg "tuple" = none) (he : PE X e (tOf X.K W f)) (hg : Gl X "tuple" := by rfl) (hs : starEach [e] X.env = (false, eval e X.env) :: starEach [] X.env := by rfl) (hpl : (backTo pos (starEach [] X.env)).any (·.1) = false := by rfl) :
    PE X (.Call (.Name "tuple" p) [e] [] pos) (tOf X.K W (sTupO f)) := (pe_callTy call_tuple_of hg hm (by decide +kernel) (pa_cons he pa_nil hs) (by decide) (by decide) hs hpl).le fun _ _ _ h => sTupO_le h
end
@[simp] theorem sCatO_eq {fa fb : Sem} {s : S} : sCatO fa fb s = (fa s).bind fun t s1 => (fb s1).bind fun u s2 => match t.kids, u.kids with
  | some ts, some us => if ts.length + us.length ≤ sizeLine then .ok (.lst (ts ++ us)) s2 else .bad
  | _, _ => .bad := id rfl
@[simp] theorem sTupO_eq {fa : Sem} {s : S} : sTupO fa s = (fa s).bind fun t s1 => match t.kids with
  | some us => .ok (.tup us) s1
  | none => .bad := id rfl
end BT
/-! BQ: plain lemmas about bits. -/
namespace BT
open PySem PySem.Spec PyProof.Rows L2
@[simp] theorem gShl_i {i j : Int} : gShl (.int i) (.int j) = if (0 ≤ j ∧ j ≤ 1000000 ∧ i.natAbs < 2 ^ 64) ∨ (0 ≤ j ∧ (Builtin.Int.intBits i : Int) + j ≤ 2 ^ 27) then some (.one (.int (i * 2 ^ j.toNat))) else none := cIf
theorem and_mask {x : Nat} {n : Nat} : Builtin.bitAnd (x : Int) (((2 ^ n - 1 : Nat)) : Int) = ((x % 2 ^ n : Nat) : Int) := by
  rw [bitAnd_pp (by omega) (by omega), Int.toNat_natCast, Int.toNat_natCast, Nat.and_two_pow_sub_one_eq_mod]
theorem and_low {x y n : Nat} (h : y < 2 ^ n) : (x * 2 ^ n) &&& y = 0 := by
  apply Nat.eq_of_testBit_eq
  intro i
  rw [Nat.testBit_and, Nat.zero_testBit, Nat.testBit_mul_two_pow]
  by_cases c : n ≤ i
  · rw [Nat.testBit_lt_two_pow (Nat.lt_of_lt_of_le h (Nat.pow_le_pow_right (by decide) c)), Bool.and_false]
  · simp [c]
theorem or_low {x y n : Nat} (h : y < 2 ^ n) : Builtin.bitOr ((x * 2 ^ n : Nat) : Int) (y : Int) = ((x * 2 ^ n + y : Nat) : Int) := by
  rw [bitOr_and, bitAnd_pp (by omega) (by omega), Int.toNat_natCast, Int.toNat_natCast, and_low h]
  omega
theorem foldl_snoc {α β : Type} (f : α → β) : ∀ (l : List α) (st : List β), l.foldl (fun acc a => acc ++ [f a]) st = st ++ l.map f
  | [], st => by simp
  | a :: l, st => by rw [List.foldl_cons, foldl_snoc f l]; simp
theorem bits_lt {x : Int} {m : Nat} (h : x.natAbs < 2 ^ m) : Builtin.Int.intBits x ≤ m := intBits_le_iff.mpr h
end BT
/-! BR: plain: bytes as digits of six bits. -/
namespace BT
open PySem PySem.Spec PyProof.Rows L2
def part (n b many k : Nat) : Nat := n / 2 ^ (b * (many - 1 - k)) % 2 ^ b
def parts (n b many : Nat) : List Nat := (List.range many).map (part n b many)
def tog (b : Nat) (ds : List Nat) : Nat := ds.foldl (fun n d => n * 2 ^ b + d) 0
theorem tog_from (b : Nat) : ∀ (ds : List Nat) (n : Nat), ds.foldl (fun n d => n * 2 ^ b + d) n = n * 2 ^ (b * ds.length) + tog b ds
  | [], n => by simp [tog]
  | d :: ds, n => by
    rw [tog, List.foldl_cons, List.foldl_cons, tog_from b ds, tog_from b ds (0 * 2 ^ b + d), List.length_cons, Nat.mul_succ, Nat.pow_add, Nat.zero_mul, Nat.zero_add, Nat.add_mul]
    rw [Nat.mul_assoc n, Nat.mul_comm (2 ^ b), Nat.add_assoc]
theorem tog_app (b : Nat) (xs ys : List Nat) : tog b (xs ++ ys) = tog b xs * 2 ^ (b * ys.length) + tog b ys := by
  rw [tog, List.foldl_append, tog_from]
  rfl
theorem tog_lt (b : Nat) : ∀ (ds : List Nat), (∀ d ∈ ds, d < 2 ^ b) → tog b ds < 2 ^ (b * ds.length)
  | [], _ => by simp [tog]
  | d :: ds, h => by
    have e := tog_app b [d] ds
    rw [List.singleton_append] at e
    have e1 : tog b [d] = d := by simp [tog]
    rw [e, e1, List.length_cons, Nat.mul_succ, Nat.pow_add]
    have h1 := tog_lt b ds fun q hq => h q (by simp [hq])
    have h2 := Nat.mul_le_mul_right (2 ^ (b * ds.length)) (Nat.succ_le_of_lt (h d (by simp)))
    rw [Nat.succ_mul, Nat.mul_comm (2 ^ b)] at h2
    omega
/-- of n bytes so many digits of six bits -/
def many6 (n : Nat) : Nat := (8 * n + 5) / 6
def due6 (row : List Nat) : List Nat := parts (tog 8 row * 2 ^ (6 * many6 row.length - 8 * row.length)) 6 (many6 row.length)
def grp6 (g : List Nat) : List Nat := (parts (tog 8 (g ++ List.replicate (3 - g.length) 0)) 6 4).take (1 + g.length)
theorem part_hi (X R b m j k : Nat) (hR : R < 2 ^ (b * m)) (hk : k < j) : part (X * 2 ^ (b * m) + R) b (j + m) k = part X b j k := by
  unfold part
  have e : b * (j + m - 1 - k) = b * m + b * (j - 1 - k) := by
    rw [← Nat.mul_add]
    congr 1
    omega
  rw [e, Nat.pow_add, ← Nat.div_div_eq_div_mul, Nat.mul_comm X, Nat.mul_add_div (Nat.two_pow_pos _), Nat.div_eq_of_lt hR, Nat.add_zero]
theorem part_lo (X R b m j k : Nat) (hk : k < m) : part (X * 2 ^ (b * m) + R) b (j + m) (j + k) = part R b m k := by
  unfold part
  have e0 : j + m - 1 - (j + k) = m - 1 - k := by omega
  have e : b * m = b * (m - 1 - k) + (b + b * k) := by
    rw [show b + b * k = b * (1 + k) by rw [Nat.mul_add, Nat.mul_one], ← Nat.mul_add]
    congr 1
    omega
  rw [e0, e, Nat.pow_add, ← Nat.mul_assoc, Nat.mul_comm X, Nat.mul_assoc, Nat.mul_add_div (Nat.two_pow_pos _), Nat.pow_add, Nat.mul_comm X, Nat.mul_assoc, Nat.mul_add_mod]
theorem parts_app (X R b m j : Nat) (hR : R < 2 ^ (b * m)) : parts (X * 2 ^ (b * m) + R) b (j + m) = parts X b j ++ parts R b m := by
  unfold parts
  rw [List.range_add, List.map_append, List.map_map]
  congr 1
  · apply List.map_congr_left
    intro k hk
    exact part_hi X R b m j k hR (List.mem_range.mp hk)
  · apply List.map_congr_left
    intro k hk
    exact part_lo X R b m j k (List.mem_range.mp hk)
theorem due6_cons (a b c : Nat) (r : List Nat) (h : ∀ d ∈ r, d < 256) : due6 (a :: b :: c :: r) = grp6 [a, b, c] ++ due6 r := by
  unfold due6
  have e1 : many6 (a :: b :: c :: r).length = 4 + many6 r.length := by
    simp only [List.length_cons, many6]
    omega
  have e2 : 6 * (4 + many6 r.length) - 8 * (a :: b :: c :: r).length = 6 * many6 r.length - 8 * r.length := by
    simp only [List.length_cons, many6]
    omega
  have e3 : tog 8 (a :: b :: c :: r) = tog 8 [a, b, c] * 2 ^ (8 * r.length) + tog 8 r := tog_app 8 [a, b, c] r
  have e4 : 8 * r.length + (6 * many6 r.length - 8 * r.length) = 6 * many6 r.length := by
    simp only [many6]
    omega
  have e5 : tog 8 r * 2 ^ (6 * many6 r.length - 8 * r.length) < 2 ^ (6 * many6 r.length) := by
    have := tog_lt 8 r h
    rw [← e4, Nat.pow_add]
    have hp : 0 < 2 ^ (6 * many6 r.length - 8 * r.length) := Nat.two_pow_pos _
    rw [e4]
    exact (Nat.mul_lt_mul_right hp).mpr this
  rw [e1, e2, e3, Nat.add_mul, Nat.mul_assoc, ← Nat.pow_add, e4, parts_app _ _ _ _ _ e5]
  rfl
theorem due6_nil : due6 [] = [] := rfl
theorem due6_one (a : Nat) : due6 [a] = grp6 [a] := by
  simp only [due6, grp6, many6, parts, part, tog, List.length_singleton, List.foldl_cons, List.foldl_nil, List.replicate, List.range, List.range.loop, List.map_cons, List.map_nil, List.cons_append, List.nil_append, List.take, Nat.reduceMul, Nat.reduceAdd, Nat.reduceDiv, Nat.reduceSub]
  simp
  omega
theorem due6_two (a b : Nat) : due6 [a, b] = grp6 [a, b] := by
  simp only [due6, grp6, many6, parts, part, tog, List.length_cons, List.length_nil, List.foldl_cons, List.foldl_nil, List.replicate, List.range, List.range.loop, List.map_cons, List.map_nil, List.cons_append, List.nil_append, List.take, Nat.reduceMul, Nat.reduceAdd, Nat.reduceDiv, Nat.reduceSub]
  simp
  omega
/-- group by group -/
def grps6 (row : List Nat) : List Nat := ((List.range ((row.length + 2) / 3)).map fun k => grp6 ((row.drop (3 * k)).take 3)).flatten
theorem grps6_due : ∀ (row : List Nat), (∀ d ∈ row, d < 256) → grps6 row = due6 row
  | [], _ => rfl
  | [a], _ => by rw [due6_one]; simp [grps6]
  | [a, b], _ => by rw [due6_two]; simp [grps6]
  | a :: b :: c :: r, h => by
    have hr : ∀ d ∈ r, d < 256 := fun d hd => h d (by simp [hd])
    rw [due6_cons a b c r hr, ← grps6_due r hr]
    unfold grps6
    have e : ((a :: b :: c :: r).length + 2) / 3 = (r.length + 2) / 3 + 1 := by
      simp only [List.length_cons]
      omega
    rw [e, List.range_succ_eq_map, List.map_cons, List.flatten_cons, List.map_map]
    refine congrArg (fun z => grp6 [a, b, c] ++ List.flatten z) ?_
    apply List.map_congr_left
    intro k _
    simp only [Function.comp]
    have e2 : 3 * k.succ = 3 * k + 3 := by omega
    rw [e2]
    rfl
@[simp] theorem datL_cmp {α : Type} {sd : List D} {g : α → D} {l : List α} : T.datL sd (l.map (T.d ∘ g)) = l.map g := datL_f
@[simp] theorem naL_cmp {α : Type} {g : α → D} {l : List α} : T.naL (l.map (T.d ∘ g)) = true := naL_f
@[simp] theorem indL_int {α : Type} {g : α → Int} : ∀ {l : List α}, T.indL (l.map fun k => T.d (D.int (g k))) = true
  | [] => rfl
  | a :: l => by rw [List.map_cons, indL_cons, indL_int]; rfl
/-! ### a module's tuple of numbers -/
def intOf : Value → Option Int
  | .int i _ => some i
  | _ => none
theorem vals_ints : ∀ {ns : List Int} {its : List Value}, its.map intOf = ns.map some → Vals (ns.map V.int) its
  | [], [], _ => .nil
  | [], _ :: _, h => by cases h
  | _ :: _, [], h => by cases h
  | n :: ns, u :: us, h => by
    rw [List.map_cons, List.map_cons] at h
    have h1 := (List.cons.inj h).1
    have h2 := (List.cons.inj h).2
    refine .cons ?_ (vals_ints h2)
    cases u with
    | int i t =>
      have : i = n := Option.some.inj h1
      subst this
      exact ⟨t, rfl⟩
    | _ => cases h1
theorem cn_tup [CA] {K : PySem.W.Frag} {h : Heap} {mg : Str → Option Value} {x : Str} {a : Addr} {ns : List Int} {od : Option Addr} {its : Array Value} {n : Nat} {sl : Array (Option Value)} (X : K.In h) (G : h.Ns mainGlobals mg) (hA : PySem.W.nsIn K mainGlobals x = some (some (.ref a)))
    (hL : K.lookup a = some ⟨.type "tuple", od, .seq its n, sl⟩) (hi : (decide (its.size ≤ 1000) && (its.toList.map intOf == ns.map some)) = true) : Cn K mg x (.tup (ns.map D.int)) := by
  rw [Bool.and_eq_true] at hi
  have h1 : its.size ≤ 1000 := of_decide_eq_true hi.1
  have h2 : its.toList.map intOf = ns.map some := eq_of_beq hi.2
  exact ⟨.ref a, .ref a, PySem.W.mg_of X G hA, rfl, fun G' => .tup (vs := ns.map V.int) (.inr ⟨_, its, n, hL, rfl, rfl, Nat.le_trans h1 (by rw [sizeL]; decide), vals_ints h2⟩) (vwl_ints ns)⟩
end BT
/-! BV: an item of a list set anew. -/
namespace BT
open PySem PySem.Spec PyProof.Rows L2
def setK (i : Nat) (t : T) (s1 : S) (ts : List T) (x : D) : Res Unit := match x with
  | .int k => (match ixN ts.length k with
    | some j => Res.ok () (s1.putP i (.lst (ts.set j t)))
    | none => .bad)
  | _ => .bad
/-- name[index] = value -/
def sSetIx (i : Nat) (fi fe : Sem) : SemS := fun s => (fe s).bindF fun t s1 => match s1.getP i with
  | some (.lst ts) => (pk fi s1 fun x => setK i t s1 ts x).bindF fun _ s2 => .next s2
  | _ => .bad
section
variable [CA] {K : PySem.W.Frag} {F F2 G G' H H' : Hp} {σ : L2.St} {s s' : S} {pv pv' : List V} {W : WX} {D : Ends}
theorem sSetIx_le {i : Nat} {fi fe : Sem} (h : sOf K W (sSetIx i fi fe) D σ H) : tAsg (tOf K W fe) (L2.gSub (tVar i) (tOf K W fi) rSetL) D σ H := by
  obtain ⟨F, G, s, pv, S, q⟩ := h
  refine ⟨F, G, s, pv, S, (bindF_use q).imp (fun t s1 q1 => ?_) fun _ _ z => z.kex⟩
  intro v G1 H1 pv1 po px S1
  obtain ⟨F2, S2, a⟩ := Sim.out (σ1 := [some v]) (r1 := [some t]) S1 rfl
  split at q1
  · rename_i ts g1
    obtain ⟨b, vs0, e0, h0, _⟩ := getP_lst S2 g1
    refine ⟨.ref b, e0, pk_use S2 ((bindF_use q1).imp (fun _ _ z => z) fun x s2 q2 => ?_) fun iv x H3 e3 vx S3 q3 => ?_⟩
    · intro cls d G3 H3 pv3 po3 px3 S3 r
      have S4 := Sim.back a po3 px3 S3
      exact q2 cls d σ G3 H3 pv3 (po.tr (a.post po3)) (px.trans px3) S4.pop (a.xrep r)
    · cases x with
      | int k =>
        cases ej : ixN ts.length k with
        | none =>
          have q4 : (setK i t s1 ts (.int k)).go _ _ := q3
          unfold setK at q4
          simp only [ej] at q4
          exact q4.elim
        | some j =>
          have q4 : (setK i t s1 ts (.int k)).go _ _ := q3
          unfold setK at q4
          simp only [ej] at q4
          have S4 := Sim.back a .rfl' (List.prefix_refl _) S3
          have hj : j < ts.length := (ixN_seq ej).2.1
          obtain ⟨b2, vs, e1, h1, lv, kk⟩ := Sim.chg (ws := [v]) (rs := [t]) (r := s1.r) (p := s1.p) (qs := ts.set j t) (chg_set j) S4 rfl g1 (if_pos hj)
          rw [e0] at e1
          cases e1
          refine ⟨b, vs, k, j, rfl, vint vx, h1, by rw [lv]; exact ej, ?_⟩
          exact q4 σ G1 _ pv1 po px (kk _ (if_pos (by rw [lv]; exact hj)))
      | _ => exact (show False from q3).elim
  · exact q1.elim
end
section
variable [CA] {X : Cx} {W : WX} {e ix : Expr} {fi fe : Sem} {pos : Pos}
theorem r_setIx (i : Nat) {x : Str} {np pos' : Pos} (hi : PE X ix (tOf X.K W fi)) (he : PE X e (tOf X.K W fe)) (hN : X.N[i]? = some x := by rfl) (hv : Vis X.env.scope x := by first | exact Or.inl rfl | exact Or.inr (Or.inl rfl) | exact Or.inr (Or.inr rfl)) (hd : (x == ("__debug__" : Str)) = false := by decide)
    (hcd : (x == ("__classdict__" : Str)) = false := by decide)
    (ha : ∀ v, assign (.Subscript (.Name x np) ix pos') X.env v = (do
      let ov ← holding [v] (eval (.Name x np) X.env)
      let iv ← holding [v, ov] (eval ix X.env)
      standAt pos'
      holding [v, ov, iv] (setItem ov iv v)
      release [v, ov, iv] []) := by intro _; rfl)
    (hs : swapsWithSole [.Subscript (.Name x np) ix pos'] e pos.line X.env = pure false := by rfl) (hw : swappedStores [.Subscript (.Name x np) ix pos'] e X.env = pure none := by rfl)
    (h1 : (assignEach [.Subscript (.Name x np) ix pos'] X.env).map (·.2) = [assign (.Subscript (.Name x np) ix pos') X.env] := by rfl) : PS X (.Assign [.Subscript (.Name x np) ix pos'] e pos) (sOf X.K W (sSetIx i fi fe)) :=
  (ps_asg he (pg_sub (pe_var hN hv hd hcd) hi set_list ha) hs hw h1).le fun _ _ _ h => sSetIx_le h
end
@[simp] theorem sSetIx_eq {i : Nat} {fi fe : Sem} {s : S} : sSetIx i fi fe s = (fe s).bindF fun t s1 => match s1.getP i with
  | some (.lst ts) => (pk fi s1 fun x => setK i t s1 ts x).bindF fun _ s2 => .next s2
  | _ => .bad := id rfl
@[simp] theorem setK_i {i : Nat} {t : T} {s1 : S} {ts : List T} {k : Int} : setK i t s1 ts (.int k) = match ixN ts.length k with
  | some j => Res.ok () (s1.putP i (.lst (ts.set j t)))
  | none => .bad := id rfl
end BT
/-! BX: what may be let out of a part; what is known of a def; calls. -/
namespace BT
open PySem PySem.Spec PyProof.Rows L2

abbrev WD (E : XK) : WX := fun cls d _ H => E cls d H
/-- exceptions of this part are taken; strong: their context is None -/
structure Tx (X : Cx) (W : WX) : Prop where
  tk : L2N.Takes X W
  po : PassesOwn (model X.prog X.w) X.A X.env X.xe
structure TxW (X : Cx) (W : WX) : Prop where
  tk : L2.Takes X W
  po : PassesOwn (model X.prog X.w) X.A X.env X.xe
  pa : ∀ hd : Option Value, PassesOwnAt (model X.prog X.w) (X.A.mark hd) X.A X.env X.xe
theorem takes_ns {X : Cx} {W : WX} (t : L2.Takes X W) : L2N.Takes X W := fun u s' x => by
  obtain ⟨a, B, sI, pins, σ, H, cls, d, e, I, nb, up, sky, na, os, ag, w⟩ := x
  refine t u s' ⟨a, B, sI, pins, σ, H, cls, d, e, I, nb, up, ?_, na, os, ag, w⟩
  rcases sky with ⟨h1, h2, h3, oe, vs, h4, h5, h6⟩ | fl | ⟨h1, h2, h3, tz⟩
  · exact .inl ⟨h1, h2, h3, oe, vs, h4, h5.zc, h6⟩
  · exact .inr (.inl (L2H.flyingZ_imp (fun _ z => z.zc) fl))
  · exact .inr (.inr ⟨h1, h2, h3, L2H.tracedZ_imp (fun _ z => z.zc) tz⟩)
theorem TxW.s {X : Cx} {W : WX} (t : TxW X W) : Tx X W := ⟨takes_ns t.tk, t.po⟩
theorem Tx.ps {X : Cx} {W : WX} (t : Tx X W) (σ : L2.St) : PassesAt (L2N.CX X.prog X.w) X σ (WE W σ) := L2N.passAt t.tk σ
theorem TxW.ps {X : Cx} {W : WX} (t : TxW X W) (σ : L2.St) : PassesAt (L2.CX X.prog X.w) X σ (WE W σ) := L2.passAt t.tk σ
/-- where nothing is let out -/
theorem tx0 {X : Cx} (po : PassesOwn (model X.prog X.w) X.A X.env X.xe) : Tx X W0 := ⟨fun u s' x => by
  obtain ⟨_, _, _, _, _, _, _, _, _, _, _, _, _, _, _, _, z⟩ := x
  exact z.elim, po⟩
theorem ps0s {X : Cx} (σ : L2.St) : PassesAt (L2N.CX X.prog X.w) X σ (WE W0 σ) := fun _ _ _ _ _ _ c => by
  obtain ⟨_, _, _, _, _, _, _, _, _, _, _, _, z⟩ := c
  exact z.elim
theorem ps0w {X : Cx} (σ : L2.St) : PassesAt (L2.CX X.prog X.w) X σ (WE W0 σ) := fun _ _ _ _ _ _ c => by
  obtain ⟨_, _, _, _, _, _, _, _, _, _, _, _, z⟩ := c
  exact z.elim
/-- strong is weak -/
theorem fn_weak {P : Program} {w : World} {K : PySem.W.Frag} {mg : Str → Option Value} {base : Heap} {k : Nat} {f : Addr} {fd : FuncData} {ps : List Str} {sp : Sp} (F : FnOk P w K mg base (L2N.CX P w) k f fd ps sp) : FnOk P w K mg base (L2.CX P w) k f fd ps sp :=
  ⟨F.len, fun A outer s H args us vs Q E h1 h2 h3 h4 h5 => codeAny_mono (F.run A outer s H args us vs Q E h1 h2 h3 h4 h5) fun r s' q => by
    cases r with
    | ok fl => cases fl <;> exact q
    | error e =>
      obtain ⟨a, B, H', cls, d, e1, fl, q2⟩ := q
      exact ⟨a, B, H', cls, d, e1, L2H.flyingZ_imp (fun _ z => z.zc) fl, q2⟩⟩

/-- the defaults dd fill up -/
def Bd [CA] (K : PySem.W.Frag) (fd : FuncData) (ps : List Str) (dd : List D) : Prop := ∃ ds dvs, Binds K fd ps ds ∧ Vals dvs ds ∧ ∀ H, VwL K H dvs dd
theorem bd_nil [CA] {K : PySem.W.Frag} {fd : FuncData} {ps : List Str} (h : Binds K fd ps []) : Bd K fd ps [] := ⟨[], [], h, .nil, fun _ => .nil⟩
/-- a def's promise -/
structure Df [CA] (CX : CXT) (P : Program) (w : World) (K : PySem.W.Frag) (mg : Str → Option Value) (base : Heap) (f : Addr) (n : Nat) (Φ : SemF) (k : Nat) (dds : List (List D)) : Prop where
  ex : ∃ fd ps, FnOk P w K mg base CX k f fd ps (spOf K n Φ) ∧ (∀ dd ∈ dds, Bd K fd ps dd) ∧ Ar Φ n
  kp : PySem.W.keepIn K (.ref f) = true
/-- .. at its name -/
def Kf [CA] (CX : CXT) (P : Program) (w : World) (K : PySem.W.Frag) (mg : Str → Option Value) (base : Heap) (x : Str) (n : Nat) (Φ : SemF) (k : Nat) (dds : List (List D)) : Prop :=
  ∃ f, mg x = some (.ref f) ∧ Df CX P w K mg base f n Φ k dds
theorem Df.weak [CA] {P : Program} {w : World} {K : PySem.W.Frag} {mg : Str → Option Value} {base : Heap} {f : Addr} {n : Nat} {Φ : SemF} {k : Nat} {dds : List (List D)} (h : Df (L2N.CX P w) P w K mg base f n Φ k dds) : Df (L2.CX P w) P w K mg base f n Φ k dds := by
  obtain ⟨⟨fd, ps, F, r⟩, kp⟩ := h
  exact ⟨⟨fd, ps, fn_weak F, r⟩, kp⟩
theorem Kf.weak [CA] {P : Program} {w : World} {K : PySem.W.Frag} {mg : Str → Option Value} {base : Heap} {x : Str} {n : Nat} {Φ : SemF} {k : Nat} {dds : List (List D)} (h : Kf (L2N.CX P w) P w K mg base x n Φ k dds) : Kf (L2.CX P w) P w K mg base x n Φ k dds := by
  obtain ⟨f, m, d⟩ := h
  exact ⟨f, m, d.weak⟩
section
variable [CA] {X : Cx} {CX : CXT} {W : WX} {k n : Nat} {Φ : SemF} {x : Str} {p pos : Pos} {e : Expr} {es : List Expr} {fs : SemA} {dds : List (List D)}
/-- f(..), upon what is seen -/
theorem c_p (dd : List D) (K0 : Kf CX X.prog X.w X.K X.mg X.base x n Φ k dds) (hr : Room k X.A) (pa : ∀ σ, PassesAt CX X σ (WE W σ)) (ha : PA X (e :: es) (tOfA X.K W fs)) (hm : dd ∈ dds := by simp)
    (hg : Gl X x := by rfl) (hdb : (x == ("__debug__" : Str)) = false := by decide) (he : starEach (e :: es) X.env = (false, eval e X.env) :: starEach es X.env := by rfl) (hpl : (backTo pos (starEach es X.env)).any (·.1) = false := by rfl) :
    PE X (.Call (.Name x p) (e :: es) [] pos) (tOf X.K W (sCallP Φ dd fs)) := by
  obtain ⟨f, m, ⟨⟨fd, ps, F, b, ar⟩, kp⟩⟩ := K0
  obtain ⟨ds, dvs, hb, hd, hv⟩ := b dd hm
  exact (pe_callSD F hr hg m kp hb hd pa ha hdb he hpl).le fun σ H Q h => sCallP_le (E := fun σ => WE W σ) hv ar (fun _ _ _ z => z) h
/-- .. handing over the arguments' trees -/
theorem c_r (dd : List D) (K0 : Kf CX X.prog X.w X.K X.mg X.base x n Φ k dds) (hr : Room k X.A) (pa : ∀ σ, PassesAt CX X σ (WE W σ)) (ha : PA X (e :: es) (tOfA X.K W fs)) (hm : dd ∈ dds := by simp)
    (hg : Gl X x := by rfl) (hdb : (x == ("__debug__" : Str)) = false := by decide) (he : starEach (e :: es) X.env = (false, eval e X.env) :: starEach es X.env := by rfl) (hpl : (backTo pos (starEach es X.env)).any (·.1) = false := by rfl) :
    PE X (.Call (.Name x p) (e :: es) [] pos) (tOf X.K W (sCallR Φ dd fs)) := by
  obtain ⟨f, m, ⟨⟨fd, ps, F, b, ar⟩, kp⟩⟩ := K0
  obtain ⟨ds, dvs, hb, hd, hv⟩ := b dd hm
  exact (pe_callSD F hr hg m kp hb hd pa ha hdb he hpl).le fun σ H Q h => sCallR_le (E := fun σ => WE W σ) hv ar (fun _ _ _ z => z) h
end
/-- a def of the text where it stands -/
structure Dx (K : PySem.W.Frag) (x qual : Str) (st : Stmt) (dvs : List V) (f : Addr) (fd : FuncData) : Prop where
  fun_ : FunD K x qual (defArgs st) (defBody st) (defScope st) dvs [] f fd
/-- a def's end where it does not return -/
theorem sp_run [CA] {K : PySem.W.Frag} {n N : Nat} {g : SemS} : Ar (runX n N g) n := ar_runX
section
variable [CA] {P : Program} {w : World} {K : PySem.W.Frag} {mg : Str → Option Value} {base : Heap}
theorem fnS {x qual : Str} {st : Stmt} {dvs : List V} {f : Addr} {fd : FuncData} {N ps : List Str} {k n : Nat} {g : SemS} (F : Dx K x qual st dvs f fd) (S : FnScope N ps (defScope st)) (en : ps.length = n)
    (hb : ∀ (cdv : Value) (A : Around) (outer : List Env) (s : Shared) (H : Hp) (E : XK), Room k (A.deeper (envOfC qual (defScope st) s.heap.objs.size f cdv)) →
      Tx (cxOf (L2N.CX P w) P w K mg base N qual (defScope st) f cdv A outer s H E) (WD E) → PSs (cxOf (L2N.CX P w) P w K mg base N qual (defScope st) f cdv A outer s H E) (defBody st) (sOf K (WD E) g)) :
    FnOk P w K mg base (L2N.CX P w) (k + 1) f fd ps (spOf K n (runX n N.length g)) :=
  F.fun_.ok S (fun vs H Q E h => h.1.trans en.symm) fun cdv A outer s H vs Q E hr h => by
    obtain ⟨_, F1, G, ts, p, pv, el, Sm, q⟩ := h
    exact ⟨_, hb cdv A outer s H E hr ⟨L2N.takes_of rfl rfl rfl rfl, L2.passes_of rfl⟩, runX_use N el Sm q fun _ _ _ _ z => z⟩
theorem fnW {x qual : Str} {st : Stmt} {dvs : List V} {f : Addr} {fd : FuncData} {N ps : List Str} {k n : Nat} {g : SemS} (F : Dx K x qual st dvs f fd) (S : FnScope N ps (defScope st)) (en : ps.length = n)
    (hb : ∀ (cdv : Value) (A : Around) (outer : List Env) (s : Shared) (H : Hp) (E : XK), Room k (A.deeper (envOfC qual (defScope st) s.heap.objs.size f cdv)) →
      TxW (cxOf (L2.CX P w) P w K mg base N qual (defScope st) f cdv A outer s H E) (WD E) → PSs (cxOf (L2.CX P w) P w K mg base N qual (defScope st) f cdv A outer s H E) (defBody st) (sOf K (WD E) g)) :
    FnOk P w K mg base (L2.CX P w) (k + 1) f fd ps (spOf K n (runX n N.length g)) :=
  F.fun_.ok S (fun vs H Q E h => h.1.trans en.symm) fun cdv A outer s H vs Q E hr h => by
    obtain ⟨_, F1, G, ts, p, pv, el, Sm, q⟩ := h
    exact ⟨_, hb cdv A outer s H E hr ⟨L2.takes_of rfl rfl rfl rfl, L2.passes_of rfl, L2H.passesAt_of rfl⟩, runX_use N el Sm q fun _ _ _ _ z => z⟩
/-- every parameter is written, no defaults stand -/
theorem bd_n {x qual : Str} {st : Stmt} {f : Addr} {fd : FuncData} {ps : List Str} (F : Dx K x qual st [] f fd)
    (h : ∀ (kV doc pm : Value) (an : Option Addr) (cdv ct : Value) (us : List Value), us.length = ps.length → bindArgs (PySem.W.fnOf x qual (defArgs st) (defBody st) (defScope st) .none kV doc pm an cdv ct) ⟨us, []⟩ = pure (ps.zip us)) : Bd K fd ps [] := by
  obtain ⟨oc, od, dV, kV, doc, pm, an, cdv, ct, osl, rfl, lk, hcd, hD, _⟩ := F.fun_.ex
  rcases hD with ⟨_, rfl⟩ | ⟨z, _⟩
  · exact bd_nil (.all (h kV doc pm an cdv ct))
  · exact absurd rfl z
/-- n are written, the defaults behind the first j fill up -/
theorem bd_d {x qual : Str} {st : Stmt} {dvs : List V} {f : Addr} {fd : FuncData} {ps : List Str} {dd : List D} (F : Dx K x qual st dvs f fd) (n j : Nat) (hd : dvs ≠ []) (hn : n + (dvs.length - j) = ps.length)
    (h : ∀ (T : Addr) (kV doc pm : Value) (an : Option Addr) (cdv ct : Value) (us its : List Value), us.length = n → its.length = dvs.length →
      ∃ k, bindArgs (PySem.W.fnOf x qual (defArgs st) (defBody st) (defScope st) (.ref T) kV doc pm an cdv ct) ⟨us, []⟩ = seqItems? (.ref T) >>= k ∧ k (some its.toArray) = pure (ps.zip (us ++ its.drop j)))
    (hv : ∀ H, VwL K H (dvs.drop j) dd) : Bd K fd ps dd := by
  obtain ⟨ds, r, b⟩ := F.fun_.binds1 n j hd hn h
  exact ⟨ds, _, b, r, hv⟩
end
end BT
/-! BY: exceptions of own classes, made and raised. -/
namespace BT
open PySem PySem.Spec PyProof.Rows L2

/-! ### C.m(..) where C is an own class and m a def of it or of a class above, or ValueError's __init__ -/
/-- what C.m is -/
structure CAt (K : PySem.W.Frag) (C : Addr) (mc : Value) (m : Str) (u : Value) : Prop where
  rd : ClX.CRead K C mc
  at_ : PySem.W.findCls K (.ref C) mc m = some (.val u)
section
variable {X : Cx} {x m : Str} {mc : Value} {p1 p2 pos : Pos} {C : Addr} {e : Expr} {es : List Expr} {ta : TA}
/-- TongueError.__init__(self, ..) -/
theorem pe_baseInit {pl : PySem.Sem Bool} (c : CAt X.K C mc m (.builtin "ValueError.__init__")) (hm : X.mg x = some (.ref C)) (ha : PA X (e :: es) ta) (hg : Gl X x := by rfl) (hdb : (x == ("__debug__" : Str)) = false := by decide)
    (hc : eval (.Call (.Attribute (.Name x p1) m p2) (e :: es) [] pos) X.env = (do
      let ov ← eval (.Name x p1) X.env
      standAt p2.atName
      let (f, first) ← holding [ov] (getMethod ov m pl)
      callWith pos f first (backTo pos (starEach (e :: es) X.env)) (backToKw pos (keywordEach [] X.env))) := by rfl)
    (he : starEach (e :: es) X.env = (false, eval e X.env) :: starEach es X.env := by rfl) (hpl : (backTo pos (starEach es X.env)).any (·.1) = false := by rfl) :
    PE X (.Call (.Attribute (.Name x p1) m p2) (e :: es) [] pos) (tVeI X.K ta) := by
  constructor
  intro pins s σ H Q I h
  refine PySem.W.methodCall_KW (ld_glob I hg hm ?_ hdb) hc
  refine PySem.W.method_cls I.kIn c.rd.ga (PySem.W.cls_value I.kIn c.rd.rd c.at_ rfl ?_)
  refine PyProof.Rows.callWith_method1 (thn (ha.run pos pins _ σ H _ (I.tok _) h) ?_) he hpl
  intro us s1 ⟨vs, H1, I1, r1, a, C1, ws, ev, hl, T, ea, q⟩
  subst ev
  cases r1 with
  | @cons _ u0 _ ur ra rw1 =>
    have ez : u0 = Value.ref a := ra
    subst ez
    refine oinit_ok T I1 ea ?_ fun s2 J => ⟨.non, H1, J, rfl, q⟩
    have hn := Paired.length rw1
    rw [sizeLine_eq]
    omega
/-- Reader.__init__(self, ..): a def read off its class -/
theorem pe_off {pl : PySem.Sem Bool} {CX : CXT} {k : Nat} {f : Addr} {fd : FuncData} {ps : List Str} {sp : Sp} {dvs : List V} {ds : List Value} {E : L2.St → XK} (c : CAt X.K C mc m (.ref f)) (hm : X.mg x = some (.ref C))
    (F : FnOk X.prog X.w X.K X.mg X.base CX k f fd ps sp) (hr : Room k X.A) (hk : PySem.W.keepIn X.K (.ref f) = true) (hb : Binds X.K fd ps ds) (hd : Vals dvs ds) (hx : ∀ σ, PassesAt CX X σ (E σ)) (ha : PA X (e :: es) ta) (hg : Gl X x := by rfl) (hdb : (x == ("__debug__" : Str)) = false := by decide)
    (hc : eval (.Call (.Attribute (.Name x p1) m p2) (e :: es) [] pos) X.env = (do
      let ov ← eval (.Name x p1) X.env
      standAt p2.atName
      let (f, first) ← holding [ov] (getMethod ov m pl)
      callWith pos f first (backTo pos (starEach (e :: es) X.env)) (backToKw pos (keywordEach [] X.env))) := by rfl)
    (he : starEach (e :: es) X.env = (false, eval e X.env) :: starEach es X.env := by rfl) (hpl : (backTo pos (starEach es X.env)).any (·.1) = false := by rfl) :
    PE X (.Call (.Attribute (.Name x p1) m p2) (e :: es) [] pos) (tCallSD sp dvs E ta) := by
  constructor
  intro pins s σ H Q I h
  refine PySem.W.methodCall_KW (ld_glob I hg hm ?_ hdb) hc
  refine PySem.W.method_cls I.kIn c.rd.ga (PySem.W.cls_value I.kIn c.rd.rd c.at_ rfl ?_)
  refine PySem.W.callWith_K (first := []) (h₀ := X.base) I.ok.mod.kin hk (thn (ha.run pos pins _ σ H _ (I.tok _) h) ?_) he hpl
  intro us s1 ⟨vs, H1, I1, r, q⟩
  exact ⟨I1.kIn, run_fnSD F hr hb hd (hx σ) I1 r q⟩
end

/-! ### making an exception of a class with its own __init__ -/
/-- the promise of such an __init__: the fields' names, in the order of the parameters -/
def spX (C : Addr) (names : List Str) : Sp := fun vs H Q _ => ∃ (a : Addr) (ys : List V), vs = .ref a :: ys ∧ ys.length = names.length ∧ H a = some (exo a C none) ∧
  ∀ (dx : Addr) (H2 : Hp), H dx = none → dx ≠ a → H2 a = some (exo a C (some dx)) → H2 dx = some (exd dx (names.zip ys).reverse) → (∀ b, b ≠ a → b ≠ dx → H2 b = H b) → Q .non H2
section
variable {X : Cx} {C fI : Addr} {x : Str} {p pos : Pos} {e : Expr} {es : List Expr} {ta : TA} {names : List Str} {ps : List Str} {fd : FuncData} {k : Nat}
theorem passF {P : Program} {w : World} {X : Cx} : Passes (L2N.CX P w) X (fun _ _ _ => False) := fun _ _ _ _ _ _ _ c => by
  obtain ⟨_, _, _, _, _, _, _, _, _, _, _, _, z⟩ := c
  exact z.elim
/-- X(e, ..): what is made is new, its context None; its dict holds the fields -/
def tMkX (C : Addr) (names : List Str) (ta : TA) : L2.St → Hp → XK → Prop := fun σ H Q => ta σ H fun ys H1 => ys.length = names.length ∧ names.length ≤ 900 ∧ ∀ d H2, H1 d = none → H2 d = some (.xd (names.zip ys).reverse) → (∀ b, b ≠ d → H2 b = H1 b) → Q (.ref C) (some d) H2
theorem pmk_x (T : OexC X.K C) (iC : PySem.W.findIn X.K (.ref C) "__init__" = some (some (.ref fI))) (tI : PySem.W.typeIn X.K (.ref fI) = some (.type "function"))
    (F1 : FnOk X.prog X.w X.K X.mg X.base (L2N.CX X.prog X.w) k fI fd ps (spX C names)) (hr : Room (k + 1) X.A) (hb : Binds X.K fd ps []) (hm : X.mg x = some (.ref C)) (ha : PA X (e :: es) ta) (hg : Gl X x := by rfl)
    (hdb : (x == ("__debug__" : Str)) = false := by decide) (he : starEach (e :: es) X.env = (false, eval e X.env) :: starEach es X.env := by rfl) (hpl : (backTo pos (starEach es X.env)).any (·.1) = false := by rfl) :
    L2N.PMk X (.Call (.Name x p) (e :: es) [] pos) (tMkX C names ta) := by
  intro pins s σ H Q I h
  obtain ⟨nm, qn, N, bs, bm, sn, sub, ab, col, dd, k0, k1, k2, k3, k5, hC, hbm⟩ := T.cls
  refine wpAny_Call_Name_kw (ld_glob I hg hm ?_ hdb)
  refine PySem.W.callWith_K (h₀ := X.base) I.ok.mod.kin T.kC (thn (ha.run pos pins s σ H _ I h) ?_) he hpl
  intro us s1 ⟨vs, H1, I1, r1, ln, lm, q1⟩
  refine ⟨I1.kIn, ?_⟩
  show wpAny _ _ (call (.ref C) us) _ _ _
  have lus : us.length = vs.length := (Paired.length r1).symm
  obtain ⟨hp, g, dr, tk, os⟩ := s1
  generalize hA : hp.objs.size + 1 = a
  have hsz : hp.objs.size ≤ a := by omega
  have hn : H1 a = none := I1.hok.fresh hsz
  generalize hP : (hp.push (PySem.W.kdv_tup us)).push (PySem.HandSPX.excO C hp.objs.size) = hp2
  have kk : ∀ b o, hp.get? b = some o → hp2.get? b = some o := fun b o z => by
    rw [← hP]
    exact Heap.get?_push_of_some _ (Heap.get?_push_of_some _ z)
  have hget : hp2.get? a = some (PySem.HandSPX.excO C hp.objs.size) := by
    rw [← hP, ← hA]
    heap_get
  have I2 : Inv X pins σ (upd H1 a (exo a C none)) ⟨hp2, g, dr, tk, os⟩ := I1.laid (t' := tk) (o := exo a C none) kk hsz (exo_ok hget)
  have r2 : Vals (V.ref a :: vs) (Value.ref a :: us) := .cons rfl r1
  have hsp : spX C names (V.ref a :: vs) (upd H1 a (exo a C none)) (fun v H2 => v = .non ∧ ∃ d, H1 d = none ∧ d ≠ a ∧ H2 a = some (exo a C (some d)) ∧ H2 d = some (exd d (names.zip vs).reverse) ∧ ∀ b, b ≠ a → b ≠ d → H2 b = H1 b) (fun _ _ _ => False) := by
    refine ⟨a, vs, rfl, ln, upd_same, fun d H2 h1 h2 h3 h4 h5 => ⟨rfl, d, ?_, h2, h3, h4, fun b n1 n2 => ?_⟩⟩
    · rw [upd_ne h2] at h1
      exact h1
    · rw [h5 b n1 n2, upd_ne n1]
  have hl : (Value.ref a :: us ++ []).length = ps.length := by
    have z := r2.length
    rw [F1.len _ _ _ _ hsp] at z
    rw [List.append_nil]
    exact z.symm
  have b2 := hb ⟨hp2, g, dr, tk, os⟩ (Value.ref a :: us) I2.kIn hl
  rw [List.append_nil] at b2
  have hus : us.length ≤ sizeLine := by
    rw [sizeLine_eq]
    omega
  subst hP hA
  refine wpAny_call (PySem.HandSPX.call_own F.excBase_ValueError (fun Y => PySem.HandSPX.refsVE_contains Y bm hbm) (I1.kIn _ _ hC) (PySem.W.looks_findIn I1.kIn iC) (fun self => PySem.W.bind_fn I1.kIn self tI) hus
    (codeAny_mono (F1.run _ X.stack _ _ ⟨Value.ref (hp.objs.size + 1) :: us, []⟩ _ _ _ (fun _ _ _ => False) (hr.make C us []) (I2.env0.make C us []) b2 r2 hsp) fun r s2 hq => ?_))
  cases r with
  | error er => exact passF (X := X) pins σ _ _ er s2 I2 hq
  | ok fl =>
    cases fl with
    | next => exact hq.elim
    | brk => exact hq.elim
    | cont => exact hq.elim
    | ret u =>
      obtain ⟨v, H2, os2, bare2, un2, hok2, rv, ev, d, hd1, hda, ea, ed, hfr⟩ := hq
      subst ev
      obtain ⟨h2, g2, d2, t2, os3⟩ := s2
      obtain ⟨t0, G, J, kG, ge, hoe, na⟩ := mk_end0 (d2 := d2) (t2 := t2) I1 hsz kk un2 hok2 os2 bare2 ea ed hd1
      refine ⟨rv, hp.objs.size + 1, _, _, ⟨G, g2, d2, t2, os3⟩, _, .ref C, some d, rfl, J, kG, ge, hoe, ⟨rfl, rfl, fun vs1 hv => ?_⟩, rfl, rfl, na, rfl, bare2, raises_own T.exC T.tyC, ?_⟩
      · cases hv
        rfl
      · refine q1 d _ hd1 upd_same fun b nb => ?_
        rw [upd_ne nb]
        by_cases c : b = hp.objs.size + 1
        · rw [c, del_same, hn]
        · rw [del_ne c, hfr b c nb]
end

/-! ### such an __init__'s body -/
def tOsts (K : PySem.W.Frag) : List (Str × Nat) → TS
  | [] => tNext
  | [q] => tOst K q.1 (tVar 0) (tVar q.2)
  | q :: r => tSeq (tOst K q.1 (tVar 0) (tVar q.2)) (tOsts K r)
theorem osts_go {K : PySem.W.Frag} {C a dx : Addr} {σ : L2.St} {D : Ends} (T : OexC K C) (h0 : σ[0]? = some (some (.ref a))) (hd : dx ≠ a) : ∀ (fl : List (Str × Nat)) (ys : List V) (done : List (Str × V)) (H : Hp), fl.length = ys.length → done.length + fl.length ≤ 900 →
    (∀ q ∈ fl.zip ys, σ[q.1.2]? = some (some q.2)) → (∀ q ∈ fl, PySem.W.findIn K (.ref C) q.1 = some none) → H a = some (exo a C (some dx)) → H dx = some (exd dx done) →
    (∀ H2, H2 a = some (exo a C (some dx)) → H2 dx = some (exd dx (((fl.map (·.1)).zip ys).reverse ++ done)) → (∀ b, b ≠ a → b ≠ dx → H2 b = H b) → D.nx σ H2) → tOsts K fl D σ H
  | [], [], done, H, _, _, _, _, ha, he, k => by
    have := k H ha (by simpa using he) fun _ _ _ => rfl
    exact this
  | [], _ :: _, _, _, e, _, _, _, _, _, _ => by cases e
  | _ :: _, [], _, _, e, _, _, _, _, _, _ => by cases e
  | q :: r, y :: ys, done, H, e, l, hs, hn, ha, he, k => by
    have hy : σ[q.2]? = some (some y) := hs (q, y) (by simp)
    have step : ∀ D2 : Ends, D2.nx σ (upd H dx (exd dx ((q.1, y) :: done))) → tOst K q.1 (tVar 0) (tVar q.2) D2 σ H := fun D2 z =>
      ⟨y, hy, .ref a, h0, a, C, rfl, T, hn q (by simp), .inr ⟨dx, done, ha, he, by simp at l; omega, z⟩⟩
    have rest : ∀ D2 : Ends, (∀ H2, D2.nx σ H2 = D.nx σ H2) → tOsts K r D2 σ (upd H dx (exd dx ((q.1, y) :: done))) := fun D2 hD =>
      osts_go T h0 hd r ys ((q.1, y) :: done) _ (by simpa using e) (by simp at l ⊢; omega) (fun p hp => hs p (by simp [hp])) (fun p hp => hn p (by simp [hp])) (by rw [upd_ne (Ne.symm hd)]; exact ha) upd_same fun H2 z1 z2 z3 => by
        rw [hD]
        refine k H2 z1 (by simpa using z2) fun b n1 n2 => ?_
        rw [z3 b n1 n2, upd_ne n2]
    cases r with
    | nil =>
      cases ys with
      | cons _ _ => cases e
      | nil =>
        refine step D ?_
        refine k _ (by rw [upd_ne (Ne.symm hd)]; exact ha) (by simpa using upd_same) fun b n1 n2 => ?_
        rw [upd_ne n2]
    | cons q2 r => exact step _ (rest D fun _ => rfl)
theorem init_rd {K : PySem.W.Frag} {C a : Addr} {σ : L2.St} {D : Ends} {H : Hp} (T : OexC K C) (h0 : σ[0]? = some (some (.ref a))) (fl : List (Str × Nat)) (ys : List V) (e : fl.length = ys.length) (ne : fl ≠ []) (l : fl.length ≤ 900)
    (hs : ∀ q ∈ fl.zip ys, σ[q.1.2]? = some (some q.2)) (hn : ∀ q ∈ fl, PySem.W.findIn K (.ref C) q.1 = some none) (ha : H a = some (exo a C none))
    (k : ∀ dx H2, H dx = none → dx ≠ a → H2 a = some (exo a C (some dx)) → H2 dx = some (exd dx ((fl.map (·.1)).zip ys).reverse) → (∀ b, b ≠ a → b ≠ dx → H2 b = H b) → D.nx σ H2) : tOsts K fl D σ H := by
  cases fl with
  | nil => exact absurd rfl ne
  | cons q r =>
    cases ys with
    | nil => cases e
    | cons y ys =>
      have hy : σ[q.2]? = some (some y) := hs (q, y) (by simp)
      have step : ∀ D2 : Ends, (∀ dx, H dx = none → dx ≠ a → D2.nx σ (upd (upd H dx (exd dx [(q.1, y)])) a (exo a C (some dx)))) → tOst K q.1 (tVar 0) (tVar q.2) D2 σ H := fun D2 z =>
        ⟨y, hy, .ref a, h0, a, C, rfl, T, hn q (by simp), .inl ⟨ha, z⟩⟩
      cases r with
      | nil =>
        cases ys with
        | cons _ _ => cases e
        | nil =>
          refine step D fun dx n1 n2 => k dx _ n1 n2 upd_same (by rw [upd_ne n2]; exact upd_same) fun b z1 z2 => ?_
          rw [upd_ne z1, upd_ne z2]
      | cons q2 r =>
        refine step _ fun dx n1 n2 => ?_
        refine osts_go T h0 n2 (q2 :: r) ys [(q.1, y)] _ (by simpa using e) (by simp at l ⊢; omega) (fun p hp => hs p (by rw [List.zip_cons_cons]; exact List.mem_cons_of_mem _ hp)) (fun p hp => hn p (List.mem_cons_of_mem _ hp)) upd_same (by rw [upd_ne n2]; exact upd_same) fun H2 z1 z2 z3 => ?_
        refine k dx H2 n1 n2 z1 (by simpa using z2) fun b m1 m2 => ?_
        rw [z3 b m1 m2, upd_ne m1, upd_ne m2]
section
variable {P : Program} {w : World} {K : PySem.W.Frag} {mg : Str → Option Value} {base : Heap}
/-- X.__init__: ValueError's own, then the fields -/
theorem fnInit {C : Addr} {qual : Str} {st : Stmt} {f : Addr} {fd : FuncData} {N : List Str} {names : List Str} {m : Str} (T : OexC K C) (F : Dx K "__init__" qual st [] f fd) (S : FnScope N N (defScope st)) (fl : List (Str × Nat)) (hN : N.length = names.length + 1) (hf : fl = names.zipIdx 1) (ne : names ≠ []) (l : names.length ≤ 900)
    (hn : ∀ q ∈ names, PySem.W.findIn K (.ref C) q = some none)
    (hb : ∀ (cdv : Value) (A : Around) (outer : List Env) (s : Shared) (H : Hp) (E : XK), PSs (cxOf (L2N.CX P w) P w K mg base N qual (defScope st) f cdv A outer s H E) (defBody st) (tSeq (tDrop (tVeI K (tCons (tVar 0) (tCons (tC (.str m)) tNil)))) (tOsts K fl))) :
    FnOk P w K mg base (L2N.CX P w) 1 f fd N (spX C names) := by
  refine F.fun_.ok S (fun vs H Q E h => ?_) fun cdv A outer s H vs Q E _ h => ⟨_, hb cdv A outer s H E, ?_⟩
  · obtain ⟨a, ys, rfl, ly, _⟩ := h
    rw [List.length_cons, ly, hN]
  · obtain ⟨a, ys, rfl, ly, ha, k⟩ := h
    have es : start N (V.ref a :: ys) = (V.ref a :: ys).map some := by
      unfold L2.start
      rw [List.length_cons, ly, hN, Nat.sub_self]
      simp
    have h0 : (start N (V.ref a :: ys))[0]? = some (some (.ref a)) := by rw [es]; rfl
    have lf : fl.length = ys.length := by rw [hf, List.length_zipIdx, ly]
    refine ⟨.ref a, h0, a, C, [.str m], rfl, (by simp), T, ha, ?_⟩
    refine init_rd T h0 fl ys lf (fun z => ne (by rw [hf] at z; simpa using z)) (by rw [lf, ly]; exact l) (fun q hq => ?_) (fun q hq => hn q.1 ?_) ha fun dx H2 n1 n2 z1 z2 z3 => k dx H2 n1 n2 z1 ?_ z3
    · rw [es]
      obtain ⟨⟨q1, q2⟩, q3⟩ := q
      obtain ⟨j, hj⟩ := List.mem_iff_getElem?.mp hq
      rw [List.getElem?_zip_eq_some] at hj
      rw [hf, List.getElem?_zipIdx] at hj
      obtain ⟨h1, h2⟩ := hj
      simp only at h1 h2 ⊢
      cases e : names[j]? with
      | none => rw [e] at h1; cases h1
      | some z =>
        rw [e] at h1
        cases h1
        rw [Nat.add_comm, List.map_cons, List.getElem?_cons_succ, List.getElem?_map, h2]
        rfl
    · rw [hf] at hq
      obtain ⟨j, hj⟩ := List.mem_iff_getElem?.mp hq
      rw [List.getElem?_zipIdx] at hj
      cases e : names[j]? with
      | none => rw [e] at hj; cases hj
      | some z =>
        rw [e] at hj
        cases hj
        exact List.mem_of_getElem? e
    · have : fl.map (·.1) = names := by rw [hf, List.zipIdx_map_fst]
      rw [← this]
      exact z2
end

/-! ### raise, by semantic functions -/
/-- raise X('..') -/
def sRz (C : String) : SemS := fun s => .exc ⟨C, []⟩ s
/-- raise X(e, ..): the fields' names -/
def sRzF (C : String) (names : List String) (fs : SemA) : SemS := fun s => (fs s).bindF fun ts s' => match T.allD ts with
  | some ds => if ds.length = names.length then .exc ⟨C, (names.zip ds).reverse⟩ s' else .bad
  | none => .bad
/-- an own exception class, made with a text -/
structure XCls [CA] (X : Cx) (x : Str) (C : String) : Prop where
  ok : CA.ok C
  ex : ∃ bmB, PySem.W.excIn X.K (CA.ca C) bmB "ValueError.__new__" = true ∧ ExcBaseFacts "ValueError" "ValueError.__new__" "ValueError.__init__" bmB
  kC : PySem.W.keepIn X.K (.ref (CA.ca C)) = true
  exC : PySem.W.subIn X.K (.ref (CA.ca C)) (.type "BaseException") = some true
  tyC : PySem.W.typeIn X.K (.ref (CA.ca C)) = some (.type "type")
  mg : X.mg x = some (.ref (CA.ca C))
section
variable [CA] {K : PySem.W.Frag} {F G G' H H' : Hp} {σ : L2.St} {s s' : S} {pv pv' : List V} {W : WX} {D : Ends}
theorem sRz_le {C : String} (ok : CA.ok C) (h : sOf K W (sRz C) D σ H) : W (.ref (CA.ca C)) none σ H := by
  obtain ⟨F, G, s, pv, S, q⟩ := h
  exact q _ _ σ G H pv .rfl' (List.prefix_refl _) S ⟨ok, rfl, .inl ⟨rfl, rfl⟩⟩
theorem VwL.fields {vs : List V} {ds : List BT.D} (h : VwL K G vs ds) : ∀ {names : List String}, names.length = ds.length → VwF K G ((names.map sS).zip vs) (names.zip ds) := by
  induction ds generalizing vs with
  | nil =>
    intro names e
    cases names with
    | nil => exact .nil
    | cons _ _ => cases e
  | cons d ds ih =>
    intro names e
    cases h with
    | cons h l =>
      cases names with
      | nil => cases e
      | cons n names => exact .cons h (ih l (by simpa using e))
theorem VwF.app {vs ws : List (Str × V)} {ds es : List (String × BT.D)} (h : VwF K G vs ds) (h2 : VwF K G ws es) : VwF K G (vs ++ ws) (ds ++ es) := by
  induction ds generalizing vs with
  | nil => cases h; exact h2
  | cons d ds ih =>
    cases h with
    | cons h l => exact .cons h (ih l)
theorem VwF.rev {vs : List (Str × V)} {ds : List (String × BT.D)} (h : VwF K G vs ds) : VwF K G vs.reverse ds.reverse := by
  induction ds generalizing vs with
  | nil => cases h; exact .nil
  | cons d ds ih =>
    cases h with
    | cons h l =>
      rw [List.reverse_cons, List.reverse_cons]
      exact (ih l).app (.cons h .nil)
/-- the names' roots of data alone: they may be let go -/
theorem Sim.allD {vs : List V} {ts : List T} {ds : List BT.D} {r : List (Option T)} {p : List T} (h : Sim K F G H (vs.map some ++ σ) ⟨ts.map some ++ r, p⟩ pv) (el : vs.length = ts.length) (e : T.allD ts = some ds) : VwL K G vs ds ∧ Sim K F G H σ ⟨r, p⟩ pv := by
  obtain ⟨ef, eg, A, B, ho, hs, d, n⟩ := h
  obtain ⟨A1, A2, h1, h2, d1, d2⟩ := RpO.split (by simpa using el) ho
  exact ⟨h1.kids.allD e, ef, eg, A2, B, h2, hs, fun x b => d x (d2 x b), fun x b => n x (b.elim (fun z => .inl (d2 x z)) .inr)⟩
theorem sRzF_le {C : String} {names : List String} {fs : SemA} (ok : CA.ok C) (ne : names ≠ []) (l : names.length ≤ 900) (h : sOf K W (sRzF C names fs) D σ H) : tMkX (CA.ca C) (names.map sS) (tOfA K W fs) σ H fun cls d H' => W cls d σ H' := by
  obtain ⟨F, G, s, pv, S, q⟩ := h
  refine ⟨F, G, s, pv, S, (bindF_use q).imp (fun ts s1 q1 => ?_) fun _ _ z => z.kex⟩
  intro vs G1 H1 pv1 po px el S1
  cases e : T.allD ts with
  | none => simp only [e] at q1; exact q1.elim
  | some ds =>
    simp only [e] at q1
    by_cases c : ds.length = names.length
    · rw [if_pos c] at q1
      obtain ⟨hv, S2⟩ := Sim.allD (r := s1.r) (p := s1.p) S1 el e
      refine ⟨by rw [List.length_map, hv.len, c], by rw [List.length_map]; exact l, fun d H2 n1 z1 z2 => ?_⟩
      have gd : G1 d = none := by
        cases z : G1 d with
        | none => rfl
        | some o => rw [S2.eg d o z] at n1; cases n1
      have fd : F d = none := by
        cases z : F d with
        | none => rfl
        | some o => rw [S2.ef d o z] at n1; cases n1
      have po2 : Post F G1 (upd G1 d (.xd ((names.map sS).zip vs).reverse)) := ⟨Ex.new gd, fun b o z => by rw [upd_ne (fun w => by rw [w, fd] at z; cases z)]⟩
      have e12 : Ex H1 H2 := fun b o z => by
        rw [z2 b (fun w => by rw [w, n1] at z; cases z)]
        exact z
      have S3 : Sim K F (upd G1 d (.xd ((names.map sS).zip vs).reverse)) H2 σ s1 pv1 := by
        obtain ⟨ef, eg, A, B, ho, hs, dd, n⟩ := S2
        have fm : ∀ Z : AS, Fm K G1 (upd G1 d (.xd ((names.map sS).zip vs).reverse)) H1 H2 pv1 pv1 Z := fun Z => ⟨po2.g, fun b o _ z => e12 b o z, fun _ _ z => z⟩
        refine ⟨ef.tr e12, fun b o z => ?_, A, B, ho.fm (fm A), hs.fm (fm B), dd, fun x b => ?_⟩
        · by_cases w : b = d
          · subst w; rw [upd_same] at z; rw [z1]; exact z
          · rw [upd_ne w] at z; exact e12 b o (eg b o z)
        · obtain ⟨m1, m2, m3⟩ := n x b
          have w : x ≠ d := fun w => m1 (by rw [w]; exact n1)
          refine ⟨fun z => ?_, m2, by rw [upd_ne w]; exact m3⟩
          cases y : H1 x with
          | none => exact m1 y
          | some o => rw [e12 x o y] at z; cases z
      exact q1 _ _ σ _ H2 pv1 (po.tr po2) px S3 ⟨ok, rfl, .inr ⟨d, _, rfl, fd, upd_same, (hv.ex po2.g).fields c.symm |>.rev⟩⟩
    · rw [if_neg c] at q1
      exact q1.elim
end
end BT
/-! BZ: try: .. except X as n: .., the exception kept as a value. -/
namespace BT
open PySem PySem.Spec PyProof.Rows L2
section
variable {X : Cx} {pins : List (Addr × Obj)} {σ : L2.St} {H : Hp} {s : Shared}
theorem inv_hot (I : Inv X pins σ H s) (a : Addr) : Inv (X.suite a (X.pn ++ pins)) [] σ H s :=
  ⟨I.ok.suite a _, I.os, I.bare, I.base, I.loc, I.cell, I.free, I.freeC, fun p hp => I.pin p (by rw [List.append_nil] at hp; exact hp), I.hok, I.len⟩
theorem inv_cool {a : Addr} {pn' : List (Addr × Obj)} (I : Inv (X.suite a (X.pn ++ pins)) pn' σ H s) (ok : X.Ok) : Inv X pins σ H s :=
  ⟨ok, I.os, I.bare, I.base, I.loc, I.cell, I.free, I.freeC, fun p hp => I.pin p (List.mem_append_left _ hp), I.hok, I.len⟩
/-- an exception that came down is laid as an object of ours -/
theorem inv_land {sI : Shared} {B : Heap} {h : Heap} {a : Addr} {cls : Value} {d : Option Addr} (I : Inv X pins σ H sI) (nb : ∀ b o, sI.heap.get? b = some o → b ∉ frs X.stack → B.get? b = some o) (up : sI.heap.UpToSlots h)
    (fl : HandSPX.FlyingZ B X.stack a (Zc cls d) h) (na : H a = none) (os : s.os = sI.os) (ag : AllBare s.gens) : Inv X pins σ (upd H a (ErO cls d a)) { s with heap := h } := by
  obtain ⟨oe, vs, he, hz, hd⟩ := fl.there
  have hB : B.get? a = none := fl.2.1
  have naI : sI.heap.get? a = none := by
    cases e : sI.heap.get? a with
    | none => rfl
    | some o =>
      by_cases m : a ∈ frs X.stack
      · obtain ⟨_, o2, e2, nf⟩ := fl.2.2.1.mem m
        rw [he] at e2
        cases e2
        exact absurd hd (nf vs)
      · rw [nb a o e m] at hB
        cases hB
  obtain ⟨G, g1, g2⟩ := restrict h fun b => decide (b ≠ a)
  have gk : ∀ b, b ≠ a → G.get? b = h.get? b := fun b n => g1 b (decide_eq_true n)
  have ga : G.get? a = none := g2 a (decide_eq_false fun z => z rfl)
  have gs : ∀ b o, G.get? b = some o → h.get? b = some o := fun b o e => by
    have n : b ≠ a := fun z => by rw [z, ga] at e; cases e
    rw [← gk b n]
    exact e
  have st : B.StaysIn G := fun b o e => by
    rw [gk b (fun z => by rw [z, hB] at e; cases e)]
    exact fl.1 b o e
  have up2 : sI.heap.UpToSlots G := fun b o e nf => by
    obtain ⟨sl, z⟩ := up b o e nf
    refine ⟨sl, ?_⟩
    rw [gk b (fun y => by rw [y, naI] at e; cases e)]
    exact z
  have J : Inv X pins σ H { s with heap := G } := I.landed nb st up2 os ag
  have new : ObjOk X.prog X.w (upd H a (ErO cls d a)) h a (ErO cls d a) := ⟨⟨oe, vs, he, hz, hd⟩, ⟨oe, he⟩, fun _ _ ⟨o, v, y1, y2⟩ k => ⟨o, v, k o y1, y2⟩⟩
  have J2 := L2.Inv.laidN (h' := h) (t' := s.toks) J gs ga na new
  exact J2
end
/-- what the clause 'except c as n' wishes of an exception of the body: its object is laid, slot i is n's -/
def wTr (K : PySem.W.Frag) (c : Value) (i : Nat) (ts : TS) (D : Ends) : WX := fun cls d σ H =>
  PySem.W.exmOne K cls c = some true ∧ ∀ a, H a = none →
    ts { nx := fun σ' H' => D.nx (σ'.set i none) H', rt := D.rt, bk := fun σ' H' => D.bk (σ'.set i none) H', ct := fun σ' H' => D.ct (σ'.set i none) H' } (σ.set i (some (.ref a))) (upd H a (ErO cls d a))
section
variable {X : Cx} {x n : Str} {c : Value} {i : Nat} {body suite : List Stmt} {b₀ : Stmt} {np pos pos' : Pos} {tb : WX → TS} {ts : TS}
theorem ps_tryN (hs : X.stack = X.env :: X.outer) (hf : X.env.frame = some X.env.locals) (hN : X.N.Nodup) (hi : X.N[i]? = some n) (hln : X.env.kindOf n = some .local) (hc : Names X x c)
    (hb : ∀ (W : WX) (pn : List (Addr × Obj)) (xe : Value → Shared → Prop), L2.Takes (X.tr pn xe) W → PassesOwn (model X.prog X.w) X.A X.env xe → PSs (X.tr pn xe) body (tb W))
    (hsu : ∀ (a : Addr) (pn : List (Addr × Obj)), PSs (X.suite a pn) (b₀ :: suite) ts) :
    PS X (.Try body [.ExceptHandler (some (.Name x np)) (some n) (b₀ :: suite) pos'] [] [] pos) (fun D σ H => tb (wTr X.K c i ts D) D σ H) := by
  constructor
  intro pins s σ H D I h
  have ok := I.ok
  have hfr : X.A.frames = some (X.env :: X.outer) := ok.frames.trans (congrArg some hs)
  apply wpAny_Try_except
  have run := hb (wTr X.K c i ts D) (X.pn ++ pins)
    (fun e s₁ => wpAny (model X.prog X.w) X.A (noteFrame e X.env)
      (fun _ s₂ => wpAny (model X.prog X.w) X.A (setFlight e none)
        (fun _ s₃ => wpAny (model X.prog X.w) X.A (handleBy e X.env [.ExceptHandler (some (.Name x np)) (some n) (b₀ :: suite) pos']) (SP X pins D) X.xe s₃) X.xe s₂) X.xe s₁)
    ?_ PassesOwn.looking
  · refine wpAny_mono (run.run [] s σ H D (I.toTry _) h) ?_ fun e s1 he => he
    intro f s1 hsp
    cases f with
    | next =>
      obtain ⟨σ1, H1, J, q⟩ := hsp
      exact wpAny_execs_nil ⟨σ1, H1, J.ofTry ok, q⟩
    | brk =>
      obtain ⟨σ1, H1, J, q⟩ := hsp
      exact ⟨σ1, H1, J.ofTry ok, q⟩
    | cont =>
      obtain ⟨σ1, H1, J, q⟩ := hsp
      exact ⟨σ1, H1, J.ofTry ok, q⟩
    | ret u =>
      obtain ⟨v, σ1, H1, J, r, q⟩ := hsp
      exact ⟨v, σ1, H1, J.ofTry ok, r, q⟩
  · intro u s1 xx
    obtain ⟨a, B, sI, pins1, σ1, H1, cls, d, rfl, J0, nb, up, sky, na, os, ag, hb1, hyes⟩ := xx
    have J : Inv X pins σ1 H1 sI := J0.ofTry ok
    have sky2 : Sky B (X.env :: X.outer) a (Zc cls d) X.env.locals s1.heap := by
      rw [← hs]
      exact sky
    refine Sky.land Zc.steady hfr hf sky2 fun h3 fl3 up3 => ?_
    have K3 : Inv X pins σ1 (upd H1 a (ErO cls d a)) { s1 with heap := h3 } := inv_land J nb (up.trans up3) (by rw [hs]; exact fl3) na os ag
    obtain ⟨oe3, vs3, he3, hz3, hd3⟩ := fl3.there
    have S3 := inv_hot K3 a
    refine wpAny_handleBy_cons (codeAny_handlers_test ?_) (fun z => nomatch z)
    have LT : PySem.W.Looks (model X.prog X.w) h3 (typeOf (.ref a)) cls := fun A Q E s k q => wpAny_typeOf_ref (k _ _ he3) (by rw [hz3.1]; exact q)
    have LM := PySem.W.exm_one (M := model X.prog X.w) K3.kIn LT hb1
    have test : ∀ {Q : Value → Shared → Prop} {E : Value → Shared → Prop}, Q c { s1 with heap := h3 } → wpAny (model X.prog X.w) (X.A.mark (some (.ref a))) (eval (.Name x np) X.env) Q E { s1 with heap := h3 } := by
      intro Q E q
      obtain ⟨hg, hdbg, hm | ⟨hm, hv, hnn⟩⟩ := hc
      · exact ld_glob (X := X.suite a (X.pn ++ pins)) S3 hg hm q hdbg
      · exact ld_blt (X := X.suite a (X.pn ++ pins)) S3 hg hm hv q hnn hdbg
    refine test (LM.here ?_)
    refine codeAny_handlers_suite_as ?_
    refine HandSPX.lands_againZ fl3 fun h4 fl4 up4 => ?_
    have K4 : Inv X pins σ1 (upd H1 a (ErO cls d a)) { s1 with heap := h4 } := inv_land J nb ((up.trans up3).trans up4) (by rw [hs]; exact fl4) na os ag
    refine store_ok (X := X.suite a (X.pn ++ pins)) (v := .ref a) (inv_hot K4 a) hN hi (.inl hln) rfl (fun s5 S5 => ?_) (.inr hln)
    refine wpAny_mono ((hsu a (X.pn ++ pins)).run [] s5 _ _ _ S5 (hyes a na)) ?_ fun _ _ z => z.elim
    intro f s6 hsp
    have fin : ∀ {σ6 : L2.St} {H6 : Hp} {Q : Shared → Prop}, Inv (X.suite a (X.pn ++ pins)) [] σ6 H6 s6 → (∀ s7, Inv X pins (σ6.set i none) H6 s7 → Q s7) →
        wpAny (model X.prog X.w) X.A (do bindName X.env n .none; unbindBehindTheSuite X.env n pos') (fun _ s7 => Q s7) X.xe s6 :=
      fun S6 hq => gone_ok (inv_cool S6 ok) hN hi hln hq
    cases f with
    | next =>
      obtain ⟨σ6, H6, S6, q6⟩ := hsp
      exact fin S6 fun s7 J7 => ⟨_, _, J7, q6⟩
    | brk =>
      obtain ⟨σ6, H6, S6, q6⟩ := hsp
      exact fin S6 fun s7 J7 => ⟨_, _, J7, q6⟩
    | cont =>
      obtain ⟨σ6, H6, S6, q6⟩ := hsp
      exact fin S6 fun s7 J7 => ⟨_, _, J7, q6⟩
    | ret u =>
      obtain ⟨v6, σ6, H6, S6, r6, q6⟩ := hsp
      exact fin S6 fun s7 J7 => ⟨_, _, _, J7, r6, q6⟩
end
end BT
/-! EA: raise and try by semantic functions. -/
namespace BT
open PySem PySem.Spec PyProof.Rows L2

/-- the classes above a class of the text -/
def supT : List (String × List String) := [("TooGreat", ["TongueError", "ValueError"]), ("NoSign", ["TongueError", "ValueError"]), ("NoOrder", ["TongueError", "ValueError"]), ("BadPage", ["TongueError", "ValueError"]), ("BadTable", ["TongueError", "ValueError"]),
  ("BadLetters", ["TongueError", "ValueError"]), ("Faulty", ["TongueError", "ValueError"]), ("TongueError", ["ValueError"]), ("LeadTongue", ["Tongue"]), ("PairTongue", ["Tongue"]), ("ShiftTongue", ["Tongue"]), ("TableTongue", ["Tongue"]),
  ("Leave", ["Way"]), ("Put", ["Way"]), ("See", ["Way"]), ("GoingReader", ["Reader"]), ("SeenWriter", ["Writer"])]
def isSub (C D : String) : Bool := C == D || ((supT.lookup C).getD []).contains D
def S.unset (s : S) (i : Nat) : S := ⟨s.r.set i none, s.p⟩
def Fl.un (i : Nat) : Fl → Fl
  | .next s => .next (s.unset i)
  | .brk s => .brk (s.unset i)
  | .cont s => .cont (s.unset i)
  | .ret t s => .ret t s
  | .exc _ _ => .bad
  | .bad => .bad
def Fl.noX : Fl → Fl
  | .exc _ _ => .bad
  | R => R
/-- try: f / except Cc as name i: g; what isn't caught is left open -/
def sTryN (i : Nat) (Cc : String) (f g : SemS) : SemS := fun s => match f s with
  | .exc x s1 => if isSub x.C Cc then (g (s1.st i (.d (.err x.C x.fs)))).un i else .bad
  | R => R
/-- .. without a name -/
def sTryU (Cc : String) (f g : SemS) : SemS := fun s => match f s with
  | .exc x s1 => if isSub x.C Cc then (g s1).noX else .bad
  | R => R
/-- .. whose suite may raise -/
def sTryX (Cc : String) (f g : SemS) : SemS := fun s => match f s with
  | .exc x s1 => if isSub x.C Cc then g s1 else .bad
  | R => R
/-- an except clause that names c -/
def Ecl [CA] (K : PySem.W.Frag) (c : Value) (Cc : String) : Prop := ∀ C, CA.ok C → isSub C Cc = true → PySem.W.exmOne K (.ref (CA.ca C)) c = some true
section
variable [CA] {K : PySem.W.Frag} {F G G' H H' : Hp} {σ : L2.St} {s s' : S} {pv pv' : List V} {W : WX} {D : Ends} {c : Value} {Cc : String} {f g : SemS} {i : Nat}
theorem Sim.unset (h : Sim K F G H σ s pv) (i : Nat) : Sim K F G H (σ.set i none) (s.unset i) pv := by
  obtain ⟨ef, eg, A, B, ho, hs, d, n⟩ := h
  exact ⟨ef, eg, A, B, ho.drop, hs, d, n⟩
theorem none_of_ex {F H : Hp} {a : Addr} (e : Ex F H) (n : H a = none) : F a = none := by
  cases z : F a with
  | none => rfl
  | some o => rw [e a o z] at n; cases n
/-- an object that stands still from now on is laid -/
theorem Sim.lay {a : Addr} {o : HO} (h : Sim K F G H σ s pv) (n : H a = none) : Post F G (upd G a o) ∧ Sim K F (upd G a o) (upd H a o) σ s pv := by
  obtain ⟨ef, eg, A, B, ho, hs, d, m⟩ := h
  have gn := none_of_ex eg n
  have fn := none_of_ex ef n
  have e : Ex H (upd H a o) := Ex.new n
  have po : Post F G (upd G a o) := ⟨Ex.new gn, fun b u z => by rw [upd_ne (fun w => by rw [w, fn] at z; cases z)]⟩
  have fm : ∀ Z : AS, Fm K G (upd G a o) H (upd H a o) pv pv Z := fun Z => ⟨po.g, fun b u _ z => e b u z, fun _ _ z => z⟩
  refine ⟨po, ef.tr e, fun b u z => ?_, A, B, ho.fm (fm A), hs.fm (fm B), d, fun x b => ?_⟩
  · by_cases w : b = a
    · subst w; rw [upd_same] at z ⊢; exact z
    · rw [upd_ne w] at z; exact e b u (eg b u z)
  · have w : x ≠ a := fun w => (m x b).1 (by rw [w]; exact n)
    rw [upd_ne w, upd_ne w]
    exact m x b
theorem sTryN_le (ec : Ecl K c Cc) (h : sOf K W (sTryN i Cc f g) D σ H) : sOf K (wTr K c i (sOf K W0 g) D) f D σ H := by
  obtain ⟨F, G, s, pv, S, q⟩ := h
  refine ⟨F, G, s, pv, S, ?_⟩
  unfold sTryN at q
  cases e : f s with
  | next s1 => rw [e] at q; exact q
  | ret t s1 => rw [e] at q; exact q
  | brk s1 => rw [e] at q; exact q
  | cont s1 => rw [e] at q; exact q
  | bad => rw [e] at q; exact q
  | exc x s1 =>
    rw [e] at q
    simp only at q
    by_cases c1 : isSub x.C Cc = true
    · rw [if_pos c1] at q
      intro cls d σ1 G1 H1 pv1 po px S1 xr
      obtain ⟨xo, xc, xf⟩ := xr
      subst xc
      refine ⟨ec x.C xo c1, fun a na => ?_⟩
      obtain ⟨po2, S2⟩ := S1.lay (o := ErO (.ref (CA.ca x.C)) d a) na
      have hv : Vw K (upd G1 a (ErO (.ref (CA.ca x.C)) d a)) (.ref a) (.err x.C x.fs) := by
        rcases xf with ⟨d0, f0⟩ | ⟨e1, vs, d0, _, ge, vf⟩
        · subst d0
          rw [f0]
          exact .err xo upd_same (fun e z => by cases z) (fun _ => rfl) .nil
        · subst d0
          refine .err xo upd_same (fun e z => ?_) (fun z => by cases z) (vf.ex po2.g)
          cases z
          exact po2.g _ _ ge
      have S3 := (S2.push_d hv).store (i := i)
      refine ⟨F, _, _, pv1, S3, ?_⟩
      have q2 := Fin.after (po.tr po2) px q
      have eq1 : (s1.st i (.d (.err x.C x.fs))) = (⟨s1.r.set i (some (.d (.err x.C x.fs))), s1.p⟩ : BT.S) := rfl
      rw [eq1] at q2
      cases eg : g ⟨s1.r.set i (some (.d (.err x.C x.fs))), s1.p⟩ with
      | next s2 => rw [eg] at q2; exact fun σ2 G2 H2 pv2 po2 px2 S4 => q2 _ G2 H2 pv2 po2 px2 (S4.unset i)
      | brk s2 => rw [eg] at q2; exact fun σ2 G2 H2 pv2 po2 px2 S4 => q2 _ G2 H2 pv2 po2 px2 (S4.unset i)
      | cont s2 => rw [eg] at q2; exact fun σ2 G2 H2 pv2 po2 px2 S4 => q2 _ G2 H2 pv2 po2 px2 (S4.unset i)
      | ret t s2 => rw [eg] at q2; exact q2
      | exc y s2 => rw [eg] at q2; exact q2.elim
      | bad => rw [eg] at q2; exact q2.elim
    · rw [if_neg c1] at q
      exact q.elim
theorem sTryU_le (ec : Ecl K c Cc) (h : sOf K W (sTryU Cc f g) D σ H) : sOf K (wOnly K c (fun _ _ _ => sOf K W0 g) W0 D) f D σ H := by
  obtain ⟨F, G, s, pv, S, q⟩ := h
  refine ⟨F, G, s, pv, S, ?_⟩
  unfold sTryU at q
  cases e : f s with
  | next s1 => rw [e] at q; exact q
  | ret t s1 => rw [e] at q; exact q
  | brk s1 => rw [e] at q; exact q
  | cont s1 => rw [e] at q; exact q
  | bad => rw [e] at q; exact q
  | exc x s1 =>
    rw [e] at q
    simp only at q
    by_cases c1 : isSub x.C Cc = true
    · rw [if_pos c1] at q
      intro cls d σ1 G1 H1 pv1 po px S1 xr
      obtain ⟨xo, xc, xf⟩ := xr
      subst xc
      refine ⟨true, ec x.C xo c1, fun _ a na => ⟨F, G1, s1, pv1, S1, ?_⟩, fun z => by cases z⟩
      have q2 := Fin.after po px q
      cases eg : g s1 with
      | exc y s2 => rw [eg] at q2; exact q2.elim
      | bad => rw [eg] at q2; exact q2.elim
      | next s2 => rw [eg] at q2; exact q2
      | brk s2 => rw [eg] at q2; exact q2
      | cont s2 => rw [eg] at q2; exact q2
      | ret t s2 => rw [eg] at q2; exact q2
    · rw [if_neg c1] at q
      exact q.elim
theorem sTryX_le (ec : Ecl K c Cc) (h : sOf K W (sTryX Cc f g) D σ H) : sOf K (wOnly K c (fun _ _ _ => sOf K W g) W D) f D σ H := by
  obtain ⟨F, G, s, pv, S, q⟩ := h
  refine ⟨F, G, s, pv, S, ?_⟩
  unfold sTryX at q
  cases e : f s with
  | next s1 => rw [e] at q; exact q
  | ret t s1 => rw [e] at q; exact q
  | brk s1 => rw [e] at q; exact q
  | cont s1 => rw [e] at q; exact q
  | bad => rw [e] at q; exact q
  | exc x s1 =>
    rw [e] at q
    simp only at q
    by_cases c1 : isSub x.C Cc = true
    · rw [if_pos c1] at q
      intro cls d σ1 G1 H1 pv1 po px S1 xr
      obtain ⟨xo, xc, xf⟩ := xr
      subst xc
      exact ⟨true, ec x.C xo c1, fun _ a na => ⟨F, G1, s1, pv1, S1, Fin.after po px q⟩, fun z => by cases z⟩
    · rw [if_neg c1] at q
      exact q.elim
end
section
variable [CA] {X : Cx} {W : WX} {x n : Str} {Cc : String} {body suite : List Stmt} {b₀ : Stmt} {np pos pos' : Pos} {f g : SemS}
/-- the class that an except clause names -/
structure Enm [CA] (X : Cx) (x : Str) (Cc : String) : Prop where
  ex : ∃ c, X.mg x = some c ∧ Ecl X.K c Cc
theorem t_n (i : Nat) (hN : X.N.Nodup) (en : Enm X x Cc) (hb : ∀ (W : WX) (pn : List (Addr × Obj)) (xe : Value → Shared → Prop), Tx (X.tr pn xe) W → PSs (X.tr pn xe) body (sOf X.K W f)) (hsu : ∀ (a : Addr) (pn : List (Addr × Obj)), PSs (X.suite a pn) (b₀ :: suite) (sOf X.K W0 g))
    (hs : X.stack = X.env :: X.outer := by rfl) (hf : X.env.frame = some X.env.locals := by rfl) (hi : X.N[i]? = some n := by rfl) (hln : X.env.kindOf n = some .local := by rfl) (hg : Gl X x := by rfl) (hdb : (x == ("__debug__" : Str)) = false := by decide) :
    PS X (.Try body [.ExceptHandler (some (.Name x np)) (some n) (b₀ :: suite) pos'] [] [] pos) (sOf X.K W (sTryN i Cc f g)) := by
  obtain ⟨c, m, ec⟩ := en.ex
  exact (ps_tryN hs hf hN hi hln ⟨hg, hdb, .inl m⟩ (fun W pn xe tk po => hb W pn xe ⟨takes_ns tk, po⟩) hsu).le fun _ _ _ h => sTryN_le ec h
/-- .. where the body calls what lets out any exception -/
theorem t_nw (i : Nat) (hN : X.N.Nodup) (en : Enm X x Cc) (hb : ∀ (W : WX) (pn : List (Addr × Obj)) (xe : Value → Shared → Prop), (∀ σ, PassesAt (L2.CX X.prog X.w) (X.tr pn xe) σ (WE W σ)) → Tx (X.tr pn xe) W → PSs (X.tr pn xe) body (sOf X.K W f)) (hsu : ∀ (a : Addr) (pn : List (Addr × Obj)), PSs (X.suite a pn) (b₀ :: suite) (sOf X.K W0 g))
    (hs : X.stack = X.env :: X.outer := by rfl) (hf : X.env.frame = some X.env.locals := by rfl) (hi : X.N[i]? = some n := by rfl) (hln : X.env.kindOf n = some .local := by rfl) (hg : Gl X x := by rfl) (hdb : (x == ("__debug__" : Str)) = false := by decide) :
    PS X (.Try body [.ExceptHandler (some (.Name x np)) (some n) (b₀ :: suite) pos'] [] [] pos) (sOf X.K W (sTryN i Cc f g)) := by
  obtain ⟨c, m, ec⟩ := en.ex
  exact (ps_tryN hs hf hN hi hln ⟨hg, hdb, .inl m⟩ (fun W pn xe tk po => hb W pn xe (fun σ => L2.passAt tk σ) ⟨takes_ns tk, po⟩) hsu).le fun _ _ _ h => sTryN_le ec h
theorem t_u (en : Enm X x Cc) (hb : ∀ (W : WX) (pn : List (Addr × Obj)) (xe : Value → Shared → Prop), Tx (X.tr pn xe) W → PSs (X.tr pn xe) body (sOf X.K W f)) (hsu : ∀ (a : Addr) (pn : List (Addr × Obj)), PSs (X.suite a pn) (b₀ :: suite) (sOf X.K W0 g))
    (hs : X.stack = X.env :: X.outer := by rfl) (hf : X.env.frame = some X.env.locals := by rfl) (hg : Gl X x := by rfl) (hdb : (x == ("__debug__" : Str)) = false := by decide) :
    PS X (.Try body [.ExceptHandler (some (.Name x np)) none (b₀ :: suite) pos'] [] [] pos) (sOf X.K W (sTryU Cc f g)) := by
  obtain ⟨c, m, ec⟩ := en.ex
  exact (ps_try_only hs hf ⟨hg, hdb, .inl m⟩ (Wout := W0) takes0 (fun W pn xe tk po => hb W pn xe ⟨takes_ns tk, po⟩) fun a oe cls d pn _ _ => hsu a _).le fun _ _ _ h => sTryU_le ec h
theorem t_uw (en : Enm X x Cc) (hb : ∀ (W : WX) (pn : List (Addr × Obj)) (xe : Value → Shared → Prop), (∀ σ, PassesAt (L2.CX X.prog X.w) (X.tr pn xe) σ (WE W σ)) → Tx (X.tr pn xe) W → PSs (X.tr pn xe) body (sOf X.K W f)) (hsu : ∀ (a : Addr) (pn : List (Addr × Obj)), PSs (X.suite a pn) (b₀ :: suite) (sOf X.K W0 g))
    (hs : X.stack = X.env :: X.outer := by rfl) (hf : X.env.frame = some X.env.locals := by rfl) (hg : Gl X x := by rfl) (hdb : (x == ("__debug__" : Str)) = false := by decide) :
    PS X (.Try body [.ExceptHandler (some (.Name x np)) none (b₀ :: suite) pos'] [] [] pos) (sOf X.K W (sTryU Cc f g)) := by
  obtain ⟨c, m, ec⟩ := en.ex
  exact (ps_try_only hs hf ⟨hg, hdb, .inl m⟩ (Wout := W0) takes0 (fun W pn xe tk po => hb W pn xe (fun σ => L2.passAt tk σ) ⟨takes_ns tk, po⟩) fun a oe cls d pn _ _ => hsu a _).le fun _ _ _ h => sTryU_le ec h
/-- .. whose suite raises -/
theorem t_x (T : TxW X W) (en : Enm X x Cc) (hb : ∀ (W : WX) (pn : List (Addr × Obj)) (xe : Value → Shared → Prop), Tx (X.tr pn xe) W → PSs (X.tr pn xe) body (sOf X.K W f))
    (hsu : ∀ (a : Addr) (pn : List (Addr × Obj)), L2.Takes (L2H.suiteX X a pn) W → L2H.HotC (L2H.suiteX X a pn) → PSs (L2H.suiteX X a pn) (b₀ :: suite) (sOf X.K W g))
    (hs : X.stack = X.env :: X.outer := by rfl) (hf : X.env.frame = some X.env.locals := by rfl) (hg : Gl X x := by rfl) (hdb : (x == ("__debug__" : Str)) = false := by decide) :
    PS X (.Try body [.ExceptHandler (some (.Name x np)) none (b₀ :: suite) pos'] [] [] pos) (sOf X.K W (sTryX Cc f g)) := by
  obtain ⟨c, m, ec⟩ := en.ex
  exact (L2H.ps_try_onlyX hs hf ⟨hg, hdb, .inl m⟩ T.pa T.tk (fun W pn xe tk _ po => hb W pn xe ⟨tk, po⟩) fun a oe cls d pn _ _ tk hot => hsu a _ tk hot).le fun _ _ _ h => sTryX_le ec h
end
/-! ### raise -/
section
variable [CA] {X : Cx} {W : WX} {x m : Str} {C : String} {p p2 p3 pos : Pos} {j : Nat} {e : Expr} {es : List Expr} {fs : SemA} {names : List String}
/-- raise X('..') -/
theorem z_raise (T : Tx X W) (hc : X.calm = true) (k : XCls X x C) (hg : Gl X x := by rfl) (hdb : (x == ("__debug__" : Str)) = false := by decide) : PS X (.Raise (some (.Call (.Name x p3) [.Constant (.str m) j p2] [] p)) none pos) (sOf X.K W (sRz C)) := by
  obtain ⟨bmB, q, B⟩ := k.ex
  exact (L2N.ps_raise hc T.tk (L2N.pmk_own B q k.mg k.kC (raises_own k.exC k.tyC) hg hdb)).le fun _ _ _ h => sRz_le k.ok h
/-- an own exception class with fields -/
structure XFld [CA] (P : Program) (w : World) (K : PySem.W.Frag) (mg : Str → Option Value) (base : Heap) (x : Str) (C : String) (names : List String) : Prop where
  ok : CA.ok C
  md : mg x = some (.ref (CA.ca C))
  T : OexC K (CA.ca C)
  ex : ∃ fI fd ps, PySem.W.findIn K (.ref (CA.ca C)) "__init__" = some (some (.ref fI)) ∧ PySem.W.typeIn K (.ref fI) = some (.type "function") ∧ FnOk P w K mg base (L2N.CX P w) 1 fI fd ps (spX (CA.ca C) (names.map sS)) ∧ Binds K fd ps []
/-- .. made while an exception is handled -/
structure XFldH [CA] (P : Program) (w : World) (K : PySem.W.Frag) (mg : Str → Option Value) (base : Heap) (x : Str) (C : String) (names : List String) : Prop where
  ok : CA.ok C
  md : mg x = some (.ref (CA.ca C))
  T : OexC K (CA.ca C)
  ex : ∃ fI fd ps, PySem.W.findIn K (.ref (CA.ca C)) "__init__" = some (some (.ref fI)) ∧ PySem.W.typeIn K (.ref fI) = some (.type "function") ∧
    L2H.FnH P w K mg base (L2N.CX P w) 1 fI fd ps (spX (CA.ca C) (names.map sS)) ∧ Binds K fd ps []
/-- raise X(e, ..) -/
theorem z_raiseF (T : Tx X W) (hc : X.calm = true) (k : XFld X.prog X.w X.K X.mg X.base x C names) (hr : Room 2 X.A) (ha : PA X (e :: es) (tOfA X.K W fs)) (ne : names ≠ [] := by decide) (l : names.length ≤ 900 := by decide) (hg : Gl X x := by rfl)
    (hdb : (x == ("__debug__" : Str)) = false := by decide) (he : starEach (e :: es) X.env = (false, eval e X.env) :: starEach es X.env := by rfl) (hpl : (backTo p (starEach es X.env)).any (·.1) = false := by rfl) :
    PS X (.Raise (some (.Call (.Name x p2) (e :: es) [] p)) none pos) (sOf X.K W (sRzF C names fs)) := by
  obtain ⟨fI, fd, ps, h1, h2, F1, hb⟩ := k.ex
  exact (L2N.ps_raise hc T.tk (pmk_x k.T h1 h2 F1 hr hb k.md ha hg hdb he hpl)).le fun _ _ _ h => sRzF_le k.ok ne l h
theorem mkx_o {C : Addr} {names : List Str} {ta : TA} {σ : L2.St} {H : Hp} {Q : XK} (mono : ∀ (Q Q' : List V → Hp → Prop), (∀ v H, Q v H → Q' v H) → ta σ H Q → ta σ H Q') (h : tMkX C names ta σ H Q) : tMkO C (spX C names) [] ta σ H Q := by
  refine mono _ _ (fun vs H1 z => ?_) h
  obtain ⟨ln, l9, q⟩ := z
  refine ⟨by omega, fun a na => ⟨a, vs, by rw [List.append_nil], ln, upd_same, fun dx H2 n1 n2 z1 z2 z3 => ?_⟩⟩
  rw [upd_ne n2] at n1
  refine ⟨rfl, dx, _, z1, z2, n1, q dx _ n1 upd_same fun b nb => ?_⟩
  rw [upd_ne nb]
  by_cases c : b = a
  · rw [c, del_same, na]
  · rw [del_ne c, z3 b c nb, upd_ne c]
theorem tOfA_mono {K : PySem.W.Frag} {fs : SemA} {σ : L2.St} {H : Hp} (Q Q' : List V → Hp → Prop) (i : ∀ v H, Q v H → Q' v H) (h : tOfA K W fs σ H Q) : tOfA K W fs σ H Q' := by
  obtain ⟨F, G, s, pv, S, q⟩ := h
  exact ⟨F, G, s, pv, S, q.imp (fun ts s1 k vs G1 H1 pv1 po px el S1 => i _ _ (k vs G1 H1 pv1 po px el S1)) fun _ _ z => z⟩
/-- raise X(e, ..) while an exception is handled -/
theorem z_raiseH (tk : L2.Takes X W) (hot : L2H.HotC X) (k : XFldH X.prog X.w X.K X.mg X.base x C names) (hr : L2H.RoomH 2 X.A) (ha : PA X (e :: es) (tOfA X.K W fs)) (ne : names ≠ [] := by decide) (l : names.length ≤ 900 := by decide) (hg : Gl X x := by rfl)
    (hdb : (x == ("__debug__" : Str)) = false := by decide) (he : starEach (e :: es) X.env = (false, eval e X.env) :: starEach es X.env := by rfl) (hpl : (backTo p (starEach es X.env)).any (·.1) = false := by rfl) :
    PS X (.Raise (some (.Call (.Name x p2) (e :: es) [] p)) none pos) (sOf X.K W (sRzF C names fs)) := by
  obtain ⟨fI, fd, ps, h1, h2, F2, hb⟩ := k.ex
  exact (L2H.ps_raiseH hot tk (L2H.pmk5_oexH k.T h1 h2 F2 hr hot hb passF hg k.md ha hdb he hpl).pmk).le fun _ _ _ h => mkx_o tOfA_mono (sRzF_le k.ok ne l h)
end
end BT
/-! EB: own classes: isinstance, fields read. -/
namespace BT
open PySem PySem.Spec PyProof.Rows L2

def isExcN (C : String) : Bool := isSub C "ValueError"
/-- what a class of plain instances must have -/
def iobjB (K : PySem.W.Frag) (C : Addr) : Bool := PySem.W.plainGet K C Str.empty && (PySem.W.hasDictIn K C && (PySem.W.plainOver K C && (decide (PySem.W.findIn K (.ref C) "__setattr__" = some (some (.builtin "object.__setattr__"))) &&
  (decide (PySem.W.findIn K (.ref C) "__class__" = some (some (.builtin "object.__class__"))) && decide (PySem.W.mroIn K C (.type "object") = some true)))))
/-- .. a class of exceptions -/
def iexcB (K : PySem.W.Frag) (C : Addr) : Bool := (PySem.W.clsIn K C).isSome && (decide (PySem.W.findIn K (.ref C) "__getattribute__" = some (some (.builtin "BaseException.__getattribute__"))) && (decide (PySem.W.findIn K (.ref C) "__getattr__" = some none) &&
  (decide (PySem.W.subIn K (.ref C) (.type "BaseException") = some true) && (PySem.W.hasDictIn K C && (decide (PySem.W.findIn K (.ref C) "__class__" = some (some (.builtin "object.__class__"))) && decide (PySem.W.mroIn K C (.type "object") = some true))))))
def igenB (K : PySem.W.Frag) : Bool := decide (PySem.W.specialIn K (.builtin "object.__class__") "__get__" = some (some (.builtin "getset_descriptor.__get__"))) && decide (PySem.W.takesIn K (.builtin "object.__class__") = some true)
/-- what is known of the text's classes -/
structure Cfs [CA] (K : PySem.W.Frag) : Prop where
  g : igenB K = true
  o : ∀ C, CA.ok C → isExcN C = false → iobjB K (CA.ca C) = true
  x : ∀ C, CA.ok C → isExcN C = true → iexcB K (CA.ca C) = true
theorem andB {a b : Bool} (h : (a && b) = true) : a = true ∧ b = true := Bool.and_eq_true_iff.mp h
theorem iobj_cls {K : PySem.W.Frag} {C : Addr} (h : iobjB K C = true) : Cls K C := by
  obtain ⟨h1, h⟩ := andB h
  obtain ⟨h2, h⟩ := andB h
  obtain ⟨h3, h⟩ := andB h
  obtain ⟨h4, h⟩ := andB h
  exact ⟨h1, h2, h3, of_decide_eq_true h4⟩
theorem iobj_ty {K : PySem.W.Frag} {H : Hp} {a C dx : Addr} {fs : List (Str × V)} (g : igenB K = true) (h : iobjB K C = true) (e : H a = some (.ins C dx fs)) : TyX K H (.ref a) (.ref C) := by
  have c := iobj_cls h
  obtain ⟨_, h⟩ := andB h
  obtain ⟨_, h⟩ := andB h
  obtain ⟨_, h⟩ := andB h
  obtain ⟨_, h⟩ := andB h
  obtain ⟨h5, h6⟩ := andB h
  obtain ⟨g1, g2⟩ := andB g
  exact .base (.ins e c (of_decide_eq_true h5) (of_decide_eq_true g1) (of_decide_eq_true g2) (of_decide_eq_true h6))
/-- a value's type, own exceptions with them -/
inductive TyZ (K : PySem.W.Frag) (H : Hp) : V → Value → Prop where
  | x {v : V} {t : Value} (h : TyX K H v t) : TyZ K H v t
  | err {a C : Addr} {d : Option Addr} (e : H a = some (ErO (.ref C) d a)) (k : ∀ e, d = some e → ∃ fs, H e = some (.xd fs)) (g : igenB K = true) (h : iexcB K C = true) : TyZ K H (.ref a) (.ref C)
section
variable {X : Cx} {pins : List (Addr × Obj)} {σ : L2.St} {H : Hp} {s : Shared}
theorem ero_at {a C : Addr} {d : Option Addr} (I : Inv X pins σ H s) (e : H a = some (ErO (.ref C) d a)) (k : ∀ e, d = some e → ∃ fs, H e = some (.xd fs)) :
    ∃ ox od, PySem.W.InstAt s.heap a ox C od ∧ ∀ dd fs, d = some dd → H dd = some (.xd fs) → ∃ (mA : Str → Option Value) (o : Obj), od = some o ∧ (∀ f, RelO (fs.lookup f) (mA f)) ∧ ∀ n, PySem.W.lookIn n o = some (mA n) := by
  obtain ⟨⟨oe, vs, h1, h2, h3⟩, _, _⟩ := I.hok a _ e
  have nc : PySem.W.notCls oe = true := by
    unfold PySem.W.notCls
    rw [h3]
  cases d with
  | none =>
    refine ⟨oe, none, ⟨h1, h2.1, nc, by rw [h2.2]; trivial⟩, fun dd fs z => by cases z⟩
  | some dd =>
    obtain ⟨fs, hd⟩ := k dd rfl
    obtain ⟨mA, hns, hr⟩ := (show ObjOk X.prog X.w H s.heap dd (.xd fs) from I.hok dd _ hd)
    obtain ⟨od, ho, hl⟩ := lookIn_ns hns
    refine ⟨oe, some od, ⟨h1, h2.1, nc, by rw [h2.2]; exact ho⟩, fun dd2 fs2 z1 z2 => ?_⟩
    cases z1
    rw [hd] at z2
    cases z2
    exact ⟨mA, od, rfl, hr, hl⟩
def rIsZ (K : PySem.W.Frag) : List V → Hp → VK → Prop := fun xs H Q => ∃ (x c : V) (t u : Value) (b : Bool), xs = [x, c] ∧ ClsV c u ∧ TyZ K H x t ∧ PySem.W.kitOne K t u = some b ∧ Q (.bl b) H
theorem tyz_kit {x : V} {u t : Value} (I : Inv X pins σ H s) (rx : RelV x u) (ty : TyZ X.K H x t) : ∃ P : Heap → Prop, PySem.W.KitX X.K u t P ∧ P s.heap ∧ u ≠ .builtin "__main__.__loader__#opaque" := by
  cases ty with
  | x h => exact kit_of I rx h
  | err e k g h =>
    cases (show u = Value.ref _ from rx)
    obtain ⟨ox, od, J, _⟩ := ero_at I e k
    obtain ⟨h1, h⟩ := andB h
    obtain ⟨h2, h⟩ := andB h
    obtain ⟨h3, h⟩ := andB h
    obtain ⟨h4, h⟩ := andB h
    obtain ⟨_, h⟩ := andB h
    obtain ⟨h5, h6⟩ := andB h
    obtain ⟨g1, g2⟩ := andB g
    exact ⟨_, PySem.W.kitx_exc h1 (of_decide_eq_true h2) (of_decide_eq_true h3) (of_decide_eq_true h4) (of_decide_eq_true h5) (of_decide_eq_true g1) (of_decide_eq_true g2) (of_decide_eq_true h6), J, fun z => nomatch z⟩
theorem call_isZ {X : Cx} : CallR X (.builtin "isinstance") (rIsZ X.K) := by
  intro pins s σ H xs us Q I r h
  obtain ⟨x, c, t, u, b, rfl, k, ty, e, q⟩ := h
  obtain ⟨u1, u2, rfl, r1, r2⟩ := vals2 r
  have e2 := k.eq r2
  subst e2
  obtain ⟨P, Z, p, hx⟩ := tyz_kit I r1 ty
  exact PySem.W.kia_one Z I.kIn p e hx fun tk => ⟨.bl b, H, I.tok tk, rfl, q⟩
/-- .. a tuple of classes -/
def rIsZs (K : PySem.W.Frag) : List V → Hp → VK → Prop := fun xs H Q => ∃ (x : V) (tp : Addr) (cs : List V) (t : Value) (us : List Value) (b : Bool), xs = [x, .ref tp] ∧ SqT K H tp cs ∧ Paired ClsV cs us ∧ TyZ K H x t ∧ PySem.W.kitAny K t us = some b ∧ Q (.bl b) H
theorem call_isZs {X : Cx} : CallR X (.builtin "isinstance") (rIsZs X.K) := by
  intro pins s σ H xs us Q I r h
  obtain ⟨x, tp, cs, t, ws, b, rfl, hT, k, ty, e, q⟩ := h
  obtain ⟨u1, u2, rfl, r1, r2⟩ := vals2 r
  cases (show u2 = Value.ref tp from r2)
  obtain ⟨P, Z, p, hx⟩ := tyz_kit I r1 ty
  obtain ⟨its, rv, ⟨o, h1, h2, n, h3⟩, _⟩ := I.tuple hT
  have e3 := ClsV.all k rv
  subst e3
  obtain ⟨oc, od, dt, sl⟩ := o
  simp only at h2 h3
  subst h2 h3
  exact PySem.W.kia_tup Z I.kIn p h1 e hx fun tk => ⟨.bl b, H, I.tok tk, rfl, q⟩
end
/-! ### isinstance by data -/
/-- whether it is of the own class (or of ValueError) -/
def D.isA (Dn : String) : D → Option Bool
  | .obj C _ => if isExcN C then none else some (isSub C Dn)
  | .err C _ => if isExcN C then some (isSub C Dn) else none
  | .non | .bl _ | .int _ | .str _ | .lst _ | .tup _ | .dic _ => some false
  | _ => none
def gIsA (Dn : String) : List D → Option Rv
  | [x, .cls n] => if n = Dn then (x.isA Dn).map fun b => .one (.bl b) else none
  | _ => none
def gIsV : List D → Option Rv
  | [x, .ty n] => if n = "ValueError" then (x.isA "ValueError").map fun b => .one (.bl b) else none
  | _ => none
def isAs : List String → D → Option Bool
  | [], x => x.isA "ValueError" |>.map fun _ => false
  | n :: ns, x => match x.isA n with
    | some true => some true
    | some false => isAs ns x
    | none => none
def clsL : List D → Option (List String)
  | [] => some []
  | .cls n :: r => (clsL r).map (n :: ·)
  | _ => none
/-- one of several classes -/
def gIsT (ns : List String) : List D → Option Rv
  | [x, .tup cs] => if clsL cs = some ns then (isAs ns x).map fun b => .one (.bl b) else none
  | _ => none
/-- a class that isinstance is asked of -/
structure IsF [CA] (K : PySem.W.Frag) (u : Value) (Dn : String) : Prop where
  own : ∀ C, CA.ok C → PySem.W.kitOne K (.ref (CA.ca C)) u = some (isSub C Dn)
  bi : ∀ T ∈ ["NoneType", "bool", "int", "str", "list", "tuple", "dict"], PySem.W.kitOne K (.type T) u = some false
section
variable [CA] {K : PySem.W.Frag} {G H : Hp}
theorem Vw.isA {v : V} {d : D} {u : Value} {Dn : String} {b : Bool} (cf : Cfs K) (f : IsF K u Dn) (h : Vw K H v d) (e : d.isA Dn = some b) : ∃ t, TyZ K H v t ∧ PySem.W.kitOne K t u = some b := by
  cases h with
  | non => cases e; exact ⟨_, .x (.base .non), f.bi _ (by simp)⟩
  | bl _ => cases e; exact ⟨_, .x (.base (.bl _)), f.bi _ (by simp)⟩
  | int _ => cases e; exact ⟨_, .x (.base (.int _)), f.bi _ (by simp)⟩
  | str _ => cases e; exact ⟨_, .x (.base (.str _)), f.bi _ (by simp)⟩
  | ty _ => cases e
  | cls _ => cases e
  | any _ => cases e
  | dic h l => cases e; exact ⟨_, .x (.base (.dK h)), f.bi _ (by simp)⟩
  | lst h l =>
    cases e
    rcases h with (h | ⟨o, h⟩) | ⟨its, n, h, _⟩
    · exact ⟨_, .x (.base (.lst h)), f.bi _ (by simp)⟩
    · exact ⟨_, .x (.base (.frz h)), f.bi _ (by simp)⟩
    · exact ⟨_, .x (.kList h rfl), f.bi _ (by simp)⟩
  | tup h l =>
    cases e
    rcases h with (h | ⟨o, h⟩) | ⟨o, its, n, h, c, _⟩
    · exact ⟨_, .x (.base (.tup h)), f.bi _ (by simp)⟩
    · exact ⟨_, .x (.fTuple h), f.bi _ (by simp)⟩
    · exact ⟨_, .x (.kTuple h c), f.bi _ (by simp)⟩
  | @obj a dx C vs ds o h l =>
    have e2 : (if isExcN C then none else some (isSub C Dn)) = some b := e
    cases c : isExcN C with
    | true => rw [c] at e2; cases e2
    | false =>
      rw [c] at e2
      cases e2
      exact ⟨_, .x (iobj_ty cf.g (cf.o C o c) h), f.own C o⟩
  | @err a d C vs ds o h h2 h3 l =>
    have e2 : (if isExcN C then some (isSub C Dn) else none) = some b := e
    cases c : isExcN C with
    | false => rw [c] at e2; cases e2
    | true =>
      rw [c] at e2
      cases e2
      exact ⟨_, .err h (fun e z => ⟨_, h2 e z⟩) cf.g (cf.x C o c), f.own C o⟩
theorem o_isA {Dn : String} (cf : Cfs K) (f : IsF K (.ref (CA.ca Dn)) Dn) : OpA K (rIsZ K) (gIsA Dn) := by
  intro G H x a R Q g va e k
  unfold gIsA at e
  split at e
  · rename_i d n
    split at e
    · rename_i c
      subst c
      cases q : d.isA n with
      | none => rw [q] at e; cases e
      | some b =>
        rw [q] at e
        cases e
        obtain ⟨v, w, rfl, hv, hw⟩ := vl2 va
        obtain ⟨t, h1, h2⟩ := (hv.ex g).isA cf f q
        cases hw
        exact ⟨v, _, t, _, b, rfl, .own _, h1, h2, rvB k⟩
    · cases e
  · cases e
theorem o_isV (cf : Cfs K) (f : IsF K (.type "ValueError") "ValueError") : OpA K (rIsZ K) gIsV := by
  intro G H x a R Q g va e k
  unfold gIsV at e
  split at e
  · rename_i d n
    split at e
    · rename_i c
      subst c
      cases q : d.isA "ValueError" with
      | none => rw [q] at e; cases e
      | some b =>
        rw [q] at e
        cases e
        obtain ⟨v, w, rfl, hv, hw⟩ := vl2 va
        obtain ⟨t, h1, h2⟩ := (hv.ex g).isA cf f q
        cases hw
        exact ⟨v, _, t, _, b, rfl, .ty _, h1, h2, rvB k⟩
    · cases e
  · cases e
theorem TyZ.uniq_any {v : V} {d : D} {ns : List String} {b : Bool} (cf : Cfs K) (h : Vw K H v d) (fs : ∀ n ∈ ns, IsF K (.ref (CA.ca n)) n) (e : isAs ns d = some b) :
    ∃ t, TyZ K H v t ∧ PySem.W.kitAny K t (ns.map fun n => .ref (CA.ca n)) = some b := by
  -- the type is one and the same for all
  have one : ∃ t, TyZ K H v t ∧ ∀ n ∈ ns, ∀ c, d.isA n = some c → PySem.W.kitOne K t (.ref (CA.ca n)) = some c := by
    have kn : ∃ c, d.isA "ValueError" = some c := by
      clear fs
      induction ns with
      | nil =>
        have e2 : (d.isA "ValueError").map (fun _ => false) = some b := e
        cases q : d.isA "ValueError" with
        | none => rw [q] at e2; cases e2
        | some c => exact ⟨c, rfl⟩
      | cons n ns ih =>
        have e2 : (match d.isA n with
          | some true => some true
          | some false => isAs ns d
          | none => none) = some b := e
        cases q : d.isA n with
        | none => rw [q] at e2; cases e2
        | some c =>
          cases d <;> first | exact ⟨_, rfl⟩ | (cases q; done) | skip
          · rename_i C fs
            have q2 : (if isExcN C then none else some (isSub C n)) = some c := q
            cases x : isExcN C with
            | true => rw [x] at q2; cases q2
            | false =>
              refine ⟨isSub C "ValueError", ?_⟩
              show (if isExcN C then none else some (isSub C "ValueError")) = _
              rw [x]
              rfl
          · rename_i C fs
            have q2 : (if isExcN C then some (isSub C n) else none) = some c := q
            cases x : isExcN C with
            | false => rw [x] at q2; cases q2
            | true =>
              refine ⟨isSub C "ValueError", ?_⟩
              show (if isExcN C then some (isSub C "ValueError") else none) = _
              rw [x]
              rfl
    obtain ⟨c0, k0⟩ := kn
    cases h with
    | non => exact ⟨_, .x (.base .non), fun n hn c q => by cases q; exact (fs n hn).bi _ (by simp)⟩
    | bl _ => exact ⟨_, .x (.base (.bl _)), fun n hn c q => by cases q; exact (fs n hn).bi _ (by simp)⟩
    | int _ => exact ⟨_, .x (.base (.int _)), fun n hn c q => by cases q; exact (fs n hn).bi _ (by simp)⟩
    | str _ => exact ⟨_, .x (.base (.str _)), fun n hn c q => by cases q; exact (fs n hn).bi _ (by simp)⟩
    | ty _ => cases k0
    | cls _ => cases k0
    | any _ => cases k0
    | dic h l => exact ⟨_, .x (.base (.dK h)), fun n hn c q => by cases q; exact (fs n hn).bi _ (by simp)⟩
    | lst h l =>
      rcases h with (h | ⟨o, h⟩) | ⟨its, m, h, _⟩
      · exact ⟨_, .x (.base (.lst h)), fun n hn c q => by cases q; exact (fs n hn).bi _ (by simp)⟩
      · exact ⟨_, .x (.base (.frz h)), fun n hn c q => by cases q; exact (fs n hn).bi _ (by simp)⟩
      · exact ⟨_, .x (.kList h rfl), fun n hn c q => by cases q; exact (fs n hn).bi _ (by simp)⟩
    | tup h l =>
      rcases h with (h | ⟨o, h⟩) | ⟨o, its, m, h, c, _⟩
      · exact ⟨_, .x (.base (.tup h)), fun n hn c q => by cases q; exact (fs n hn).bi _ (by simp)⟩
      · exact ⟨_, .x (.fTuple h), fun n hn c q => by cases q; exact (fs n hn).bi _ (by simp)⟩
      · exact ⟨_, .x (.kTuple h c), fun n hn c q => by cases q; exact (fs n hn).bi _ (by simp)⟩
    | @obj a dx C vs ds o h l =>
      cases x : isExcN C with
      | true =>
        have k1 : (if isExcN C then none else some (isSub C "ValueError")) = some c0 := k0
        rw [x] at k1
        cases k1
      | false =>
        refine ⟨_, .x (iobj_ty cf.g (cf.o C o x) h), fun n hn c q => ?_⟩
        have q2 : (if isExcN C then none else some (isSub C n)) = some c := q
        rw [x] at q2
        cases q2
        exact (fs n hn).own C o
    | @err a d C vs ds o h h2 h3 l =>
      cases x : isExcN C with
      | false =>
        have k1 : (if isExcN C then some (isSub C "ValueError") else none) = some c0 := k0
        rw [x] at k1
        cases k1
      | true =>
        refine ⟨_, .err h (fun e z => ⟨_, h2 e z⟩) cf.g (cf.x C o x), fun n hn c q => ?_⟩
        have q2 : (if isExcN C then some (isSub C n) else none) = some c := q
        rw [x] at q2
        cases q2
        exact (fs n hn).own C o
  obtain ⟨t, ht, hk⟩ := one
  refine ⟨t, ht, ?_⟩
  clear fs
  induction ns with
  | nil =>
    have e2 : (d.isA "ValueError").map (fun _ => false) = some b := e
    cases q : d.isA "ValueError" with
    | none => rw [q] at e2; cases e2
    | some c => rw [q] at e2; exact e2
  | cons n ns ih =>
    have e2 : (match d.isA n with
      | some true => some true
      | some false => isAs ns d
      | none => none) = some b := e
    cases q : d.isA n with
    | none => rw [q] at e2; cases e2
    | some c =>
      rw [q] at e2
      have z := hk n (by simp) c q
      show (match PySem.W.kitOne K t (.ref (CA.ca n)) with
        | some true => some true
        | some false => PySem.W.kitAny K t (ns.map fun n => .ref (CA.ca n))
        | none => none) = some b
      rw [z]
      cases c with
      | true => exact e2
      | false => exact ih e2 fun n hn => hk n (by simp [hn])
theorem clsL_vw : ∀ {cs : List D} {vs : List V} {ns : List String}, VwL K H vs cs → clsL cs = some ns → Paired ClsV vs (ns.map fun n => Value.ref (CA.ca n))
  | [], _, ns, .nil, e => by cases e; exact .nil
  | c :: cs, _, ns, .cons h l, e => by
    cases c with
    | cls n =>
      have e2 : (clsL cs).map (n :: ·) = some ns := e
      cases q : clsL cs with
      | none => rw [q] at e2; cases e2
      | some ms =>
        rw [q] at e2
        cases e2
        cases h
        exact .cons (.own _) (clsL_vw l q)
    | _ => cases e
theorem o_isT {ns : List String} (cf : Cfs K) (fs : ∀ n ∈ ns, IsF K (.ref (CA.ca n)) n) : OpA K (rIsZs K) (gIsT ns) := by
  intro G H x a R Q g va e k
  unfold gIsT at e
  split at e
  · rename_i d cs
    split at e
    · rename_i c
      cases q : isAs ns d with
      | none => rw [q] at e; cases e
      | some b =>
        rw [q] at e
        cases e
        obtain ⟨v, w, rfl, hv, hw⟩ := vl2 va
        obtain ⟨tp, vs, rfl, ht, hl⟩ := hw.tup_inv
        obtain ⟨t, h1, h2⟩ := TyZ.uniq_any cf (hv.ex g) fs q
        exact ⟨v, tp, vs, t, _, b, rfl, ex_t g ht, clsL_vw hl c, h1, h2, rvB k⟩
    · cases e
  · cases e
end
section
variable [CA] {X : Cx} {W : WX} {x : Str} {C : String} {p pos : Pos}
/-- an own class as a value -/
theorem r_cls (ok : X.mg x = some (.ref (CA.ca C))) (hg : Gl X x := by rfl) (hd : (x == ("__debug__" : Str)) = false := by decide) : PE X (.Name x pos) (tOf X.K W (sC (.cls C))) := r_glob (v := .ref (CA.ca C)) ok rfl (fun _ => .cls C) hg hd
end
end BT
/-! EC: fields of objects: read, stored, changed. -/
namespace BT
open PySem PySem.Spec PyProof.Rows L2

/-- the attributes of the text's classes -/
def fldT : List (String × List String) := [("NoSign", ["sign", "at"]), ("BadPage", ["which"]), ("BadTable", ["one", "other"]), ("BadLetters", ["at"]), ("Faulty", ["place", "length", "kind"]),
  ("PairTongue", ["high_first"]), ("ShiftTongue", ["lists", "bytes_at", "alone"]), ("TableTongue", ["entries"]), ("Bits", ["many", "number"]), ("LetterWriter", ["bits", "ended"]), ("LetterReader", ["bits", "came", "bad_at", "ended"]),
  ("Reader", ["tongue", "begun_at", "gone", "here", "kept", "wrongs", "shut"]), ("GoingReader", ["tongue", "begun_at", "gone", "here", "kept", "wrongs", "shut", "source", "way", "first_place", "parts", "waiting", "where", "many", "ended"]),
  ("Writer", ["tongue", "here"]), ("SeenWriter", ["tongue", "here", "goal", "where"]), ("Put", ["sign"]), ("Turner", ["reader", "writer", "instead", "many", "lacked"]), ("Guess", ["tongue", "reader", "last"]), ("Guesser", ["guesses"])]
def fieldsOf (C : String) : List String := (fldT.lookup C).getD []
def noatB (K : PySem.W.Frag) (C : Addr) (fs : List String) : Bool := fs.all fun f => decide (PySem.W.findIn K (.ref C) (sS f) = some none)
def NoAts [CA] (K : PySem.W.Frag) : Prop := ∀ C, CA.ok C → noatB K (CA.ca C) (fieldsOf C) = true
theorem noat_of {K : PySem.W.Frag} {C : Addr} {fs : List String} {f : String} (h : noatB K C fs = true) (c : fs.contains f = true) : NoAttr K C (sS f) := by
  unfold noatB at h
  rw [List.all_eq_true] at h
  have z : PySem.W.findIn K (.ref C) (sS f) = some none := of_decide_eq_true (h f (by simpa using c))
  exact z
section
variable [CA] {K : PySem.W.Frag} {F G G' H H' : Hp} {σ σa : L2.St} {s s' : S} {pv pv' : List V} {W : WX}
/-- a root of the store, with the roots σa set in: it may be laid back otherwise -/
theorem Sim.root {ra r : List (Option T)} {p : List T} {k : Nat} {u : T} (h : Sim K F G H (σa ++ σ) ⟨ra ++ r, p⟩ pv) (el : σa.length = ra.length) (e : p[k]? = some u) :
    ∃ (v : V) (Aa A1 : AS), pv[k]? = some v ∧ RpO K G H pv σa ra Aa ∧ Rp K G H pv v u A1 ∧ (∀ x, Aa x → ¬ A1 x) ∧ (∀ x, Aa x ∨ A1 x → H x ≠ none ∧ F x = none ∧ G x = none) ∧ Ex F H ∧ Ex G H ∧
      ∀ (H' : Hp) (t' : T), (∀ b o, ¬ A1 b → H b = some o → H' b = some o) → Rp K G H' pv v t' (fun x => A1 x ∨ Aa x) → (∀ x, A1 x → H' x ≠ none) → Sim K F G H' σ ⟨r, p.set k t'⟩ pv := by
  obtain ⟨ef, eg, A, B, ho, hs, d, n⟩ := h
  obtain ⟨Aa, A2, h1, h2, d1, d2⟩ := RpO.split el ho
  obtain ⟨v, E1, E2, e1, h5, f1, f2, back⟩ := hs.at e
  refine ⟨v, Aa, E1, e1, h1, h5, fun x b c => d x (d1 x b).1 (f1 x c).1, fun x b => n x (b.elim (fun z => .inl (d1 x z).1) fun z => .inr (f1 x z).1), ef, eg, fun H' t' k1 k2 k3 => ?_⟩
  have nf : ∀ {b : Addr} {o : HO}, F b = some o → ¬ E1 b := fun {b o} z w => by rw [(n b (.inr (f1 b w).1)).2.1] at z; cases z
  have ng : ∀ {b : Addr} {o : HO}, G b = some o → ¬ E1 b := fun {b o} z w => by rw [(n b (.inr (f1 b w).1)).2.2] at z; cases z
  have nA2 : ∀ x, A2 x → ¬ E1 x := fun x b w => d x (d2 x b) (f1 x w).1
  refine ⟨fun b o z => k1 b o (nf z) (ef b o z), fun b o z => k1 b o (ng z) (eg b o z), A2, fun x => B x ∨ Aa x, h2.fm ⟨Ex.rfl', fun a o b z => k1 a o (nA2 a b) z, fun _ _ z => z⟩, ?_, fun x b z => z.elim (d x (d2 x b)) fun z => (d1 x z).2 b, fun x b => ?_⟩
  · exact back G H' pv t' (fun x => B x ∨ Aa x) _ ⟨Ex.rfl', fun a o b z => k1 a o (fun w => (f1 a w).2 b) z, fun _ _ z => z⟩ k2 (fun x b => b.elim (fun z => ⟨.inl (f1 x z).1, (f1 x z).2⟩) fun z => ⟨.inr z, fun w => d x (d1 x z).1 (f2 x w)⟩) fun x b => .inl (f2 x b)
  · have q : A x ∨ B x := b.elim (fun z => .inl (d2 x z)) fun z => z.elim .inr fun z => .inl (d1 x z).1
    refine ⟨?_, (n x q).2⟩
    by_cases c : E1 x
    · exact k3 x c
    · cases y : H x with
      | none => exact absurd y (n x q).1
      | some o =>
        rw [k1 x o c y]
        exact fun z => nomatch z
theorem Sim.al_top {v : V} {k : Nat} {r : List (Option T)} {p : List T} (h : Sim K F G H (some v :: σ) ⟨some (.al k) :: r, p⟩ pv) : pv[k]? = some v := by
  obtain ⟨ef, eg, A, B, ho, hs, d, n⟩ := h
  cases ho with
  | cons h l s1 s2 =>
    cases h with
    | al e => exact e
/-- an alias on top -/
theorem Sim.push_al {v : V} {k : Nat} (h : Sim K F G H σ s pv) (e : pv[k]? = some v) : Sim K F G H (some v :: σ) ⟨some (.al k) :: s.r, s.p⟩ pv := by
  obtain ⟨ef, eg, A, B, ho, hs, d, n⟩ := h
  exact ⟨ef, eg, A, B, .cons (A1 := fun _ => False) (.al e) ho (fun _ z => z.elim) (fun _ z => z), hs, d, n⟩
theorem sS_bq (a b : String) : (sS a == sS b) = (a == b) := by
  by_cases e : a = b
  · rw [e, beq_self_eq_true, beq_self_eq_true]
  · rw [beq_eq_false_iff_ne.mpr e, beq_eq_false_iff_ne.mpr fun z => e (sS_inj z)]
theorem VwF.look {vs : List (Str × V)} {ds : List (String × BT.D)} {f : String} {d : BT.D} (h : VwF K H vs ds) (e : ds.lookup f = some d) : ∃ v, vs.lookup (sS f) = some v ∧ Vw K H v d := by
  induction ds generalizing vs with
  | nil => cases e
  | cons q ds ih =>
    cases h with
    | @cons k v vs d2 ds2 hv hl =>
      simp only [List.lookup] at e ⊢
      rw [sS_bq f k]
      cases c : f == k with
      | true =>
        rw [c] at e
        cases e
        exact ⟨v, rfl, hv⟩
      | false =>
        rw [c] at e
        exact ih hl e
theorem RpF.look {vs : List (Str × V)} {ts : List (String × T)} {f : String} {t : T} {A : AS} (h : RpF K G H pv vs ts A) (e : ts.lookup f = some t) : ∃ v A1, vs.lookup (sS f) = some v ∧ Rp K G H pv v t A1 ∧ ∀ x, A1 x → A x := by
  induction ts generalizing vs A with
  | nil => cases e
  | cons q ts ih =>
    cases h with
    | @cons k v vs t2 ts2 A A1 A2 hv hl s1 s2 =>
      simp only [List.lookup] at e ⊢
      rw [sS_bq f k]
      cases c : f == k with
      | true =>
        rw [c] at e
        cases e
        exact ⟨v, A1, rfl, hv, fun x b => (s1 x b).1⟩
      | false =>
        rw [c] at e
        obtain ⟨v2, A3, h1, h2, h3⟩ := ih hl e
        exact ⟨v2, A3, h1, h2, fun x b => s2 x (h3 x b)⟩
end
/-- o.f -/
def sFld (f : String) (fo : Sem) : Sem := fun s => (fo s).bind fun t s1 => match t with
  | .d (.obj C fs) => if isExcN C then .bad else if (fieldsOf C).contains f then (match fs.lookup f with
    | some x => .ok (.d x) s1
    | none => .bad) else .bad
  | .d (.err C fs) => if isExcN C then (if (fieldsOf C).contains f then (match fs.lookup f with
    | some x => .ok (.d x) s1
    | none => .bad) else .bad) else .bad
  | .al k => (match s1.p[k]? with
    | some (.obj C ts) => if isExcN C then .bad else if (fieldsOf C).contains f then (match ts.lookup f with
      | some (.d x) => .ok (.d x) s1
      | some (.al j) => .ok (.al j) s1
      | _ => .bad) else .bad
    | _ => .bad)
  | _ => .bad
/-- whether an exception is asked -/
def Res.isErr : Res T → Bool
  | .ok (.d (.err _ _)) _ => true
  | _ => false
/-- e.f of an exception that is held -/
def tErF (K : PySem.W.Frag) (f : Str) (ta : TE) : TE := fun σ H Q => ta σ H fun x H1 => ∃ (a C d : Addr) (fs : List (Str × V)) (v : V), x = .ref a ∧ H1 a = some (ErO (.ref C) (some d) a) ∧ H1 d = some (.xd fs) ∧ iexcB K C = true ∧ NoAttr K C f ∧ fs.lookup f = some v ∧ Q v H1
section
variable {X : Cx} {e : Expr} {f : Str} {pos : Pos} {ta : TE}
theorem pe_erf (he : PE X e ta) (hb : attributeBase e f X.env (eval e X.env) = eval e X.env := by rfl) : PE X (.Attribute e f pos) (tErF X.K f ta) := by
  constructor
  intro pins s σ H Q I h
  refine attr_of hb (thn (he.run pins s σ H _ I h) ?_)
  intro u s1 ⟨x, H1, I1, rx, a, C, d, fs, v, ex, ea, ed, hc, hn, l, q⟩
  subst ex
  have eu : u = Value.ref a := rx
  subst eu
  obtain ⟨ox, od, J, k⟩ := ero_at I1 ea (fun e z => by cases z; exact ⟨fs, ed⟩)
  obtain ⟨mA, o, rfl, hr, hl⟩ := k d fs rfl ed
  obtain ⟨w, hw, rw_⟩ := RelO.some_of (v := v) (o := mA f) (by rw [← l]; exact hr f)
  obtain ⟨h1, hc⟩ := andB hc
  obtain ⟨h2, hc⟩ := andB hc
  obtain ⟨h3, hc⟩ := andB hc
  obtain ⟨h4, hc⟩ := andB hc
  obtain ⟨h5, _⟩ := andB hc
  exact HandSPX.exc_get I1.kIn J (of_decide_eq_true h2) (of_decide_eq_true h3) (of_decide_eq_true h4) (PySem.W.findObj_own h5 hn rfl (by rw [hl f, hw])) (handed_of rw_) ⟨v, H1, I1.tok _, rw_, q⟩
end
section
variable [CA] {K : PySem.W.Frag} {F G G' H H' : Hp} {σ σa : L2.St} {s s' : S} {pv pv' : List V} {W : WX}
theorem sFld_le {f : String} {fo : Sem} {Q : VK} (cf : Cfs K) (na : NoAts K) (S : Sim K F G H σ s pv) (q : (sFld f fo s).go (KOk K F G pv σ Q) (KEx K F G pv σ W)) (ne : (fo s).isErr = false) : tFld K (tOf K W fo) (sS f) σ H Q := by
  refine ⟨F, G, s, pv, S, ?_⟩
  unfold sFld at q
  cases e : fo s with
  | exc x s1 => rw [e] at q; exact q
  | bad => rw [e] at q; exact q
  | ok t s1 =>
    rw [e] at q ne
    have q1 := bind_use q
    intro v G1 H1 pv1 po px S1
    cases t with
    | d x =>
      have hv := S1.top_d
      cases x with
      | err _ _ => cases ne
      | obj C fs =>
        simp only [Res.go] at q1
        by_cases c0 : isExcN C = true
        · rw [if_pos c0] at q1; exact q1.elim
        rw [if_neg c0] at q1
        by_cases c1 : (fieldsOf C).contains f = true
        · rw [if_pos c1] at q1
          cases el : fs.lookup f with
          | none => rw [el] at q1; exact q1.elim
          | some x =>
            rw [el] at q1
            cases hv with
            | obj o h l =>
              obtain ⟨w, hw, hx⟩ := l.look el
              exact ⟨_, _, _, _, w, rfl, S1.eg _ _ h, iobj_cls (cf.o C o (by simpa using c0)), noat_of (na C o) c1, hw, q1 w G1 H1 pv1 po px (S1.pop.push_d hx)⟩
        · rw [if_neg c1] at q1; exact q1.elim
      | _ => exact q1.elim
    | al k =>
      have ek := S1.al_top
      simp only [Res.go] at q1
      cases ep : s1.p[k]? with
      | none => rw [ep] at q1; exact q1.elim
      | some u =>
        rw [ep] at q1
        cases u with
        | obj C ts =>
          simp only at q1
          by_cases c0 : isExcN C = true
          · rw [if_pos c0] at q1; exact q1.elim
          rw [if_neg c0] at q1
          by_cases c1 : (fieldsOf C).contains f = true
          · rw [if_pos c1] at q1
            obtain ⟨v2, Aa, A1, ev, _, hu, _, _, _, _, _⟩ := Sim.root (σa := []) (ra := []) (r := s1.r) (p := s1.p) (h := S1.pop) rfl ep
            rw [ek] at ev
            cases ev
            cases hu with
            | obj o h h2 a1 a2 nn ss l =>
              have f1 := iobj_cls (cf.o C o (by simpa using c0))
              have f2 := noat_of (na C o) c1
              cases el : ts.lookup f with
              | none => rw [el] at q1; exact q1.elim
              | some t =>
                rw [el] at q1
                obtain ⟨w, A3, hw, hx, _⟩ := l.look el
                cases t with
                | d x =>
                  cases hx with
                  | d hx => exact ⟨_, _, _, _, w, rfl, h, f1, f2, hw, q1 w G1 H1 pv1 po px (S1.pop.push_d hx)⟩
                | al j =>
                  cases hx with
                  | al hx => exact ⟨_, _, _, _, w, rfl, h, f1, f2, hw, q1 w G1 H1 pv1 po px (S1.pop.push_al hx)⟩
                | _ => exact q1.elim
          · rw [if_neg c1] at q1; exact q1.elim
        | _ => exact q1.elim
    | _ => exact q1.elim
theorem sFld_er {f : String} {fo : Sem} {Q : VK} (cf : Cfs K) (na : NoAts K) (S : Sim K F G H σ s pv) (q : (sFld f fo s).go (KOk K F G pv σ Q) (KEx K F G pv σ W)) (ne : (fo s).isErr = true) : tErF K (sS f) (tOf K W fo) σ H Q := by
  refine ⟨F, G, s, pv, S, ?_⟩
  unfold sFld at q
  cases e : fo s with
  | exc x s1 => rw [e] at q; exact q
  | bad => rw [e] at q; exact q
  | ok t s1 =>
    rw [e] at q ne
    have q1 := bind_use q
    intro v G1 H1 pv1 po px S1
    cases t with
    | d x =>
      have hv := S1.top_d
      cases x with
      | err C fs =>
        simp only [Res.go] at q1
        by_cases c0 : isExcN C = true
        · rw [if_pos c0] at q1
          by_cases c1 : (fieldsOf C).contains f = true
          · rw [if_pos c1] at q1
            cases el : fs.lookup f with
            | none => rw [el] at q1; exact q1.elim
            | some x =>
              rw [el] at q1
              cases hv with
              | @err a d C vs ds o h h2 h3 l =>
                obtain ⟨w, hw, hx⟩ := l.look el
                cases d with
                | none =>
                  rw [h3 rfl] at hw
                  cases hw
                | some d => exact ⟨a, _, d, vs, w, rfl, S1.eg _ _ h, S1.eg _ _ (h2 d rfl), cf.x C o c0, noat_of (na C o) c1, hw, q1 w G1 H1 pv1 po px (S1.pop.push_d hx)⟩
          · rw [if_neg c1] at q1; exact q1.elim
        · rw [if_neg c0] at q1; exact q1.elim
      | _ => cases ne
    | _ => cases ne
end
section
variable [CA] {X : Cx} {W : WX} {e : Expr} {f : String} {pos : Pos} {fo : Sem}
theorem r_fld (cf : Cfs X.K) (na : NoAts X.K) (he : PE X e (tOf X.K W fo)) (hb : attributeBase e (sS f) X.env (eval e X.env) = eval e X.env := by rfl) : PE X (.Attribute e (sS f) pos) (tOf X.K W (sFld f fo)) := by
  constructor
  intro pins s σ H Q I h
  obtain ⟨F, G, st, pv, S, q⟩ := h
  cases c : (fo st).isErr with
  | false => exact (pe_fld he hb).run pins s σ H Q I (sFld_le cf na S q c)
  | true => exact (pe_erf he hb).run pins s σ H Q I (sFld_er cf na S q c)
end
end BT
/-! ED: attributes stored; lists behind an alias changed; loans to the store. -/
namespace BT
open PySem PySem.Spec PyProof.Rows L2

def putT (f : String) (t : T) : List (String × T) → List (String × T)
  | [] => [(f, t)]
  | (g, x) :: r => if g = f then (g, t) :: r else (g, x) :: putT f t r
theorem sS_ne {a b : String} (h : a ≠ b) : sS a ≠ sS b := fun z => h (sS_inj z)
section
variable [CA] {K : PySem.W.Frag} {F G G' H H' : Hp} {σ σa : L2.St} {s s' : S} {pv pv' : List V} {W : WX} {D : Ends}
theorem RpF.put : ∀ {vs : List (Str × V)} {ts : List (String × T)} {f : String} {v : V} {t : T} {A A1 A2 : AS}, RpF K G H pv vs ts A1 → Rp K G H pv v t A2 → (∀ x, A1 x → A x ∧ ¬ A2 x) → (∀ x, A2 x → A x) → RpF K G H pv (putF (sS f) v vs) (putT f t ts) A
  | _, _, f, v, t, A, _, A2, .nil, h, _, d2 => .cons (A2 := fun _ => False) h .nil (fun x b => ⟨d2 x b, id⟩) fun _ z => z.elim
  | _, _, f, v, t, A, _, A2, @RpF.cons _ _ _ _ _ k w vs u ts B B1 B2 hv hl s1 s2, h, d1, d2 => by
    unfold putF putT
    by_cases c : k = f
    · subst c
      rw [if_pos rfl, if_pos rfl]
      exact .cons h hl (fun x b => ⟨d2 x b, fun z => (d1 x (s2 x z)).2 b⟩) fun x b => (d1 x (s2 x b)).1
    · rw [if_neg (sS_ne c), if_neg c]
      exact .cons (A2 := fun x => B2 x ∨ A2 x) hv (RpF.put hl h (fun x b => ⟨.inl b, (d1 x (s2 x b)).2⟩) fun x b => .inr b) (fun x b => ⟨(d1 x (s1 x b).1).1, fun z => z.elim (s1 x b).2 (d1 x (s1 x b).1).2⟩)
        fun x b => b.elim (fun z => (d1 x (s2 x z)).1) (d2 x)
/-- an attribute taken out and laid back otherwise -/
theorem RpF.at : ∀ {vs : List (Str × V)} {ts : List (String × T)} {A : AS} {f : String} {t : T}, RpF K G H pv vs ts A → ts.lookup f = some t →
    ∃ (v : V) (A1 A2 : AS), vs.lookup (sS f) = some v ∧ Rp K G H pv v t A1 ∧ (∀ x, A1 x → A x ∧ ¬ A2 x) ∧ (∀ x, A2 x → A x) ∧
      ∀ (G' H' : Hp) (pv' : List V) (t' : T) (A' A1' : AS), Fm K G G' H H' pv pv' A2 → Rp K G' H' pv' v t' A1' → (∀ x, A1' x → A' x ∧ ¬ A2 x) → (∀ x, A2 x → A' x) → RpF K G' H' pv' vs (putT f t' ts) A'
  | _, _, _, f, t, .nil, e => by cases e
  | _, _, A, f, t, @RpF.cons _ _ _ _ _ k w vs u ts _ B1 B2 hv hl s1 s2, e => by
    simp only [List.lookup] at e ⊢
    rw [sS_bq f k]
    unfold putT
    cases c : f == k with
    | true =>
      rw [c] at e
      cases e
      have ck : k = f := (eq_of_beq c).symm
      subst ck
      refine ⟨w, B1, B2, rfl, hv, s1, s2, fun G' H' pv' t' A' A1' f q d1 d2 => ?_⟩
      rw [if_pos rfl]
      exact .cons q (hl.fm f) d1 d2
    | false =>
      rw [c] at e
      have ck : k ≠ f := fun z => by rw [z, beq_self_eq_true] at c; cases c
      obtain ⟨v, A1, A2, e1, h1, d1, d2, k1⟩ := RpF.at hl e
      refine ⟨v, A1, fun x => B1 x ∨ A2 x, e1, h1, fun x b => ⟨s2 x (d1 x b).1, fun z => z.elim (fun z => (s1 x z).2 (d1 x b).1) (d1 x b).2⟩, fun x b => b.elim (fun z => (s1 x z).1) fun z => s2 x (d2 x z), fun G' H' pv' t' A' A1' f q e1' e2' => ?_⟩
      rw [if_neg ck]
      have hl2 := k1 G' H' pv' t' (fun x => A1' x ∨ A2 x) A1' (f.sub fun x b => .inr b) q (fun x b => ⟨.inl b, fun z => (e1' x b).2 (.inr z)⟩) fun x b => .inr b
      exact .cons (hv.fm (f.sub fun x b => .inl b)) hl2 (fun x b => ⟨e2' x (.inl b), fun z => z.elim (fun z => (e1' x z).2 (.inl b)) fun z => (s1 x b).2 (d2 x z)⟩) fun x b => b.elim (fun z => (e1' x z).1) fun z => e2' x (.inr z)
end
/-! ### o.f = e, o a name that is an alias -/
def sSetF (i : Nat) (f : String) (fe : Sem) : SemS := fun s => (fe s).bindF fun t s1 => match s1.r[i]? with
  | some (some (.al k)) => (match s1.p[k]? with
    | some (.obj C ts) => if isExcN C = false ∧ (fieldsOf C).contains f = true ∧ ts.length < 900 then .next ⟨s1.r, s1.p.set k (.obj C (putT f t ts))⟩ else .bad
    | _ => .bad)
  | _ => .bad
/-- o.f += e and its like, of whole numbers -/
def sAugF (i : Nat) (f : String) (g : D → D → Option Rv) (fe : Sem) : SemS := fun s => match s.r[i]? with
  | some (some (.al k)) => (match s.p[k]? with
    | some (.obj C ts) => if isExcN C = false ∧ (fieldsOf C).contains f = true ∧ ts.length < 900 then (match ts.lookup f with
      | some (.d a) => (pk fe s fun b => lk (g a b) s).bindF fun t s1 => .next ⟨s1.r, s1.p.set k (.obj C (putT f t ts))⟩
      | _ => .bad) else .bad
    | _ => .bad)
  | _ => .bad
section
variable [CA] {K : PySem.W.Frag} {F G G' H H' : Hp} {σ σa : L2.St} {s s' : S} {pv pv' : List V} {W : WX} {D : Ends}
theorem RpF.len : ∀ {v : List (Str × V)} {t : List (String × T)} {A : AS}, RpF K G H pv v t A → v.length = t.length
  | _, _, _, .nil => rfl
  | _, _, _, .cons _ l _ _ => congrArg (· + 1) (RpF.len l)
theorem Sim.slot_al {i k : Nat} (h : Sim K F G H σ s pv) (e : s.r[i]? = some (some (.al k))) : ∃ v, σ[i]? = some (some v) ∧ pv[k]? = some v := by
  obtain ⟨ef, eg, A, B, ho, hs, d, n⟩ := h
  obtain ⟨v, A1, A2, e1, h1, _⟩ := ho.take e
  cases h1 with
  | al hv => exact ⟨v, e1, hv⟩
/-- an attribute of a root is given a tree whose root is set in -/
theorem Sim.setF {v w : V} {t : T} {r : List (Option T)} {p : List T} {k : Nat} {C f : String} {ts : List (String × T)} (h : Sim K F G H (some v :: σ) ⟨some t :: r, p⟩ pv) (ek : pv[k]? = some w) (ep : p[k]? = some (.obj C ts)) :
    ∃ a dx fs, w = .ref a ∧ CA.ok C ∧ H a = some (.ins (CA.ca C) dx fs) ∧ fs.length = ts.length ∧ Sim K F G (upd H a (.ins (CA.ca C) dx (putF (sS f) v fs))) σ ⟨r, p.set k (.obj C (putT f t ts))⟩ pv := by
  obtain ⟨v2, Aa, A1, ev, ha, hu, dis, n, ef, eg, back⟩ := Sim.root (σa := [some v]) (ra := [some t]) (r := r) (p := p) h rfl ep
  rw [ek] at ev
  cases ev
  cases hu with
  | @obj a dx _ vs _ _ B o e1 e2 a1 a2 nn ss l =>
    refine ⟨a, dx, vs, rfl, o, e1, l.len, back _ _ (fun b o2 nb z => ?_) ?_ fun x b => ?_⟩
    · rw [upd_ne (fun w => nb (by rw [w]; exact a1))]; exact z
    · cases ha with
      | @cons _ _ _ _ _ C1 C2 ht hn s1 s2 =>
        have fmB : Fm K G G H (upd H a (.ins (CA.ca C) dx (putF (sS f) v vs))) pv pv B := ⟨Ex.rfl', fun b o2 z q => by rw [upd_ne (ss b z).2.1]; exact q, fun _ _ z => z⟩
        have fmC : Fm K G G H (upd H a (.ins (CA.ca C) dx (putF (sS f) v vs))) pv pv C1 := ⟨Ex.rfl', fun b o2 z q => by rw [upd_ne (fun w => dis b (s1 b z).1 (by rw [w]; exact a1))]; exact q, fun _ _ z => z⟩
        refine .obj (B := fun x => B x ∨ C1 x) o upd_same (by rw [upd_ne nn]; exact e2) (.inl a1) (.inl a2) nn (fun x b => ?_) (RpF.put (l.fm fmB) (ht.fm fmC) (fun x b => ⟨.inl b, fun z => dis x (s1 x z).1 (ss x b).1⟩) fun x b => .inr b)
        rcases b with b | b
        · exact ⟨.inl (ss x b).1, (ss x b).2⟩
        · exact ⟨.inr (s1 x b).1, fun w => dis x (s1 x b).1 (by rw [w]; exact a1), fun w => dis x (s1 x b).1 (by rw [w]; exact a2)⟩
    · by_cases w : x = a
      · subst w; rw [upd_same]; exact fun z => nomatch z
      · rw [upd_ne w]; exact (n x (.inr b)).1
theorem sSetF_le {i : Nat} {f : String} {fe : Sem} (cf : Cfs K) (na : NoAts K) (h : sOf K W (sSetF i f fe) D σ H) : L2.sFld K (tVar i) (tOf K W fe) (sS f) D σ H := by
  obtain ⟨F, G, s, pv, S, q⟩ := h
  refine ⟨F, G, s, pv, S, (bindF_use q).imp (fun t s1 q1 => ?_) fun _ _ z => z.kex⟩
  intro v G1 H1 pv1 po px S1
  split at q1
  · rename_i k er
    split at q1
    · rename_i C ts ep
      split at q1
      · rename_i c
        obtain ⟨w, e1, ew⟩ := Sim.slot_al (s := s1) S1.pop er
        obtain ⟨a, dx, fs, rfl, o, ha, lf, S2⟩ := Sim.setF (r := s1.r) (p := s1.p) (f := f) S1 ew ep
        exact ⟨.ref a, e1, a, _, dx, fs, rfl, ha, iobj_cls (cf.o C o c.1), noat_of (na C o) c.2.1, by rw [lf]; omega, q1 σ G1 _ pv1 po px S2⟩
      · exact q1.elim
    · exact q1.elim
  · exact q1.elim
theorem RpF.d_at {vs : List (Str × V)} {ts : List (String × T)} {f : String} {x : BT.D} {A : AS} (h : RpF K G H pv vs ts A) (e : ts.lookup f = some (.d x)) : ∃ v, vs.lookup (sS f) = some v ∧ Vw K G v x := by
  obtain ⟨v, A1, h1, h2, _⟩ := h.look e
  cases h2 with
  | d h => exact ⟨v, h1, h⟩
theorem sAugF_le {i : Nat} {f : String} {g : BT.D → BT.D → Option Rv} {fe : Sem} {rd : V → V → Hp → VK → Prop} (cf : Cfs K) (na : NoAts K) (hg : Op2 K rd g) (h : sOf K W (sAugF i f g fe) D σ H) : sFldAug K (tVar i) (tOf K W fe) rd (sS f) D σ H := by
  obtain ⟨F, G, s, pv, S, q⟩ := h
  unfold sAugF at q
  split at q
  · rename_i k er
    split at q
    · rename_i C ts ep
      split at q
      · rename_i c
        split at q
        · rename_i x el
          obtain ⟨w, e1, ew⟩ := Sim.slot_al S er
          obtain ⟨v2, Aa, A1, ev, _, hu, _, _, _, _, _⟩ := Sim.root (σa := []) (ra := []) (r := s.r) (p := s.p) (h := S) rfl ep
          rw [ew] at ev
          cases ev
          cases hu with
          | @obj a dx _ vs _ _ B o h1 h2 a1 a2 nn ss l =>
            obtain ⟨y, hy, hx⟩ := l.d_at el
            refine ⟨.ref a, e1, a, _, dx, vs, y, rfl, h1, iobj_cls (cf.o C o c.1), noat_of (na C o) c.2.1, hy, ?_⟩
            refine pk_use S ((bindF_use q).imp (fun _ _ z => z) fun _ _ z => z.kex) fun b xb H2 ex vb S2 q2 => ?_
            obtain ⟨R, eR, _⟩ := lk_use (Q := fun _ _ => True) S2 (q2.imp (fun _ _ _ => fun _ _ _ _ _ _ _ => True.intro) fun _ _ z => z)
            rw [eR] at q2
            have q3 : (if R.sc then R.fin s else .bad : Res T).go (fun t s1 => Fin K F G pv W D (.next ⟨s1.r, s1.p.set k (.obj C (putT f t ts))⟩)) (KEx K F G pv σ W) := q2
            by_cases cs : R.sc = true
            · rw [if_pos cs] at q3
              have fin : ∀ (z : V) (t : T) (G3 : Hp) (H3 : Hp), Post F G G3 → Sim K F G3 H3 (some z :: σ) ⟨some t :: s.r, s.p⟩ pv → Fin K F G pv W D (.next ⟨s.r, s.p.set k (.obj C (putT f t ts))⟩) →
                  ∃ dx' fs', H3 a = some (.ins (CA.ca C) dx' fs') ∧ fs'.length < 1000 ∧ D.nx σ (upd H3 a (.ins (CA.ca C) dx' (putF (sS f) z fs'))) := fun z t G3 H3 po3 S3 q4 => by
                obtain ⟨a3, dx3, fs3, ea, _, h3, l3, S4⟩ := Sim.setF (r := s.r) (p := s.p) (f := f) S3 ew ep
                cases ea
                exact ⟨dx3, fs3, h3, by rw [l3]; omega, q4 σ G3 _ pv po3 (List.prefix_refl _) S4⟩
              refine hg H2 H2 y b x xb R _ Ex.rfl' (hx.ex S2.eg) vb eR ?_
              cases R with
              | one d0 => exact fun z vz => fin z _ G H2 .rfl' (S2.push_d (vz.sc cs _)) q3
              | lst ds =>
                intro zs p0 vz hp
                refine fin _ _ G _ .rfl' (S2.push_new hp fun H5 e5 => ?_) q3
                subst e5
                exact .lst (B := fun _ => False) upd_same rfl (fun _ z => z.elim) (VwL.rpl (VwL.sc vz cs))
              | tup ds =>
                intro zs p0 vz hp
                obtain ⟨po5, S5⟩ := S2.lay (o := .tup zs) hp
                exact fin _ _ _ _ po5 (S5.push_d (.tup (st_of upd_same) (VwL.sc vz cs))) q3
            · rw [if_neg cs] at q3
              exact q3.elim
        · exact q.elim
      · exact q.elim
    · exact q.elim
  · exact q.elim
end
def gAddI : D → D → Option Rv
  | .int i, .int j => some (.one (.int (i + j)))
  | _, _ => none
theorem o_inAdd [CA] {K : PySem.W.Frag} : Op2 K rAdd gAddI := fun G H x y a b R Q g va vb e k => by
  unfold gAddI at e
  split at e
  · cases e
    exact ⟨_, _, vint va, vint vb, rvI k⟩
  · cases e
theorem o_inSub [CA] {K : PySem.W.Frag} : Op2 K rSub gSub := fun G H x y a b R Q g va vb e k => by
  unfold gSub at e
  split at e
  · cases e
    exact ⟨_, _, vint va, vint vb, rvI k⟩
  · cases e
section
variable [CA] {X : Cx} {W : WX} {e : Expr} {f : String} {x : Str} {p1 pos pos' : Pos} {fe : Sem}
theorem r_setF (i : Nat) (cf : Cfs X.K) (na : NoAts X.K) (he : PE X e (tOf X.K W fe)) (hN : X.N[i]? = some x := by rfl) (hv : Vis X.env.scope x := by first | exact Or.inl rfl | exact Or.inr (Or.inl rfl) | exact Or.inr (Or.inr rfl)) (hd : (x == ("__debug__" : Str)) = false := by decide)
    (hcd : (x == ("__classdict__" : Str)) = false := by decide) (hs : swapsWith e (some (.Attribute (.Name x p1) (sS f) pos')) pos.line X.env = pure false := by rfl) : PS X (.Assign [.Attribute (.Name x p1) (sS f) pos'] e pos) (sOf X.K W (sSetF i f fe)) :=
  (ps_fld (pe_var hN hv hd hcd) he hs).le fun _ _ _ h => sSetF_le cf na h
theorem r_addF (i : Nat) {tpos : Pos} (cf : Cfs X.K) (na : NoAts X.K) (he : PE X e (tOf X.K W fe)) (hN : X.N[i]? = some x := by rfl) (hv : Vis X.env.scope x := by first | exact Or.inl rfl | exact Or.inr (Or.inl rfl) | exact Or.inr (Or.inr rfl)) (hd : (x == ("__debug__" : Str)) = false := by decide)
    (hcd : (x == ("__classdict__" : Str)) = false := by decide) : PS X (.AugAssign (.Attribute (.Name x p1) (sS f) tpos) .Add e pos) (sOf X.K W (sAugF i f gAddI fe)) :=
  (ps_fldaug (pe_var hN hv hd hcd) he in_add).le fun _ _ _ h => sAugF_le cf na o_inAdd h
theorem r_subF (i : Nat) {tpos : Pos} (cf : Cfs X.K) (na : NoAts X.K) (he : PE X e (tOf X.K W fe)) (hN : X.N[i]? = some x := by rfl) (hv : Vis X.env.scope x := by first | exact Or.inl rfl | exact Or.inr (Or.inl rfl) | exact Or.inr (Or.inr rfl)) (hd : (x == ("__debug__" : Str)) = false := by decide)
    (hcd : (x == ("__classdict__" : Str)) = false := by decide) : PS X (.AugAssign (.Attribute (.Name x p1) (sS f) tpos) .Sub e pos) (sOf X.K W (sAugF i f gSub fe)) :=
  (ps_fldaug (pe_var hN hv hd hcd) he in_sub).le fun _ _ _ h => sAugF_le cf na o_inSub h
end
end BT
/-! EE: lists behind an alias changed; loans to the store. -/
namespace BT
open PySem PySem.Spec PyProof.Rows L2
/-- a list, told by an expression that is an alias, is changed by c with the arguments -/
def sMutE (c : (α : Type) → List α → List α → Option (List α)) (fo : Sem) (fs : SemA) : Sem := fun s => (fo s).bind fun t s1 => match t with
  | .al k => (match s1.p[k]? with
    | some (.lst _) => (fs s1).bind fun rs s2 => match s2.p[k]? with
      | some (.lst ts) => (match c T ts rs with
        | some qs => if qs.length ≤ sizeLine then .ok (.d .non) ⟨s2.r, s2.p.set k (.lst qs)⟩ else .bad
        | none => .bad)
      | _ => .bad
    | _ => .bad)
  | _ => .bad
def sExtE (fo f : Sem) : Sem := fun s => (fo s).bind fun t s1 => match t with
  | .al k => (match s1.p[k]? with
    | some (.lst _) => (f s1).bind fun r s2 => match s2.p[k]?, r.kids with
      | some (.lst ts), some us => if (ts ++ us).length ≤ sizeLine then .ok (.d .non) ⟨s2.r, s2.p.set k (.lst (ts ++ us))⟩ else .bad
      | _, _ => .bad
    | _ => .bad)
  | _ => .bad
section
variable [CA] {K : PySem.W.Frag} {F G G' H H' : Hp} {σ σa : L2.St} {s s' : S} {pv pv' : List V} {W : WX} {D : Ends}
theorem pfx_at {pv pv' : List V} {k : Nat} {v : V} (px : pv <+: pv') (e : pv[k]? = some v) : pv'[k]? = some v := pfx px k v e
/-- a root that is a list is changed; ws, rs: the arguments' roots -/
theorem Sim.chgE {c : (α : Type) → List α → List α → Option (List α)} {k : Nat} {w : V} {ws : List V} {rs ts qs : List T} {r : List (Option T)} {p : List T} (hc : Chg c) (h : Sim K F G H (ws.map some ++ σ) ⟨rs.map some ++ r, p⟩ pv) (e : ws.length = rs.length)
    (ek : pv[k]? = some w) (ep : p[k]? = some (.lst ts)) (hq : c T ts rs = some qs) : ∃ a vs, w = .ref a ∧ H a = some (.lst vs) ∧ vs.length = ts.length ∧ ∀ us, c V vs ws = some us → Sim K F G (upd H a (.lst us)) σ ⟨r, p.set k (.lst qs)⟩ pv := by
  obtain ⟨v2, Aa, A1, ev, ha, hu, dis, n, ef, eg, back⟩ := Sim.root (σa := ws.map some) (ra := rs.map some) (r := r) (p := p) h (by simpa using e) ep
  rw [ek] at ev
  cases ev
  cases hu with
  | @lst a vs _ _ B e1 a1 ss l =>
    refine ⟨a, vs, rfl, e1, l.len, fun us hu => back _ _ (fun b o2 nb z => ?_) ?_ fun x b => ?_⟩
    · rw [upd_ne (fun w => nb (by rw [w]; exact a1))]; exact z
    · have fmB : Fm K G G H (upd H a (.lst us)) pv pv B := ⟨Ex.rfl', fun b o2 z q => by rw [upd_ne (ss b z).2]; exact q, fun _ _ z => z⟩
      have fmA : Fm K G G H (upd H a (.lst us)) pv pv Aa := ⟨Ex.rfl', fun b o2 z q => by rw [upd_ne (fun w => dis b z (by rw [w]; exact a1))]; exact q, fun _ _ z => z⟩
      have all : RpL K G (upd H a (.lst us)) pv (vs ++ ws) (ts ++ rs) (fun x => B x ∨ Aa x) := RpL.app (l.fm fmB) (ha.kids.fm fmA) (fun x b => ⟨.inl b, fun z => dis x z (ss x b).1⟩) fun x b => .inr b
      refine .lst (B := fun x => B x ∨ Aa x) upd_same (.inl a1) (fun x b => ?_) (hc K G _ pv _ vs ws us ts rs qs e l.len all hq hu)
      rcases b with b | b
      · exact ⟨.inl (ss x b).1, (ss x b).2⟩
      · exact ⟨.inr b, fun w => dis x b (by rw [w]; exact a1)⟩
    · by_cases w : x = a
      · subst w; rw [upd_same]; exact fun z => nomatch z
      · rw [upd_ne w]; exact (n x (.inr b)).1
theorem al_list {k : Nat} {v : V} {ts : List T} (h : Sim K F G H σ s pv) (ek : pv[k]? = some v) (ep : s.p[k]? = some (.lst ts)) : ∃ a vs, v = .ref a ∧ H a = some (.lst vs) := by
  obtain ⟨v2, Aa, A1, ev, _, hu, _, _, _, _, _⟩ := Sim.root (σa := []) (ra := []) (r := s.r) (p := s.p) (h := h) rfl ep
  rw [ek] at ev
  cases ev
  cases hu with
  | lst e1 a1 ss l => exact ⟨_, _, rfl, e1⟩
theorem sMutE_le {r : V → List V → Hp → VK → Prop} {c : (α : Type) → List α → List α → Option (List α)} {fo : Sem} {fs : SemA} {Q : VK} (hc : Chg c) (hl : CLen c) (ok : MutOk r c)
    (h : tOf K W (sMutE c fo fs) σ H Q) : tBM K "list" r (tOf K W fo) (tOfA K W fs) σ H Q := by
  obtain ⟨F, G, s, pv, S, q⟩ := h
  refine ⟨F, G, s, pv, S, (bind_use q).imp (fun t s1 q1 => ?_) fun _ _ z => z⟩
  intro v G1 H1 pv1 po px S1
  split at q1
  · rename_i k
    have ek := S1.al_top
    split at q1
    · rename_i ts0 ep0
      obtain ⟨a, vs0, rfl, h0⟩ := al_list (s := s1) S1.pop ek ep0
      refine ⟨.inl ⟨rfl, _, .inl (.inl h0)⟩, F, G1, s1, pv1, S1.pop, (bind_use q1).imp (fun rs s2 q2 => ?_) fun _ _ z => z.after po px⟩
      intro ws G2 H2 pv2 po2 px2 el S2
      split at q2
      · rename_i ts ep
        cases ec : c T ts rs with
        | none => rw [ec] at q2; exact q2.elim
        | some qs =>
          rw [ec] at q2
          have q3 : (if qs.length ≤ sizeLine then Res.ok (.d .non) ⟨s2.r, s2.p.set k (.lst qs)⟩ else .bad : Res T).go (KOk K F G pv σ Q) (KEx K F G pv σ W) := q2
          by_cases cc : qs.length ≤ sizeLine
          · rw [if_pos cc] at q3
            obtain ⟨a2, vs, ea, h1, lv, kk⟩ := Sim.chgE (r := s2.r) (p := s2.p) hc S2 el (pfx_at px2 ek) ep ec
            cases ea
            obtain ⟨us, hu, lu⟩ := hl ts rs qs vs ws lv el ec
            exact ok a vs ws us H2 Q h1 hu (by rw [lu]; exact cc) (q3 .non G2 _ pv2 (po.tr po2) (px.trans px2) ((kk us hu).push_d .non))
          · rw [if_neg cc] at q3
            exact q3.elim
      · exact q2.elim
    · exact q1.elim
  · exact q1.elim
theorem sExtE_le {fo f : Sem} {Q : VK} (h : tOf K W (sExtE fo f) σ H Q) : tBM K "list" (rExtR K) (tOf K W fo) (tCons (tOf K W f) tNil) σ H Q := by
  obtain ⟨F, G, s, pv, S, q⟩ := h
  refine ⟨F, G, s, pv, S, (bind_use q).imp (fun t s1 q1 => ?_) fun _ _ z => z⟩
  intro v G1 H1 pv1 po px S1
  split at q1
  · rename_i k
    have ek := S1.al_top
    split at q1
    · rename_i ts0 ep0
      obtain ⟨a, vs0, rfl, h0⟩ := al_list (s := s1) S1.pop ek ep0
      refine ⟨.inl ⟨rfl, _, .inl (.inl h0)⟩, F, G1, s1, pv1, S1.pop, (bind_use q1).imp (fun u s2 q2 => ?_) fun _ _ z => z.after po px⟩
      intro w G2 H2 pv2 po2 px2 S2
      split at q2
      · rename_i ts us ep eu
        obtain ⟨b, zs, rfl, hb, lz, S3⟩ := Sim.kids (r := s2.r) (p := s2.p) S2 eu
        have q3 : (if (ts ++ us).length ≤ sizeLine then Res.ok (.d .non) ⟨s2.r, s2.p.set k (.lst (ts ++ us))⟩ else .bad : Res T).go (KOk K F G pv σ Q) (KEx K F G pv σ W) := q2
        by_cases cc : (ts ++ us).length ≤ sizeLine
        · rw [if_pos cc] at q3
          obtain ⟨a2, vs, ea, h1, lv, kk⟩ := Sim.chgE (r := s2.r) (p := s2.p) chg_ext S3 lz (pfx_at px2 ek) ep rfl
          cases ea
          rw [List.length_append] at cc
          exact ⟨a, b, vs, zs, rfl, rfl, h1, hb, by omega, q3 .non G2 _ pv2 (po.tr po2) (px.trans px2) ((kk _ rfl).push_d .non)⟩
        · rw [if_neg cc] at q3
          exact q3.elim
      · exact q2.elim
    · exact q1.elim
  · exact q1.elim
end
section
variable [CA] {X : Cx} {W : WX} {o e : Expr} {es : List Expr} {fo f : Sem} {g : SemA} {apos cpos : Pos}
theorem r_appE (ho : PE X o (tOf X.K W fo)) (ha : PA X (e :: es) (tOfA X.K W g)) (hbase : attributeBase o "append" X.env (eval o X.env) = eval o X.env := by rfl)
    (hfew : ((backTo cpos (starEach (e :: es) X.env)).all (fun x => !x.1) && (backToKw cpos (keywordEach [] X.env)).all (fun x => x.1.isSome) && decide ((e :: es).length + ([] : List Keyword).length + (if ([] : List Keyword).isEmpty then 0 else 1) < 30)) = true := by rfl)
    (hline : (apos.endLine == cpos.line) = true := by rfl) (hs : starEach (e :: es) X.env = (false, eval e X.env) :: starEach es X.env := by rfl) (hplain : (backTo cpos (starEach es X.env)).any (·.1) = false := by rfl) :
    PE X (.Call (.Attribute o "append" apos) (e :: es) [] cpos) (tOf X.K W (sMutE cApp fo g)) :=
  (pe_bm PySem.F.plainAttrs_list PySem.F.slot_list_append PySem.F.type_list_append mt_append ho ha hbase hfew hline hs hplain).le fun _ _ _ h => sMutE_le chg_app len_app mok_app h
theorem r_extE (ho : PE X o (tOf X.K W fo)) (he : PE X e (tOf X.K W f)) (hbase : attributeBase o "extend" X.env (eval o X.env) = eval o X.env := by rfl)
    (hfew : ((backTo cpos (starEach [e] X.env)).all (fun x => !x.1) && (backToKw cpos (keywordEach [] X.env)).all (fun x => x.1.isSome) && decide ([e].length + ([] : List Keyword).length + (if ([] : List Keyword).isEmpty then 0 else 1) < 30)) = true := by rfl)
    (hline : (apos.endLine == cpos.line) = true := by rfl) (hs : starEach [e] X.env = (false, eval e X.env) :: starEach [] X.env := by rfl) (hplain : (backTo cpos (starEach [] X.env)).any (·.1) = false := by rfl) :
    PE X (.Call (.Attribute o "extend" apos) [e] [] cpos) (tOf X.K W (sExtE fo f)) :=
  (pe_bm PySem.F.plainAttrs_list PySem.F.slot_list_extend PySem.F.type_list_extend mt_extR ho (pa_cons he pa_nil hs) hbase hfew hline hs hplain).le fun _ _ _ h => sExtE_le h
theorem r_revE (ho : PE X o (tOf X.K W fo)) (hbase : attributeBase o "reverse" X.env (eval o X.env) = eval o X.env := by rfl) (hline : (apos.endLine == cpos.line) = true := by rfl) :
    PE X (.Call (.Attribute o "reverse" apos) [] [] cpos) (tOf X.K W (sMutE cRev fo sAn)) :=
  (pe_bm0 PySem.F.plainAttrs_list PySem.F.slot_list_reverse PySem.F.type_list_reverse mt_reverse ho hbase hline).le fun σ H Q h => by
    obtain ⟨F, G, s, pv, S, q⟩ := sMutE_le chg_rev len_rev mok_rev h
    exact ⟨F, G, s, pv, S, q.imp (fun t s1 k v G1 H1 pv1 po px S1 => ⟨(k v G1 H1 pv1 po px S1).1, sAn_le (k v G1 H1 pv1 po px S1).2⟩) fun _ _ z => z⟩
end
/-! ### loans: what a slot or an attribute owns goes to the store for a while -/
mutual
/-- all aliases are below n -/
def T.alb (n : Nat) : T → Bool
  | .d _ => true
  | .al k => decide (k < n)
  | .lst ts => T.albL n ts
  | .tup ts => T.albL n ts
  | .dic kvs => T.albK n kvs
  | .obj _ fs => T.albF n fs
def T.albL (n : Nat) : List T → Bool
  | [] => true
  | t :: ts => t.alb n && T.albL n ts
def T.albK (n : Nat) : List (Key × T) → Bool
  | [] => true
  | (_, t) :: ts => t.alb n && T.albK n ts
def T.albF (n : Nat) : List (String × T) → Bool
  | [] => true
  | (_, t) :: ts => t.alb n && T.albF n ts
end
def albO (n : Nat) : List (Option T) → Bool
  | [] => true
  | none :: r => albO n r
  | some t :: r => t.alb n && albO n r
section
variable [CA] {K : PySem.W.Frag} {F G G' H H' : Hp} {σ σa : L2.St} {s s' : S} {pv pv' pw : List V} {W : WX} {D : Ends}
mutual
theorem Rp.cutv {n : Nat} (hp : ∀ k, k < n → ∀ v, pv[k]? = some v → pw[k]? = some v) : ∀ {v : V} {t : T} {A : AS}, Rp K G H pv v t A → t.alb n = true → Rp K G H pw v t A
  | _, _, _, .d h, _ => .d h
  | _, _, _, .al h, c => .al (hp _ (of_decide_eq_true c) _ h)
  | _, _, _, .lst h a s l, c => .lst h a s (RpL.cutv hp l c)
  | _, _, _, .tup h a s l, c => .tup h a s (RpL.cutv hp l c)
  | _, _, _, .dic h a s l, c => .dic h a s (RpK.cutv hp l c)
  | _, _, _, .obj k h h2 a b ne s l, c => .obj k h h2 a b ne s (RpF.cutv hp l c)
theorem RpL.cutv {n : Nat} (hp : ∀ k, k < n → ∀ v, pv[k]? = some v → pw[k]? = some v) : ∀ {v : List V} {t : List T} {A : AS}, RpL K G H pv v t A → T.albL n t = true → RpL K G H pw v t A
  | _, _, _, .nil, _ => .nil
  | _, _, _, .cons h l s1 s2, c => .cons (Rp.cutv hp h (and1 c)) (RpL.cutv hp l (and2 c)) s1 s2
theorem RpK.cutv {n : Nat} (hp : ∀ k, k < n → ∀ v, pv[k]? = some v → pw[k]? = some v) : ∀ {v : List (Key × V)} {t : List (Key × T)} {A : AS}, RpK K G H pv v t A → T.albK n t = true → RpK K G H pw v t A
  | _, _, _, .nil, _ => .nil
  | _, _, _, .cons h l s1 s2, c => .cons (Rp.cutv hp h (and1 c)) (RpK.cutv hp l (and2 c)) s1 s2
theorem RpF.cutv {n : Nat} (hp : ∀ k, k < n → ∀ v, pv[k]? = some v → pw[k]? = some v) : ∀ {v : List (Str × V)} {t : List (String × T)} {A : AS}, RpF K G H pv v t A → T.albF n t = true → RpF K G H pw v t A
  | _, _, _, .nil, _ => .nil
  | _, _, _, .cons h l s1 s2, c => .cons (Rp.cutv hp h (and1 c)) (RpF.cutv hp l (and2 c)) s1 s2
end
theorem RpO.cutv {n : Nat} (hp : ∀ k, k < n → ∀ v, pv[k]? = some v → pw[k]? = some v) : ∀ {σ : L2.St} {r : List (Option T)} {A : AS}, RpO K G H pv σ r A → albO n r = true → RpO K G H pw σ r A
  | _, _, _, .nil, _ => .nil
  | _, _, _, .skip h, c => .skip (RpO.cutv hp h c)
  | _, _, _, .cons h l s1 s2, c => .cons (h.cutv hp (and1 c)) (RpO.cutv hp l (and2 c)) s1 s2
theorem Sim.plen (h : Sim K F G H σ s pv) : pv.length = s.p.length := by
  obtain ⟨ef, eg, A, B, ho, hs, d, n⟩ := h
  exact hs.len
theorem pfx_app (pv : List V) (v : V) : ∀ (k : Nat) w, pv[k]? = some w → (pv ++ [v])[k]? = some w := fun k w e => by
  rw [List.getElem?_append_left (List.getElem?_eq_some_iff.mp e).1]
  exact e
/-- a new root, out of slot i -/
theorem Sim.loan {r : List (Option T)} {p : List T} {i : Nat} {t : T} (h : Sim K F G H σ ⟨r, p⟩ pv) (e : r[i]? = some (some t)) : ∃ v, σ[i]? = some (some v) ∧ Sim K F G H σ ⟨r.set i (some (.al p.length)), p ++ [t]⟩ (pv ++ [v]) := by
  have lp := h.plen
  obtain ⟨ef, eg, A, B, ho, hs, d, n⟩ := h
  obtain ⟨v, A1, A2, e1, h1, h2, d1, d2⟩ := ho.take e
  have fm : ∀ Z : AS, Fm K G G H H pv (pv ++ [v]) Z := fun Z => ⟨Ex.rfl', fun _ _ _ z => z, pfx_app pv v⟩
  have iσ : i < σ.length := (List.getElem?_eq_some_iff.mp e1).1
  have eσ : σ.set i (some v) = σ := by
    apply List.ext_getElem?
    intro j
    by_cases c : i = j
    · subst c
      rw [List.getElem?_set_self iσ, e1]
    · rw [List.getElem?_set_ne c]
  have lp2 : pv.length = p.length := lp
  have h3 := (h2.fm (fm A2)).put (A := A2) (A1 := fun _ => False) (i := i) (t := .al p.length) (v := v) iσ (.al (by rw [← lp2, List.getElem?_append_right (Nat.le_refl _), Nat.sub_self]; rfl)) (fun _ z => z.elim) (fun _ z => z)
  rw [eσ, List.set_set] at h3
  refine ⟨v, e1, ef, eg, A2, fun x => B x ∨ A1 x, h3, RpL.app (hs.fm (fm B)) (.cons (A := A1) (A1 := A1) (A2 := fun _ => False) (h1.fm (fm A1)) .nil (fun x b => ⟨b, id⟩) fun _ z => z.elim) (fun x b => ⟨.inl b, fun z => d x (d1 x z).1 b⟩) (fun x b => .inr b), fun x b z => z.elim (d x (d2 x b)) fun z => (d1 x z).2 b, fun x b => n x ?_⟩
  rcases b with b | b | b
  · exact .inl (d2 x b)
  · exact .inr b
  · exact .inl (d1 x b).1
/-- the last root goes back into slot i -/
theorem Sim.unloan {r : List (Option T)} {p : List T} {i : Nat} {t : T} {v : V} (h : Sim K F G H σ ⟨r, p ++ [t]⟩ (pv ++ [v])) (lp : pv.length = p.length) (e : r[i]? = some (some (.al p.length))) (c1 : albO p.length (r.set i none) = true) (c2 : T.albL p.length (p ++ [t]) = true) :
    Sim K F G H σ ⟨r.set i (some t), p⟩ pv := by
  obtain ⟨ef, eg, A, B, ho, hs, d, n⟩ := h
  obtain ⟨B1, B2, k1, k2, b1, b2⟩ := RpL.part lp hs
  obtain ⟨w, A1, A2, e1, h1, h2, d1, d2⟩ := ho.take e
  have cut : ∀ k, k < p.length → ∀ u, (pv ++ [v])[k]? = some u → pv[k]? = some u := fun k hk u z => by
    rw [List.getElem?_append_left (by rw [lp]; exact hk)] at z
    exact z
  have ew : w = v := by
    cases h1 with
    | al z =>
      rw [← lp, List.getElem?_append_right (Nat.le_refl _), Nat.sub_self] at z
      exact (Option.some.inj z).symm
  subst ew
  have albL_app : ∀ {ts us : List T} {m : Nat}, T.albL m (ts ++ us) = true → T.albL m ts = true ∧ T.albL m us = true := by
    intro ts us m c
    induction ts with
    | nil => exact ⟨rfl, c⟩
    | cons t ts ih =>
      have c' : (t.alb m && T.albL m (ts ++ us)) = true := c
      obtain ⟨x1, x2⟩ := ih (and2 c')
      exact ⟨Bool.and_eq_true_iff.mpr ⟨and1 c', x1⟩, x2⟩
  obtain ⟨cp, ct⟩ := albL_app c2
  cases k2 with
  | @cons _ _ _ _ _ C1 C2 ht hn s1 s2 =>
    have iσ : i < σ.length := (List.getElem?_eq_some_iff.mp e1).1
    have eσ : σ.set i (some w) = σ := by
      apply List.ext_getElem?
      intro j
      by_cases c : i = j
      · subst c
        rw [List.getElem?_set_self iσ, e1]
      · rw [List.getElem?_set_ne c]
    have h3 := (h2.cutv cut c1).put (A := fun x => A2 x ∨ C1 x) (A1 := C1) (i := i) (t := t) (v := w) iσ (ht.cutv cut (and1 ct)) (fun x b => ⟨.inr b, fun z => d x (d2 x z) (b1' b2 x (s1 x b).1)⟩) (fun x b => .inl b)
    rw [eσ, List.set_set] at h3
    refine ⟨ef, eg, _, B1, h3, k1.cutv cut cp, fun x b z => ?_, fun x b => n x ?_⟩
    · rcases b with b | b
      · exact d x (d2 x b) (b1 x z).1
      · exact (b1 x z).2 (s1 x b).1
    · rcases b with (b | b) | b
      · exact .inl (d2 x b)
      · exact .inr (b2 x (s1 x b).1)
      · exact .inr (b1 x b).1
where
  b1' {B B2 : AS} (b2 : ∀ x, B2 x → B x) (x : Addr) (b : B2 x) : B x := b2 x b
end
/-- the last root goes back to slot i -/
def S.unl (i n : Nat) (s : S) : Option S := match s.r[i]?, s.p[n]? with
  | some (some (.al m)), some t => if (m = n ∧ s.p.length = n + 1) ∧ albO n (s.r.set i none) = true ∧ T.albL n s.p = true then some ⟨s.r.set i (some t), s.p.take n⟩ else none
  | _, _ => none
/-- f while what slot i owns is in the store -/
def sWith (i : Nat) (f : Sem) : Sem := fun s => match s.r[i]? with
  | some (some (.al _)) => f s
  | some (some t) => (match f ⟨s.r.set i (some (.al s.p.length)), s.p ++ [t]⟩ with
    | .ok u s1 => if u.alb s.p.length = true then (match s1.unl i s.p.length with
      | some s2 => .ok u s2
      | none => .bad) else .bad
    | .exc x s1 => (match s1.unl i s.p.length with
      | some s2 => .exc x s2
      | none => .bad)
    | .bad => .bad)
  | _ => .bad
section
variable [CA] {K : PySem.W.Frag} {F G G' H H' : Hp} {σ σa : L2.St} {s s' : S} {pv pv' pw : List V} {W : WX} {D : Ends}
theorem pfx_len {pv pv1 : List V} {v : V} (px : pv ++ [v] <+: pv1) (l : pv1.length = pv.length + 1) : pv1 = pv ++ [v] := (List.IsPrefix.eq_of_length px (by rw [List.length_append, l]; rfl)).symm
theorem Sim.unl {i n : Nat} {s1 s2 : S} {pv1 : List V} {v : V} (h : Sim K F G H σ s1 pv1) (px : pv ++ [v] <+: pv1) (ln : pv.length = n) (e : s1.unl i n = some s2) : Sim K F G H σ s2 pv := by
  unfold S.unl at e
  split at e
  · rename_i m t e1 e2
    split at e
    · rename_i c
      cases e
      obtain ⟨⟨c0, c1⟩, c2, c3⟩ := c
      subst c0
      have lp : pv1.length = s1.p.length := h.plen
      have epv := pfx_len px (by rw [lp, c1, ln])
      subst epv
      have ep : s1.p = s1.p.take m ++ [t] := by
        conv => lhs; rw [← List.take_append_drop m s1.p]
        congr 1
        have := List.drop_eq_getElem_cons (l := s1.p) (i := m) (by omega)
        rw [this, List.drop_eq_nil_of_le (by omega)]
        congr 1
        rw [List.getElem?_eq_getElem (by omega)] at e2
        exact Option.some.inj e2
      have lt : (s1.p.take m).length = m := by rw [List.length_take]; omega
      have h2 : Sim K F G H σ ⟨s1.r, s1.p.take m ++ [t]⟩ (pv ++ [v]) := by rw [← ep]; exact h
      exact Sim.unloan h2 (by rw [lt]; exact ln) (by rw [lt]; exact e1) (by rw [lt]; exact c2) (by rw [lt, ← ep]; exact c3)
    · cases e
  · cases e
theorem Sim.unl_v {i n : Nat} {s1 s2 : S} {pv1 : List V} {v w : V} {u : T} (h : Sim K F G H (some w :: σ) ⟨some u :: s1.r, s1.p⟩ pv1) (px : pv ++ [v] <+: pv1) (ln : pv.length = n) (cu : u.alb n = true) (e : s1.unl i n = some s2) : Sim K F G H (some w :: σ) ⟨some u :: s2.r, s2.p⟩ pv := by
  refine Sim.unl (i := i + 1) h px ln ?_
  unfold S.unl at e ⊢
  split at e
  · rename_i m t e1 e2
    split at e
    · rename_i c
      cases e
      simp only [List.getElem?_cons_succ, e1, e2, List.set_cons_succ]
      exact if_pos ⟨c.1, Bool.and_eq_true_iff.mpr ⟨cu, c.2.1⟩, c.2.2⟩
    · cases e
  · cases e
theorem sWith_le {i : Nat} {f : Sem} {Q : VK} (h : tOf K W (sWith i f) σ H Q) : tOf K W f σ H Q := by
  obtain ⟨F, G, s, pv, S, q⟩ := h
  unfold sWith at q
  split at q
  · exact ⟨F, G, s, pv, S, q⟩
  · rename_i t _ e
    obtain ⟨v, e1, S1⟩ := Sim.loan (r := s.r) (p := s.p) S e
    have ln : pv.length = s.p.length := S.plen
    refine ⟨F, G, _, _, S1, ?_⟩
    cases ef : f ⟨s.r.set i (some (.al s.p.length)), s.p ++ [t]⟩ with
    | bad => rw [ef] at q; exact q.elim
    | ok u s1 =>
      rw [ef] at q
      simp only at q
      by_cases cu : u.alb s.p.length = true
      · rw [if_pos cu] at q
        cases eu : s1.unl i s.p.length with
        | none => rw [eu] at q; exact q.elim
        | some s2 =>
          rw [eu] at q
          exact fun w G1 H1 pv1 po px S2 => q w G1 H1 pv po (List.prefix_refl _) (Sim.unl_v S2 px ln cu eu)
      · rw [if_neg cu] at q
        exact q.elim
    | exc x s1 =>
      rw [ef] at q
      simp only at q
      cases eu : s1.unl i s.p.length with
      | none => rw [eu] at q; exact q.elim
      | some s2 =>
        rw [eu] at q
        exact fun cls d G1 H1 pv1 po px S2 r => q cls d G1 H1 pv po (List.prefix_refl _) (Sim.unl S2 px ln eu) r
  · exact q.elim
end
section
variable [CA] {X : Cx} {W : WX} {e : Expr} {f : Sem}
theorem r_with (i : Nat) (he : PE X e (tOf X.K W f)) : PE X e (tOf X.K W (sWith i f)) := he.le fun _ _ _ h => sWith_le h
end
end BT
/-! EF: what an attribute owns: lent, laid still. -/
namespace BT
open PySem PySem.Spec PyProof.Rows L2
/-- the attribute f of the root that slot i tells goes back -/
def S.unlF (i : Nat) (f : String) (n : Nat) (s : S) : Option S := match s.r[i]? with
  | some (some (.al k)) => (match s.p[k]?, s.p[n]? with
    | some (.obj C ts), some t => (match ts.lookup f with
      | some (.al m) => if (m = n ∧ s.p.length = n + 1 ∧ k < n) ∧ albO n s.r = true ∧ T.albL n ((s.p.take n).set k (.obj C (putT f t ts))) = true then some ⟨s.r, (s.p.take n).set k (.obj C (putT f t ts))⟩ else none
      | _ => none)
    | _, _ => none)
  | _ => none
/-- g while what the attribute f owns is in the store -/
def sWithF (i : Nat) (f : String) (g : Sem) : Sem := fun s => match s.r[i]? with
  | some (some (.al k)) => (match s.p[k]? with
    | some (.obj C ts) => (match ts.lookup f with
      | some (.al _) => g s
      | some t => (match g ⟨s.r, s.p.set k (.obj C (putT f (.al s.p.length) ts)) ++ [t]⟩ with
        | .ok u s1 => if u.alb s.p.length = true then (match s1.unlF i f s.p.length with
          | some s2 => .ok u s2
          | none => .bad) else .bad
        | .exc x s1 => (match s1.unlF i f s.p.length with
          | some s2 => .exc x s2
          | none => .bad)
        | .bad => .bad)
      | none => .bad)
    | _ => .bad)
  | _ => .bad
/-- o.f, which stands still from now on -/
def sFldZ (i : Nat) (f : String) : Sem := fun s => match s.r[i]? with
  | some (some (.al k)) => (match s.p[k]? with
    | some (.obj C ts) => if isExcN C = false ∧ (fieldsOf C).contains f = true then (match ts.lookup f with
      | some (.al j) => .ok (.al j) s
      | some t => .ok (.d (t.dat [])) ⟨s.r, s.p.set k (.obj C (putT f (.d (t.dat [])) ts))⟩
      | none => .bad) else .bad
    | _ => .bad)
  | _ => .bad
section
variable [CA] {K : PySem.W.Frag} {F G G' H H' : Hp} {σ σa : L2.St} {s s' : S} {pv pv' pw : List V} {W : WX} {D : Ends}
theorem albL_set {n : Nat} : ∀ {ts : List T} {k : Nat} {t : T}, T.albL n ts = true → t.alb n = true → T.albL n (ts.set k t) = true
  | [], _, _, _, _ => rfl
  | u :: ts, 0, t, h, c => Bool.and_eq_true_iff.mpr ⟨c, and2 h⟩
  | u :: ts, k + 1, t, h, c => Bool.and_eq_true_iff.mpr ⟨and1 h, albL_set (and2 h) c⟩
theorem Sim.loanF {r : List (Option T)} {p : List T} {k : Nat} {C f : String} {ts : List (String × T)} {t : T} (h : Sim K F G H σ ⟨r, p⟩ pv) (ep : p[k]? = some (.obj C ts)) (el : ts.lookup f = some t) :
    ∃ v, Sim K F G H σ ⟨r, p.set k (.obj C (putT f (.al p.length) ts)) ++ [t]⟩ (pv ++ [v]) := by
  have lp := h.plen
  obtain ⟨ef, eg, A, B, ho, hs, d, n⟩ := h
  obtain ⟨w, E1, E2, e1, h5, f1, f2, back⟩ := hs.at ep
  cases h5 with
  | @obj a dx _ vs _ _ B3 o h1 h2 a1 a2 nn ss l =>
    obtain ⟨v, A1, A2, ev, hv, d1, d2, back1⟩ := l.at el
    have lp2 : pv.length = p.length := lp
    have fm : ∀ Z : AS, Fm K G G H H pv (pv ++ [v]) Z := fun Z => ⟨Ex.rfl', fun _ _ _ z => z, pfx_app pv v⟩
    have l2 := back1 G H (pv ++ [v]) (.al p.length) A2 (fun _ => False) (fm A2) (.al (by rw [← lp2, List.getElem?_append_right (Nat.le_refl _), Nat.sub_self]; rfl)) (fun _ z => z.elim) (fun _ z => z)
    have na : ¬ A1 a := fun z => (ss a (d1 a z).1).2.1 rfl
    have nd : ¬ A1 dx := fun z => (ss dx (d1 dx z).1).2.2 rfl
    have r2 : Rp K G H (pv ++ [v]) (.ref a) (.obj C (putT f (.al p.length) ts)) (fun x => E1 x ∧ ¬ A1 x) := .obj (B := A2) o h1 h2 ⟨a1, na⟩ ⟨a2, nd⟩ nn (fun x b => ⟨⟨(ss x (d2 x b)).1, fun z => (d1 x z).2 b⟩, (ss x (d2 x b)).2⟩) l2
    have l3 := back G H (pv ++ [v]) _ (fun x => B x ∧ ¬ A1 x) _ (fm E2) r2 (fun x b => ⟨⟨(f1 x b.1).1, b.2⟩, (f1 x b.1).2⟩) fun x b => ⟨f2 x b, fun z => (f1 x (ss x (d1 x z).1).1).2 b⟩
    have inB : ∀ x, A1 x → B x := fun x z => (f1 x (ss x (d1 x z).1).1).1
    refine ⟨v, ef, eg, A, B, ho.fm (fm A), RpL.app l3 (.cons (A := A1) (A1 := A1) (A2 := fun _ => False) (hv.fm (fm A1)) .nil (fun x b => ⟨b, id⟩) fun _ z => z.elim) (fun x b => ⟨b.1, b.2⟩) inB, d, n⟩
theorem Sim.unloanF {r : List (Option T)} {p : List T} {k : Nat} {C f : String} {ts : List (String × T)} {t : T} {v : V} (h : Sim K F G H σ ⟨r, p ++ [t]⟩ (pv ++ [v])) (lp : pv.length = p.length) (ep : p[k]? = some (.obj C ts)) (el : ts.lookup f = some (.al p.length))
    (c1 : albO p.length r = true) (c2 : T.albL p.length (p.set k (.obj C (putT f t ts))) = true) : Sim K F G H σ ⟨r, p.set k (.obj C (putT f t ts))⟩ pv := by
  obtain ⟨ef, eg, A, B, ho, hs, d, n⟩ := h
  obtain ⟨B1, B2, k1, k2, b1, b2⟩ := RpL.part lp hs
  have cut : ∀ k, k < p.length → ∀ u, (pv ++ [v])[k]? = some u → pv[k]? = some u := fun k hk u z => by
    rw [List.getElem?_append_left (by rw [lp]; exact hk)] at z
    exact z
  obtain ⟨w, E1, E2, e1, h5, f1, f2, back⟩ := k1.at ep
  cases h5 with
  | @obj a dx _ vs _ _ B3 o h1 h2 a1 a2 nn ss l =>
    obtain ⟨y, A1, A2, ev, hv, d1, d2, back1⟩ := l.at el
    have ey : y = v := by
      cases hv with
      | al z =>
        rw [← lp, List.getElem?_append_right (Nat.le_refl _), Nat.sub_self] at z
        exact (Option.some.inj z).symm
    subst ey
    cases k2 with
    | @cons _ _ _ _ _ C1 C2 ht hn s1 s2 =>
      have fm : ∀ Z : AS, Fm K G G H H (pv ++ [y]) (pv ++ [y]) Z := fun Z => ⟨Ex.rfl', fun _ _ _ z => z, fun _ _ z => z⟩
      have cb : ∀ x, C1 x → ¬ B1 x := fun x b z => (b1 x z).2 (s1 x b).1
      have inE : ∀ x, A2 x → E1 x := fun x b => (ss x (d2 x b)).1
      have l2 := back1 G H (pv ++ [y]) t (fun x => A2 x ∨ C1 x) C1 (fm A2) ht (fun x b => ⟨.inr b, fun z => cb x b (f1 x (inE x z)).1⟩) fun x b => .inl b
      have r2 : Rp K G H (pv ++ [y]) (.ref a) (.obj C (putT f t ts)) (fun x => E1 x ∨ C1 x) := .obj (B := fun x => A2 x ∨ C1 x) o h1 h2 (.inl a1) (.inl a2) nn (fun x b => by
        rcases b with b | b
        · exact ⟨.inl (inE x b), (ss x (d2 x b)).2⟩
        · exact ⟨.inr b, fun w => cb x b (by rw [w]; exact (f1 a a1).1), fun w => cb x b (by rw [w]; exact (f1 dx a2).1)⟩) l2
      have l3 := back G H (pv ++ [y]) _ (fun x => B1 x ∨ C1 x) _ (fm E2) r2 (fun x b => b.elim (fun z => ⟨.inl (f1 x z).1, (f1 x z).2⟩) fun z => ⟨.inr z, fun q => cb x z (f2 x q)⟩) fun x b => .inl (f2 x b)
      refine ⟨ef, eg, A, _, ho.cutv cut c1, l3.cutv cut c2, fun x b z => z.elim (fun z => d x b (b1 x z).1) fun z => d x b (b2 x (s1 x z).1), fun x b => n x ?_⟩
      rcases b with b | b | b
      · exact .inl b
      · exact .inr (b1 x b).1
      · exact .inr (b2 x (s1 x b).1)
theorem take_snoc {p : List T} {n : Nat} {t : T} (l : p.length = n + 1) (e : p[n]? = some t) : p = p.take n ++ [t] := by
  conv => lhs; rw [← List.take_append_drop n p]
  congr 1
  have := List.drop_eq_getElem_cons (l := p) (i := n) (by omega)
  rw [this, List.drop_eq_nil_of_le (by omega)]
  congr 1
  rw [List.getElem?_eq_getElem (by omega)] at e
  exact Option.some.inj e
theorem Sim.unlF {i n : Nat} {f : String} {s1 s2 : S} {pv1 : List V} {v : V} (h : Sim K F G H σ s1 pv1) (px : pv ++ [v] <+: pv1) (ln : pv.length = n) (e : s1.unlF i f n = some s2) : Sim K F G H σ s2 pv := by
  unfold S.unlF at e
  split at e
  · split at e
    · rename_i k er _ _ C ts t ek en
      split at e
      · rename_i m el
        split at e
        · rename_i c
          cases e
          obtain ⟨⟨c0, c1, c4⟩, c2, c3⟩ := c
          subst c0
          have lp : pv1.length = s1.p.length := h.plen
          have epv := pfx_len px (by rw [lp, c1, ln])
          subst epv
          have ep := take_snoc c1 en
          have lt : (s1.p.take m).length = m := by rw [List.length_take]; omega
          have h2 : Sim K F G H σ ⟨s1.r, s1.p.take m ++ [t]⟩ (pv ++ [v]) := by rw [← ep]; exact h
          exact Sim.unloanF h2 (by rw [lt]; exact ln) (by rw [List.getElem?_take_of_lt c4]; exact ek) (by rw [lt]; exact el) (by rw [lt]; exact c2) (by rw [lt]; exact c3)
        · cases e
      · cases e
    · cases e
  · cases e
theorem Sim.unlF_v {i n : Nat} {f : String} {s1 s2 : S} {pv1 : List V} {v w : V} {u : T} (h : Sim K F G H (some w :: σ) ⟨some u :: s1.r, s1.p⟩ pv1) (px : pv ++ [v] <+: pv1) (ln : pv.length = n) (cu : u.alb n = true) (e : s1.unlF i f n = some s2) : Sim K F G H (some w :: σ) ⟨some u :: s2.r, s2.p⟩ pv := by
  refine Sim.unlF (i := i + 1) (f := f) h px ln ?_
  unfold S.unlF at e ⊢
  split at e
  · split at e
    · rename_i k er _ _ C ts t ek en
      split at e
      · rename_i m el
        split at e
        · rename_i c
          cases e
          simp only [List.getElem?_cons_succ, er, ek, en, el]
          exact if_pos ⟨c.1, Bool.and_eq_true_iff.mpr ⟨cu, c.2.1⟩, c.2.2⟩
        · cases e
      · cases e
    · cases e
  · cases e
theorem sWithF_le {i : Nat} {f : String} {g : Sem} {Q : VK} (h : tOf K W (sWithF i f g) σ H Q) : tOf K W g σ H Q := by
  obtain ⟨F, G, s, pv, S, q⟩ := h
  unfold sWithF at q
  split at q
  · rename_i k er
    split at q
    · rename_i C ts ep
      split at q
      · exact ⟨F, G, s, pv, S, q⟩
      · rename_i t _ el
        obtain ⟨v, S1⟩ := Sim.loanF (r := s.r) (p := s.p) S ep el
        have ln : pv.length = s.p.length := S.plen
        refine ⟨F, G, _, _, S1, ?_⟩
        cases ef : g ⟨s.r, s.p.set k (.obj C (putT f (.al s.p.length) ts)) ++ [t]⟩ with
        | bad => rw [ef] at q; exact q.elim
        | ok u s1 =>
          rw [ef] at q
          simp only at q
          by_cases cu : u.alb s.p.length = true
          · rw [if_pos cu] at q
            cases eu : s1.unlF i f s.p.length with
            | none => rw [eu] at q; exact q.elim
            | some s2 =>
              rw [eu] at q
              exact fun w G1 H1 pv1 po px S2 => q w G1 H1 pv po (List.prefix_refl _) (Sim.unlF_v S2 px ln cu eu)
          · rw [if_neg cu] at q
            exact q.elim
        | exc x s1 =>
          rw [ef] at q
          simp only at q
          cases eu : s1.unlF i f s.p.length with
          | none => rw [eu] at q; exact q.elim
          | some s2 =>
            rw [eu] at q
            exact fun cls d G1 H1 pv1 po px S2 r => q cls d G1 H1 pv po (List.prefix_refl _) (Sim.unlF S2 px ln eu) r
      · exact q.elim
    · exact q.elim
  · exact q.elim
open Classical in
/-- an attribute of a root is laid still -/
theorem Sim.stillF {r : List (Option T)} {p : List T} {k : Nat} {C f : String} {ts : List (String × T)} {t : T} {w : V} (h : Sim K F G H σ ⟨r, p⟩ pv) (ek : pv[k]? = some w) (ep : p[k]? = some (.obj C ts)) (el : ts.lookup f = some t) :
    ∃ G' a dx vs v, Post F G G' ∧ w = .ref a ∧ CA.ok C ∧ H a = some (.ins (CA.ca C) dx vs) ∧ vs.lookup (sS f) = some v ∧ Vw K G' v (t.dat []) ∧ Sim K F G' H σ ⟨r, p.set k (.obj C (putT f (.d (t.dat [])) ts))⟩ pv := by
  obtain ⟨ef, eg, A, B, ho, hs, d, n⟩ := h
  obtain ⟨w2, E1, E2, e1, h5, f1, f2, back⟩ := hs.at ep
  rw [ek] at e1
  cases e1
  cases h5 with
  | @obj a dx _ vs _ _ B3 o h1 h2 a1 a2 nn ss l =>
    obtain ⟨v, A1, A2, ev, hv, d1, d2, back1⟩ := l.at el
    have inB : ∀ x, A1 x → B x := fun x z => (f1 x (ss x (d1 x z).1).1).1
    have g : Ex G (fun a => if A1 a then H a else G a) := fun a o q => by
      have hA : ¬ A1 a := fun z => by
        have := (n a (.inr (inB a z))).2.2
        rw [this] at q; cases q
      show (if A1 a then H a else G a) = some o
      rw [if_neg hA]; exact q
    have hd : Vw K (fun a => if A1 a then H a else G a) v (t.dat []) := hv.vw (sd := []) (fun k v q => .any v) (fun a o b q => by
      show (if A1 a then H a else G a) = some o
      rw [if_pos b]; exact q) g
    have fm : ∀ Z : AS, Fm K G (fun a => if A1 a then H a else G a) H H pv pv Z := fun Z => ⟨g, fun _ _ _ z => z, fun _ _ z => z⟩
    have l2 := back1 (fun a => if A1 a then H a else G a) H pv (.d (t.dat [])) A2 (fun _ => False) (fm A2) (.d hd) (fun _ z => z.elim) (fun _ z => z)
    have na : ¬ A1 a := fun z => (ss a (d1 a z).1).2.1 rfl
    have nd : ¬ A1 dx := fun z => (ss dx (d1 dx z).1).2.2 rfl
    have r2 : Rp K (fun a => if A1 a then H a else G a) H pv (.ref a) (.obj C (putT f (.d (t.dat [])) ts)) (fun x => E1 x ∧ ¬ A1 x) := .obj (B := A2) o h1 h2 ⟨a1, na⟩ ⟨a2, nd⟩ nn (fun x b => ⟨⟨(ss x (d2 x b)).1, fun z => (d1 x z).2 b⟩, (ss x (d2 x b)).2⟩) l2
    have l3 := back _ H pv _ (fun x => B x ∧ ¬ A1 x) _ (fm E2) r2 (fun x b => ⟨⟨(f1 x b.1).1, b.2⟩, (f1 x b.1).2⟩) fun x b => ⟨f2 x b, fun z => (f1 x (ss x (d1 x z).1).1).2 b⟩
    refine ⟨_, a, dx, vs, v, ⟨g, fun a o q => ?_⟩, rfl, o, h1, ev, hd, ⟨ef, fun a o q => ?_, A, _, ho.fm (fm A), l3, fun x b z => d x b z.1, fun x b => ?_⟩⟩
    · have hA : ¬ A1 a := fun z => by
        have := (n a (.inr (inB a z))).2.1
        rw [this] at q; cases q
      show (if A1 a then H a else G a) = G a
      rw [if_neg hA]
    · by_cases hA : A1 a
      · have q' : (if A1 a then H a else G a) = some o := q
        rwa [if_pos hA] at q'
      · have q' : (if A1 a then H a else G a) = some o := q
        rw [if_neg hA] at q'
        exact eg a o q'
    · have b' : A x ∨ B x := b.elim .inl fun z => .inr z.1
      have hA : ¬ A1 x := fun z => b.elim (fun y => d x y (inB x z)) fun y => y.2 z
      refine ⟨(n x b').1, (n x b').2.1, ?_⟩
      show (if A1 x then H x else G x) = none
      rw [if_neg hA]
      exact (n x b').2.2
theorem sFldZ_le {i : Nat} {f : String} {Q : VK} (cf : Cfs K) (na : NoAts K) (h : tOf K W (sFldZ i f) σ H Q) : tFld K (tVar i) (sS f) σ H Q := by
  obtain ⟨F, G, s, pv, S, q⟩ := h
  unfold sFldZ at q
  split at q
  · rename_i k er
    split at q
    · rename_i C ts ep
      split at q
      · rename_i c
        obtain ⟨w, e1, ew⟩ := Sim.slot_al S er
        split at q
        · rename_i j el
          obtain ⟨v2, Aa, A1, ev, _, hu, _, _, _, _, _⟩ := Sim.root (σa := []) (ra := []) (r := s.r) (p := s.p) (h := S) rfl ep
          rw [ew] at ev
          cases ev
          cases hu with
          | @obj a dx _ vs _ _ B o h1 h2 a1 a2 nn ss l =>
            obtain ⟨y, A3, hy, hx, _⟩ := l.look el
            cases hx with
            | al hx => exact ⟨.ref a, e1, a, _, dx, vs, y, rfl, h1, iobj_cls (cf.o C o c.1), noat_of (na C o) c.2, hy, q y G H pv .rfl' (List.prefix_refl _) (S.push_al hx)⟩
        · rename_i t _ el
          obtain ⟨G', a, dx, vs, v, po, rfl, o, h1, hv, vw, S2⟩ := Sim.stillF (r := s.r) (p := s.p) S ew ep el
          exact ⟨.ref a, e1, a, _, dx, vs, v, rfl, h1, iobj_cls (cf.o C o c.1), noat_of (na C o) c.2, hv, q v G' H pv po (List.prefix_refl _) (S2.push_d vw)⟩
        · exact q.elim
      · exact q.elim
    · exact q.elim
  · exact q.elim
end
section
variable [CA] {X : Cx} {W : WX} {e : Expr} {g : Sem} {f : String} {x : Str} {p1 pos : Pos}
theorem r_withF (i : Nat) (f : String) (he : PE X e (tOf X.K W g)) : PE X e (tOf X.K W (sWithF i f g)) := he.le fun _ _ _ h => sWithF_le h
theorem r_fldZ (i : Nat) (cf : Cfs X.K) (na : NoAts X.K) (hN : X.N[i]? = some x := by rfl) (hv : Vis X.env.scope x := by first | exact Or.inl rfl | exact Or.inr (Or.inl rfl) | exact Or.inr (Or.inr rfl)) (hd : (x == ("__debug__" : Str)) = false := by decide)
    (hcd : (x == ("__classdict__" : Str)) = false := by decide) (hb : attributeBase (.Name x p1) (sS f) X.env (eval (.Name x p1) X.env) = eval (.Name x p1) X.env := by rfl) : PE X (.Attribute (.Name x p1) (sS f) pos) (tOf X.K W (sFldZ i f)) :=
  (pe_fld (pe_var hN hv hd hcd) hb).le fun _ _ _ h => sFldZ_le cf na h
end
end BT
/-! EG: methods called, objects made. -/
namespace BT
open PySem PySem.Spec PyProof.Rows L2
section
variable [CA] {K : PySem.W.Frag} {F G G' H H' : Hp} {σ σa : L2.St} {s s' : S} {pv pv' pw : List V} {W : WX} {D : Ends}
/-- from the arguments' roots to a def's promise -/
theorem call_sp {Φ : SemF} {dd : List BT.D} {dvs vs : List V} {ts : List T} {n : Nat} {r : List (Option T)} {p : List T} {Q : VK} {E : XK} (hd : ∀ H, VwL K H dvs dd) (hn : Ar Φ n) (el : vs.length = ts.length)
    (S1 : Sim K F G H (vs.map some ++ σ) ⟨ts.map some ++ r, p⟩ pv)
    (q : match Φ (ts ++ dd.map .d) p with
      | .ret t p' => ∀ v G' H' pv', Post F G G' → pv <+: pv' → Sim K F G' H' (some v :: σ) ⟨some t :: r, p'⟩ pv' → Q v H'
      | .exc x p' => ∀ cls d G' H' pv', Post F G G' → pv <+: pv' → Sim K F G' H' σ ⟨r, p'⟩ pv' → XRep K F G' x cls d → E cls d H'
      | .bad => False) : spOf K n Φ (vs ++ dvs) H Q E := by
  have ldd := (hd H).len
  have S2 : Sim K F G H (σ ++ vs.map some) ⟨r ++ ts.map some, p⟩ pv := S1.comm (by simpa using el)
  have lr : σ.length = r.length := by
    have := S1.len
    rw [List.length_append, List.length_append, List.length_map, List.length_map, el] at this
    omega
  obtain ⟨F2, S3, a⟩ := Sim.out S2 lr
  have S4 : Sim K F2 G H ((vs ++ dvs).map some) ⟨(ts ++ dd.map T.d).map some, p⟩ pv := by
    rw [List.map_append, List.map_append]
    obtain ⟨ef, eg, A, B, ho, hs, d, n'⟩ := S3
    exact ⟨ef, eg, A, B, RpO.join (A2 := fun _ => False) ho (VwL.rpl (hd G)).roots (fun x b => ⟨b, id⟩) fun _ z => z.elim, hs, d, n'⟩
  have hl : (vs ++ dvs).length = n := by
    rw [← hn (ts ++ dd.map T.d) p (fun z => by rw [z] at q; exact q.elim), List.length_append, List.length_append, List.length_map, el, ldd]
  refine ⟨hl, F2, G, ts ++ dd.map T.d, p, pv, by rw [List.length_append, List.length_append, List.length_map, el, ldd], S4, ?_⟩
  cases e : Φ (ts ++ dd.map T.d) p with
  | bad => rw [e] at q; exact q.elim
  | ret t p' =>
    rw [e] at q
    intro v G2 H2 pv2 po px S5
    have S6 := (Sim.back a po px (r' := [some t]) S5).comm lr
    exact q v G2 H2 pv2 (a.post po) px S6
  | exc x p' =>
    rw [e] at q
    intro cls d G2 H2 pv2 po px S5 xr
    have S6 := Sim.back a po px (r' := []) S5
    rw [List.append_nil, List.append_nil] at S6
    exact q cls d G2 H2 pv2 (a.post po) px S6 (a.xrep xr)
end
/-! ### o.m(..) -/
section
variable {X : Cx} {CX : CXT} {k : Nat} {f C : Addr} {fd : FuncData} {ps : List Str} {sp : Sp} {dvs : List V} {ds : List Value} {E : L2.St → XK} {m : Str} {apos pos : Pos} {e o : Expr} {es : List Expr} {ta : TE} {t : TA}
def tMethT (C : Addr) (m : Str) (sp : Sp) (dvs : List V) (E : L2.St → XK) (ta : TE) (t : TA) : TE := fun σ H Q => ta σ H fun x H1 => ∃ a dx fs, x = .ref a ∧ H1 a = some (.ins C dx fs) ∧ fs.lookup m = none ∧
  t σ H1 fun vs H2 => sp (x :: (vs ++ dvs)) H2 Q (E σ)
theorem pe_methT {pl : PySem.Sem Bool} (he : PE X o ta) (c : Cls X.K C) (hm : Meth X.K C m f) (F : FnOk X.prog X.w X.K X.mg X.base CX k f fd ps sp) (hr : Room k X.A) (hb : Binds X.K fd ps ds) (hd : Vals dvs ds) (hx : ∀ σ, PassesAt CX X σ (E σ)) (ha : PA X (e :: es) t)
    (hst : starEach (e :: es) X.env = (false, eval e X.env) :: starEach es X.env := by rfl) (hpl : (backTo pos (starEach es X.env)).any (·.1) = false := by rfl)
    (ht : eval (.Call (.Attribute o m apos) (e :: es) [] pos) X.env = (do
      let ov ← eval o X.env
      standAt apos.atName
      let (f, first) ← holding [ov] (getMethod ov m pl)
      callWith pos f first (backTo pos (starEach (e :: es) X.env)) (backToKw pos (keywordEach [] X.env))) := by rfl) :
    PE X (.Call (.Attribute o m apos) (e :: es) [] pos) (tMethT C m sp dvs E ta t) := by
  constructor
  intro pins s σ H Q I h
  refine PySem.W.methodCall_KW (pl := pl) (thn (he.run pins s σ H _ I h) ?_) ht
  intro u s1 ⟨x, H1, I1, rx, a, dx, fs, ex, ea, l, q⟩
  subst ex
  have eu : u = Value.ref a := rx
  subst eu
  refine getmeth_ok I1 ea c hm l (PySem.W.callWith_K (first := [.ref a]) (h₀ := X.base) I.ok.mod.kin hm.kp (thn (ha.run pos pins s1 σ H1 _ I1 q) ?_) hst hpl)
  intro us s2 ⟨vs, H2, I2, r, q2⟩
  exact ⟨I2.kIn, run_fnSD (us := .ref a :: us) (vs := .ref a :: vs) F hr hb hd (hx σ) I2 (.cons rfl r) q2⟩
theorem pe_methT0 {pl : PySem.Sem Bool} (he : PE X o ta) (c : Cls X.K C) (hm : Meth X.K C m f) (F : FnOk X.prog X.w X.K X.mg X.base CX k f fd ps sp) (hr : Room k X.A) (hb : Binds X.K fd ps ds) (hd : Vals dvs ds) (hx : ∀ σ, PassesAt CX X σ (E σ))
    (ht : eval (.Call (.Attribute o m apos) [] [] pos) X.env = (do
      let ov ← eval o X.env
      standAt apos.atName
      let (f, first) ← holding [ov] (getMethod ov m pl)
      callWith pos f first (backTo pos (starEach [] X.env)) (backToKw pos (keywordEach [] X.env))) := by rfl) :
    PE X (.Call (.Attribute o m apos) [] [] pos) (tMethT C m sp dvs E ta tNil) := by
  constructor
  intro pins s σ H Q I h
  refine PySem.W.methodCall_KW (pl := pl) (thn (he.run pins s σ H _ I h) ?_) ht
  intro u s1 ⟨x, H1, I1, rx, a, dx, fs, ex, ea, l, q⟩
  subst ex
  have eu : u = Value.ref a := rx
  subst eu
  exact getmeth_ok I1 ea c hm l (PySem.W.callWith_K0 (first := [.ref a]) I1.kIn hm.kp (run_fnSD (us := [.ref a]) (vs := [.ref a]) F hr hb hd (hx σ) I1 (.cons rfl .nil) q))
/-- the receiver raises -/
theorem pe_methX {pl : PySem.Sem Bool} {args : List Expr} (he : PE X o ta)
    (ht : eval (.Call (.Attribute o m apos) args [] pos) X.env = (do
      let ov ← eval o X.env
      standAt apos.atName
      let (f, first) ← holding [ov] (getMethod ov m pl)
      callWith pos f first (backTo pos (starEach args X.env)) (backToKw pos (keywordEach [] X.env))) := by rfl) :
    PE X (.Call (.Attribute o m apos) args [] pos) (fun σ H _ => ta σ H fun _ _ => False) := by
  constructor
  intro pins s σ H Q I h
  refine PySem.W.methodCall_KW (pl := pl) (thn (he.run pins s σ H _ I h) ?_) ht
  intro u s1 ⟨x, H1, I1, rx, z⟩
  exact z.elim
end
/-- the class and the attributes' names of an object -/
def T.clsOf (p : List T) : T → Option (String × List String)
  | .d (.obj C fs) => some (C, fs.map (·.1))
  | .al k => (match p[k]? with
    | some (.obj C ts) => some (C, ts.map (·.1))
    | _ => none)
  | _ => none
/-- o.m(..): tab: the method by the object's class -/
def sMeth (m : String) (tab : String → Option SemF) (dd : List D) (fo : Sem) (fs : SemA) : Sem := fun s => (fo s).bind fun t s1 => match t.clsOf s1.p with
  | some (C, ns) => if isExcN C = false ∧ ns.contains m = false then (match tab C with
    | some Φ => (fs s1).bind fun ts s2 => match Φ (t :: ts ++ dd.map .d) s2.p with
      | .ret u p => .ok u ⟨s2.r, p⟩
      | .exc x p => .exc x ⟨s2.r, p⟩
      | .bad => .bad
    | none => .bad) else .bad
  | none => .bad
/-- the methods m of the text's classes -/
def MTab [CA] (CX : CXT) (P : Program) (w : World) (K : PySem.W.Frag) (mg : Str → Option Value) (base : Heap) (k : Nat) (m : String) (tab : String → Option SemF) (dd : List D) : Prop :=
  ∀ C Φ, CA.ok C → tab C = some Φ → ∃ n f dds, Meth K (CA.ca C) (sS m) f ∧ Df CX P w K mg base f n Φ k dds ∧ dd ∈ dds
section
variable [CA] {K : PySem.W.Frag} {F G G' H H' : Hp} {σ σa : L2.St} {s s' : S} {pv pv' pw : List V} {W : WX} {D : Ends}
theorem RpF.keys : ∀ {vs : List (Str × V)} {ts : List (String × T)} {A : AS}, RpF K G H pv vs ts A → ∀ {m : String}, (ts.map (·.1)).contains m = false → vs.lookup (sS m) = none
  | _, _, _, .nil, _, _ => rfl
  | _, _, _, @RpF.cons _ _ _ _ _ k v vs t ts _ _ _ h l _ _, m, c => by
    rw [List.map_cons, List.contains_cons, Bool.or_eq_false_iff] at c
    simp only [List.lookup]
    rw [sS_bq m k, c.1]
    exact RpF.keys l c.2
theorem VwF.keys : ∀ {vs : List (Str × V)} {ts : List (String × BT.D)}, VwF K H vs ts → ∀ {m : String}, (ts.map (·.1)).contains m = false → vs.lookup (sS m) = none
  | _, _, .nil, _, _ => rfl
  | _, _, @VwF.cons _ _ _ k v vs t ts h l, m, c => by
    rw [List.map_cons, List.contains_cons, Bool.or_eq_false_iff] at c
    simp only [List.lookup]
    rw [sS_bq m k, c.1]
    exact VwF.keys l c.2
theorem cls_at {v : V} {t : T} {r : List (Option T)} {p : List T} {C m : String} {ns : List String} (h : Sim K F G H (some v :: σ) ⟨some t :: r, p⟩ pv) (e : t.clsOf p = some (C, ns)) (c : ns.contains m = false) :
    CA.ok C ∧ ∃ a dx fs, v = .ref a ∧ H a = some (.ins (CA.ca C) dx fs) ∧ fs.lookup (sS m) = none := by
  cases t with
  | d x =>
    have hv := h.top_d
    cases x with
    | obj C2 fs =>
      cases e
      cases hv with
      | obj o h1 l => exact ⟨o, _, _, _, rfl, h.eg _ _ h1, l.keys c⟩
    | _ => cases e
  | al k =>
    have ek := h.al_top
    have e2 : (match p[k]? with
      | some (.obj C ts) => some (C, ts.map (·.1))
      | _ => none) = some (C, ns) := e
    cases ep : p[k]? with
    | none => rw [ep] at e2; cases e2
    | some u =>
      rw [ep] at e2
      cases u with
      | obj C2 ts =>
        cases e2
        obtain ⟨v2, Aa, A1, ev, _, hu, _, _, _, _, _⟩ := Sim.root (σa := []) (ra := []) (r := r) (p := p) (h := h.pop) rfl ep
        rw [ek] at ev
        cases ev
        cases hu with
        | obj o h1 h2 a1 a2 nn ss l => exact ⟨o, _, _, _, rfl, h1, l.keys c⟩
      | _ => cases e2
  | _ => cases e
/-- the receiver set in ahead of the arguments -/
theorem Sim.again {v : V} {t : T} {r : List (Option T)} {p p2 : List T} {C : String} {ns : List String} {G2 H2 : Hp} {pv2 : List V} {ws : List V} {ts : List T} {r2 : List (Option T)} (h : Sim K F G H (some v :: σ) ⟨some t :: r, p⟩ pv) (e : t.clsOf p = some (C, ns)) (g : Ex G G2) (px : pv <+: pv2)
    (h2 : Sim K F G2 H2 (ws.map some ++ σ) ⟨ts.map some ++ r2, p2⟩ pv2) : Sim K F G2 H2 ((v :: ws).map some ++ σ) ⟨(t :: ts).map some ++ r2, p2⟩ pv2 := by
  cases t with
  | d x => exact h2.push_d (h.top_d.ex g)
  | al k => exact h2.push_al (pfx_at px h.al_top)
  | _ => cases e
theorem sMeth_le {CX : CXT} {P : Program} {w : World} {mg : Str → Option Value} {base : Heap} {k : Nat} {m : String} {tab : String → Option SemF} {dd : List BT.D} {fo : Sem} {fs : SemA} {Q : VK} (S : Sim K F G H σ s pv)
    (q : (sMeth m tab dd fo fs s).go (KOk K F G pv σ Q) (KEx K F G pv σ W)) {t : T} {s1 : BT.S} (e : fo s = .ok t s1) {C : String} {ns : List String} (ec : t.clsOf s1.p = some (C, ns)) {Φ : SemF} (et : tab C = some Φ) {n : Nat} {dvs : List V} (hn : Ar Φ n) (hd : ∀ H, VwL K H dvs dd) :
    tMethT (CA.ca C) (sS m) (spOf K n Φ) dvs (WE W) (tOf K W fo) (tOfA K W fs) σ H Q := by
  refine ⟨F, G, s, pv, S, ?_⟩
  unfold sMeth at q
  rw [e] at q ⊢
  have q1 := bind_use q
  intro v G1 H1 pv1 po px S1
  simp only [Res.go, ec] at q1
  by_cases c : isExcN C = false ∧ ns.contains m = false
  · rw [if_pos c, et] at q1
    obtain ⟨o, a, dx, fs0, rfl, ha, hl⟩ := cls_at S1 ec c.2
    refine ⟨a, dx, fs0, rfl, ha, hl, F, G1, s1, pv1, S1.pop, (bind_use q1).imp (fun ts s2 q2 => ?_) fun _ _ z => z.after po px⟩
    intro ws G2 H2 pv2 po2 px2 el S2
    refine call_sp (vs := .ref a :: ws) (ts := t :: ts) (dd := dd) (r := s2.r) (p := s2.p) hd hn (by simp [el]) (Sim.again (p := s1.p) (r := s1.r) S1 ec po2.g px2 S2) ?_
    have q3 : (match Φ (t :: ts ++ dd.map T.d) s2.p with
      | .ret u p => Res.ok u ⟨s2.r, p⟩
      | .exc x p => .exc x ⟨s2.r, p⟩
      | .bad => .bad).go (KOk K F G pv σ Q) (KEx K F G pv σ W) := q2
    cases e3 : Φ (t :: ts ++ dd.map T.d) s2.p with
    | bad => rw [e3] at q3; exact q3.elim
    | ret u p => rw [e3] at q3; exact fun v2 G3 H3 pv3 po3 px3 S3 => q3 v2 G3 H3 pv3 ((po.tr po2).tr po3) ((px.trans px2).trans px3) S3
    | exc x p => rw [e3] at q3; exact fun cls d G3 H3 pv3 po3 px3 S3 xr => q3 cls d G3 H3 pv3 ((po.tr po2).tr po3) ((px.trans px2).trans px3) S3 xr
  · rw [if_neg c] at q1
    exact q1.elim
/-- where the receiver does not come about -/
theorem sMeth_ne {m : String} {tab : String → Option SemF} {dd : List BT.D} {fo : Sem} {fs : SemA} {Q : VK} (S : Sim K F G H σ s pv) (q : (sMeth m tab dd fo fs s).go (KOk K F G pv σ Q) (KEx K F G pv σ W))
    (ne : ∀ t s1, fo s = .ok t s1 → ∀ C ns, t.clsOf s1.p = some (C, ns) → tab C = none) : tOf K W fo σ H fun _ _ => False := by
  refine ⟨F, G, s, pv, S, ?_⟩
  unfold sMeth at q
  cases e : fo s with
  | bad => rw [e] at q; exact q
  | exc x s1 => rw [e] at q; exact q
  | ok t s1 =>
    rw [e] at q
    have q1 := bind_use q
    simp only [Res.go] at q1
    cases ec : t.clsOf s1.p with
    | none => rw [ec] at q1; exact q1.elim
    | some cn =>
      obtain ⟨C, ns⟩ := cn
      rw [ec] at q1
      simp only at q1
      rw [ne t s1 e C ns ec] at q1
      by_cases c : isExcN C = false ∧ ns.contains m = false
      · rw [if_pos c] at q1; exact q1.elim
      · rw [if_neg c] at q1; exact q1.elim
end
theorem clsOf_ok [CA] {K : PySem.W.Frag} {F G H : Hp} {σ : L2.St} {s : S} {pv : List V} {W : WX} {fo : Sem} {Q : VK} {m : String} {tab : String → Option SemF} {dd : List D} {fs : SemA} (S : Sim K F G H σ s pv) (q : (sMeth m tab dd fo fs s).go (KOk K F G pv σ Q) (KEx K F G pv σ W))
    {t : T} {s1 : BT.S} (e : fo s = .ok t s1) {C : String} {ns : List String} (ec : t.clsOf s1.p = some (C, ns)) : isExcN C = false := by
  unfold sMeth at q
  rw [e] at q
  have q1 := bind_use q
  simp only [Res.go, ec] at q1
  by_cases c : isExcN C = false ∧ ns.contains m = false
  · exact c.1
  · rw [if_neg c] at q1; exact q1.elim
section
variable [CA] {X : Cx} {CX : CXT} {W : WX} {k : Nat} {m : String} {tab : String → Option SemF} {apos pos : Pos} {o e : Expr} {es : List Expr} {fo : Sem} {fs : SemA}
/-- o.m(e, ..) -/
theorem m_r (dd : List D) (cf : Cfs X.K) (M : MTab CX X.prog X.w X.K X.mg X.base k m tab dd) (hr : Room k X.A) (pa : ∀ σ, PassesAt CX X σ (WE W σ)) (ok : ∀ C, (tab C).isSome = true → CA.ok C) (ho : PE X o (tOf X.K W fo)) (ha : PA X (e :: es) (tOfA X.K W fs)) {pl : PySem.Sem Bool}
    (hst : starEach (e :: es) X.env = (false, eval e X.env) :: starEach es X.env := by rfl) (hpl : (backTo pos (starEach es X.env)).any (·.1) = false := by rfl)
    (ht : eval (.Call (.Attribute o (sS m) apos) (e :: es) [] pos) X.env = (do
      let ov ← eval o X.env
      standAt apos.atName
      let (f, first) ← holding [ov] (getMethod ov (sS m) pl)
      callWith pos f first (backTo pos (starEach (e :: es) X.env)) (backToKw pos (keywordEach [] X.env))) := by rfl) : PE X (.Call (.Attribute o (sS m) apos) (e :: es) [] pos) (tOf X.K W (sMeth m tab dd fo fs)) := by
  constructor
  intro pins s σ H Q I h
  obtain ⟨F, G, st, pv, S, q⟩ := h
  by_cases c : ∃ t s1 C ns Φ, fo st = .ok t s1 ∧ t.clsOf s1.p = some (C, ns) ∧ tab C = some Φ
  · obtain ⟨t, s1, C, ns, Φ, e1, ec, et⟩ := c
    have o := ok C (by rw [et]; rfl)
    obtain ⟨n, f, dds, hm, ⟨⟨fd, ps, Fo, b, ar⟩, kp⟩, hdd⟩ := M C Φ o et
    obtain ⟨ds, dvs, hb, hd, hv⟩ := b dd hdd
    exact (pe_methT ho (iobj_cls (cf.o C o (clsOf_ok S q e1 ec))) hm Fo hr hb hd pa ha hst hpl ht).run pins s σ H Q I (sMeth_le (CX := CX) (P := X.prog) (w := X.w) (mg := X.mg) (base := X.base) (k := k) S q e1 ec et ar hv)
  · refine (pe_methX ho ht).run pins s σ H Q I (sMeth_ne S q fun t s1 e1 C ns ec => ?_)
    cases et : tab C with
    | none => rfl
    | some Φ => exact absurd ⟨t, s1, C, ns, Φ, e1, ec, et⟩ c
/-- o.m() -/
theorem m_r0 (dd : List D) (cf : Cfs X.K) (M : MTab CX X.prog X.w X.K X.mg X.base k m tab dd) (hr : Room k X.A) (pa : ∀ σ, PassesAt CX X σ (WE W σ)) (ok : ∀ C, (tab C).isSome = true → CA.ok C) (ho : PE X o (tOf X.K W fo)) {pl : PySem.Sem Bool}
    (ht : eval (.Call (.Attribute o (sS m) apos) [] [] pos) X.env = (do
      let ov ← eval o X.env
      standAt apos.atName
      let (f, first) ← holding [ov] (getMethod ov (sS m) pl)
      callWith pos f first (backTo pos (starEach [] X.env)) (backToKw pos (keywordEach [] X.env))) := by rfl) : PE X (.Call (.Attribute o (sS m) apos) [] [] pos) (tOf X.K W (sMeth m tab dd fo sAn)) := by
  constructor
  intro pins s σ H Q I h
  obtain ⟨F, G, st, pv, S, q⟩ := h
  by_cases c : ∃ t s1 C ns Φ, fo st = .ok t s1 ∧ t.clsOf s1.p = some (C, ns) ∧ tab C = some Φ
  · obtain ⟨t, s1, C, ns, Φ, e1, ec, et⟩ := c
    have o := ok C (by rw [et]; rfl)
    obtain ⟨n, f, dds, hm, ⟨⟨fd, ps, Fo, b, ar⟩, kp⟩, hdd⟩ := M C Φ o et
    obtain ⟨ds, dvs, hb, hd, hv⟩ := b dd hdd
    have z := sMeth_le (CX := CX) (P := X.prog) (w := X.w) (mg := X.mg) (base := X.base) (k := k) S q e1 ec et ar hv
    refine (pe_methT0 ho (iobj_cls (cf.o C o (clsOf_ok S q e1 ec))) hm Fo hr hb hd pa ht).run pins s σ H Q I ?_
    obtain ⟨F1, G1, t1, pv1, S1, z1⟩ := z
    exact ⟨F1, G1, t1, pv1, S1, z1.imp (fun t s1 kk v G1 H1 pv1 po px S1 => by
      obtain ⟨a, dx, fs, y1, y2, y3, y4⟩ := kk v G1 H1 pv1 po px S1
      exact ⟨a, dx, fs, y1, y2, y3, sAn_le y4⟩) fun _ _ z => z⟩
  · refine (pe_methX ho ht).run pins s σ H Q I (sMeth_ne S q fun t s1 e1 C ns ec => ?_)
    cases et : tab C with
    | none => rfl
    | some Φ => exact absurd ⟨t, s1, C, ns, Φ, e1, ec, et⟩ c
end
end BT
/-! EH: objects made; a def read off its class. -/
namespace BT
open PySem PySem.Spec PyProof.Rows L2
section
variable [CA] {K : PySem.W.Frag} {F G G' H H' : Hp} {σ σa : L2.St} {s s' : S} {pv pv' pw : List V} {W : WX} {D : Ends}
theorem Sim.newRoot {r : List (Option T)} {p : List T} {x dx : Addr} {C : String} (h : Sim K F G H σ ⟨r, p⟩ pv) (o : CA.ok C) (nx : H x = none) (nd : H dx = none) (ne : dx ≠ x) :
    Sim K F G (upd (upd H dx (.own x)) x (.ins (CA.ca C) dx [])) σ ⟨r, p ++ [.obj C []]⟩ (pv ++ [.ref x]) := by
  have e1 : Ex H (upd H dx (.own x)) := Ex.new nd
  have nx1 : upd H dx (.own x) x = none := by rw [upd_ne (Ne.symm ne)]; exact nx
  have e2 : Ex H (upd (upd H dx (.own x)) x (.ins (CA.ca C) dx [])) := e1.tr (Ex.new nx1)
  obtain ⟨ef, eg, A, B, ho, hs, d, n⟩ := h
  have fm : ∀ Z : AS, Fm K G G H (upd (upd H dx (.own x)) x (.ins (CA.ca C) dx [])) pv (pv ++ [.ref x]) Z := fun Z => ⟨Ex.rfl', fun b u _ z => e2 b u z, pfx_app pv _⟩
  have fr : ∀ y, A y ∨ B y → y ≠ x ∧ y ≠ dx := fun y b => ⟨fun w => (n y b).1 (by rw [w]; exact nx), fun w => (n y b).1 (by rw [w]; exact nd)⟩
  have hx : Rp K G (upd (upd H dx (.own x)) x (.ins (CA.ca C) dx [])) (pv ++ [.ref x]) (.ref x) (.obj C []) (fun y => y = x ∨ y = dx) :=
    .obj (B := fun _ => False) o upd_same (by rw [upd_ne ne, upd_same]) (.inl rfl) (.inr rfl) ne (fun _ z => z.elim) .nil
  refine ⟨ef.tr e2, eg.tr e2, A, fun y => B y ∨ (y = x ∨ y = dx), ho.fm (fm A), RpL.app (hs.fm (fm B)) (.cons (A := fun y => y = x ∨ y = dx) (A1 := fun y => y = x ∨ y = dx) (A2 := fun _ => False) hx .nil (fun y b => ⟨b, id⟩) fun _ z => z.elim)
    (fun y b => ⟨.inl b, fun z => z.elim (fr y (.inr b)).1 (fr y (.inr b)).2⟩) (fun y b => .inr b), fun y b z => z.elim (d y b) fun z => z.elim (fr y (.inl b)).1 (fr y (.inl b)).2, fun y b => ?_⟩
  have fx : ∀ {Z : Hp}, Ex Z H → Z x = none ∧ Z dx = none := fun {Z} ez => ⟨none_of_ex ez nx, none_of_ex ez nd⟩
  rcases b with b | b | b | b
  · refine ⟨fun z => ?_, (n y (.inl b)).2⟩
    cases w : H y with
    | none => exact (n y (.inl b)).1 w
    | some u => rw [e2 y u w] at z; cases z
  · refine ⟨fun z => ?_, (n y (.inr b)).2⟩
    cases w : H y with
    | none => exact (n y (.inr b)).1 w
    | some u => rw [e2 y u w] at z; cases z
  · subst b
    exact ⟨(by rw [upd_same]; exact fun z => nomatch z), (fx ef).1, (fx eg).1⟩
  · subst b
    exact ⟨(by rw [upd_ne ne, upd_same]; exact fun z => nomatch z), (fx ef).2, (fx eg).2⟩
/-- the last root comes to stand on top -/
theorem Sim.popRoot {r : List (Option T)} {p : List T} {n : Nat} {t : T} {v : V} {pv1 : List V} (h : Sim K F G H σ ⟨r, p⟩ pv1) (px : pv ++ [v] <+: pv1) (ln : pv.length = n) (l : p.length = n + 1) (e : p[n]? = some t) (c1 : albO n r = true) (c2 : T.albL n p = true) :
    Sim K F G H (some v :: σ) ⟨some t :: r, p.take n⟩ pv := by
  have lp : pv1.length = p.length := h.plen
  have epv := pfx_len px (by rw [lp, l, ln])
  subst epv
  have ep := take_snoc l e
  have lt : (p.take n).length = n := by rw [List.length_take]; omega
  have h2 : Sim K F G H σ ⟨r, p.take n ++ [t]⟩ (pv ++ [v]) := by rw [← ep]; exact h
  have h3 := h2.push_al (k := n) (v := v) (by rw [← ln, List.getElem?_append_right (Nat.le_refl _), Nat.sub_self]; rfl)
  exact Sim.unloan (i := 0) h3 (by rw [lt]; exact ln) (by rw [lt]; rfl) (by rw [lt]; exact c1) (by rw [lt, ← ep]; exact c2)
end
section
variable {X : Cx} {CX : CXT} {k : Nat} {f C : Addr} {fd : FuncData} {ps : List Str} {sp : Sp} {dvs : List V} {ds : List Value} {E : L2.St → XK} {x m : Str} {p pos apos : Pos} {e o : Expr} {es : List Expr} {ta : TE} {t : TA}
def tMakeT (C : Addr) (sp : Sp) (dvs : List V) (E : L2.St → XK) (t : TA) : TE := fun σ H Q => t σ H fun vs H1 => ∀ x dx, H1 x = none → H1 dx = none → dx ≠ x →
  sp (.ref x :: (vs ++ dvs)) (upd (upd H1 dx (.own x)) x (.ins C dx [])) (fun v H2 => v = .non ∧ Q (.ref x) H2) (E σ)
theorem run_makeT {pins : List (Addr × Obj)} {σ : L2.St} {H : Hp} {s : Shared} {Q : VK} {us : List Value} {vs : List V} (M : Mk X.K C f) (F : FnOk X.prog X.w X.K X.mg X.base CX k f fd ps sp) (hr : Room (k + 1) X.A) (hb : Binds X.K fd ps ds) (hd : Vals dvs ds)
    (hx : PassesAt CX X σ (E σ)) (I : Inv X pins σ H s) (r : Vals vs us)
    (h : ∀ x dx, H x = none → H dx = none → dx ≠ x → sp (.ref x :: (vs ++ dvs)) (upd (upd H dx (.own x)) x (.ins C dx [])) (fun v H2 => v = .non ∧ Q (.ref x) H2) (E σ)) :
    wpAny (model X.prog X.w) X.A (call (.ref C) us) (EP X pins σ Q) X.xe s := by
  have n1 : H (s.heap.objs.size + 1) = none := I.hok.fresh (Nat.le_succ _)
  have n0 : H s.heap.objs.size = none := I.hok.fresh (Nat.le_refl _)
  have hq := h _ _ n1 n0 (Nat.ne_of_lt (Nat.lt_succ_self _))
  have J := Inv.made (C := C) I
  have rv : Vals (V.ref (s.heap.objs.size + 1) :: (vs ++ dvs)) (Value.ref (s.heap.objs.size + 1) :: (us ++ ds)) := .cons rfl (r.append hd)
  have hl : (Value.ref (s.heap.objs.size + 1) :: us ++ ds).length = ps.length := rv.length.symm.trans (F.len _ _ _ _ hq)
  have run := F.run (X.A.under (.builtin "type.__call__" ⟨.ref C :: us, []⟩)) X.stack _ _ ⟨Value.ref (s.heap.objs.size + 1) :: us, []⟩ _ _ _ (E σ) (hr.make C us []) (J.env0.make C us []) (hb _ (Value.ref (s.heap.objs.size + 1) :: us) J.kIn hl) rv hq
  refine wpAny_call (make_map (f := f) I.kIn M.makes M.init (beq_iff_eq.mp M.fn) (codeAny_mono run fun z s' hz => ?_))
  cases z with
  | error er => exact hx pins _ _ er s' J hz
  | ok fl =>
    cases fl with
    | next => exact hz.elim
    | brk => exact hz.elim
    | cont => exact hz.elim
    | ret u =>
      obtain ⟨v, H2, J2, ru, ev, q⟩ := J.after hz
      subst ev
      exact ⟨ru, ⟨V.ref (s.heap.objs.size + 1), H2, J2, rfl, q⟩⟩
theorem pe_makeT (M : Mk X.K C f) (F : FnOk X.prog X.w X.K X.mg X.base CX k f fd ps sp) (hr : Room (k + 1) X.A) (hg : Gl X x) (hm : X.mg x = some (.ref C)) (hb : Binds X.K fd ps ds) (hd : Vals dvs ds) (hx : ∀ σ, PassesAt CX X σ (E σ))
    (ha : PA X (e :: es) t) (hdb : (x == ("__debug__" : Str)) = false := by decide) (he : starEach (e :: es) X.env = (false, eval e X.env) :: starEach es X.env := by rfl) (hpl : (backTo pos (starEach es X.env)).any (·.1) = false := by rfl) :
    PE X (.Call (.Name x p) (e :: es) [] pos) (tMakeT C sp dvs E t) := by
  constructor
  intro pins s σ H Q I h
  refine wpAny_Call_Name_kw (ld_glob I hg hm (PySem.W.callWith_K (h₀ := X.base) I.ok.mod.kin M.kp (thn (ha.run pos pins s σ H _ I h) ?_) he hpl) hdb)
  intro us s1 ⟨vs, H1, I1, r, q⟩
  exact ⟨I1.kIn, run_makeT M F hr hb hd (hx σ) I1 r q⟩
theorem pe_makeT0 (M : Mk X.K C f) (F : FnOk X.prog X.w X.K X.mg X.base CX k f fd ps sp) (hr : Room (k + 1) X.A) (hg : Gl X x) (hm : X.mg x = some (.ref C)) (hb : Binds X.K fd ps ds) (hd : Vals dvs ds) (hx : ∀ σ, PassesAt CX X σ (E σ))
    (hdb : (x == ("__debug__" : Str)) = false := by decide) : PE X (.Call (.Name x p) [] [] pos) (tMakeT C sp dvs E tNil) := by
  constructor
  intro pins s σ H Q I h
  exact wpAny_Call_Name_kw (ld_glob I hg hm (PySem.W.callWith_K0 I.kIn M.kp (run_makeT (us := []) M F hr hb hd (hx σ) I .nil h)) hdb)
end
/-- C(..): a new object, its __init__ -/
def sMake (C : String) (Φ : SemF) (dd : List D) (fs : SemA) : Sem := fun s => (fs s).bind fun ts s1 => match Φ (.al s1.p.length :: ts ++ dd.map .d) (s1.p ++ [.obj C []]) with
  | .ret (.d .non) p => (match p[s1.p.length]? with
    | some t => if p.length = s1.p.length + 1 ∧ albO s1.p.length s1.r = true ∧ T.albL s1.p.length p = true then .ok t ⟨s1.r, p.take s1.p.length⟩ else .bad
    | none => .bad)
  | .exc x p => if p.length = s1.p.length + 1 ∧ albO s1.p.length s1.r = true ∧ T.albL s1.p.length p = true then .exc x ⟨s1.r, p.take s1.p.length⟩ else .bad
  | _ => .bad
/-- a class that may be made by its name -/
def Mkr [CA] (CX : CXT) (P : Program) (w : World) (K : PySem.W.Frag) (mg : Str → Option Value) (base : Heap) (x : Str) (C : String) (n : Nat) (Φ : SemF) (k : Nat) (dds : List (List D)) : Prop :=
  CA.ok C ∧ mg x = some (.ref (CA.ca C)) ∧ ∃ f, Mk K (CA.ca C) f ∧ Df CX P w K mg base f n Φ k dds
theorem Mkr.weak [CA] {P : Program} {w : World} {K : PySem.W.Frag} {mg : Str → Option Value} {base : Heap} {x : Str} {C : String} {n : Nat} {Φ : SemF} {k : Nat} {dds : List (List D)} (h : Mkr (L2N.CX P w) P w K mg base x C n Φ k dds) : Mkr (L2.CX P w) P w K mg base x C n Φ k dds := by
  obtain ⟨o, m, f, M, d⟩ := h
  exact ⟨o, m, f, M, d.weak⟩
theorem MTab.weak [CA] {P : Program} {w : World} {K : PySem.W.Frag} {mg : Str → Option Value} {base : Heap} {k : Nat} {m : String} {tab : String → Option SemF} {dd : List D} (h : MTab (L2N.CX P w) P w K mg base k m tab dd) : MTab (L2.CX P w) P w K mg base k m tab dd := fun C Φ o e => by
  obtain ⟨n, f, dds, h1, h2, h3⟩ := h C Φ o e
  exact ⟨n, f, dds, h1, h2.weak, h3⟩
section
variable [CA] {K : PySem.W.Frag} {F G G' H H' : Hp} {σ σa : L2.St} {s s' : S} {pv pv' pw : List V} {W : WX} {D : Ends}
theorem sMake_le {C : String} {Φ : SemF} {dd : List BT.D} {dvs : List V} {fs : SemA} {n : Nat} {Q : VK} (o : CA.ok C) (hd : ∀ H, VwL K H dvs dd) (hn : Ar Φ n) (h : tOf K W (sMake C Φ dd fs) σ H Q) : tMakeT (CA.ca C) (spOf K n Φ) dvs (WE W) (tOfA K W fs) σ H Q := by
  obtain ⟨F, G, s, pv, S, q⟩ := h
  refine ⟨F, G, s, pv, S, (bind_use q).imp (fun ts s1 q1 => ?_) fun _ _ z => z⟩
  intro vs G1 H1 pv1 po px el S1 x dx nx nd ne
  have S2 := Sim.newRoot (r := ts.map some ++ s1.r) (p := s1.p) S1 o nx nd ne
  have ln : pv1.length = s1.p.length := S1.plen
  have S3 := S2.push_al (k := s1.p.length) (v := .ref x) (by rw [← ln, List.getElem?_append_right (Nat.le_refl _), Nat.sub_self]; rfl)
  have px2 : ∀ {pv3 : List V}, pv1 ++ [V.ref x] <+: pv3 → pv <+: pv3 := fun z => px.trans ((List.prefix_append _ _).trans z)
  refine call_sp (vs := .ref x :: vs) (ts := .al s1.p.length :: ts) (dd := dd) (r := s1.r) (p := s1.p ++ [.obj C []]) hd hn (by simp [el]) S3 ?_
  cases e : Φ (.al s1.p.length :: ts ++ dd.map T.d) (s1.p ++ [.obj C []]) with
  | bad => simp only [e] at q1; exact q1.elim
  | ret t p =>
    simp only [e] at q1
    intro v G3 H3 pv3 po3 px3 S4
    have dn : ∃ t2, t = .d .non ∧ p[s1.p.length]? = some t2 ∧ (p.length = s1.p.length + 1 ∧ albO s1.p.length s1.r = true ∧ T.albL s1.p.length p = true) ∧ KOk K F G pv σ Q t2 ⟨s1.r, p.take s1.p.length⟩ := by
      cases t with
      | d x =>
        cases x with
        | non =>
          simp only at q1
          cases e2 : p[s1.p.length]? with
          | none => rw [e2] at q1; exact q1.elim
          | some t2 =>
            rw [e2] at q1
            simp only at q1
            by_cases c : p.length = s1.p.length + 1 ∧ albO s1.p.length s1.r = true ∧ T.albL s1.p.length p = true
            · rw [if_pos c] at q1
              exact ⟨t2, rfl, rfl, c, q1⟩
            · rw [if_neg c] at q1
              exact q1.elim
        | _ => exact q1.elim
      | _ => exact q1.elim
    obtain ⟨t2, rfl, e2, c, qk⟩ := dn
    refine ⟨vnon S4.top_d, ?_⟩
    have S5 := Sim.popRoot (r := s1.r) (p := p) S4.pop px3 ln c.1 e2 c.2.1 c.2.2
    exact qk _ G3 H3 pv1 (po.tr po3) px S5
  | exc y p =>
    simp only [e] at q1
    intro cls d G3 H3 pv3 po3 px3 S4 xr
    by_cases c : p.length = s1.p.length + 1 ∧ albO s1.p.length s1.r = true ∧ T.albL s1.p.length p = true
    · rw [if_pos c] at q1
      have lt : s1.p.length < p.length := by omega
      have S5 := Sim.popRoot (r := s1.r) (p := p) S4 px3 ln c.1 (List.getElem?_eq_getElem lt) c.2.1 c.2.2
      exact q1 cls d G3 H3 pv1 (po.tr po3) px S5.pop xr
    · rw [if_neg c] at q1
      exact q1.elim
end
section
variable [CA] {X : Cx} {CX : CXT} {W : WX} {k n : Nat} {Φ : SemF} {x : Str} {C : String} {p p1 p2 pos : Pos} {m : Str} {e : Expr} {es : List Expr} {fs : SemA} {dds : List (List D)}
theorem k_r (dd : List D) (M : Mkr CX X.prog X.w X.K X.mg X.base x C n Φ k dds) (hr : Room (k + 1) X.A) (pa : ∀ σ, PassesAt CX X σ (WE W σ)) (ha : PA X (e :: es) (tOfA X.K W fs)) (hm : dd ∈ dds := by simp)
    (hg : Gl X x := by rfl) (hdb : (x == ("__debug__" : Str)) = false := by decide) (he : starEach (e :: es) X.env = (false, eval e X.env) :: starEach es X.env := by rfl) (hpl : (backTo pos (starEach es X.env)).any (·.1) = false := by rfl) :
    PE X (.Call (.Name x p) (e :: es) [] pos) (tOf X.K W (sMake C Φ dd fs)) := by
  obtain ⟨o, mg, f, M0, ⟨⟨fd, ps, F, b, ar⟩, kp⟩⟩ := M
  obtain ⟨ds, dvs, hb, hd, hv⟩ := b dd hm
  exact (pe_makeT M0 F hr hg mg hb hd pa ha hdb he hpl).le fun σ H Q h => sMake_le o hv ar h
theorem k_r0 (dd : List D) (M : Mkr CX X.prog X.w X.K X.mg X.base x C n Φ k dds) (hr : Room (k + 1) X.A) (pa : ∀ σ, PassesAt CX X σ (WE W σ)) (hm : dd ∈ dds := by simp) (hg : Gl X x := by rfl) (hdb : (x == ("__debug__" : Str)) = false := by decide) :
    PE X (.Call (.Name x p) [] [] pos) (tOf X.K W (sMake C Φ dd sAn)) := by
  obtain ⟨o, mg, f, M0, ⟨⟨fd, ps, F, b, ar⟩, kp⟩⟩ := M
  obtain ⟨ds, dvs, hb, hd, hv⟩ := b dd hm
  refine (pe_makeT0 M0 F hr hg mg hb hd pa hdb).le fun σ H Q h => ?_
  have z := sMake_le o hv ar h
  exact sAn_le z
/-- a class without its own __init__: the instance is new and bare -/
def sNew (C : String) : Sem := fun s => .ok (.obj C []) s
/-- C.m(e, ..), a def read off its class -/
theorem f_r (dd : List D) {K0 : Addr} {mc : Value} (Dk : ∃ f, CAt X.K (CA.ca C) mc m (.ref f) ∧ Df CX X.prog X.w X.K X.mg X.base f n Φ k dds) (mg : X.mg x = some (.ref (CA.ca C))) (hr : Room k X.A) (pa : ∀ σ, PassesAt CX X σ (WE W σ)) (ha : PA X (e :: es) (tOfA X.K W fs)) (hm : dd ∈ dds := by simp)
    {pl : PySem.Sem Bool} (hg : Gl X x := by rfl) (hdb : (x == ("__debug__" : Str)) = false := by decide)
    (hc : eval (.Call (.Attribute (.Name x p1) m p2) (e :: es) [] pos) X.env = (do
      let ov ← eval (.Name x p1) X.env
      standAt p2.atName
      let (f, first) ← holding [ov] (getMethod ov m pl)
      callWith pos f first (backTo pos (starEach (e :: es) X.env)) (backToKw pos (keywordEach [] X.env))) := by rfl)
    (he : starEach (e :: es) X.env = (false, eval e X.env) :: starEach es X.env := by rfl) (hpl : (backTo pos (starEach es X.env)).any (·.1) = false := by rfl) :
    PE X (.Call (.Attribute (.Name x p1) m p2) (e :: es) [] pos) (tOf X.K W (sCallR Φ dd fs)) := by
  obtain ⟨f, ca, ⟨⟨fd, ps, F, b, ar⟩, kp⟩⟩ := Dk
  obtain ⟨ds, dvs, hb, hd, hv⟩ := b dd hm
  exact (pe_off ca mg F hr kp hb hd pa ha hg hdb hc he hpl).le fun σ H Q h => sCallR_le (E := fun σ => WE W σ) hv ar (fun _ _ _ z => z) h
end
end BT
/-! EI: C() of a class without an __init__ of its own. -/
namespace BT
open PySem PySem.Spec PyProof.Rows L2
/-- what such a class must have -/
structure Mk0 (K : PySem.W.Frag) (C : Addr) : Prop where
  makes : PySem.W.makesIn K C = true
  init : PySem.W.findIn K (.ref C) "__init__" = some (some (.builtin "object.__init__"))
  kp : PySem.W.keepIn K (.ref C) = true
def tNew0 (C : Addr) : TE := fun σ H Q => ∀ x dx, H x = none → H dx = none → dx ≠ x → Q (.ref x) (upd (upd H dx (.own x)) x (.ins C dx []))
section
variable {X : Cx} {C : Addr} {x : Str} {p pos : Pos}
theorem pe_new0 (M : Mk0 X.K C) (hg : Gl X x) (hm : X.mg x = some (.ref C)) (hdb : (x == ("__debug__" : Str)) = false := by decide) : PE X (.Call (.Name x p) [] [] pos) (tNew0 C) := by
  constructor
  intro pins s σ H Q I h
  refine wpAny_Call_Name_kw (ld_glob I hg hm (PySem.W.callWith_K0 I.kIn M.kp ?_) hdb)
  have q := h (s.heap.objs.size + 1) s.heap.objs.size (I.hok.fresh (Nat.le_succ _)) (I.hok.fresh (Nat.le_refl _)) (Nat.ne_of_lt (Nat.lt_succ_self _))
  have J := Inv.made (C := C) I
  have Y := PySem.W.makes_of (M := model X.prog X.w) I.kIn M.makes
  have g2 : ((s.heap.push PySem.W.emptyDict).push (PySem.W.instObj C s.heap.objs.size)).get? (s.heap.objs.size + 1) = some (PySem.W.instObj C s.heap.objs.size) := by
    have z := Heap.get?_push_size (s.heap.push PySem.W.emptyDict) (o := PySem.W.instObj C s.heap.objs.size) rfl
    rwa [Heap.size_push] at z
  have t1 : PySem.W.Looks (model X.prog X.w) ((s.heap.push PySem.W.emptyDict).push (PySem.W.instObj C s.heap.objs.size)) (typeOf (.ref (s.heap.objs.size + 1))) (.ref C) := fun A Q E s k q => wpAny_typeOf_ref (k _ _ g2) q
  have t2 : PySem.W.Looks (model X.prog X.w) ((s.heap.push PySem.W.emptyDict).push (PySem.W.instObj C s.heap.objs.size)) (isInstance (.ref (s.heap.objs.size + 1)) (.type "object")) true := t1.andThen (Y.top.keeps fun b o e => Heap.get?_push_of_some _ (Heap.get?_push_of_some _ e))
  refine wpAny_call (make_map0 I.kIn M.makes M.init (fun self => PySem.W.Looks.of_pure (PySem.W.oi_bind self)) ?_)
  refine codeAny_call_builtin PySem.W.oi_plain PySem.W.entry_oi (@PySem.W.check_slot (model X.prog X.w) _ _ _ "object.__init__" "object" "__init__" (.ref (s.heap.objs.size + 1)) [] [] _ PySem.W.oi_kind PySem.W.oi_split t2 (PySem.W.oi_args _) ?_)
  rw [PySem.W.oi_run]
  exact wpAny_pure (And.intro rfl ⟨V.ref (s.heap.objs.size + 1), _, J, rfl, q⟩)
end
section
variable [CA] {K : PySem.W.Frag} {F G G' H H' : Hp} {σ σa : L2.St} {s s' : S} {pv pv' pw : List V} {W : WX} {D : Ends}
theorem Sim.pushObj {x dx : Addr} {C : String} (h : Sim K F G H σ s pv) (o : CA.ok C) (nx : H x = none) (nd : H dx = none) (ne : dx ≠ x) :
    Sim K F G (upd (upd H dx (.own x)) x (.ins (CA.ca C) dx [])) (some (.ref x) :: σ) ⟨some (.obj C []) :: s.r, s.p⟩ pv := by
  have e1 : Ex H (upd H dx (.own x)) := Ex.new nd
  have nx1 : upd H dx (.own x) x = none := by rw [upd_ne (Ne.symm ne)]; exact nx
  have e2 : Ex H (upd (upd H dx (.own x)) x (.ins (CA.ca C) dx [])) := e1.tr (Ex.new nx1)
  obtain ⟨ef, eg, A, B, ho, hs, d, n⟩ := h
  have fm : ∀ Z : AS, Fm K G G H (upd (upd H dx (.own x)) x (.ins (CA.ca C) dx [])) pv pv Z := fun Z => ⟨Ex.rfl', fun b u _ z => e2 b u z, fun _ _ z => z⟩
  have fr : ∀ y, A y ∨ B y → y ≠ x ∧ y ≠ dx := fun y b => ⟨fun w => (n y b).1 (by rw [w]; exact nx), fun w => (n y b).1 (by rw [w]; exact nd)⟩
  have hx : Rp K G (upd (upd H dx (.own x)) x (.ins (CA.ca C) dx [])) pv (.ref x) (.obj C []) (fun y => y = x ∨ y = dx) :=
    .obj (B := fun _ => False) o upd_same (by rw [upd_ne ne, upd_same]) (.inl rfl) (.inr rfl) ne (fun _ z => z.elim) .nil
  refine ⟨ef.tr e2, eg.tr e2, fun y => (y = x ∨ y = dx) ∨ A y, B, .cons hx (ho.fm (fm A)) (fun y b => ⟨.inl b, fun z => b.elim (fr y (.inl z)).1 (fr y (.inl z)).2⟩) (fun y b => .inr b), hs.fm (fm B), fun y b z => b.elim (fun b => b.elim (fr y (.inr z)).1 (fr y (.inr z)).2) fun b => d y b z, fun y b => ?_⟩
  have old : A y ∨ B y → upd (upd H dx (.own x)) x (.ins (CA.ca C) dx []) y ≠ none ∧ F y = none ∧ G y = none := fun b => by
    refine ⟨fun z => ?_, (n y b).2⟩
    cases w : H y with
    | none => exact (n y b).1 w
    | some u => rw [e2 y u w] at z; cases z
  rcases b with ((b | b) | b) | b
  · subst b
    exact ⟨(by rw [upd_same]; exact fun z => nomatch z), none_of_ex ef nx, none_of_ex eg nx⟩
  · subst b
    exact ⟨(by rw [upd_ne ne, upd_same]; exact fun z => nomatch z), none_of_ex ef nd, none_of_ex eg nd⟩
  · exact old (.inl b)
  · exact old (.inr b)
end
/-- such a class, at its name -/
structure Mkn [CA] (K : PySem.W.Frag) (mg : Str → Option Value) (x : Str) (C : String) : Prop where
  ok : CA.ok C
  md : mg x = some (.ref (CA.ca C))
  mz : Mk0 K (CA.ca C)
section
variable [CA] {X : Cx} {W : WX} {C : String} {x : Str} {p pos : Pos} {e : Expr} {f : Sem}
theorem k_n (M : Mkn X.K X.mg x C) (hg : Gl X x := by rfl) (hdb : (x == ("__debug__" : Str)) = false := by decide) : PE X (.Call (.Name x p) [] [] pos) (tOf X.K W (sNew C)) :=
  (pe_new0 M.mz hg M.md hdb).le fun σ H Q h x dx nx nd ne => by
    obtain ⟨F, G, s, pv, S, q⟩ := h
    exact q _ G _ pv .rfl' (List.prefix_refl _) (S.pushObj M.ok nx nd ne)
end
/-- what comes about is laid still -/
def sZ (f : Sem) : Sem := fun s => (f s).bind fun t s1 => match t with
  | .al k => .ok (.al k) s1
  | t => .ok (.d (t.dat [])) s1
theorem sZ_le [CA] {K : PySem.W.Frag} {W : WX} {σ : L2.St} {H : Hp} {f : Sem} {Q : VK} (h : tOf K W (sZ f) σ H Q) : tOf K W f σ H Q := by
  obtain ⟨F, G, s, pv, S, q⟩ := h
  refine ⟨F, G, s, pv, S, (bind_use q).imp (fun t s1 q1 => ?_) fun _ _ z => z⟩
  intro v G1 H1 pv1 po px S1
  have fz : KOk K F G pv σ Q (.d (t.dat [])) s1 → Q v H1 := fun k => by
    obtain ⟨G2, po2, S2⟩ := S1.freeze
    exact k v G2 H1 pv1 (po.tr po2) px S2
  cases t with
  | al k => exact q1 v G1 H1 pv1 po px S1
  | _ => exact fz q1
theorem r_z [CA] {X : Cx} {W : WX} {e : Expr} {f : Sem} (he : PE X e (tOf X.K W f)) : PE X e (tOf X.K W (sZ f)) := he.le fun _ _ _ h => sZ_le h
/-- slots that nobody reads any more -/
def S.kill (s : S) : List Nat → S
  | [] => s
  | i :: is => (s.kill is).unset i
def Fl.kill (is : List Nat) : Fl → Fl
  | .next s => .next (s.kill is)
  | .cont s => .cont (s.kill is)
  | R => R
def sKill (is : List Nat) (f : SemS) : SemS := fun s => (f s).kill is
section
variable [CA] {K : PySem.W.Frag} {F G G' H H' : Hp} {σ σa : L2.St} {s s' : S} {pv pv' pw : List V} {W : WX} {D : Ends}
theorem Sim.unsetR (h : Sim K F G H σ s pv) (i : Nat) : Sim K F G H σ (s.unset i) pv := by
  obtain ⟨ef, eg, A, B, ho, hs, d, n⟩ := h
  exact ⟨ef, eg, A, B, ho.dropR, hs, d, n⟩
theorem Sim.kill (h : Sim K F G H σ s pv) : ∀ is : List Nat, Sim K F G H σ (s.kill is) pv
  | [] => h
  | i :: is => (Sim.kill h is).unsetR i
theorem sKill_le {is : List Nat} {f : SemS} (h : sOf K W (sKill is f) D σ H) : sOf K W f D σ H := by
  obtain ⟨F, G, s, pv, S, q⟩ := h
  refine ⟨F, G, s, pv, S, ?_⟩
  unfold sKill at q
  cases e : f s with
  | next s1 => rw [e] at q; exact fun σ1 G1 H1 pv1 po px S1 => q σ1 G1 H1 pv1 po px (S1.kill is)
  | cont s1 => rw [e] at q; exact fun σ1 G1 H1 pv1 po px S1 => q σ1 G1 H1 pv1 po px (S1.kill is)
  | ret t s1 => rw [e] at q; exact q
  | brk s1 => rw [e] at q; exact q
  | exc x s1 => rw [e] at q; exact q
  | bad => rw [e] at q; exact q
end
theorem r_kill [CA] {X : Cx} {W : WX} {st : List Stmt} {f : SemS} (is : List Nat) (h : PSs X st (sOf X.K W f)) : PSs X st (sOf X.K W (sKill is f)) := h.le fun _ _ _ z => sKill_le z
theorem r_kill1 [CA] {X : Cx} {W : WX} {st : Stmt} {f : SemS} (is : List Nat) (h : PS X st (sOf X.K W f)) : PS X st (sOf X.K W (sKill is f)) := h.le fun _ _ _ z => sKill_le z
end BT
/-! EJ: from the head's facts to what the rules ask. -/
namespace BT
open PySem PySem.Spec PyProof.Rows L2

/-- the own classes, by a list -/
def caOf (L : List (String × Addr)) (C : String) : Addr := (L.lookup C).getD 0
abbrev mkCA (L : List (String × Addr)) : CA := ⟨caOf L, fun C => (L.lookup C).isSome = true⟩
theorem lookup_mem {α : Type} : ∀ {L : List (String × α)} {C : String} {a : α}, L.lookup C = some a → (C, a) ∈ L
  | [], _, _, h => by cases h
  | (k, b) :: L, C, a, h => by
    simp only [List.lookup] at h
    cases c : C == k with
    | true =>
      rw [c] at h
      cases h
      rw [eq_of_beq c]
      exact .head _
    | false =>
      rw [c] at h
      exact .tail _ (lookup_mem h)
theorem ca_all {L : List (String × Addr)} {P : String → Addr → Prop} (h : ∀ q ∈ L, P q.1 q.2) : ∀ C, (L.lookup C).isSome = true → P C (caOf L C) := fun C o => by
  obtain ⟨a, e⟩ := Option.isSome_iff_exists.mp o
  unfold caOf
  rw [e]
  exact h _ (lookup_mem e)
theorem mem1 {α : Type} {P : α → Prop} {x : α} {xs : List α} (h1 : P x) (h2 : ∀ q ∈ xs, P q) : ∀ q ∈ x :: xs, P q := fun q hq => by
  cases hq with
  | head => exact h1
  | tail _ z => exact h2 q z
theorem mem0 {α : Type} {P : α → Prop} : ∀ q ∈ ([] : List α), P q := fun q h => nomatch h
section
variable [CA] {X : Cx} {W : WX} {x : Str} {pos : Pos}
theorem cn_r {d : D} (c : Cn X.K X.mg x d) (hg : Gl X x := by rfl) (hd : (x == ("__debug__" : Str)) = false := by decide) : PE X (.Name x pos) (tOf X.K W (sC d)) := by
  obtain ⟨u, v, m, r, h⟩ := c
  exact r_glob m r h hg hd
end
/-- isinstance by the written part -/
def kitL (K : PySem.W.Frag) (u : Value) (l : List (Value × Bool)) : Bool := l.all fun q => decide (PySem.W.kitOne K q.1 u = some q.2)
def bisV : List (Value × Bool) := [(.type "NoneType", false), (.type "bool", false), (.type "int", false), (.type "str", false), (.type "list", false), (.type "tuple", false), (.type "dict", false)]
theorem kitL_at {K : PySem.W.Frag} {u : Value} {l : List (Value × Bool)} (h : kitL K u l = true) {t : Value} {b : Bool} (m : (t, b) ∈ l) : PySem.W.kitOne K t u = some b := of_decide_eq_true (List.all_eq_true.mp h _ m)
/-- the expected answers -/
def kitE (L : List (String × Addr)) (Dn : String) : List (Value × Bool) := L.map fun q => (.ref q.2, isSub q.1 Dn)
theorem isF_mk {K : PySem.W.Frag} {L : List (String × Addr)} {u : Value} {Dn : String} (l : List (Value × Bool)) (e : kitE L Dn = l) (h1 : kitL K u l = true) (h2 : kitL K u bisV = true) : @IsF (mkCA L) K u Dn := by
  letI : CA := mkCA L
  refine ⟨fun C o => ?_, fun T hT => kitL_at h2 ?_⟩
  · obtain ⟨a, ea⟩ := Option.isSome_iff_exists.mp o
    have ec : CA.ca C = a := by
      show caOf L C = a
      unfold caOf
      rw [ea]
      rfl
    rw [ec]
    refine kitL_at h1 ?_
    rw [← e]
    exact List.mem_map.mpr ⟨_, lookup_mem ea, rfl⟩
  · simp only [List.mem_cons, List.not_mem_nil, or_false] at hT
    rcases hT with h | h | h | h | h | h | h <;> (subst h; simp [bisV])
/-- an except clause by the written part -/
def exmL (K : PySem.W.Frag) (c : Value) (as : List Addr) : Bool := as.all fun a => decide (PySem.W.exmOne K (.ref a) c = some true)
def exmE (L : List (String × Addr)) (Cc : String) : List Addr := (L.filter fun q => isSub q.1 Cc).map (·.2)
theorem ecl_mk {K : PySem.W.Frag} {L : List (String × Addr)} {c : Value} {Cc : String} (as : List Addr) (e : exmE L Cc = as) (h : exmL K c as = true) : @Ecl (mkCA L) K c Cc := by
  letI : CA := mkCA L
  intro C o hs
  obtain ⟨a, ea⟩ := Option.isSome_iff_exists.mp o
  have ec : CA.ca C = a := by
    show caOf L C = a
    unfold caOf
    rw [ea]
    rfl
  rw [ec]
  refine of_decide_eq_true (List.all_eq_true.mp h a ?_)
  rw [← e]
  exact List.mem_map.mpr ⟨_, List.mem_filter.mpr ⟨lookup_mem ea, hs⟩, rfl⟩
theorem cfs_mk {K : PySem.W.Frag} {L : List (String × Addr)} (g : igenB K = true) (h : ∀ q ∈ L, (if isExcN q.1 then iexcB K q.2 else iobjB K q.2) = true) : @Cfs (mkCA L) K := by
  letI : CA := mkCA L
  have z := ca_all (P := fun C a => (if isExcN C then iexcB K a else iobjB K a) = true) h
  refine ⟨g, fun C o n => ?_, fun C o n => ?_⟩
  · have y := z C o
    rw [n] at y
    exact y
  · have y := z C o
    rw [n] at y
    exact y
theorem noats_mk {K : PySem.W.Frag} {L : List (String × Addr)} (h : ∀ q ∈ L, noatB K q.2 (fieldsOf q.1) = true) : @NoAts (mkCA L) K := by
  letI : CA := mkCA L
  exact ca_all (P := fun C a => noatB K a (fieldsOf C) = true) h
/-! ### defs -/
theorem dx_mk {K : PySem.W.Frag} {x qual : Str} {st : Stmt} {dvs : List V} {f : Addr} {oc dV kV doc pm cdv ct : Value} {od an : Option Addr} {osl : Array (Option Value)}
    (l : K.lookup f = some ⟨oc, od, .func (PySem.W.fnOf x qual (defArgs st) (defBody st) (defScope st) dV kV doc pm an cdv ct), osl⟩) (c : PySem.W.codeIn K cdv qual = true) (k : PySem.W.keepIn K (.ref f) = true) (d : DflV K dV dvs) :
    Dx K x qual st dvs f (PySem.W.fnOf x qual (defArgs st) (defBody st) (defScope st) dV kV doc pm an cdv ct) := ⟨⟨⟨oc, od, dV, kV, doc, pm, an, cdv, ct, osl, rfl, l, c, d, .inl rfl⟩, k⟩⟩
/-- a def of the text, wherever it stands -/
def DxA (K : PySem.W.Frag) (x qual : Str) (st : Stmt) (dvs : List V) (f : Addr) : Prop := ∃ fd, Dx K x qual st dvs f fd
theorem dxa_n {K : PySem.W.Frag} {x qual : Str} {st : Stmt} {f : Addr} {oc kV doc pm cdv ct : Value} {od an : Option Addr} {osl : Array (Option Value)}
    (l : K.lookup f = some ⟨oc, od, .func (PySem.W.fnOf x qual (defArgs st) (defBody st) (defScope st) .none kV doc pm an cdv ct), osl⟩) (c : PySem.W.codeIn K cdv qual = true) (k : PySem.W.keepIn K (.ref f) = true) : DxA K x qual st [] f :=
  ⟨_, dx_mk l c k (.inl ⟨rfl, rfl⟩)⟩
theorem dxa_d {K : PySem.W.Frag} {x qual : Str} {st : Stmt} {dvs : List V} {f Td : Addr} {oc kV doc pm cdv ct c2 : Value} {od an od2 : Option Addr} {osl sl2 : Array (Option Value)} {its : Array Value} {n : Nat}
    (l : K.lookup f = some ⟨oc, od, .func (PySem.W.fnOf x qual (defArgs st) (defBody st) (defScope st) (.ref Td) kV doc pm an cdv ct), osl⟩) (c : PySem.W.codeIn K cdv qual = true) (k : PySem.W.keepIn K (.ref f) = true)
    (lt : K.lookup Td = some ⟨c2, od2, .seq its n, sl2⟩) (r : He.relAll dvs its.toList = true) (ne : dvs ≠ []) : DxA K x qual st dvs f :=
  ⟨_, dx_mk l c k (.inr ⟨ne, Td, _, its.toList, n, rfl, lt, by simp, He.relAll_ok r⟩)⟩
section
variable [CA] {P : Program} {w : World} {K : PySem.W.Frag} {mg : Str → Option Value} {base : Heap}
theorem df_mk {CX : CXT} {x qual : Str} {st : Stmt} {dvs : List V} {f : Addr} {fd : FuncData} {ps : List Str} {k n N : Nat} {g : SemS} {dds : List (List D)} (F : Dx K x qual st dvs f fd) (ok : FnOk P w K mg base CX (k + 1) f fd ps (spOf K n (runX n N g))) (b : ∀ dd ∈ dds, Bd K fd ps dd) :
    Df CX P w K mg base f n (runX n N g) (k + 1) dds := ⟨⟨fd, ps, ok, b, ar_runX⟩, F.fun_.kp⟩
theorem Df.up {CX : CXT} {f : Addr} {n k j : Nat} {Φ : SemF} {dds : List (List D)} (h : Df CX P w K mg base f n Φ k dds) (l : k ≤ j) : Df CX P w K mg base f n Φ j dds := by
  obtain ⟨⟨fd, ps, F, b, ar⟩, kp⟩ := h
  exact ⟨⟨fd, ps, ⟨F.len, fun A outer s H args us vs Q E hr => F.run A outer s H args us vs Q E (hr.mono l)⟩, b, ar⟩, kp⟩
end
/-! ### tables of methods -/
def tabL (L : List (String × SemF)) : String → Option SemF := fun C => L.lookup C
section
variable [CA] {CX : CXT} {P : Program} {w : World} {K : PySem.W.Frag} {mg : Str → Option Value} {base : Heap} {k : Nat} {m : String} {dd : List D}
theorem mtab_mk {L : List (String × SemF)} (h : ∀ q ∈ L, ∃ n f dds, Meth K (CA.ca q.1) (sS m) f ∧ Df CX P w K mg base f n q.2 k dds ∧ dd ∈ dds) : MTab CX P w K mg base k m (tabL L) dd := fun C Φ _ e => h _ (lookup_mem e)
theorem mt1 {C : String} {n j : Nat} {f : Addr} {Φ : SemF} {dds : List (List D)} (M : Meth K (CA.ca C) (sS m) f) (h : Df CX P w K mg base f n Φ j dds) (l : j ≤ k := by decide) (hm : dd ∈ dds := by simp) : ∃ n f dds, Meth K (CA.ca C) (sS m) f ∧ Df CX P w K mg base f n Φ k dds ∧ dd ∈ dds :=
  ⟨n, f, dds, M, h.up l, hm⟩
theorem tab_ok {L : List (String × SemF)} (h : ∀ q ∈ L, CA.ok q.1) : ∀ C, (tabL L C).isSome = true → CA.ok C := fun C o => by
  obtain ⟨a, e⟩ := Option.isSome_iff_exists.mp o
  exact h _ (lookup_mem e)
end
/-! ### the law -/
/-- the law's end, with the script's bits; CX any -/
theorem walk_bitsN {l : PySem.W.OpenLaw} {n k : Nat} {q : Program} {loose : List Str} {XP : (Str → Option Value) → Heap → Prop} {YP : World → Heap → Prop} {d : DefRec} {K : Params → PySem.W.Frag} {Φ : SemF} {x : Str}
    (hn : l.most = some n) (hn2 : n ≤ sizeLine) (hdf : d.params.defaults = []) (hr : Room k callerA) (hY : ∀ (w : World) (h : Heap), YP w h → (K w.params).In h)
    (Fo : ∀ (w : World) (mg : Str → Option Value) (fa : Addr) (h : Heap), (K w.params).In h → h.Ns mainGlobals mg → mg d.name = some (.ref fa) →
      ∃ (_ : CA) (fd : FuncData), (∀ (s : Shared) (u : Value), BindsTo s fd ⟨[u], []⟩ [(x, u)]) ∧ ∀ base : Heap, (K w.params).In base → base.Ns mainGlobals mg → FnOk l.prog w (K w.params) mg base (L2.CX l.prog w) k fa fd [x] (spOf (K w.params) 1 Φ))
    (hT : ∀ (ns : List Int), ns.length ≤ n → (∀ k ∈ ns, Builtin.Int.intBits k ≤ 1048576) → ∃ p, Φ [scr ns] [] = .ret (.d (.bl true)) p) :
    PySem.W.WalkO q loose XP YP l.row.toRowW d [] (fun f vs => PySem.call f vs) := by
  refine _root_.Att.attach_callB hn hdf fun w s₀ s₁ mg mb fa o pm cd doc a vs ns G Y ho hd hcd hmg hobj hints hlen hbits hg => ?_
  have KX := hY w _ Y
  obtain ⟨_, fd, hb, hF⟩ := Fo w mg fa _ KX G.T.g hmg
  refine law_call (CX := L2.CX l.prog w) (sp := fun us H Q E => (∃ ms : List Int, us = [.ref a] ∧ SqL (K w.params) H a (ms.map V.int) ∧ ms.length ≤ n ∧ (∀ k ∈ ms, Builtin.Int.intBits k ≤ 1048576) ∧ (∀ v H', v = .bl true → Q v H')) ) KX G.T.g G.T.b G.T.builtins G.T.nolimit hg hobj hints (Nat.le_trans hlen hn2) hr (fun base h1 h2 => (hF base h1 h2).imp fun us H Q E hs => ?_) hb (fun H hO hS => ⟨ns, rfl, hS, hlen, hbits, fun _ _ z => z⟩) fun H e s' z => ?_
  · obtain ⟨ms, rfl, hS, hl, hbt, q⟩ := hs
    have hX : SqX (K w.params) H a (ms.map V.int) := by
      rcases hS with hS | ⟨ob, its, m, lk, c1, c2, c3, sz, rv⟩
      · exact .inl hS
      · have eo := KX a ob lk
        rw [hobj] at eo
        cases eo
        cases c3
        exact .inr ⟨_, _, lk, by simpa using sz, by simpa using rv⟩
    have sp := sp_law (K := K w.params) (Φ := Φ) hX (hT ms hl hbt)
    obtain ⟨h1, F1, G1, ts, p, pv, el, Sm, z⟩ := sp
    refine ⟨h1, F1, G1, ts, p, pv, el, Sm, ?_⟩
    cases e : Φ ts p with
    | bad => rw [e] at z; exact z.elim
    | ret t p' => rw [e] at z; exact fun v G' H' pv' po px S => q v H' (z v G' H' pv' po px S)
    | exc x p' => rw [e] at z; exact fun cls d G' H' pv' po px S r => (z cls d G' H' pv' po px S r).elim
  · obtain ⟨_, _, _, _, _, _, _, y⟩ := z
    exact y.2.2.2.2.2.elim
theorem law_mkW [CA] {P : Program} {w : World} {K : PySem.W.Frag} {mg : Str → Option Value} {h : Heap} {fa : Addr} {k : Nat} {Φ : SemF} {st : Stmt} {x y : Str} {f : Addr} {oc : Value} {od an : Option Addr} {osl : Array (Option Value)} {kV doc pm cdv ct : Value}
    (X : K.In h) (G : h.Ns mainGlobals mg) (hfa : mg x = some (.ref fa)) (a : PySem.W.nsIn K mainGlobals x = some (some (.ref f)))
    (l : K.lookup f = some ⟨oc, od, .func (PySem.W.fnOf x x (defArgs st) (defBody st) (defScope st) .none kV doc pm an cdv ct), osl⟩) (c : PySem.W.codeIn K cdv x = true) (kp : PySem.W.keepIn K (.ref f) = true)
    (hb : ∀ (s : Shared) (u : Value), BindsTo s (PySem.W.fnOf x x (defArgs st) (defBody st) (defScope st) .none kV doc pm an cdv ct) ⟨[u], []⟩ [(y, u)])
    (ok : ∀ base : Heap, K.In base → base.Ns mainGlobals mg → ∀ f fd, Dx K x x st [] f fd → FnOk P w K mg base (L2.CX P w) k f fd [y] (spOf K 1 Φ)) :
    ∃ (_ : CA) (fd : FuncData), (∀ (s : Shared) (u : Value), BindsTo s fd ⟨[u], []⟩ [(y, u)]) ∧ ∀ base : Heap, K.In base → base.Ns mainGlobals mg → FnOk P w K mg base (L2.CX P w) k fa fd [y] (spOf K 1 Φ) := by
  have e := hfa.symm.trans (PySem.W.mg_of X G a)
  cases e
  exact ⟨_, _, hb, fun base h1 h2 => ok base h1 h2 _ _ (dx_mk l c kp (.inl ⟨rfl, rfl⟩))⟩
/-! ### exceptions with fields -/
section
variable [CA] {P : Program} {w : World} {K : PySem.W.Frag} {mg : Str → Option Value} {base : Heap}
def xownB (K : PySem.W.Frag) (c : Addr) : Bool := PySem.W.keepIn K (.ref c) && (decide (PySem.W.subIn K (.ref c) (.type "BaseException") = some true) && decide (PySem.W.typeIn K (.ref c) = some (.type "type")))
theorem xcls_mk {X : Cx} {x : Str} {C : String} {bmB : List Value} (o : CA.ok C) (B : ExcBaseFacts "ValueError" "ValueError.__new__" "ValueError.__init__" bmB) (e : PySem.W.excIn X.K (CA.ca C) bmB "ValueError.__new__" = true) (h : xownB X.K (CA.ca C) = true) (m : X.mg x = some (.ref (CA.ca C))) : XCls X x C := by
  obtain ⟨h1, h⟩ := andB h
  obtain ⟨h2, h3⟩ := andB h
  exact ⟨o, ⟨_, e, B⟩, h1, of_decide_eq_true h2, of_decide_eq_true h3, m⟩
theorem oexc_mk {c : Addr} {nm : Str} {q N bs bm sn sub ab col dd k0 k1 k2 k3 k5} (l : K.lookup c = some (excClassObj nm q c N bs bm true sn sub ab col dd k0 k1 k2 k3 k5 "ValueError.__new__")) (r : PySem.HandSPX.refsVE bm = true) (s : PySem.W.findIn K (.ref c) "__setattr__" = some (some (.builtin "object.__setattr__"))) (h : xownB K c = true) : OexC K c := by
  obtain ⟨h1, h⟩ := andB h
  obtain ⟨h2, h3⟩ := andB h
  exact ⟨⟨_, _, _, _, _, _, _, _, _, _, _, _, _, _, _, l, r⟩, s, of_decide_eq_true h2, of_decide_eq_true h3, h1⟩
end
end BT
/-! EK: an expression that is only looked at; unpacking. -/
namespace BT
open PySem PySem.Spec PyProof.Rows L2

/-- f, upon what is seen -/
def sPeek (f : Sem) : Sem := fun s => match f s.fz with
  | .ok t _ => if t.ind then .ok t s else .bad
  | .exc x _ => if x.sc then .exc x s else .bad
  | .bad => .bad
section
variable [CA] {K : PySem.W.Frag} {F G G' H H' : Hp} {σ : L2.St} {s s' : S} {pv pv' : List V} {W : WX} {D : Ends}
theorem Sim.only {v : V} {t : T} {r : List (Option T)} {p : List T} (h : Sim K F G H (some v :: σ) ⟨some t :: r, p⟩ pv) : Sim K F G H [some v] ⟨[some t], p⟩ pv := by
  obtain ⟨ef, eg, A, B, ho, hs, d, n⟩ := h
  cases ho with
  | @cons _ _ _ _ _ A1 A2 h l s1 s2 =>
    exact ⟨ef, eg, A1, B, .cons h (A2 := fun _ => False) .nil (fun x b => ⟨b, fun z => z⟩) (fun x b => b.elim), hs, fun x b => d x (s1 x b).1, fun x b => n x (b.elim (fun z => .inl (s1 x z).1) .inr)⟩
theorem sPeek_le {f : Sem} {Q : VK} (h : tOf K W (sPeek f) σ H Q) : tOf K W f σ H Q := by
  obtain ⟨F, G, s, pv, S, q⟩ := h
  refine ⟨H, H, s.fz, [], S.fz, ?_⟩
  unfold sPeek at q
  cases e : f s.fz with
  | ok t s' =>
    rw [e] at q
    have q2 : (if t.ind then Res.ok t s else .bad : Res T).go (KOk K F G pv σ Q) (KEx K F G pv σ W) := q
    intro v G' H' pv' po px S2
    by_cases c : t.ind = true
    · rw [if_pos c] at q2
      exact q2 v G H' pv .rfl' (List.prefix_refl _) (S.take_ind S2.only c)
    · rw [if_neg c] at q2
      exact q2.elim
  | exc x s' =>
    rw [e] at q
    have q2 : (if x.sc then Res.exc x s else .bad : Res T).go (KOk K F G pv σ Q) (KEx K F G pv σ W) := q
    intro cls d G' H' pv' po px S2 r
    by_cases c : x.sc = true
    · rw [if_pos c] at q2
      exact kex_look S q2 c S2.ef S2.eg r
    · rw [if_neg c] at q2
      exact q2.elim
  | bad =>
    rw [e] at q
    exact q.elim
/-- a, b, .. of a tuple or a list -/
def hSeq (hs : List BT.D → S → Option S) : BT.D → S → Option S := fun d s => match d with
  | .tup ds => hs ds s
  | .lst ds => hs ds s
  | _ => none
/-- targets = e, all laid still -/
def sUnp (h : BT.D → S → Option S) (fe : Sem) : SemS := fun s => (fe s).bindF fun t s1 => match h (t.dat []) s1 with
  | some s2 => .next s2
  | none => .bad
theorem sUnp_le {h : BT.D → S → Option S} {fe : Sem} {ns : List Nat} (g : sOf K W (sUnp h fe) D σ H) : tAsg (tOf K W fe) (gOf K ns h) D σ H := by
  obtain ⟨F, G, s, pv, S, q⟩ := g
  refine ⟨F, G, s, pv, S, (bindF_use q).imp (fun t s1 q1 => ?_) fun _ _ z => z.kex⟩
  intro v G1 H1 pv1 po px S1
  obtain ⟨G2, po2, S2⟩ := S1.freeze
  cases e : h (t.dat []) s1 with
  | none => rw [e] at q1; exact q1.elim
  | some s2 =>
    rw [e] at q1
    exact ⟨F, G2, s1, pv1, _, s2, S2.pop, S2.top_d, e, fun σ' _ S3 => q1 σ' G2 H1 pv1 (po.tr po2) px S3⟩
end
section
variable [CA] {X : Cx} {W : WX} {tg e : Expr} {es : List Expr} {f : Sem} {pos : Pos} {h : D → S → Option S} {ns n1 : List Nat} {hs : List D → S → Option S}
theorem r_peek (he : PE X e (tOf X.K W f)) : PE X e (tOf X.K W (sPeek f)) := he.le fun _ _ _ h => sPeek_le h
theorem r_unp (he : PE X e (tOf X.K W f)) (hg : PG X tg (gOf X.K ns h)) (hs : swapsWithSole [tg] e pos.line X.env = pure false := by rfl) (hw : swappedStores [tg] e X.env = pure none := by rfl)
    (h1 : (assignEach [tg] X.env).map (·.2) = [assign tg X.env] := by rfl) : PS X (.Assign [tg] e pos) (sOf X.K W (sUnp h f)) := (ps_asg he hg hs hw h1).le fun _ _ _ z => sUnp_le z
theorem g_seq {k n : Nat} (hc : X.calm = true) (q : PGs X es (gOfs X.K n1 hs)) (hl : ∀ ds s s', hs ds s = some s' → ds.length = n) (hn : (assignEach es X.env).length = n := by rfl) (hst : (assignEach es X.env).findIdx? (·.1) = none := by rfl) : PG X (.Tuple es k pos) (gOf X.K n1 (hSeq hs)) := by
  have p1 := pg_tup (k := k) (pos := pos) hc q hn hst
  have p2 := pg_lst (k := k) (pos := pos) hc q hn hst
  refine ⟨fun pins s σ H v u Q I r hw => ?_⟩
  obtain ⟨F, G, st, pv, d, s', S, hv, e, q2⟩ := hw
  cases hv with
  | tup ht l => exact p1.run pins s σ H _ u Q I r ⟨_, _, rfl, ex_t S.eg ht, l.len.trans (hl _ _ _ e), F, G, st, pv, _, s', S, l, e, q2⟩
  | lst ht l => exact p2.run pins s σ H _ u Q I r ⟨_, _, rfl, ex_l S.eg ht.l, l.len.trans (hl _ _ _ e), F, G, st, pv, _, s', S, l, e, q2⟩
  | non => cases e
  | bl _ => cases e
  | int _ => cases e
  | str _ => cases e
  | ty _ => cases e
  | cls _ => cases e
  | dic _ _ => cases e
  | obj _ _ _ => cases e
  | err _ _ _ _ _ => cases e
  | any _ => cases e
end
/-! ### for the printed texts -/
def veB : List Value := [.type "ValueError", .type "Exception", .type "BaseException", .type "object"]
/-- a def within a class -/
def subS (st : Stmt) (j : Nat) : Stmt := match st with
  | .ClassDef _ _ _ body _ _ _ _ _ _ _ => body.getD j (.Pass ⟨0, 0, 0, 0⟩)
  | _ => .Pass ⟨0, 0, 0, 0⟩
theorem noats_all [CA] {K : PySem.W.Frag} {C : String} {names : List String} (na : NoAts K) (o : CA.ok C) (e : fieldsOf C = names) : ∀ q ∈ names.map sS, PySem.W.findIn K (.ref (CA.ca C)) q = some none := fun q hq => by
  obtain ⟨f, hf, rfl⟩ := List.mem_map.mp hq
  exact noat_of (na C o) (by rw [e]; simpa using hf)
theorem binds_nil {K : PySem.W.Frag} {x qual : Str} {st : Stmt} {f : Addr} {fd : FuncData} {ps : List Str} (F : Dx K x qual st [] f fd)
    (h : ∀ (kV doc pm : Value) (an : Option Addr) (cdv ct : Value) (us : List Value), us.length = ps.length → bindArgs (PySem.W.fnOf x qual (defArgs st) (defBody st) (defScope st) .none kV doc pm an cdv ct) ⟨us, []⟩ = pure (ps.zip us)) : Binds K fd ps [] := by
  obtain ⟨oc, od, dV, kV, doc, pm, an, cdv, ct, osl, rfl, lk, hcd, hD, _⟩ := F.fun_.ex
  rcases hD with ⟨_, rfl⟩ | ⟨z, _⟩
  · exact .all (h kV doc pm an cdv ct)
  · exact absurd rfl z
end BT
/-! EL: running the new words by simp. -/
namespace BT
open PySem PySem.Spec PyProof.Rows L2

@[simp] theorem ex_TongueError : isExcN "TongueError" = true := by decide +kernel
@[simp] theorem fo_TongueError : fieldsOf "TongueError" = [] := by rfl
@[simp] theorem ex_TooGreat : isExcN "TooGreat" = true := by decide +kernel
@[simp] theorem fo_TooGreat : fieldsOf "TooGreat" = [] := by rfl
@[simp] theorem ex_NoSign : isExcN "NoSign" = true := by decide +kernel
@[simp] theorem fo_NoSign : fieldsOf "NoSign" = ["sign", "at"] := by rfl
@[simp] theorem ex_NoOrder : isExcN "NoOrder" = true := by decide +kernel
@[simp] theorem fo_NoOrder : fieldsOf "NoOrder" = [] := by rfl
@[simp] theorem ex_BadPage : isExcN "BadPage" = true := by decide +kernel
@[simp] theorem fo_BadPage : fieldsOf "BadPage" = ["which"] := by rfl
@[simp] theorem ex_BadTable : isExcN "BadTable" = true := by decide +kernel
@[simp] theorem fo_BadTable : fieldsOf "BadTable" = ["one", "other"] := by rfl
@[simp] theorem ex_BadLetters : isExcN "BadLetters" = true := by decide +kernel
@[simp] theorem fo_BadLetters : fieldsOf "BadLetters" = ["at"] := by rfl
@[simp] theorem ex_Faulty : isExcN "Faulty" = true := by decide +kernel
@[simp] theorem fo_Faulty : fieldsOf "Faulty" = ["place", "length", "kind"] := by rfl
@[simp] theorem ex_Tongue : isExcN "Tongue" = false := by decide +kernel
@[simp] theorem fo_Tongue : fieldsOf "Tongue" = [] := by rfl
@[simp] theorem ex_LeadTongue : isExcN "LeadTongue" = false := by decide +kernel
@[simp] theorem fo_LeadTongue : fieldsOf "LeadTongue" = [] := by rfl
@[simp] theorem ex_PairTongue : isExcN "PairTongue" = false := by decide +kernel
@[simp] theorem fo_PairTongue : fieldsOf "PairTongue" = ["high_first"] := by rfl
@[simp] theorem ex_ShiftTongue : isExcN "ShiftTongue" = false := by decide +kernel
@[simp] theorem fo_ShiftTongue : fieldsOf "ShiftTongue" = ["lists", "bytes_at", "alone"] := by rfl
@[simp] theorem ex_TableTongue : isExcN "TableTongue" = false := by decide +kernel
@[simp] theorem fo_TableTongue : fieldsOf "TableTongue" = ["entries"] := by rfl
@[simp] theorem ex_Bits : isExcN "Bits" = false := by decide +kernel
@[simp] theorem fo_Bits : fieldsOf "Bits" = ["many", "number"] := by rfl
@[simp] theorem ex_LetterWriter : isExcN "LetterWriter" = false := by decide +kernel
@[simp] theorem fo_LetterWriter : fieldsOf "LetterWriter" = ["bits", "ended"] := by rfl
@[simp] theorem ex_LetterReader : isExcN "LetterReader" = false := by decide +kernel
@[simp] theorem fo_LetterReader : fieldsOf "LetterReader" = ["bits", "came", "bad_at", "ended"] := by rfl
@[simp] theorem ex_Reader : isExcN "Reader" = false := by decide +kernel
@[simp] theorem fo_Reader : fieldsOf "Reader" = ["tongue", "begun_at", "gone", "here", "kept", "wrongs", "shut"] := by rfl
@[simp] theorem ex_GoingReader : isExcN "GoingReader" = false := by decide +kernel
@[simp] theorem fo_GoingReader : fieldsOf "GoingReader" = ["tongue", "begun_at", "gone", "here", "kept", "wrongs", "shut", "source", "way", "first_place", "parts", "waiting", "where", "many", "ended"] := by rfl
@[simp] theorem ex_Writer : isExcN "Writer" = false := by decide +kernel
@[simp] theorem fo_Writer : fieldsOf "Writer" = ["tongue", "here"] := by rfl
@[simp] theorem ex_SeenWriter : isExcN "SeenWriter" = false := by decide +kernel
@[simp] theorem fo_SeenWriter : fieldsOf "SeenWriter" = ["tongue", "here", "goal", "where"] := by rfl
@[simp] theorem ex_Way : isExcN "Way" = false := by decide +kernel
@[simp] theorem fo_Way : fieldsOf "Way" = [] := by rfl
@[simp] theorem ex_Leave : isExcN "Leave" = false := by decide +kernel
@[simp] theorem fo_Leave : fieldsOf "Leave" = [] := by rfl
@[simp] theorem ex_Put : isExcN "Put" = false := by decide +kernel
@[simp] theorem fo_Put : fieldsOf "Put" = ["sign"] := by rfl
@[simp] theorem ex_See : isExcN "See" = false := by decide +kernel
@[simp] theorem fo_See : fieldsOf "See" = [] := by rfl
@[simp] theorem ex_Turner : isExcN "Turner" = false := by decide +kernel
@[simp] theorem fo_Turner : fieldsOf "Turner" = ["reader", "writer", "instead", "many", "lacked"] := by rfl
@[simp] theorem ex_Guess : isExcN "Guess" = false := by decide +kernel
@[simp] theorem fo_Guess : fieldsOf "Guess" = ["tongue", "reader", "last"] := by rfl
@[simp] theorem ex_Guesser : isExcN "Guesser" = false := by decide +kernel
@[simp] theorem fo_Guesser : fieldsOf "Guesser" = ["guesses"] := by rfl
@[simp] theorem su_TongueError_TongueError : isSub "TongueError" "TongueError" = true := by decide +kernel
@[simp] theorem su_TongueError_TooGreat : isSub "TongueError" "TooGreat" = false := by decide +kernel
@[simp] theorem su_TongueError_NoSign : isSub "TongueError" "NoSign" = false := by decide +kernel
@[simp] theorem su_TongueError_NoOrder : isSub "TongueError" "NoOrder" = false := by decide +kernel
@[simp] theorem su_TongueError_BadPage : isSub "TongueError" "BadPage" = false := by decide +kernel
@[simp] theorem su_TongueError_BadTable : isSub "TongueError" "BadTable" = false := by decide +kernel
@[simp] theorem su_TongueError_BadLetters : isSub "TongueError" "BadLetters" = false := by decide +kernel
@[simp] theorem su_TongueError_Faulty : isSub "TongueError" "Faulty" = false := by decide +kernel
@[simp] theorem su_TongueError_ValueError : isSub "TongueError" "ValueError" = true := by decide +kernel
@[simp] theorem su_TooGreat_TongueError : isSub "TooGreat" "TongueError" = true := by decide +kernel
@[simp] theorem su_TooGreat_TooGreat : isSub "TooGreat" "TooGreat" = true := by decide +kernel
@[simp] theorem su_TooGreat_NoSign : isSub "TooGreat" "NoSign" = false := by decide +kernel
@[simp] theorem su_TooGreat_NoOrder : isSub "TooGreat" "NoOrder" = false := by decide +kernel
@[simp] theorem su_TooGreat_BadPage : isSub "TooGreat" "BadPage" = false := by decide +kernel
@[simp] theorem su_TooGreat_BadTable : isSub "TooGreat" "BadTable" = false := by decide +kernel
@[simp] theorem su_TooGreat_BadLetters : isSub "TooGreat" "BadLetters" = false := by decide +kernel
@[simp] theorem su_TooGreat_Faulty : isSub "TooGreat" "Faulty" = false := by decide +kernel
@[simp] theorem su_TooGreat_ValueError : isSub "TooGreat" "ValueError" = true := by decide +kernel
@[simp] theorem su_NoSign_TongueError : isSub "NoSign" "TongueError" = true := by decide +kernel
@[simp] theorem su_NoSign_TooGreat : isSub "NoSign" "TooGreat" = false := by decide +kernel
@[simp] theorem su_NoSign_NoSign : isSub "NoSign" "NoSign" = true := by decide +kernel
@[simp] theorem su_NoSign_NoOrder : isSub "NoSign" "NoOrder" = false := by decide +kernel
@[simp] theorem su_NoSign_BadPage : isSub "NoSign" "BadPage" = false := by decide +kernel
@[simp] theorem su_NoSign_BadTable : isSub "NoSign" "BadTable" = false := by decide +kernel
@[simp] theorem su_NoSign_BadLetters : isSub "NoSign" "BadLetters" = false := by decide +kernel
@[simp] theorem su_NoSign_Faulty : isSub "NoSign" "Faulty" = false := by decide +kernel
@[simp] theorem su_NoSign_ValueError : isSub "NoSign" "ValueError" = true := by decide +kernel
@[simp] theorem su_NoOrder_TongueError : isSub "NoOrder" "TongueError" = true := by decide +kernel
@[simp] theorem su_NoOrder_TooGreat : isSub "NoOrder" "TooGreat" = false := by decide +kernel
@[simp] theorem su_NoOrder_NoSign : isSub "NoOrder" "NoSign" = false := by decide +kernel
@[simp] theorem su_NoOrder_NoOrder : isSub "NoOrder" "NoOrder" = true := by decide +kernel
@[simp] theorem su_NoOrder_BadPage : isSub "NoOrder" "BadPage" = false := by decide +kernel
@[simp] theorem su_NoOrder_BadTable : isSub "NoOrder" "BadTable" = false := by decide +kernel
@[simp] theorem su_NoOrder_BadLetters : isSub "NoOrder" "BadLetters" = false := by decide +kernel
@[simp] theorem su_NoOrder_Faulty : isSub "NoOrder" "Faulty" = false := by decide +kernel
@[simp] theorem su_NoOrder_ValueError : isSub "NoOrder" "ValueError" = true := by decide +kernel
@[simp] theorem su_BadPage_TongueError : isSub "BadPage" "TongueError" = true := by decide +kernel
@[simp] theorem su_BadPage_TooGreat : isSub "BadPage" "TooGreat" = false := by decide +kernel
@[simp] theorem su_BadPage_NoSign : isSub "BadPage" "NoSign" = false := by decide +kernel
@[simp] theorem su_BadPage_NoOrder : isSub "BadPage" "NoOrder" = false := by decide +kernel
@[simp] theorem su_BadPage_BadPage : isSub "BadPage" "BadPage" = true := by decide +kernel
@[simp] theorem su_BadPage_BadTable : isSub "BadPage" "BadTable" = false := by decide +kernel
@[simp] theorem su_BadPage_BadLetters : isSub "BadPage" "BadLetters" = false := by decide +kernel
@[simp] theorem su_BadPage_Faulty : isSub "BadPage" "Faulty" = false := by decide +kernel
@[simp] theorem su_BadPage_ValueError : isSub "BadPage" "ValueError" = true := by decide +kernel
@[simp] theorem su_BadTable_TongueError : isSub "BadTable" "TongueError" = true := by decide +kernel
@[simp] theorem su_BadTable_TooGreat : isSub "BadTable" "TooGreat" = false := by decide +kernel
@[simp] theorem su_BadTable_NoSign : isSub "BadTable" "NoSign" = false := by decide +kernel
@[simp] theorem su_BadTable_NoOrder : isSub "BadTable" "NoOrder" = false := by decide +kernel
@[simp] theorem su_BadTable_BadPage : isSub "BadTable" "BadPage" = false := by decide +kernel
@[simp] theorem su_BadTable_BadTable : isSub "BadTable" "BadTable" = true := by decide +kernel
@[simp] theorem su_BadTable_BadLetters : isSub "BadTable" "BadLetters" = false := by decide +kernel
@[simp] theorem su_BadTable_Faulty : isSub "BadTable" "Faulty" = false := by decide +kernel
@[simp] theorem su_BadTable_ValueError : isSub "BadTable" "ValueError" = true := by decide +kernel
@[simp] theorem su_BadLetters_TongueError : isSub "BadLetters" "TongueError" = true := by decide +kernel
@[simp] theorem su_BadLetters_TooGreat : isSub "BadLetters" "TooGreat" = false := by decide +kernel
@[simp] theorem su_BadLetters_NoSign : isSub "BadLetters" "NoSign" = false := by decide +kernel
@[simp] theorem su_BadLetters_NoOrder : isSub "BadLetters" "NoOrder" = false := by decide +kernel
@[simp] theorem su_BadLetters_BadPage : isSub "BadLetters" "BadPage" = false := by decide +kernel
@[simp] theorem su_BadLetters_BadTable : isSub "BadLetters" "BadTable" = false := by decide +kernel
@[simp] theorem su_BadLetters_BadLetters : isSub "BadLetters" "BadLetters" = true := by decide +kernel
@[simp] theorem su_BadLetters_Faulty : isSub "BadLetters" "Faulty" = false := by decide +kernel
@[simp] theorem su_BadLetters_ValueError : isSub "BadLetters" "ValueError" = true := by decide +kernel
@[simp] theorem su_Faulty_TongueError : isSub "Faulty" "TongueError" = true := by decide +kernel
@[simp] theorem su_Faulty_TooGreat : isSub "Faulty" "TooGreat" = false := by decide +kernel
@[simp] theorem su_Faulty_NoSign : isSub "Faulty" "NoSign" = false := by decide +kernel
@[simp] theorem su_Faulty_NoOrder : isSub "Faulty" "NoOrder" = false := by decide +kernel
@[simp] theorem su_Faulty_BadPage : isSub "Faulty" "BadPage" = false := by decide +kernel
@[simp] theorem su_Faulty_BadTable : isSub "Faulty" "BadTable" = false := by decide +kernel
@[simp] theorem su_Faulty_BadLetters : isSub "Faulty" "BadLetters" = false := by decide +kernel
@[simp] theorem su_Faulty_Faulty : isSub "Faulty" "Faulty" = true := by decide +kernel
@[simp] theorem su_Faulty_ValueError : isSub "Faulty" "ValueError" = true := by decide +kernel
section
variable {α β : Type} {s : S} {r : List (Option T)} {p : List T}
/-- what a def's end makes of it -/
def Fl.fo : Fl → Fo
  | .next s => .ret (.d .non) s.p
  | .ret t s => .ret t s.p
  | .exc x s => .exc x s.p
  | _ => .bad
@[simp] theorem fo_next : (Fl.next s).fo = .ret (.d .non) s.p := id rfl
@[simp] theorem fo_ret {t : T} : (Fl.ret t s).fo = .ret t s.p := id rfl
@[simp] theorem fo_exc {x : Xn} : (Fl.exc x s).fo = .exc x s.p := id rfl
@[simp] theorem fo_bad : Fl.bad.fo = .bad := id rfl
@[simp] theorem fo_brk : (Fl.brk s).fo = .bad := id rfl
@[simp] theorem fo_cont : (Fl.cont s).fo = .bad := id rfl
@[simp] theorem fo_ite {c : Prop} [Decidable c] {a b : Fl} : (if c then a else b).fo = if c then a.fo else b.fo := by split <;> rfl
@[simp] theorem runX_eq {n N : Nat} {f : SemS} {ts : List T} : runX n N f ts p = if ts.length = n then (f ⟨ts.map some ++ List.replicate (N - n) none, p⟩).fo else .bad := id rfl
/-- a statement that ends the def -/
theorem fo_end {f g : SemS} {x : D} (h : x ≠ .non) (e : (f s).fo = .ret (.d x) p) : (sSeq f g s).fo = .ret (.d x) p := by
  rw [sSeq_eq]
  cases c : f s with
  | next s1 => rw [c] at e; cases e; exact absurd rfl h
  | ret t s1 => rw [c] at e; exact e
  | exc x s1 => rw [c] at e; exact e
  | brk s1 => rw [c] at e; cases e
  | cont s1 => rw [c] at e; cases e
  | bad => rw [c] at e; cases e
theorem fo_seq {f g : SemS} {s1 : S} (e : f s = .next s1) : (sSeq f g s).fo = (g s1).fo := by
  rw [sSeq_eq, e]
@[simp] theorem sZ_eq {f : Sem} : sZ f s = (f s).bind fun t s1 => match t with
  | .al k => .ok (.al k) s1
  | t => .ok (.d (t.dat [])) s1 := id rfl
@[simp] theorem sPeek_eq {f : Sem} : sPeek f s = match f s.fz with
  | .ok t _ => if t.ind then .ok t s else .bad
  | .exc x _ => if x.sc then .exc x s else .bad
  | .bad => .bad := id rfl
@[simp] theorem hSeq_t {hs : List D → S → Option S} {ds : List D} : hSeq hs (.tup ds) s = hs ds s := id rfl
@[simp] theorem hSeq_l {hs : List D → S → Option S} {ds : List D} : hSeq hs (.lst ds) s = hs ds s := id rfl
@[simp] theorem sUnp_eq {h : D → S → Option S} {fe : Sem} : sUnp h fe s = (fe s).bindF fun t s1 => match h (t.dat []) s1 with
  | some s2 => .next s2
  | none => .bad := id rfl
@[simp] theorem sRz_eq {C : String} : sRz C s = .exc ⟨C, []⟩ s := id rfl
@[simp] theorem sRzF_eq {C : String} {names : List String} {fs : SemA} : sRzF C names fs s = (fs s).bindF fun ts s' => match T.allD ts with
  | some ds => if ds.length = names.length then .exc ⟨C, (names.zip ds).reverse⟩ s' else .bad
  | none => .bad := id rfl
@[simp] theorem unset_mk {i : Nat} : (S.mk r p).unset i = ⟨r.set i none, p⟩ := id rfl
@[simp] theorem un_next {i : Nat} : (Fl.next s).un i = .next (s.unset i) := id rfl
@[simp] theorem un_ret {i : Nat} {t : T} : (Fl.ret t s).un i = .ret t s := id rfl
@[simp] theorem un_exc {i : Nat} {x : Xn} : (Fl.exc x s).un i = .bad := id rfl
@[simp] theorem noX_next : (Fl.next s).noX = .next s := id rfl
@[simp] theorem noX_ret {t : T} : (Fl.ret t s).noX = .ret t s := id rfl
@[simp] theorem noX_exc {x : Xn} : (Fl.exc x s).noX = .bad := id rfl
@[simp] theorem sTryN_eq {i : Nat} {Cc : String} {f g : SemS} : sTryN i Cc f g s = match f s with
  | .exc x s1 => if isSub x.C Cc then (g (s1.st i (.d (.err x.C x.fs)))).un i else .bad
  | R => R := id rfl
@[simp] theorem sTryU_eq {Cc : String} {f g : SemS} : sTryU Cc f g s = match f s with
  | .exc x s1 => if isSub x.C Cc then (g s1).noX else .bad
  | R => R := id rfl
@[simp] theorem sTryX_eq {Cc : String} {f g : SemS} : sTryX Cc f g s = match f s with
  | .exc x s1 => if isSub x.C Cc then g s1 else .bad
  | R => R := id rfl
@[simp] theorem xsc_nil {C : String} : (Xn.mk C []).sc = true := id rfl
@[simp] theorem xsc_cons {C f : String} {x : D} {fs : List (String × D)} : (Xn.mk C ((f, x) :: fs)).sc = (x.sc && (Xn.mk C fs).sc) := id rfl
@[simp] theorem isA_obj {C Dn : String} {fs : List (String × D)} : (D.obj C fs).isA Dn = if isExcN C then none else some (isSub C Dn) := id rfl
@[simp] theorem isA_err {C Dn : String} {fs : List (String × D)} : (D.err C fs).isA Dn = if isExcN C then some (isSub C Dn) else none := id rfl
@[simp] theorem isA_non {Dn : String} : D.non.isA Dn = some false := id rfl
@[simp] theorem isA_lst {Dn : String} {xs : List D} : (D.lst xs).isA Dn = some false := id rfl
@[simp] theorem isA_tup {Dn : String} {xs : List D} : (D.tup xs).isA Dn = some false := id rfl
@[simp] theorem isA_int {Dn : String} {i : Int} : (D.int i).isA Dn = some false := id rfl
@[simp] theorem gIsA_eq {Dn n : String} {x : D} : gIsA Dn [x, .cls n] = if n = Dn then (x.isA Dn).map fun b => .one (.bl b) else none := id rfl
@[simp] theorem gIsV_eq {n : String} {x : D} : gIsV [x, .ty n] = if n = "ValueError" then (x.isA "ValueError").map fun b => .one (.bl b) else none := id rfl
@[simp] theorem gIsT_eq {ns : List String} {x : D} {cs : List D} : gIsT ns [x, .tup cs] = if clsL cs = some ns then (isAs ns x).map fun b => .one (.bl b) else none := id rfl
@[simp] theorem clsL_nil : clsL [] = some [] := id rfl
@[simp] theorem clsL_cons {n : String} {r : List D} : clsL (.cls n :: r) = (clsL r).map (n :: ·) := id rfl
@[simp] theorem isAs_nil {x : D} : isAs [] x = (x.isA "ValueError").map fun _ => false := id rfl
@[simp] theorem isAs_cons {n : String} {ns : List String} {x : D} : isAs (n :: ns) x = match x.isA n with
    | some true => some true
    | some false => isAs ns x
    | none => none := id rfl
@[simp] theorem sFld_eq {f : String} {fo : Sem} : sFld f fo s = (fo s).bind fun t s1 => match t with
  | .d (.obj C fs) => if isExcN C then .bad else if (fieldsOf C).contains f then (match fs.lookup f with
    | some x => .ok (.d x) s1
    | none => .bad) else .bad
  | .d (.err C fs) => if isExcN C then (if (fieldsOf C).contains f then (match fs.lookup f with
    | some x => .ok (.d x) s1
    | none => .bad) else .bad) else .bad
  | .al k => (match s1.p[k]? with
    | some (.obj C ts) => if isExcN C then .bad else if (fieldsOf C).contains f then (match ts.lookup f with
      | some (.d x) => .ok (.d x) s1
      | some (.al j) => .ok (.al j) s1
      | _ => .bad) else .bad
    | _ => .bad)
  | _ => .bad := id rfl
@[simp] theorem sSetF_eq {i : Nat} {f : String} {fe : Sem} : sSetF i f fe s = (fe s).bindF fun t s1 => match s1.r[i]? with
  | some (some (.al k)) => (match s1.p[k]? with
    | some (.obj C ts) => if isExcN C = false ∧ (fieldsOf C).contains f = true ∧ ts.length < 900 then .next ⟨s1.r, s1.p.set k (.obj C (putT f t ts))⟩ else .bad
    | _ => .bad)
  | _ => .bad := id rfl
@[simp] theorem clsOf_d {C : String} {fs : List (String × D)} : (T.d (.obj C fs)).clsOf p = some (C, fs.map (·.1)) := id rfl
@[simp] theorem clsOf_al {k : Nat} : (T.al k).clsOf p = (match p[k]? with
    | some (.obj C ts) => some (C, ts.map (·.1))
    | _ => none) := id rfl
@[simp] theorem tabL_eq {L : List (String × SemF)} {C : String} : tabL L C = L.lookup C := id rfl
@[simp] theorem sMeth_eq {m : String} {tab : String → Option SemF} {dd : List D} {fo : Sem} {fs : SemA} : sMeth m tab dd fo fs s = (fo s).bind fun t s1 => match t.clsOf s1.p with
  | some (C, ns) => if isExcN C = false ∧ ns.contains m = false then (match tab C with
    | some Φ => (fs s1).bind fun ts s2 => match Φ (t :: ts ++ dd.map .d) s2.p with
      | .ret u p => .ok u ⟨s2.r, p⟩
      | .exc x p => .exc x ⟨s2.r, p⟩
      | .bad => .bad
    | none => .bad) else .bad
  | none => .bad := id rfl
@[simp] theorem or_res {c : Prop} [Decidable c] {b : Bool} : (if c then Res.ok true s else Res.ok b s) = Res.ok (decide c || b) s := by
  by_cases h : c <;> simp [h]
@[simp] theorem and_res {c : Prop} [Decidable c] {b : Bool} : (if c then Res.ok b s else Res.ok false s) = Res.ok (decide c && b) s := by
  by_cases h : c <;> simp [h]
@[simp] theorem and_resT {c : Prop} [Decidable c] {b : Bool} : (if c then Res.ok (T.d (.bl b)) s else Res.ok (T.d (.bl false)) s) = Res.ok (T.d (.bl (decide c && b))) s := by
  by_cases h : c <;> simp [h]
@[simp] theorem or_resT {c : Prop} [Decidable c] {b : Bool} : (if c then Res.ok (T.d (.bl true)) s else Res.ok (T.d (.bl b)) s) = Res.ok (T.d (.bl (decide c || b))) s := by
  by_cases h : c <;> simp [h]
@[simp] theorem lkp_nil {γ : Type} {k : String} : List.lookup k ([] : List (String × γ)) = none := rfl
@[simp] theorem lkp_cons {γ : Type} {k k2 : String} {v : γ} {l : List (String × γ)} : List.lookup k ((k2, v) :: l) = if k = k2 then some v else List.lookup k l := by
  by_cases h : k = k2
  · subst h; simp [List.lookup]
  · have : (k == k2) = false := beq_false_of_ne h
    simp [List.lookup, this, h]
@[simp] theorem sNew_eq {C : String} : sNew C s = .ok (.obj C []) s := id rfl
end
end BT
/-! EM: exceptions made while one is handled; .. -/
namespace BT
open PySem PySem.Spec PyProof.Rows L2
section
variable {P : Program} {w : World} {K : PySem.W.Frag} {mg : Str → Option Value} {base : Heap}
theorem fnInitH {C : Addr} {qual : Str} {st : Stmt} {f : Addr} {fd : FuncData} {N : List Str} {names : List Str} {m : Str} (T : OexC K C) (F : Dx K "__init__" qual st [] f fd) (S : FnScope N N (defScope st)) (fl : List (Str × Nat)) (hN : N.length = names.length + 1) (hf : fl = names.zipIdx 1) (ne : names ≠ []) (l : names.length ≤ 900)
    (hn : ∀ q ∈ names, PySem.W.findIn K (.ref C) q = some none)
    (hb : ∀ (cdv : Value) (A : Around) (outer : List Env) (s : Shared) (H : Hp) (E : XK) (p : Addr × Obj), PSs (L2H.cxH (L2N.CX P w) P w K mg base N qual (defScope st) f cdv A outer s H E p) (defBody st) (tSeq (tDrop (tVeI K (tCons (tVar 0) (tCons (tC (.str m)) tNil)))) (tOsts K fl))) :
    L2H.FnH P w K mg base (L2N.CX P w) 1 f fd N (spX C names) := by
  obtain ⟨oc, od, dV, kV, doc, pm, an, cdv, ct, osl, rfl, lk, hcd, _, _⟩ := F.fun_.ex
  refine L2H.fn_ofH lk hcd S (fun vs H Q E h => ?_) fun A outer s H vs Q E p _ _ h => ⟨_, hb cdv A outer s H E p, ?_⟩
  · obtain ⟨a, ys, rfl, ly, _⟩ := h
    rw [List.length_cons, ly, hN]
  · obtain ⟨a, ys, rfl, ly, ha, k⟩ := h
    have es : start N (V.ref a :: ys) = (V.ref a :: ys).map some := by
      unfold L2.start
      rw [List.length_cons, ly, hN, Nat.sub_self]
      simp
    have h0 : (start N (V.ref a :: ys))[0]? = some (some (.ref a)) := by rw [es]; rfl
    have lf : fl.length = ys.length := by rw [hf, List.length_zipIdx, ly]
    refine ⟨.ref a, h0, a, C, [.str m], rfl, (by simp), T, ha, ?_⟩
    refine init_rd T h0 fl ys lf (fun z => ne (by rw [hf] at z; simpa using z)) (by rw [lf, ly]; exact l) (fun q hq => ?_) (fun q hq => hn q.1 ?_) ha fun dx H2 n1 n2 z1 z2 z3 => k dx H2 n1 n2 z1 ?_ z3
    · rw [es]
      obtain ⟨⟨q1, q2⟩, q3⟩ := q
      obtain ⟨j, hj⟩ := List.mem_iff_getElem?.mp hq
      rw [List.getElem?_zip_eq_some] at hj
      rw [hf, List.getElem?_zipIdx] at hj
      obtain ⟨h1, h2⟩ := hj
      simp only at h1 h2 ⊢
      cases e : names[j]? with
      | none => rw [e] at h1; cases h1
      | some z =>
        rw [e] at h1
        cases h1
        rw [Nat.add_comm, List.map_cons, List.getElem?_cons_succ, List.getElem?_map, h2]
        rfl
    · rw [hf] at hq
      obtain ⟨j, hj⟩ := List.mem_iff_getElem?.mp hq
      rw [List.getElem?_zipIdx] at hj
      cases e : names[j]? with
      | none => rw [e] at hj; cases hj
      | some z =>
        rw [e] at hj
        cases hj
        exact List.mem_of_getElem? e
    · have : fl.map (·.1) = names := by rw [hf, List.zipIdx_map_fst]
      rw [← this]
      exact z2
end
theorem roomH_mk {j k : Nat} {A : Around} {v : Option Value} (r : Room k A) (h : j ≤ k) : L2H.RoomH j (A.mark v) := ⟨(r.mono h).dp, (r.mono h).un⟩
/-! ### an exception made and kept -/
theorem pe_of_pmk {X : Cx} {e : Expr} {t : L2.St → Hp → XK → Prop} (he : L2N.PMk X e t) : PE X e (fun σ H Q => t σ H fun cls d H1 => ∀ a, H1 a = none → Q (.ref a) (upd H1 a (ErO cls d a))) := by
  refine ⟨fun pins s σ H Q I h => ?_⟩
  refine wpAny_mono (he pins s σ H _ I h) (fun u s1 hu => ?_) fun _ _ x => x
  obtain ⟨a, oe, vs, sI, H', cls, d, rfl, J, k, hne, ha, hz, hd, h1, na, os, ag, r, q⟩ := hu
  obtain ⟨G, g1, g2⟩ := restrict s1.heap fun b => decide (b ≠ a)
  have gk : ∀ b, b ≠ a → G.get? b = s1.heap.get? b := fun b n => g1 b (decide_eq_true n)
  have ga : G.get? a = none := g2 a (decide_eq_false fun z => z rfl)
  have gs : ∀ b o, G.get? b = some o → s1.heap.get? b = some o := fun b o e => by
    have n : b ≠ a := fun z => by rw [z, ga] at e; cases e
    rw [← gk b n]
    exact e
  have st : ∀ b o, sI.heap.get? b = some o → G.get? b = some o := fun b o e => by
    rw [gk b (fun z => by rw [z, hne] at e; cases e)]
    exact k b o e
  have J1 : Inv X pins σ H' { s1 with heap := G } := J.landed (B := sI.heap) (fun b o e _ => e) (fun b o e => st b o e) (fun b o e nf => ⟨o.slots, by rw [st b o e]⟩) os ag
  have new : ObjOk X.prog X.w (upd H' a (ErO cls d a)) s1.heap a (ErO cls d a) := ⟨⟨oe, vs, ha, hz.zc, hd⟩, ⟨oe, ha⟩, fun _ _ ⟨o, v, y1, y2⟩ k => ⟨o, v, k o y1, y2⟩⟩
  have J2 := L2.Inv.laidN (h' := s1.heap) (t' := s1.toks) J1 gs ga na new
  exact ⟨.ref a, _, J2, rfl, q a na⟩
/-- X(e, ..), an own exception as a value -/
def sXv (C : String) (names : List String) (fs : SemA) : Sem := fun s => (fs s).bind fun ts s' => match T.allD ts with
  | some ds => if ds.length = names.length then .ok (.d (.err C (names.zip ds).reverse)) s' else .bad
  | none => .bad
section
variable [CA] {K : PySem.W.Frag} {F G G' H H' : Hp} {σ : L2.St} {s s' : S} {pv pv' : List V} {W : WX} {D : Ends}
theorem sXv_le {C : String} {names : List String} {fs : SemA} {Q : VK} (ok : CA.ok C) (l : names.length ≤ 900) (h : tOf K W (sXv C names fs) σ H Q) :
    tMkX (CA.ca C) (names.map sS) (tOfA K W fs) σ H fun cls d H' => ∀ a, H' a = none → Q (.ref a) (upd H' a (ErO cls d a)) := by
  obtain ⟨F, G, s, pv, S, q⟩ := h
  refine ⟨F, G, s, pv, S, (bind_use q).imp (fun ts s1 q1 => ?_) fun _ _ z => z⟩
  intro vs G1 H1 pv1 po px el S1
  cases e : T.allD ts with
  | none => simp only [e] at q1; exact q1.elim
  | some ds =>
    simp only [e] at q1
    by_cases c : ds.length = names.length
    · rw [if_pos c] at q1
      obtain ⟨hv, S2⟩ := Sim.allD (r := s1.r) (p := s1.p) S1 el e
      refine ⟨by rw [List.length_map, hv.len, c], by rw [List.length_map]; exact l, fun d H2 n1 z1 z2 => ?_⟩
      have gd := none_of_ex S2.eg n1
      have fd := none_of_ex S2.ef n1
      have po2 : Post F G1 (upd G1 d (.xd ((names.map sS).zip vs).reverse)) := ⟨Ex.new gd, fun b o z => by rw [upd_ne (fun w => by rw [w, fd] at z; cases z)]⟩
      have e12 : Ex H1 H2 := fun b o z => by
        rw [z2 b (fun w => by rw [w, n1] at z; cases z)]
        exact z
      have S3 : Sim K F (upd G1 d (.xd ((names.map sS).zip vs).reverse)) H2 σ s1 pv1 := by
        obtain ⟨ef, eg, A, B, ho, hs, dd, n⟩ := S2
        have fm : ∀ Z : AS, Fm K G1 (upd G1 d (.xd ((names.map sS).zip vs).reverse)) H1 H2 pv1 pv1 Z := fun Z => ⟨po2.g, fun b o _ z => e12 b o z, fun _ _ z => z⟩
        refine ⟨ef.tr e12, fun b o z => ?_, A, B, ho.fm (fm A), hs.fm (fm B), dd, fun x b => ?_⟩
        · by_cases w : b = d
          · subst w; rw [upd_same] at z; rw [z1]; exact z
          · rw [upd_ne w] at z; exact e12 b o (eg b o z)
        · obtain ⟨m1, m2, m3⟩ := n x b
          have w : x ≠ d := fun w => m1 (by rw [w]; exact n1)
          refine ⟨fun z => ?_, m2, by rw [upd_ne w]; exact m3⟩
          cases y : H1 x with
          | none => exact m1 y
          | some o => rw [e12 x o y] at z; cases z
      intro a na
      obtain ⟨po3, S4⟩ := S3.lay (o := ErO (.ref (CA.ca C)) (some d) a) na
      refine q1 (.ref a) _ _ pv1 ((po.tr po2).tr po3) px (S4.push_d (.err ok upd_same (fun e z => ?_) (fun z => by cases z) (((hv.ex po2.g).ex po3.g).fields c.symm |>.rev)))
      cases z
      exact po3.g _ _ upd_same
    · rw [if_neg c] at q1
      exact q1.elim
end
section
variable [CA] {X : Cx} {W : WX} {x : Str} {C : String} {p p2 pos : Pos} {e : Expr} {es : List Expr} {fs : SemA} {names : List String}
theorem r_xv (k : XFld X.prog X.w X.K X.mg X.base x C names) (hr : Room 2 X.A) (ha : PA X (e :: es) (tOfA X.K W fs)) (l : names.length ≤ 900 := by decide) (hg : Gl X x := by rfl)
    (hdb : (x == ("__debug__" : Str)) = false := by decide) (he : starEach (e :: es) X.env = (false, eval e X.env) :: starEach es X.env := by rfl) (hpl : (backTo p (starEach es X.env)).any (·.1) = false := by rfl) :
    PE X (.Call (.Name x p2) (e :: es) [] p) (tOf X.K W (sXv C names fs)) := by
  obtain ⟨fI, fd, ps, h1, h2, F1, hb⟩ := k.ex
  exact (pe_of_pmk (pmk_x k.T h1 h2 F1 hr hb k.md ha hg hdb he hpl)).le fun _ _ _ h => sXv_le k.ok l h
end
@[simp] theorem sXv_eq {C : String} {names : List String} {fs : SemA} {s : S} : sXv C names fs s = (fs s).bind fun ts s' => match T.allD ts with
  | some ds => if ds.length = names.length then .ok (.d (.err C (names.zip ds).reverse)) s' else .bad
  | none => .bad := id rfl
end BT
/-! EN: plain words for the maths. -/
namespace BT
open PySem PySem.Spec PyProof.Rows L2
/-- name += e and its like, of whole numbers -/
def sAug (i : Nat) (g : D → D → Option Rv) (fe : Sem) : SemS := fun s => match s.r[i]? with
  | some (some (.d a)) => (pk fe s fun b => (match g a b with
    | some (.one x) => if x.sc then .ok (.d x) s else .bad
    | _ => .bad : Res T)).bindF fun t s1 => .next (s1.st i t)
  | _ => .bad
section
variable [CA] {K : PySem.W.Frag} {F G G' H H' : Hp} {σ : L2.St} {s s' : S} {pv pv' : List V} {W : WX} {D : Ends}
theorem sAug_le {i : Nat} {g : BT.D → BT.D → Option Rv} {fe : Sem} {rd : V → V → Hp → VK → Prop} (hg : Op2 K rd g) (h : sOf K W (sAug i g fe) D σ H) : tAug i (tOf K W fe) rd D σ H := by
  obtain ⟨F, G, s, pv, S, q⟩ := h
  unfold sAug at q
  split at q
  · rename_i a er
    have sl : ∃ v, σ[i]? = some (some v) ∧ Vw K G v a := by
      obtain ⟨ef, eg, A, B, ho, hs, d, n⟩ := S
      obtain ⟨v, A1, A2, e1, h1, _⟩ := ho.take er
      cases h1 with
      | d z => exact ⟨v, e1, z⟩
    obtain ⟨v, e1, va⟩ := sl
    refine ⟨v, e1, pk_use S ((bindF_use q).imp (fun _ _ z => z) fun _ _ z => z.kex) fun y b H2 ex vb S2 q2 => ?_⟩
    cases eR : g a b with
    | none => rw [eR] at q2; exact q2.elim
    | some R =>
      rw [eR] at q2
      cases R with
      | one x =>
        have q3 : (if x.sc then Res.ok (T.d x) s else .bad : Res T).go (fun t s1 => Fin K F G pv W D (.next (s1.st i t))) (KEx K F G pv σ W) := q2
        by_cases cs : x.sc = true
        · rw [if_pos cs] at q3
          refine hg H2 H2 v y a b _ _ Ex.rfl' (va.ex S2.eg) vb eR fun z vz => ?_
          exact q3 _ G H2 pv .rfl' (List.prefix_refl _) (S2.push_d (vz.sc cs _)).store
        · rw [if_neg cs] at q3
          exact q3.elim
      | lst _ => exact q2.elim
      | tup _ => exact q2.elim
  · exact q.elim
end
section
variable [CA] {X : Cx} {W : WX} {e : Expr} {fe : Sem} {pos pos' : Pos} {x : Str}
theorem r_augAdd (i : Nat) (hN : X.N.Nodup) (he : PE X e (tOf X.K W fe)) (hi : X.N[i]? = some x := by rfl) (hx : Loc X.env.scope x := by first | exact Or.inl rfl | exact Or.inr rfl) (hf : X.fn x = true ∨ X.env.scope.names.lookup x = some .local := by first | exact .inl rfl | exact .inr rfl | assumption) :
    PS X (.AugAssign (.Name x pos') .Add e pos) (sOf X.K W (sAug i gAddI fe)) := (ps_aug hN hi hx he in_add hf).le fun _ _ _ h => sAug_le o_inAdd h
theorem r_augSub (i : Nat) (hN : X.N.Nodup) (he : PE X e (tOf X.K W fe)) (hi : X.N[i]? = some x := by rfl) (hx : Loc X.env.scope x := by first | exact Or.inl rfl | exact Or.inr rfl) (hf : X.fn x = true ∨ X.env.scope.names.lookup x = some .local := by first | exact .inl rfl | exact .inr rfl | assumption) :
    PS X (.AugAssign (.Name x pos') .Sub e pos) (sOf X.K W (sAug i gSub fe)) := (ps_aug hN hi hx he in_sub hf).le fun _ _ _ h => sAug_le o_inSub h
end
@[simp] theorem sAug_eq {i : Nat} {g : D → D → Option Rv} {fe : Sem} {s : S} : sAug i g fe s = match s.r[i]? with
  | some (some (.d a)) => (pk fe s fun b => (match g a b with
    | some (.one x) => if x.sc then .ok (.d x) s else .bad
    | _ => .bad : Res T)).bindF fun t s1 => .next (s1.st i t)
  | _ => .bad := id rfl
@[simp] theorem gAddI_i {i j : Int} : gAddI (.int i) (.int j) = some (.one (.int (i + j))) := id rfl
/-- whole numbers from nought on, as whole numbers -/
def ic (ds : List Nat) : List Int := ds.map fun k : Nat => (k : Int)
@[simp] theorem ic_len {ds : List Nat} : (ic ds).length = ds.length := by simp [ic]
@[simp] theorem ic_nil : ic [] = [] := rfl
theorem ic_cons {d : Nat} {ds : List Nat} : ic (d :: ds) = (d : Int) :: ic ds := rfl
theorem ic_app {ds es : List Nat} : ic (ds ++ es) = ic ds ++ ic es := by simp [ic]
@[simp] theorem ic_cut {ds : List Nat} {lo hi : Option Int} : cut (ic ds) lo hi = ic (cut ds lo hi) := cut_map
theorem ic_inj : ∀ {ds es : List Nat}, ic ds = ic es → ds = es
  | [], [], _ => rfl
  | [], _ :: _, h => by cases h
  | _ :: _, [], h => by cases h
  | d :: ds, e :: es, h => by
    rw [ic_cons, ic_cons] at h
    have h1 := (List.cons.inj h).1
    have h2 := ic_inj (List.cons.inj h).2
    rw [h2, Int.ofNat.inj h1]
@[simp] theorem ic_beq {ds es : List Nat} : (ic ds == ic es) = (ds == es) := by
  by_cases h : ds = es
  · rw [h, beq_self_eq_true, beq_self_eq_true]
  · rw [beq_eq_false_iff_ne.mpr h, beq_eq_false_iff_ne.mpr fun z => h (ic_inj z)]
theorem ic_int {ds : List Nat} : (ic ds).map D.int = ds.map fun k : Nat => D.int (k : Int) := by
  unfold ic
  rw [List.map_map]
  rfl
theorem ic_tint {ds : List Nat} : (ic ds).map (T.d ∘ D.int) = ds.map fun k : Nat => T.d (D.int (k : Int)) := by
  unfold ic
  rw [List.map_map]
  rfl
theorem mem_ic {ds : List Nat} {x : Int} (h : x ∈ ic ds) : ∃ d ∈ ds, x = (d : Int) := by
  obtain ⟨d, hd, rfl⟩ := List.mem_map.mp h
  exact ⟨d, hd, rfl⟩
/-- such a list from one of whole numbers -/
theorem ic_of {xs : List Int} (h : ∀ x ∈ xs, 0 ≤ x) : xs = ic (xs.map Int.toNat) := by
  unfold ic
  rw [List.map_map]
  conv => lhs; rw [← List.map_id xs]
  refine List.map_congr_left fun x hx => ?_
  have := h x hx
  show x = ((x.toNat : Nat) : Int)
  omega
@[simp] theorem ic_eq_nil {ds : List Nat} : ic ds = [] ↔ ds = [] := by
  cases ds <;> simp [ic]
theorem tset {xs : List Int} {j : Nat} {d : Int} : (xs.map (T.d ∘ D.int)).set j (T.d (.int d)) = (xs.set j d).map (T.d ∘ D.int) := by
  rw [List.map_set]
  rfl
theorem cut_neg1 {α : Type} {xs : List α} : cut xs none (some (-1)) = xs.take (xs.length - 1) := by
  unfold cut
  have e : HT.sIx xs.length xs.length (some (-1)) = xs.length - 1 := by
    unfold HT.sIx
    simp only
    rw [if_pos (by omega)]
    omega
  rw [e, HT.sIx_none, List.drop_zero, Nat.sub_zero]
theorem pow_cast (b : Nat) : ((2 ^ b : Nat) : Int) = (2 : Int) ^ b := by rw [Int.natCast_pow]; rfl
theorem pow_pos' (b : Nat) : (0 : Int) < 2 ^ b := Int.pow_pos (by decide)
theorem div_cast (n k : Nat) : (n : Int) / 2 ^ k = ((n / 2 ^ k : Nat) : Int) := by rw [Int.natCast_ediv, Int.natCast_pow]; rfl
theorem div_small {d b : Nat} (h : d < 2 ^ b) : (d : Int) / 2 ^ b = 0 := by
  rw [div_cast, Nat.div_eq_of_lt h]
  rfl
end BT
/-! EO: == where an empty dict may lie within. -/
namespace BT
open PySem PySem.Spec PyProof.Rows L2
def eqxL (f : D → D → Option Bool) : List D → List D → Option Bool
  | [], [] => some true
  | x :: xs, y :: ys => match f x y, eqxL f xs ys with
    | some a, some b => some (a && b)
    | _, _ => none
  | _, _ => some false
def eqx : Nat → D → D → Option Bool
  | 0, a, b => if a.flat 0 && b.flat 0 then some (a.deq b) else none
  | n + 1, a, b => if a.flat (n + 1) && b.flat (n + 1) then some (a.deq b) else match a, b with
    | .lst xs, .lst ys => eqxL (eqx n) xs ys
    | .tup xs, .tup ys => eqxL (eqx n) xs ys
    | .dic [], .dic [] => some true
    | _, _ => none
theorem eqxL_len {f : D → D → Option Bool} : ∀ {xs ys : List D}, xs.length ≠ ys.length → ∀ r, eqxL f xs ys = some r → r = false
  | [], [], h, _, _ => absurd rfl h
  | [], _ :: _, _, r, e => by cases e; rfl
  | _ :: _, [], _, r, e => by cases e; rfl
  | x :: xs, y :: ys, h, r, e => by
    have h2 : xs.length ≠ ys.length := fun z => h (by simp [z])
    unfold eqxL at e
    cases e1 : f x y with
    | none => rw [e1] at e; cases e
    | some a =>
      cases e2 : eqxL f xs ys with
      | none => rw [e1, e2] at e; cases e
      | some b =>
        rw [e1, e2] at e
        cases e
        rw [eqxL_len h2 b e2, Bool.and_false]
theorem eqxL_all {f : D → D → Option Bool} : ∀ {xs ys : List D}, xs.length = ys.length → ∀ r, eqxL f xs ys = some r → ∃ e : Nat → Bool, (∀ j (h1 : j < xs.length) (h2 : j < ys.length), f xs[j] ys[j] = some (e j)) ∧ (List.range xs.length).all e = r
  | [], [], _, r, h => by cases h; exact ⟨fun _ => true, fun j h1 => absurd h1 (Nat.not_lt_zero j), rfl⟩
  | [], _ :: _, h, _, _ => by cases h
  | _ :: _, [], h, _, _ => by cases h
  | x :: xs, y :: ys, h, r, e => by
    unfold eqxL at e
    cases e1 : f x y with
    | none => rw [e1] at e; cases e
    | some a =>
      cases e2 : eqxL f xs ys with
      | none => rw [e1, e2] at e; cases e
      | some b =>
        rw [e1, e2] at e
        cases e
        obtain ⟨g, h1, h2⟩ := eqxL_all (by simpa using h) b e2
        refine ⟨fun j => match j with
          | 0 => a
          | j + 1 => g j, fun j k1 k2 => ?_, ?_⟩
        · cases j with
          | zero => exact e1
          | succ j => exact h1 j (by simpa using k1) (by simpa using k2)
        · rw [List.length_cons, List.range_succ_eq_map, List.all_cons, List.all_map, ← h2]
          rfl
theorem eqxL_any {f : D → D → Option Bool} : ∀ {xs ys : List D} (r : Bool), eqxL f xs ys = some r → ∃ e : Nat → Bool, (∀ j (h1 : j < xs.length) (h2 : j < ys.length), f xs[j] ys[j] = some (e j)) ∧ ((List.range (min xs.length ys.length)).all e && xs.length == ys.length) = r
  | [], [], r, h => by cases h; exact ⟨fun _ => true, fun j h1 => absurd h1 (Nat.not_lt_zero j), rfl⟩
  | [], _ :: _, r, h => by cases h; exact ⟨fun _ => true, fun j h1 => absurd h1 (Nat.not_lt_zero j), by simp⟩
  | _ :: _, [], r, h => by cases h; exact ⟨fun _ => true, fun j _ h1 => absurd h1 (Nat.not_lt_zero j), by simp⟩
  | x :: xs, y :: ys, r, e => by
    unfold eqxL at e
    cases e1 : f x y with
    | none => rw [e1] at e; cases e
    | some a =>
      cases e2 : eqxL f xs ys with
      | none => rw [e1, e2] at e; cases e
      | some b =>
        rw [e1, e2] at e
        cases e
        obtain ⟨g, h1, h2⟩ := eqxL_any b e2
        refine ⟨fun j => match j with
          | 0 => a
          | j + 1 => g j, fun j k1 k2 => ?_, ?_⟩
        · cases j with
          | zero => exact e1
          | succ j => exact h1 j (by simpa using k1) (by simpa using k2)
        · have hm : min (x :: xs).length (y :: ys).length = min xs.length ys.length + 1 := by simp only [List.length_cons]; omega
          rw [hm, List.range_succ_eq_map, List.all_cons, List.all_map, ← h2, Bool.and_assoc]
          congr 1
          simp
          rfl
section
variable [CA] {X : Cx} {pins : List (Addr × Obj)} {σ : L2.St} {H : Hp} {s : Shared}
theorem eqx_flat (I : Inv X pins σ H s) {n : Nat} {A : Around} (hu : A.units + n < cLine) {a b : D} {x y : V} {v u : Value} (ha : a.flat n = true) (hb : b.flat n = true) (va : Vw X.K H x a) (vb : Vw X.K H y b) (rx : RelV x v) (ry : RelV y u) : SeqAt.EqAt A s v u (a.deq b) := by
  obtain ⟨as, r1⟩ := Dp.reads I a.py x v (va.dp ha) rx
  obtain ⟨bs, r2⟩ := Dp.reads I b.py y u (vb.dp hb) ry
  obtain ⟨c1, d1⟩ := D.py_lay a n ha
  obtain ⟨c2, d2⟩ := D.py_lay b n hb
  rw [← D.py_eq a b n n ha hb]
  refine SeqAt.eqAt_reads a.py b.py A s v u as bs r1 r2 c1 c2 ?_
  have := Nat.min_le_left a.py.depth b.py.depth
  omega
theorem vwl_at {K : PySem.W.Frag} {H : Hp} : ∀ {vs : List V} {ds : List D} {us : List Value}, VwL K H vs ds → Vals vs us → ∀ j (h1 : j < ds.length) (h2 : j < us.length), ∃ z, Vw K H z ds[j] ∧ RelV z us[j]
  | _, _, _, .nil, .nil, j, h1, _ => absurd h1 (Nat.not_lt_zero j)
  | _, _, _, .cons h l, .cons r rs, 0, _, _ => ⟨_, h, r⟩
  | _, _, _, .cons h l, .cons r rs, j + 1, h1, h2 => vwl_at l rs j (by simpa using h1) (by simpa using h2)
/-- == of the items -/
theorem eqx_items {n : Nat} {A : Around} (ih : ∀ (a b : D) (r : Bool) (x y : V) (v u : Value), eqx n a b = some r → Vw X.K H x a → Vw X.K H y b → RelV x v → RelV y u → SeqAt.EqAt A s v u r) {xs ys : List D} {vs ws : List V} {us zs : List Value} {e : Nat → Bool}
    (l1 : VwL X.K H vs xs) (l2 : VwL X.K H ws ys) (r1 : Vals vs us) (r2 : Vals ws zs) (he : ∀ j (h1 : j < xs.length) (h2 : j < ys.length), eqx n xs[j] ys[j] = some (e j)) :
    ∀ j (h1 : j < us.toArray.size) (h2 : j < zs.toArray.size), SeqAt.EqAt A s us.toArray[j] zs.toArray[j] (e j) := by
  intro j h1 h2
  have k1 : j < us.length := by simpa using h1
  have k2 : j < zs.length := by simpa using h2
  have m1 : j < xs.length := by rw [← l1.len, r1.length]; exact k1
  have m2 : j < ys.length := by rw [← l2.len, r2.length]; exact k2
  obtain ⟨z1, g1, q1⟩ := vwl_at l1 r1 j m1 k1
  obtain ⟨z2, g2, q2⟩ := vwl_at l2 r2 j m2 k2
  simpa using ih _ _ _ _ _ _ _ (he j m1 m2) g1 g2 q1 q2
/-- what == and != are of two containers -/
def RcX (A : Around) (s : Shared) (v u : Value) (r : Bool) : Prop := SeqAt.RcAt A s v u r ∧ SeqAt.RcNeAt A s v u (!r)
theorem eqx_rc (I : Inv X pins σ H s) {n : Nat} {A : Around} (hu : A.units < cLine) (ih : ∀ (a b : D) (r : Bool) (x y : V) (v u : Value), eqx n a b = some r → Vw X.K H x a → Vw X.K H y b → RelV x v → RelV y u → SeqAt.EqAt A.in1 s v u r) {xs ys : List D} {p q : Addr} {vs ws : List V}
    {r : Bool} (e : eqxL (eqx n) xs ys = some r) (l1 : VwL X.K H vs xs) (l2 : VwL X.K H ws ys) :
    (SqX X.K H p vs → SqX X.K H q ws → RcX A s (.ref p) (.ref q) r) ∧ (SqT X.K H p vs → SqT X.K H q ws → RcX A s (.ref p) (.ref q) r) := by
  constructor
  · intro h1 h2
    obtain ⟨us, r1, p1, _⟩ := I.list h1.l
    obtain ⟨zs, r2, p2, _⟩ := I.list h2.l
    have s1 : us.toArray.size = xs.length := by rw [List.size_toArray, ← r1.length, l1.len]
    have s2 : zs.toArray.size = ys.length := by rw [List.size_toArray, ← r2.length, l2.len]
    by_cases c : xs.length = ys.length
    · obtain ⟨g, k1, k2⟩ := eqxL_all c r e
      have hi := eqx_items ih l1 l2 r1 r2 k1
      have t1 := SeqAt.RcAt.lists p1.isList p2.isList (by rw [s1, s2, c]) hu hi
      have t2 := SeqAt.RcNeAt.lists p1.isList p2.isList (by rw [s1, s2, c]) hu hi
      rw [s1, k2] at t1 t2
      exact ⟨t1, t2⟩
    · have f := eqxL_len c r e
      subst f
      have hsz : (us.toArray.size != zs.toArray.size) = true := by rw [s1, s2]; simpa using c
      exact ⟨SeqAt.RcAt.lists_lengths p1.isList p2.isList hsz hu, SeqAt.RcNeAt.lists_lengths p1.isList p2.isList hsz hu⟩
  · intro h1 h2
    obtain ⟨us, r1, p1, _⟩ := I.tuple h1
    obtain ⟨zs, r2, p2, _⟩ := I.tuple h2
    have s1 : us.toArray.size = xs.length := by rw [List.size_toArray, ← r1.length, l1.len]
    have s2 : zs.toArray.size = ys.length := by rw [List.size_toArray, ← r2.length, l2.len]
    obtain ⟨g, k1, k2⟩ := eqxL_any r e
    have hi := eqx_items ih l1 l2 r1 r2 k1
    have t1 := SeqAt.RcAt.tuples p1 p2 hu hi
    have t2 := SeqAt.RcNeAt.tuples p1 p2 hu hi
    rw [s1, s2, k2] at t1 t2
    exact ⟨t1, t2⟩
theorem eqx_ne (I : Inv X pins σ H s) {n : Nat} {A : Around} (hu : A.units < cLine) {p q : Addr} (h1 : H p = some (.dK [])) (h2 : H q = some (.dK [])) : SeqAt.RcAt A s (.ref p) (.ref q) true := by
  obtain ⟨_, ya, va, ra, da⟩ := dk_of I.hok h1
  obtain ⟨_, yb, vb, rb, db⟩ := dk_of I.hok h2
  cases ra
  cases rb
  have conv : ∀ {P : Program} {w : World} {a : Addr}, s.heap.DictOf (mixKind X.prog X.w) a [] → s.heap.DictOf (mixKind P w) a [] := fun d => by
    obtain ⟨o, es, ep, ho, hx, hd, hk, hp, hn⟩ := d
    have e0 : es.toList = [] := by
      generalize hz : es.toList = z at hp
      cases hp
      rfl
    have e1 : es = #[] := by
      apply Array.toList_inj.mp
      rw [e0]
    subst e1
    exact ⟨o, #[], ep, ho, hx, hd, (by intro e he; simp at he), .nil, (by simp)⟩
  exact fun prog w E Q h => PySem.W.rcP_dicts (knd := mixKind prog w) (r := true) ya yb (conv da) (conv db) hu (fun _ => .nil) E Q h
/-- one and the same object is equal to itself -/
theorem eqx_same (I : Inv X pins σ H s) : ∀ (n : Nat) (a b : D) (r : Bool) (x y : V) (v : Value), eqx n a b = some r → Vw X.K H x a → Vw X.K H y b → RelV x v → RelV y v → r = true := by
  have flat : ∀ (n : Nat) (a b : D) (x y : V) (v : Value), a.flat n = true → b.flat n = true → Vw X.K H x a → Vw X.K H y b → RelV x v → RelV y v → a.deq b = true := fun n a b x y v ha hb va vb rx ry => by
    obtain ⟨as, r1⟩ := Dp.reads I a.py x v (va.dp ha) rx
    obtain ⟨bs, r2⟩ := Dp.reads I b.py y v (vb.dp hb) ry
    have c1 := PyData.plain_of_canLay0 _ (D.py_lay a n ha).1
    rw [← D.py_eq a b n n ha hb, ← SeqAt.plain_unique a.py b.py v as bs c1 r1 r2]
    exact SeqAt.eqv_refl_plain _ c1
  have all : ∀ (n : Nat) (xs ys : List D) (r : Bool) (vs ws : List V) (us zs : List Value), (∀ (a b : D) (r : Bool) (x y : V) (v : Value), eqx n a b = some r → Vw X.K H x a → Vw X.K H y b → RelV x v → RelV y v → r = true) → eqxL (eqx n) xs ys = some r → VwL X.K H vs xs → VwL X.K H ws ys → Vals vs us → Vals ws zs → us = zs → r = true := by
    intro n xs ys r vs ws us zs ih e l1 l2 r1 r2 ez
    subst ez
    obtain ⟨g, k1, k2⟩ := eqxL_any r e
    have m1 : xs.length = us.length := by rw [← l1.len, r1.length]
    have m2 : ys.length = us.length := by rw [← l2.len, r2.length]
    rw [← k2, Bool.and_eq_true]
    refine ⟨List.all_eq_true.mpr fun j hj => ?_, by rw [m1, m2]; exact beq_self_eq_true _⟩
    have hj' := List.mem_range.mp hj
    have j1 : j < us.length := by omega
    obtain ⟨z1, g1, q1⟩ := vwl_at l1 r1 j (by omega) j1
    obtain ⟨z2, g2, q2⟩ := vwl_at l2 r2 j (by omega) j1
    exact ih _ _ _ _ _ _ (k1 j (by omega) (by omega)) g1 g2 q1 q2
  intro n
  induction n with
  | zero =>
    intro a b r x y v e va vb rx ry
    unfold eqx at e
    by_cases c : (a.flat 0 && b.flat 0) = true
    · rw [if_pos c] at e
      cases e
      exact flat 0 a b x y v (and1 c) (and2 c) va vb rx ry
    · rw [if_neg c] at e
      cases e
  | succ n ih =>
    intro a b r x y v e va vb rx ry
    unfold eqx at e
    by_cases c : (a.flat (n + 1) && b.flat (n + 1)) = true
    · rw [if_pos c] at e
      cases e
      exact flat _ a b x y v (and1 c) (and2 c) va vb rx ry
    · rw [if_neg c] at e
      split at e
      · cases va with
        | lst h1 l1 =>
          cases vb with
          | lst h2 l2 =>
            cases (show v = Value.ref _ from rx)
            cases (show Value.ref _ = Value.ref _ from ry)
            obtain ⟨us, r1, p1, _⟩ := I.list h1.l
            obtain ⟨zs, r2, p2, _⟩ := I.list h2.l
            refine all n _ _ r _ _ us zs ih e l1 l2 r1 r2 ?_
            obtain ⟨o1, n1, a1, _, _, d1⟩ := p1
            obtain ⟨o2, n2, a2, _, _, d2⟩ := p2
            rw [a1] at a2
            cases a2
            rw [d1] at d2
            cases d2
            rfl
      · cases va with
        | tup h1 l1 =>
          cases vb with
          | tup h2 l2 =>
            cases (show v = Value.ref _ from rx)
            cases (show Value.ref _ = Value.ref _ from ry)
            obtain ⟨us, r1, p1, _⟩ := I.tuple h1
            obtain ⟨zs, r2, p2, _⟩ := I.tuple h2
            refine all n _ _ r _ _ us zs ih e l1 l2 r1 r2 ?_
            obtain ⟨o1, a1, _, n1, d1⟩ := p1
            obtain ⟨o2, a2, _, n2, d2⟩ := p2
            rw [a1] at a2
            cases a2
            rw [d1] at d2
            cases d2
            rfl
      · cases e
        rfl
      · cases e
theorem eqx_at (I : Inv X pins σ H s) : ∀ (n : Nat) (A : Around), A.units + n < cLine → ∀ (a b : D) (r : Bool) (x y : V) (v u : Value), eqx n a b = some r → Vw X.K H x a → Vw X.K H y b → RelV x v → RelV y u → SeqAt.EqAt A s v u r
  | 0, A, hu, a, b, r, x, y, v, u, e, va, vb, rx, ry => by
    unfold eqx at e
    by_cases c : (a.flat 0 && b.flat 0) = true
    · rw [if_pos c] at e
      cases e
      exact eqx_flat I hu (and1 c) (and2 c) va vb rx ry
    · rw [if_neg c] at e
      cases e
  | n + 1, A, hu, a, b, r, x, y, v, u, e, va, vb, rx, ry => by
    unfold eqx at e
    by_cases c : (a.flat (n + 1) && b.flat (n + 1)) = true
    · rw [if_pos c] at e
      cases e
      exact eqx_flat I hu (and1 c) (and2 c) va vb rx ry
    · rw [if_neg c] at e
      have ih := eqx_at I n A.in1 (by show A.units + 1 + n < cLine; omega)
      split at e
      · rename_i xs ys
        cases va with
        | lst h1 l1 =>
          cases vb with
          | lst h2 l2 =>
            cases (show v = Value.ref _ from rx)
            cases (show u = Value.ref _ from ry)
            have z := ((eqx_rc I (A := A) (by omega) ih e l1 l2).1 h1 h2).1
            rename_i p _ q _
            by_cases w : p = q
            · subst w
              have er := eqx_same I (n + 1) _ _ r _ _ _ (by unfold eqx; rw [if_neg c]; exact e) (Vw.lst h1 l1) (Vw.lst h2 l2) rx ry
              subst er
              exact SeqAt.EqAt.same _
            · exact SeqAt.EqAt.of_refs w z
      · rename_i xs ys
        cases va with
        | tup h1 l1 =>
          cases vb with
          | tup h2 l2 =>
            cases (show v = Value.ref _ from rx)
            cases (show u = Value.ref _ from ry)
            have z := ((eqx_rc I (A := A) (by omega) ih e l1 l2).2 h1 h2).1
            rename_i p _ q _
            by_cases w : p = q
            · subst w
              have er := eqx_same I (n + 1) _ _ r _ _ _ (by unfold eqx; rw [if_neg c]; exact e) (Vw.tup h1 l1) (Vw.tup h2 l2) rx ry
              subst er
              exact SeqAt.EqAt.same _
            · exact SeqAt.EqAt.of_refs w z
      · cases e
        cases va with
        | dic h1 l1 =>
          cases vb with
          | dic h2 l2 =>
            cases l1
            cases l2
            cases (show v = Value.ref _ from rx)
            cases (show u = Value.ref _ from ry)
            rename_i p q
            by_cases w : p = q
            · subst w
              exact SeqAt.EqAt.same _
            · exact SeqAt.EqAt.of_refs w (eqx_ne I (n := n) (by omega) h1 h2)
      · cases e
end
/-- == , != -/
def rEqX [CA] (K : PySem.W.Frag) : R2 := fun x y H Q => rEqD K x y H Q ∨ ∃ a b r, eqx 60 a b = some r ∧ (a.flat 60 && b.flat 60) = false ∧ Vw K H x a ∧ Vw K H y b ∧ Q (.bl r) H
def D.isD : D → Bool
  | .dic _ => true
  | _ => false
def rNeX [CA] (K : PySem.W.Frag) : R2 := fun x y H Q => rNeD K x y H Q ∨ ∃ a b r, a.isD = false ∧ eqx 60 a b = some r ∧ (a.flat 60 && b.flat 60) = false ∧ Vw K H x a ∧ Vw K H y b ∧ Q (.bl (!r)) H
section
variable [CA] {X : Cx}
theorem eqx_top {pins : List (Addr × Obj)} {σ : L2.St} {H : Hp} {s : Shared} (I : Inv X pins σ H s) {A : Around} (hu : A.units + 64 < cLine) {a b : D} {r : Bool} {x y : V} {v u : Value} (e : eqx 60 a b = some r) (nf : (a.flat 60 && b.flat 60) = false) (va : Vw X.K H x a) (vb : Vw X.K H y b) (rx : RelV x v) (ry : RelV y u) :
    (RcX A s v u r) ∨ (a.isD = true ∧ ∃ p q, x = .ref p ∧ y = .ref q ∧ H p = some (.dK []) ∧ H q = some (.dK []) ∧ r = true) := by
  have e2 := e
  unfold eqx at e2
  rw [if_neg (by rw [nf]; decide)] at e2
  have ih := eqx_at I 59 A.in1 (by show A.units + 1 + 59 < cLine; omega)
  split at e2
  · cases va with
    | lst h1 l1 =>
      cases vb with
      | lst h2 l2 =>
        cases (show v = Value.ref _ from rx)
        cases (show u = Value.ref _ from ry)
        exact .inl ((eqx_rc I (A := A) (by omega) ih e2 l1 l2).1 h1 h2)
  · cases va with
    | tup h1 l1 =>
      cases vb with
      | tup h2 l2 =>
        cases (show v = Value.ref _ from rx)
        cases (show u = Value.ref _ from ry)
        exact .inl ((eqx_rc I (A := A) (by omega) ih e2 l1 l2).2 h1 h2)
  · cases e2
    cases va with
    | dic h1 l1 =>
      cases vb with
      | dic h2 l2 =>
        cases l1
        cases l2
        exact .inr ⟨rfl, _, _, rfl, rfl, h1, h2, rfl⟩
  · cases e2
theorem op_eqX (hu : X.A.units + 64 < cLine) : OpR X (compareOp .Eq) (rEqX X.K) := by
  intro pins s σ H x y v u Q I rx ry h
  rcases h with h | ⟨a, b, r, e, nf, va, vb, q⟩
  · exact op_eqD hu pins s σ H x y v u Q I rx ry h
  · rcases eqx_top I hu e nf va vb rx ry with z | ⟨_, p, t, rfl, rfl, h1, h2, rfl⟩
    · exact z.1 X.prog X.w _ _ ⟨.bl r, H, I, rfl, q⟩
    · cases (show v = Value.ref _ from rx)
      cases (show u = Value.ref _ from ry)
      exact eqx_ne I (n := 0) (by omega) h1 h2 X.prog X.w _ _ ⟨.bl true, H, I, rfl, q⟩
/-- .. != , of lists and tuples -/
theorem op_neX (hu : X.A.units + 64 < cLine) : OpR X (compareOp .NotEq) (rNeX X.K) := by
  intro pins s σ H x y v u Q I rx ry h
  rcases h with h | ⟨a, b, r, nd, e, nf, va, vb, q⟩
  · exact op_neD hu pins s σ H x y v u Q I rx ry h
  · rcases eqx_top I hu e nf va vb rx ry with z | ⟨d, _⟩
    · exact z.2 X.prog X.w _ _ ⟨.bl (!r), H, I, rfl, q⟩
    · rw [nd] at d; cases d
end
def gEqX (a b : D) : Option Rv := if a.flat 60 && b.flat 60 then some (.one (.bl (a.deq b))) else (eqx 60 a b).map fun r => .one (.bl r)
def gNeX (a b : D) : Option Rv := if a.flat 60 && b.flat 60 then some (.one (.bl (!a.deq b))) else if a.isD then none else (eqx 60 a b).map fun r => .one (.bl (!r))
section
variable [CA] {K : PySem.W.Frag}
theorem o_eqX : Op2 K (rEqX K) gEqX := by
  intro G H x y a b R Q g va vb e k
  unfold gEqX at e
  by_cases c : (a.flat 60 && b.flat 60) = true
  · exact .inl (o_eq G H x y a b R Q g va vb (by unfold gEq; rw [if_pos c] at e ⊢; exact e) k)
  · rw [if_neg c] at e
    cases z : eqx 60 a b with
    | none => rw [z] at e; cases e
    | some r =>
      rw [z] at e
      cases e
      exact .inr ⟨a, b, r, z, by simpa using c, va.ex g, vb.ex g, rvB k⟩
theorem o_neX : Op2 K (rNeX K) gNeX := by
  intro G H x y a b R Q g va vb e k
  unfold gNeX at e
  by_cases c : (a.flat 60 && b.flat 60) = true
  · exact .inl (o_ne G H x y a b R Q g va vb (by unfold gNe; rw [if_pos c] at e ⊢; exact e) k)
  · rw [if_neg c] at e
    cases d : a.isD with
    | true => rw [d, if_pos rfl] at e; cases e
    | false =>
      rw [d, if_neg (by decide)] at e
      cases z : eqx 60 a b with
      | none => rw [z] at e; cases e
      | some r =>
        rw [z] at e
        cases e
        exact .inr ⟨a, b, r, d, z, by simpa using c, va.ex g, vb.ex g, rvB k⟩
end
/-- a tuple that stays a tree -/
def sTupT (fs : SemA) : Sem := fun s => (fs s).bind fun ts s' => if ts.length ≤ 1000 then .ok (.tup ts) s' else .bad
section
variable [CA] {K : PySem.W.Frag} {σ : L2.St} {H : Hp} {W : WX}
theorem sTupT_le {fs : SemA} {Q : VK} (h : tOf K W (sTupT fs) σ H Q) : tTup (tOfA K W fs) σ H Q := by
  obtain ⟨F, G, s, pv, S, q⟩ := h
  refine ⟨F, G, s, pv, S, (bind_use q).imp (fun ts s1 q1 => ?_) fun _ _ z => z⟩
  intro vs G1 H1 pv1 po px el S1
  have q1' : (if ts.length ≤ 1000 then .ok (.tup ts) s1 else .bad : Res T).go (KOk K F G pv σ Q) (KEx K F G pv σ W) := q1
  by_cases c : ts.length ≤ 1000
  · rw [if_pos c] at q1'
    exact ⟨by rw [el]; exact small_line c, fun p hp => q1' (.ref p) G1 _ pv1 po px (S1.wrap el hp fun H2 A B e1 hl a b => .tup e1 a b hl)⟩
  · rw [if_neg c] at q1'
    exact q1'.elim
end
section
variable [CA] {X : Cx} {W : WX} {es : List Expr} {g : SemA} {pos : Pos}
theorem r_tupT {x1} (h : PA X es (tOfA X.K W g)) : PE X (.Tuple es x1 pos) (tOf X.K W (sTupT g)) := (pe_tup h).le fun _ _ _ h => sTupT_le h
end
@[simp] theorem sTupT_eq {fs : SemA} {s : S} : sTupT fs s = (fs s).bind fun ts s' => if ts.length ≤ 1000 then .ok (.tup ts) s' else .bad := id rfl
mutual
theorem deq_refl : ∀ (n : Nat) (a : D), a.flat n = true → a.deq a = true
  | _, .non, _ => rfl
  | _, .bl b, _ => by simp [D.deq]
  | _, .int i, _ => by simp [D.deq]
  | _, .str x, _ => by simp [D.deq]
  | n + 1, .lst xs, h => deqL_refl n xs h
  | n + 1, .tup xs, h => deqL_refl n xs h
  | 0, .lst xs, h => by cases h
  | 0, .tup xs, h => by cases h
  | n, .ty _, h => by cases n <;> cases h
  | n, .cls _, h => by cases n <;> cases h
  | n, .dic _, h => by cases n <;> cases h
  | n, .obj _ _, h => by cases n <;> cases h
  | n, .err _ _, h => by cases n <;> cases h
  | n, .any, h => by cases n <;> cases h
theorem deqL_refl : ∀ (n : Nat) (xs : List D), xs.all (D.flat n) = true → D.deqL xs xs = true
  | _, [], _ => rfl
  | n, x :: xs, h => by
    rw [List.all_cons, Bool.and_eq_true] at h
    rw [deqL_cons, deq_refl n x h.1, deqL_refl n xs h.2]
    rfl
end
/-- data that is told equal to itself -/
def D.fld : Nat → D → Bool
  | 0, a => a.flat 0
  | n + 1, a => a.flat (n + 1) || (match a with
    | .lst xs => xs.all (D.fld n)
    | .tup xs => xs.all (D.fld n)
    | .dic [] => true
    | _ => false)
theorem eqx_refl : ∀ (n : Nat) (a : D), a.fld n = true → eqx n a a = some true
  | 0, a, h => by
    have h2 : a.flat 0 = true := h
    unfold eqx
    rw [if_pos (by rw [h2]; rfl), deq_refl 0 a h2]
  | n + 1, a, h => by
    have all : ∀ xs : List D, xs.all (D.fld n) = true → eqxL (eqx n) xs xs = some true := fun xs => by
      induction xs with
      | nil => exact fun _ => rfl
      | cons x xs ih =>
        intro h
        rw [List.all_cons, Bool.and_eq_true] at h
        unfold eqxL
        rw [eqx_refl n x h.1, ih h.2]
        rfl
    unfold eqx
    by_cases c : a.flat (n + 1) = true
    · rw [if_pos (by rw [c]; rfl), deq_refl _ a c]
    · rw [if_neg (by simpa using c)]
      have h2 := h
      unfold D.fld at h2
      rw [Bool.or_eq_true] at h2
      have h3 := h2.resolve_left c
      cases a with
      | lst xs => exact all xs h3
      | tup xs => exact all xs h3
      | dic kvs =>
        cases kvs with
        | nil => rfl
        | cons _ _ => cases h3
      | _ => cases h3
theorem gEqX_refl {a : D} (h : a.fld 60 = true) : gEqX a a = some (.one (.bl true)) := by
  unfold gEqX
  by_cases c : (a.flat 60 && a.flat 60) = true
  · rw [if_pos c, deq_refl 60 a (Bool.and_eq_true_iff.mp c).1]
  · rw [if_neg c, eqx_refl 60 a h]
    rfl
theorem gNeX_refl {a : D} (h : a.fld 60 = true) (d : a.isD = false) : gNeX a a = some (.one (.bl false)) := by
  unfold gNeX
  by_cases c : (a.flat 60 && a.flat 60) = true
  · rw [if_pos c, deq_refl 60 a (Bool.and_eq_true_iff.mp c).1]
    rfl
  · rw [if_neg c, d, if_neg (by decide), eqx_refl 60 a h]
    rfl
@[simp] theorem fld_non {n : Nat} : D.fld n .non = true := by cases n <;> simp [D.fld]
@[simp] theorem fld_bl {n : Nat} {b : Bool} : D.fld n (.bl b) = true := by cases n <;> simp [D.fld]
@[simp] theorem fld_int {n : Nat} {b : Int} : D.fld n (.int b) = true := by cases n <;> simp [D.fld]
@[simp] theorem fld_str {n : Nat} {b : String} : D.fld n (.str b) = true := by cases n <;> simp [D.fld]
theorem fld_all {n : Nat} {xs : List D} (h : xs.all (D.fld n) = true) : D.fld (n + 1) (.lst xs) = true := by
  show (_ || xs.all (D.fld n)) = true
  rw [h, Bool.or_true]
theorem fld_allT {n : Nat} {xs : List D} (h : xs.all (D.fld n) = true) : D.fld (n + 1) (.tup xs) = true := by
  show (_ || xs.all (D.fld n)) = true
  rw [h, Bool.or_true]
@[simp] theorem bls_nil : D.bls [] = some [] := rfl
@[simp] theorem bls_cons {b : Bool} {xs : List D} : D.bls (.bl b :: xs) = (D.bls xs).map (b :: ·) := rfl
@[simp] theorem ints_nil : D.ints [] = some [] := rfl
@[simp] theorem ints_cons {b : Int} {xs : List D} : D.ints (.int b :: xs) = (D.ints xs).map (b :: ·) := rfl
end BT
/-! EP: a list within a value is changed, and the value let go; constants of the module. -/
namespace BT
open PySem PySem.Spec PyProof.Rows L2
/-- (e).append(..) and its like, where e is a fresh list -/
def sMutV (c : (α : Type) → List α → List α → Option (List α)) (fo : Sem) (fs : SemA) : Sem := fun s => (fo s).bind fun t s1 => match t with
  | .lst ts => (fs s1).bind fun rs s2 => match c T ts rs with
    | some qs => if qs.length ≤ sizeLine then .ok (.d .non) s2 else .bad
    | none => .bad
  | _ => .bad
section
variable [CA] {K : PySem.W.Frag} {F G G' H H' : Hp} {σ : L2.St} {s s' : S} {pv pv' : List V} {W : WX} {D : Ends}
/-- a list that nobody else sees is changed and let go -/
theorem Sim.letgo {v : V} {ts : List T} {σ1 : L2.St} {r1 r : List (Option T)} {p : List T} (h : Sim K F G H (some v :: (σ1 ++ σ)) ⟨some (.lst ts) :: (r1 ++ r), p⟩ pv) (el : σ1.length = r1.length) :
    ∃ a vs, v = .ref a ∧ H a = some (.lst vs) ∧ vs.length = ts.length ∧ ∀ us, Sim K F G (upd H a (.lst us)) σ ⟨r, p⟩ pv := by
  obtain ⟨ef, eg, A, B, ho, hs, d, n⟩ := h
  cases ho with
  | @cons _ _ _ _ _ A1 A2 h l s1 s2 =>
    cases h with
    | @lst a vs _ _ B1 ha hA nB hl =>
      obtain ⟨A3, A4, _, h4, _, d4⟩ := RpO.split el l
      refine ⟨a, vs, rfl, ha, hl.len, fun us => ?_⟩
      have na := n a (.inl (s1 a hA).1)
      have keep : ∀ b o, b ≠ a → H b = some o → upd H a (.lst us) b = some o := fun b o w z => by rw [upd_ne w]; exact z
      have n4 : ∀ x, A4 x → x ≠ a := fun x b w => (s1 a hA).2 (by rw [← w]; exact d4 x b)
      have nB' : ∀ x, B x → x ≠ a := fun x b w => d a (s1 a hA).1 (by rw [← w]; exact b)
      refine ⟨fun b o z => keep b o (fun w => by rw [w, na.2.1] at z; cases z) (ef b o z), fun b o z => keep b o (fun w => by rw [w, na.2.2] at z; cases z) (eg b o z), A4, B, h4.fm ⟨Ex.rfl', fun b o c z => keep b o (n4 b c) z, fun _ _ z => z⟩, hs.fm ⟨Ex.rfl', fun b o c z => keep b o (nB' b c) z, fun _ _ z => z⟩, fun x b => d x (s2 x (d4 x b)), fun x b => ?_⟩
      have hx : x ≠ a := b.elim (n4 x) (nB' x)
      obtain ⟨m1, m2⟩ := n x (b.elim (fun z => .inl (s2 x (d4 x z))) .inr)
      exact ⟨by rw [upd_ne hx]; exact m1, m2⟩
theorem sMutV_le {r : V → List V → Hp → VK → Prop} {c : (α : Type) → List α → List α → Option (List α)} {fo : Sem} {fs : SemA} {Q : VK} (hl : CLen c) (ok : MutOk r c)
    (h : tOf K W (sMutV c fo fs) σ H Q) : tBM K "list" r (tOf K W fo) (tOfA K W fs) σ H Q := by
  obtain ⟨F, G, s, pv, S, q⟩ := h
  refine ⟨F, G, s, pv, S, (bind_use q).imp (fun t s1 q1 => ?_) fun _ _ z => z⟩
  intro v G1 H1 pv1 po px S1
  split at q1
  · rename_i ts0
    obtain ⟨a, vs0, rfl, h0, _⟩ := Sim.letgo (σ1 := []) (r1 := []) S1 rfl
    obtain ⟨F2, S2, b⟩ := Sim.out (σ1 := [some (.ref a)]) (r1 := [some (.lst ts0)]) S1 rfl
    refine ⟨.inl ⟨rfl, _, .inl (.inl h0)⟩, F2, G1, s1, pv1, S2, (bind_use q1).imp (fun rs s2 q2 => ?_) fun x s2 q2 => ?_⟩
    · intro ws G2 H2 pv2 po2 px2 el S3
      have S4 := Sim.back b po2 px2 S3
      cases ec : c T ts0 rs with
      | none => rw [ec] at q2; exact q2.elim
      | some qs =>
        rw [ec] at q2
        have q3 : (if qs.length ≤ sizeLine then Res.ok (.d .non) s2 else .bad : Res T).go (KOk K F G pv σ Q) (KEx K F G pv σ W) := q2
        by_cases cc : qs.length ≤ sizeLine
        · rw [if_pos cc] at q3
          obtain ⟨a2, vs, ea, h1, lv, kk⟩ := Sim.letgo (σ1 := ws.map some) (r1 := rs.map some) (σ := σ) (r := s2.r) S4 (by simpa using el)
          cases ea
          obtain ⟨us, hu, lu⟩ := hl ts0 rs qs vs ws lv el ec
          exact ok a vs ws us H2 Q h1 hu (by rw [lu]; exact cc) (q3 .non G2 _ pv2 (po.tr (b.post po2)) (px.trans px2) ((kk us).push_d .non))
        · rw [if_neg cc] at q3
          exact q3.elim
    · intro cls d G3 H3 pv3 po3 px3 S3 r
      have S4 := Sim.back b po3 px3 S3
      exact q2 cls d G3 H3 pv3 (po.tr (b.post po3)) (px.trans px3) S4.pop (b.xrep r)
  · exact q1.elim
end
section
variable [CA] {X : Cx} {W : WX} {o e : Expr} {es : List Expr} {fo f : Sem} {g : SemA} {apos cpos : Pos}
theorem r_appV (ho : PE X o (tOf X.K W fo)) (ha : PA X (e :: es) (tOfA X.K W g)) (hbase : attributeBase o "append" X.env (eval o X.env) = eval o X.env := by rfl)
    (hfew : ((backTo cpos (starEach (e :: es) X.env)).all (fun x => !x.1) && (backToKw cpos (keywordEach [] X.env)).all (fun x => x.1.isSome) && decide ((e :: es).length + ([] : List Keyword).length + (if ([] : List Keyword).isEmpty then 0 else 1) < 30)) = true := by rfl)
    (hline : (apos.endLine == cpos.line) = true := by rfl) (hs : starEach (e :: es) X.env = (false, eval e X.env) :: starEach es X.env := by rfl) (hplain : (backTo cpos (starEach es X.env)).any (·.1) = false := by rfl) :
    PE X (.Call (.Attribute o "append" apos) (e :: es) [] cpos) (tOf X.K W (sMutV cApp fo g)) :=
  (pe_bm PySem.F.plainAttrs_list PySem.F.slot_list_append PySem.F.type_list_append mt_append ho ha hbase hfew hline hs hplain).le fun _ _ _ h => sMutV_le len_app mok_app h
end
@[simp] theorem sMutV_eq {c : (α : Type) → List α → List α → Option (List α)} {fo : Sem} {fs : SemA} {s : S} : sMutV c fo fs s = (fo s).bind fun t s1 => match t with
  | .lst ts => (fs s1).bind fun rs s2 => match c T ts rs with
    | some qs => if qs.length ≤ sizeLine then .ok (.d .non) s2 else .bad
    | none => .bad
  | _ => .bad := id rfl
/-! ### constants -/
mutual
/-- the written value u is this data -/
def ckD (K : PySem.W.Frag) : Nat → Value → D → Bool
  | 0, _, _ => false
  | _ + 1, .none, .non => true
  | _ + 1, .bool b, .bl c => b == c
  | _ + 1, .int i _, .int j => decide (i = j)
  | _ + 1, .str x _, .str y => decide (x = sS y)
  | n + 1, .ref a, .tup ds => (match K.lookup a with
    | some ⟨.type c, _, .seq its _, _⟩ => decide (c = "tuple") && (decide (its.size ≤ 1000) && ckL K n its.toList ds)
    | _ => false)
  | _, _, _ => false
def ckL (K : PySem.W.Frag) : Nat → List Value → List D → Bool
  | _, [], [] => true
  | n, u :: us, d :: ds => ckD K n u d && ckL K n us ds
  | _, _, _ => false
end
theorem str_of {x : Str} {y : String} (h : x = sS y) {t : Tok} : RelV (.str (sS y)) (.str x t) := ⟨t, by rw [h]⟩
mutual
theorem ckD_ok [CA] {K : PySem.W.Frag} : ∀ (n : Nat) (u : Value) (d : D), ckD K n u d = true → ∃ v, RelV v u ∧ ∀ G, Vw K G v d
  | n, u, .tup ds, h => by
    cases n with
    | zero => cases h
    | succ n =>
      cases u with
      | ref a =>
        have h2 : (match K.lookup a with
          | some ⟨.type c, _, .seq its _, _⟩ => decide (c = "tuple") && (decide (its.size ≤ 1000) && ckL K n its.toList ds)
          | _ => false) = true := h
        cases e : K.lookup a with
        | none => rw [e] at h2; cases h2
        | some o =>
          obtain ⟨oc, od, dt, sl⟩ := o
          rw [e] at h2
          cases oc with
          | type c =>
            cases dt with
            | seq its m =>
              have h3 : (decide (c = "tuple") && (decide (its.size ≤ 1000) && ckL K n its.toList ds)) = true := h2
              obtain ⟨c1, h3⟩ := andB h3
              obtain ⟨c2, c3⟩ := andB h3
              obtain ⟨vs, r, w⟩ := ckL_ok n its.toList ds c3
              refine ⟨.ref a, rfl, fun G => .tup (vs := vs) (.inr ⟨_, its, m, e, congrArg Value.type (of_decide_eq_true c1), rfl, Nat.le_trans (of_decide_eq_true c2) (by rw [sizeL]; decide), r⟩) (w G)⟩
            | _ => cases h2
          | _ => cases h2
      | _ => cases h
  | n, u, .non, h => by
    cases n with
    | zero => cases h
    | succ n => cases u <;> first | exact ⟨.non, rfl, fun _ => .non⟩ | cases h
  | n, u, .bl c, h => by
    cases n with
    | zero => cases h
    | succ n =>
      cases u with
      | bool b =>
        have e : b = c := eq_of_beq h
        subst e
        exact ⟨.bl b, rfl, fun _ => .bl b⟩
      | _ => cases h
  | n, u, .int j, h => by
    cases n with
    | zero => cases h
    | succ n =>
      cases u with
      | int i t =>
        have e : i = j := of_decide_eq_true h
        subst e
        exact ⟨.int i, ⟨t, rfl⟩, fun _ => .int i⟩
      | _ => cases h
  | n, u, .str y, h => by
    cases n with
    | zero => cases h
    | succ n =>
      cases u with
      | str x t => exact ⟨.str (sS y), str_of (of_decide_eq_true h), fun _ => .str y⟩
      | _ => cases h
  | n, u, .ty _, h => by cases n <;> cases u <;> cases h
  | n, u, .cls _, h => by cases n <;> cases u <;> cases h
  | n, u, .lst _, h => by cases n <;> cases u <;> cases h
  | n, u, .dic _, h => by cases n <;> cases u <;> cases h
  | n, u, .obj _ _, h => by cases n <;> cases u <;> cases h
  | n, u, .err _ _, h => by cases n <;> cases u <;> cases h
  | n, u, .any, h => by cases n <;> cases u <;> cases h
theorem ckL_ok [CA] {K : PySem.W.Frag} : ∀ (n : Nat) (us : List Value) (ds : List D), ckL K n us ds = true → ∃ vs, Vals vs us ∧ ∀ G, VwL K G vs ds
  | n, [], [], _ => ⟨[], .nil, fun _ => .nil⟩
  | n, [], _ :: _, h => by cases h
  | n, _ :: _, [], h => by cases h
  | n, u :: us, d :: ds, h => by
    obtain ⟨h1, h2⟩ := andB (show (ckD K n u d && ckL K n us ds) = true from h)
    obtain ⟨v, r1, w1⟩ := ckD_ok n u d h1
    obtain ⟨vs, r2, w2⟩ := ckL_ok n us ds h2
    exact ⟨v :: vs, .cons r1 r2, fun G => .cons (w1 G) (w2 G)⟩
end
theorem cn_ck [CA] {K : PySem.W.Frag} {h : Heap} {mg : Str → Option Value} {x : Str} {u : Value} {d : D} (X : K.In h) (G : h.Ns mainGlobals mg) (a : PySem.W.nsIn K mainGlobals x = some (some u)) (c : ckD K 9 u d = true) : Cn K mg x d := by
  obtain ⟨v, r, w⟩ := ckD_ok 9 u d c
  exact ⟨u, v, PySem.W.mg_of X G a, r, w⟩
end BT
/-! EQ: steps of a run, one by one. -/
namespace BT
open PySem PySem.Spec PyProof.Rows L2
section
variable {s s1 s2 : S} {f g : SemS} {R : Fl} {p : List T} {t : T}
theorem sq_stp (e : f s = .next s1) (h : g s1 = R) : sSeq f g s = R := by rw [sSeq_eq, e]; exact h
theorem sq_ret (e : f s = .ret t s1) : sSeq f g s = .ret t s1 := by rw [sSeq_eq, e]
theorem sq_exc {x : Xn} (e : f s = .exc x s1) : sSeq f g s = .exc x s1 := by rw [sSeq_eq, e]
theorem sq_cont (e : f s = .cont s1) : sSeq f g s = .cont s1 := by rw [sSeq_eq, e]
theorem sq_brk (e : f s = .brk s1) : sSeq f g s = .brk s1 := by rw [sSeq_eq, e]
theorem fo_stp {Q : Fo} (e : f s = .next s1) (h : (g s1).fo = Q) : (sSeq f g s).fo = Q := by rw [sSeq_eq, e]; exact h
theorem fo_rt (e : f s = .ret t s1) (h : s1.p = p) : (f s).fo = .ret t p := by rw [e, ← h]; rfl
theorem fo_nx (e : f s = .next s1) (h : s1.p = p) : (f s).fo = .ret (.d .non) p := by rw [e, ← h]; rfl
theorem fo_sqr (e : f s = .ret t s1) (h : s1.p = p) : (sSeq f g s).fo = .ret t p := by rw [sSeq_eq, e, ← h]; rfl
theorem fo_sqx {x : Xn} (e : f s = .exc x s1) (h : s1.p = p) : (sSeq f g s).fo = .exc x p := by rw [sSeq_eq, e, ← h]; rfl
theorem runX_go {n N : Nat} {ts : List T} {Q : Fo} (hl : ts.length = n) (h : (f ⟨ts.map some ++ List.replicate (N - n) none, p⟩).fo = Q) : runX n N f ts p = Q := by rw [runX_eq, if_pos hl]; exact h
variable {h : D → S → Option S} {body : SemS} {d : D} {fi : SemI} {ds : List D}
theorem turn_n (e : h d s = some s1) (e2 : body s1 = .next s2) : sTurn h body d s = .next s2 := by unfold sTurn; rw [e]; simp only [e2]
theorem turn_c (e : h d s = some s1) (e2 : body s1 = .cont s2) : sTurn h body d s = .next s2 := by unfold sTurn; rw [e]; simp only [e2]
theorem turn_r (e : h d s = some s1) (e2 : body s1 = .ret t s2) : sTurn h body d s = .ret t s2 := by unfold sTurn; rw [e]; simp only [e2]
theorem turn_b (e : h d s = some s1) (e2 : body s1 = .brk s2) : sTurn h body d s = .brk s2 := by unfold sTurn; rw [e]; simp only [e2]
theorem wh_succ {c : SemT} {n : Nat} : sLoopW c body (n + 1) s = (c s).bindF fun b s1 => if b = true then (match body s1 with
    | .next s2 => sLoopW c body n s2
    | .cont s2 => sLoopW c body n s2
    | .brk s2 => .next s2
    | .ret t s2 => .ret t s2
    | .exc x s2 => .exc x s2
    | .bad => .bad) else .next s1 := rfl
theorem wh_end {c : SemT} {n : Nat} (e : c s = .ok false s1) : sLoopW c body (n + 1) s = .next s1 := by
  rw [wh_succ, e]
  simp only [bindF_ok, Bool.false_eq_true, if_false]
theorem for_go (e : fi s = .ok ds s1) (e2 : sLoop h body ds s1 = R) : sFor fi h body s = R := by rw [sFor_eq, e]; exact e2
/-- a while loop with an invariant and a measure -/
theorem whl_inv {c : SemT} {fuel : S → Nat} (I : Nat → S → Prop) (J : S → Prop) (n : Nat) (hi : I n s) (hf : n < fuel s)
    (hs : ∀ n s, I n s → (∃ s1, c s = .ok false s1 ∧ J s1) ∨ ∃ s1 s2 m, c s = .ok true s1 ∧ (body s1 = .next s2 ∨ body s1 = .cont s2) ∧ m < n ∧ I m s2) : ∃ s', sWhile fuel c body s = .next s' ∧ J s' := by
  have : ∀ k n s, I n s → n < k → ∃ s', sLoopW c body k s = .next s' ∧ J s' := by
    intro k
    induction k with
    | zero => intro n s _ h; omega
    | succ k ih =>
      intro n s hi hk
      rcases hs n s hi with ⟨s1, e, hj⟩ | ⟨s1, s2, m, e, e2, hm, hi2⟩
      · exact ⟨s1, wh_end e, hj⟩
      · obtain ⟨s', h1, h2⟩ := ih m s2 hi2 (by omega)
        refine ⟨s', ?_, h2⟩
        rw [wh_succ, e]
        simp only [bindF_ok, if_true]
        rcases e2 with e2 | e2 <;> rw [e2] <;> exact h1
  exact this _ n s hi hf
end
end BT
/-! ER: max, min, sorted of lists of numbers; index; pop. -/
namespace BT
open PySem PySem.Spec PyProof.Rows L2
theorem fmax_ge : ∀ (l : List Int) (n : Int), n ≤ l.foldl max n ∧ ∀ y ∈ l, y ≤ l.foldl max n
  | [], n => ⟨Int.le_refl n, fun _ h => nomatch h⟩
  | x :: l, n => by
    obtain ⟨h1, h2⟩ := fmax_ge l (max n x)
    refine ⟨by rw [List.foldl_cons]; omega, fun y hy => ?_⟩
    rw [List.foldl_cons]
    rcases List.mem_cons.mp hy with rfl | hy
    · omega
    · exact h2 y hy
theorem fmin_le : ∀ (l : List Int) (n : Int), l.foldl min n ≤ n ∧ ∀ y ∈ l, l.foldl min n ≤ y
  | [], n => ⟨Int.le_refl n, fun _ h => nomatch h⟩
  | x :: l, n => by
    obtain ⟨h1, h2⟩ := fmin_le l (min n x)
    refine ⟨by rw [List.foldl_cons]; omega, fun y hy => ?_⟩
    rw [List.foldl_cons]
    rcases List.mem_cons.mp hy with rfl | hy
    · omega
    · exact h2 y hy
theorem fmax_mem : ∀ (l : List Int) (n : Int), l.foldl max n = n ∨ l.foldl max n ∈ l
  | [], n => .inl rfl
  | x :: l, n => by
    rw [List.foldl_cons]
    rcases fmax_mem l (max n x) with h | h
    · rw [h]
      by_cases c : x ≤ n
      · exact .inl (by omega)
      · exact .inr (List.mem_cons.mpr (.inl (by omega)))
    · exact .inr (List.mem_cons_of_mem _ h)
theorem fmin_mem : ∀ (l : List Int) (n : Int), l.foldl min n = n ∨ l.foldl min n ∈ l
  | [], n => .inl rfl
  | x :: l, n => by
    rw [List.foldl_cons]
    rcases fmin_mem l (min n x) with h | h
    · rw [h]
      by_cases c : n ≤ x
      · exact .inl (by omega)
      · exact .inr (List.mem_cons.mpr (.inl (by omega)))
    · exact .inr (List.mem_cons_of_mem _ h)
def gMaxL : List D → Option Rv
  | [.lst xs] => match D.ints xs with
    | some (n :: ns) => some (.one (.int (ns.foldl max n)))
    | _ => none
  | _ => none
def gMinL : List D → Option Rv
  | [.lst xs] => match D.ints xs with
    | some (n :: ns) => some (.one (.int (ns.foldl min n)))
    | _ => none
  | _ => none
/-- a list of numbers in order -/
def srtI (ns : List Int) : List Int := ns.mergeSort (fun a b => decide (a ≤ b))
theorem srtI_perm (ns : List Int) : (srtI ns).Perm ns := List.mergeSort_perm ns _
theorem srtI_sorted (ns : List Int) : (srtI ns).Pairwise (· ≤ ·) := by
  have := List.pairwise_mergeSort (le := fun a b : Int => decide (a ≤ b)) (fun a b c h1 h2 => by simp at *; omega) (fun a b => by simp; omega) ns
  exact this.imp fun h => by simpa using h
theorem srtI_eq {a ns : List Int} (hp : a.Perm ns) (hs : a.Pairwise (· ≤ ·)) : a = srtI ns := PySem.W.ksm_same (hp.trans (srtI_perm ns).symm) hs (srtI_sorted ns)
def gSortI : List D → Option Rv
  | [.lst xs] => (D.ints xs).map fun ns => .lst ((srtI ns).map D.int)
  | _ => none
section
variable [CA] {K : PySem.W.Frag}
theorem o_maxL : OpA K (rMax K) gMaxL := by
  intro G H x a R Q g va e k
  unfold gMaxL at e
  split at e
  · rename_i xs
    split at e
    · rename_i n ns q
      cases e
      obtain ⟨v, rfl, hv⟩ := vl1 va
      obtain ⟨a1, vs, rfl, h1, l1⟩ := hv.lst_inv
      refine ⟨a1, n :: ns, rfl, by rw [← l1.ints q]; exact (ex_x g h1).l, by simp, fun m hm hx => ?_⟩
      have e : m = ns.foldl max n := by
        have h2 := fmax_ge ns n
        have h3 := fmax_mem ns n
        have u1 : ns.foldl max n ≤ m := by
          rcases h3 with h3 | h3
          · rw [h3]; exact hx n (by simp)
          · exact hx _ (List.mem_cons_of_mem _ h3)
        have u2 : m ≤ ns.foldl max n := by
          rcases List.mem_cons.mp hm with rfl | hm
          · exact h2.1
          · exact h2.2 m hm
        omega
      rw [e]
      exact rvI k
    · cases e
  · cases e
theorem o_minL : OpA K (rMin K) gMinL := by
  intro G H x a R Q g va e k
  unfold gMinL at e
  split at e
  · rename_i xs
    split at e
    · rename_i n ns q
      cases e
      obtain ⟨v, rfl, hv⟩ := vl1 va
      obtain ⟨a1, vs, rfl, h1, l1⟩ := hv.lst_inv
      refine ⟨a1, n :: ns, rfl, by rw [← l1.ints q]; exact (ex_x g h1).l, by simp, fun m hm hx => ?_⟩
      have e : m = ns.foldl min n := by
        have h2 := fmin_le ns n
        have h3 := fmin_mem ns n
        have u1 : m ≤ ns.foldl min n := by
          rcases h3 with h3 | h3
          · rw [h3]; exact hx n (by simp)
          · exact hx _ (List.mem_cons_of_mem _ h3)
        have u2 : ns.foldl min n ≤ m := by
          rcases List.mem_cons.mp hm with rfl | hm
          · exact h2.1
          · exact h2.2 m hm
        omega
      rw [e]
      exact rvI k
    · cases e
  · cases e
theorem o_sortI : OpA K (rSortedI K) gSortI := by
  intro G H x a R Q g va e k
  unfold gSortI at e
  split at e
  · rename_i xs
    cases q : D.ints xs with
    | none => rw [q] at e; cases e
    | some ns =>
      rw [q] at e
      cases e
      obtain ⟨v, rfl, hv⟩ := vl1 va
      obtain ⟨a1, vs, rfl, h1, l1⟩ := hv.lst_inv
      refine ⟨a1, ns, rfl, by rw [← l1.ints q]; exact (ex_x g h1).l, fun ns' p hp hs hn => ?_⟩
      rw [srtI_eq hp hs]
      exact k _ p (vwl_ints _) hn
  · cases e
end
/-! ### methods of lists that only look -/
def sBmL (g : List D → List D → Option Rv) (fa : Sem) (fs : SemA) : Sem := fun s => pk fa s fun a => match a with
  | .lst xs => pkA fs s fun b => lk (g xs b) s
  | _ => .bad
def OpL [CA] (K : PySem.W.Frag) (r : V → List V → Hp → VK → Prop) (g : List D → List D → Option Rv) : Prop := ∀ (H : Hp) (a : Addr) (vs : List V) (xs : List D) (y : List V) (b : List D) (R : Rv) (Q : VK), SqX K H a vs → VwL K H vs xs → VwL K H y b → g xs b = some R → RvOk K H H R Q → r (.ref a) y H Q
def gLIx (xs b : List D) : Option Rv := match b with
  | [.int i] => (match D.ints xs with
    | some ns => (ns.findIdx? (fun z => z == i)).map fun j => .one (.int (j : Nat))
    | none => none)
  | [.bl i] => (match D.bls xs with
    | some ns => (ns.findIdx? (fun z => z == i)).map fun j => .one (.int (j : Nat))
    | none => none)
  | _ => none
section
variable [CA] {K : PySem.W.Frag} {F G G' H H' : Hp} {σ : L2.St} {s s' : S} {pv pv' : List V} {W : WX}
theorem sBmL_le {r : V → List V → Hp → VK → Prop} {g : List D → List D → Option Rv} {fa : Sem} {fs : SemA} {Q : VK} (o : OpL K r g)
    (h : tOf K W (sBmL g fa fs) σ H Q) : tBM K "list" r (tOf K W fa) (tOfA K W fs) σ H Q := by
  obtain ⟨F, G, s, pv, S, q⟩ := h
  refine pk_use S q fun x a H1 e1 va S1 q1 => ?_
  cases a with
  | lst xs =>
    obtain ⟨a1, vs, rfl, h1, l1⟩ := va.lst_inv
    refine ⟨.inl ⟨rfl, _, h1.l⟩, pkA_use S1 q1 fun y b H2 e2 vb S2 q2 => ?_⟩
    obtain ⟨R, eR, k⟩ := lk_use S2 q2
    exact o H2 a1 vs xs y b R Q (ex_x e2 h1) (l1.ex e2) vb eR (k H2)
  | _ => exact q1.elim
theorem find_lt {α : Type} {p : α → Bool} {xs : List α} {j : Nat} (h : xs.findIdx? p = some j) : ∃ z, xs[j]? = some z ∧ p z = true ∧ ∀ m z', m < j → xs[m]? = some z' → p z' = false := by
  rw [List.findIdx?_eq_some_iff_getElem] at h
  obtain ⟨h1, h2, h3⟩ := h
  refine ⟨xs[j], List.getElem?_eq_getElem h1, h2, fun m z' hm hz => ?_⟩
  obtain ⟨hm2, hz⟩ := List.getElem?_eq_some_iff.mp hz
  have := h3 m hm
  rw [hz] at this
  simpa using this
theorem o_lIx : OpL K (rIndex K) gLIx := by
  intro H a vs xs y b R Q hs hv hy e k
  unfold gLIx at e
  split at e
  · rename_i i
    split at e
    · rename_i ns q
      cases ej : ns.findIdx? (fun z => z == i) with
      | none => rw [ej] at e; cases e
      | some j =>
        rw [ej] at e
        cases e
        obtain ⟨v, rfl, hv2⟩ := vl1 hy
        obtain ⟨z, hz, hp, hno⟩ := find_lt ej
        have ev := hv.ints q
        subst ev
        refine ⟨a, ns.map V.int, .int i, j, .int z, rfl, by rw [vint hv2], hs.l, rfl, by simp [flatV], by simp [hz], hp, fun m z' hm hz' => ?_, rvI k⟩
        rw [List.getElem?_map] at hz'
        cases e2 : ns[m]? with
        | none => rw [e2] at hz'; cases hz'
        | some w =>
          rw [e2] at hz'
          cases hz'
          exact hno m w hm e2
    · cases e
  · rename_i i
    split at e
    · rename_i ns q
      cases ej : ns.findIdx? (fun z => z == i) with
      | none => rw [ej] at e; cases e
      | some j =>
        rw [ej] at e
        cases e
        obtain ⟨v, rfl, hv2⟩ := vl1 hy
        obtain ⟨z, hz, hp, hno⟩ := find_lt ej
        have ev := hv.bls q
        subst ev
        cases hv2
        refine ⟨a, ns.map V.bl, .bl i, j, .bl z, rfl, rfl, hs.l, rfl, by simp [flatV], by simp [hz], hp, fun m z' hm hz' => ?_, rvI k⟩
        rw [List.getElem?_map] at hz'
        cases e2 : ns[m]? with
        | none => rw [e2] at hz'; cases hz'
        | some w =>
          rw [e2] at hz'
          cases hz'
          exact hno m w hm e2
    · cases e
  · cases e
end
/-! ### the last thing taken off a list -/
def sPop (i : Nat) : Sem := fun s => match s.getP i with
  | some (.lst ts) => (match ts.getLast? with
    | some (.d x) => .ok (.d x) (s.putP i (.lst ts.dropLast))
    | _ => .bad)
  | _ => .bad
def cPop (α : Type) (xs ys : List α) : Option (List α) := match ys with
  | [] => some xs.dropLast
  | _ => none
section
variable [CA] {K : PySem.W.Frag} {F G G' H H' : Hp} {σ : L2.St} {s s' : S} {pv pv' : List V} {W : WX}
theorem getP_rp {i : Nat} {ts : List T} (h : Sim K F G H σ s pv) (g : s.getP i = some (.lst ts)) : ∃ a vs B, σ[i]? = some (some (.ref a)) ∧ H a = some (.lst vs) ∧ RpL K G H pv vs ts B := by
  obtain ⟨ef, eg, A, B, ho, hs, d, n⟩ := h
  unfold S.getP at g
  split at g
  · rename_i k ek
    obtain ⟨v, C1, C2, e1, h3, h4, c1, c2⟩ := ho.take ek
    cases h3 with
    | al hk =>
      obtain ⟨v2, E1, E2, e2, h5, f1, f2, back⟩ := hs.at g
      rw [hk] at e2
      cases e2
      cases h5 with
      | lst ha aa s l => exact ⟨_, _, _, e1, ha, l⟩
  · rename_i t nal ek
    have et : t = .lst ts := Option.some.inj g
    subst et
    obtain ⟨v, C1, C2, e1, h3, h4, c1, c2⟩ := ho.take ek
    cases h3 with
    | lst ha aa s l => exact ⟨_, _, _, e1, ha, l⟩
  · cases g
theorem RpL.last : ∀ {vs : List V} {ts : List T} {B : AS} {x : BT.D}, RpL K G H pv vs ts B → ts.getLast? = some (.d x) → ∃ v, vs[vs.length - 1]? = some v ∧ Vw K G v x
  | _, _, _, _, .nil, e => by cases e
  | [v], [t], _, _, .cons h .nil _ _, e => by
    cases e
    cases h with
    | d hv => exact ⟨v, rfl, hv⟩
  | v :: v2 :: vs, t :: t2 :: ts, _, x, .cons h l _ _, e => by
    rw [List.getLast?_cons_cons] at e
    obtain ⟨w, e1, h1⟩ := RpL.last l e
    exact ⟨w, by simpa using e1, h1⟩
theorem RpL.dropLast : ∀ {vs : List V} {ts : List T} {B : AS}, RpL K G H pv vs ts B → RpL K G H pv vs.dropLast ts.dropLast B
  | _, _, _, .nil => .nil
  | [v], [t], _, .cons h .nil _ _ => .nil
  | v :: v2 :: vs, t :: t2 :: ts, _, .cons h l s1 s2 => .cons h (RpL.dropLast l) s1 s2
theorem chg_pop : Chg cPop := by
  intro K G H pv A vs ws us ts rs qs e e2 h h1 h2
  match rs, ws, h1, h2, h with
  | [], [], h1, h2, h =>
    cases h1
    cases h2
    rw [List.append_nil, List.append_nil] at h
    exact h.dropLast
  | [], _ :: _, _, h2, _ => cases h2
  | _ :: _, _, h1, _, _ => cases h1
theorem sPop_le {i : Nat} {Q : VK} (h : tOf K W (sPop i) σ H Q) : tBM0 K "list" rPop (tVar i) σ H Q := by
  obtain ⟨F, G, s, pv, S, q⟩ := h
  unfold sPop at q
  split at q
  · rename_i ts g0
    split at q
    · rename_i x ex
      obtain ⟨a, vs, B, e0, h0, l0⟩ := getP_rp S g0
      obtain ⟨y, ey, hy⟩ := l0.last ex
      obtain ⟨a2, vs2, e1, h1, lv, k⟩ := Sim.chg (ws := []) (rs := []) (c := cPop) (r := s.r) (p := s.p) chg_pop S rfl g0 rfl
      rw [e0] at e1
      cases e1
      rw [h0] at h1
      cases h1
      exact ⟨.ref a, e0, .inl ⟨rfl, _, .inl (.inl h0)⟩, a, vs, y, rfl, rfl, h0, ey, q y G _ pv .rfl' (List.prefix_refl _) ((k _ rfl).push_d hy)⟩
    · exact q.elim
  · exact q.elim
end
section
variable [CA] {X : Cx} {W : WX} {e o : Expr} {es : List Expr} {f fo : Sem} {g : SemA} {x : Str} {p apos cpos : Pos}
theorem r_pop (i : Nat) (hN : X.N[i]? = some x := by rfl) (hv : Vis X.env.scope x := by first | exact Or.inl rfl | exact Or.inr (Or.inl rfl) | exact Or.inr (Or.inr rfl)) (hd : (x == ("__debug__" : Str)) = false := by decide)
    (hcd : (x == ("__classdict__" : Str)) = false := by decide) (hbase : attributeBase (.Name x p) "pop" X.env (eval (.Name x p) X.env) = eval (.Name x p) X.env := by rfl)
    (hline : (apos.endLine == cpos.line) = true := by rfl) :
    PE X (.Call (.Attribute (.Name x p) "pop" apos) [] [] cpos) (tOf X.K W (sPop i)) :=
  (pe_bm0 PySem.F.plainAttrs_list PySem.F.slot_list_pop PySem.F.type_list_pop mt_pop (pe_var hN hv hd hcd) hbase hline).le fun σ H Q h => sPop_le h
theorem r_lidx (ho : PE X o (tOf X.K W fo)) (ha : PA X (e :: es) (tOfA X.K W g)) (hbase : attributeBase o "index" X.env (eval o X.env) = eval o X.env := by rfl)
    (hfew : ((backTo cpos (starEach (e :: es) X.env)).all (fun x => !x.1) && (backToKw cpos (keywordEach [] X.env)).all (fun x => x.1.isSome) && decide ((e :: es).length + ([] : List Keyword).length + (if ([] : List Keyword).isEmpty then 0 else 1) < 30)) = true := by rfl)
    (hline : (apos.endLine == cpos.line) = true := by rfl) (hs : starEach (e :: es) X.env = (false, eval e X.env) :: starEach es X.env := by rfl) (hplain : (backTo cpos (starEach es X.env)).any (·.1) = false := by rfl) :
    PE X (.Call (.Attribute o "index" apos) (e :: es) [] cpos) (tOf X.K W (sBmL gLIx fo g)) :=
  (pe_bm PySem.F.plainAttrs_list PySem.F.slot_list_index PySem.F.type_list_index mt_index ho ha hbase hfew hline hs hplain).le fun _ _ _ h => sBmL_le o_lIx h
end
section
variable {s : S}
@[simp] theorem sBmL_eq {g : List D → List D → Option Rv} {fa : Sem} {fs : SemA} : sBmL g fa fs s = pk fa s fun a => match a with
  | .lst xs => pkA fs s fun b => lk (g xs b) s
  | _ => .bad := id rfl
@[simp] theorem gLIx_i {xs : List D} {i : Int} : gLIx xs [.int i] = (match D.ints xs with
    | some ns => (ns.findIdx? (fun z => z == i)).map fun j => .one (.int (j : Nat))
    | none => none) := id rfl
@[simp] theorem gLIx_b {xs : List D} {i : Bool} : gLIx xs [.bl i] = (match D.bls xs with
    | some ns => (ns.findIdx? (fun z => z == i)).map fun j => .one (.int (j : Nat))
    | none => none) := id rfl
@[simp] theorem sPop_eq {i : Nat} : sPop i s = match s.getP i with
  | some (.lst ts) => (match ts.getLast? with
    | some (.d x) => .ok (.d x) (s.putP i (.lst ts.dropLast))
    | _ => .bad)
  | _ => .bad := id rfl
@[simp] theorem gMaxL_l {xs : List D} : gMaxL [.lst xs] = (match D.ints xs with
    | some (n :: ns) => some (.one (.int (ns.foldl max n)))
    | _ => none) := id rfl
@[simp] theorem gMinL_l {xs : List D} : gMinL [.lst xs] = (match D.ints xs with
    | some (n :: ns) => some (.one (.int (ns.foldl min n)))
    | _ => none) := id rfl
@[simp] theorem gSortI_l {xs : List D} : gSortI [.lst xs] = (D.ints xs).map fun ns => .lst ((srtI ns).map D.int) := id rfl
end
/-! ### a written tuple's index -/
theorem flat_intsV (ys : List Int) : (ys.map V.int).all flatV = true := by
  rw [List.all_map]
  exact List.all_eq_true.mpr fun _ _ => rfl
theorem mt_tup_indexI {X : Cx} : MtR X "tuple.index" (fun x xs H Q => ∃ p, ∃ ys : List Int, ∃ z j, x = .ref p ∧ xs = [.int z] ∧ SqT X.K H p (ys.map V.int) ∧ ys[j]? = some z ∧ (∀ m, m < j → ys[m]? ≠ some z) ∧ Q (.int (j : Nat)) H) := by
  intro pins s σ H x xs v us Q I rx rs h
  obtain ⟨p, ys, z, j, rfl, rfl, hq, hy, hno, q⟩ := h
  cases rx
  obtain ⟨u, rfl, t, rfl⟩ := vals1 rs
  obtain ⟨its, r, pl, hz⟩ := I.tuple hq
  obtain ⟨⟨cls, dd, dt, sl⟩, ho, hc, n, hd⟩ := pl
  simp only at hc hd
  subst hc
  subst hd
  have hl : its.toArray.size = ys.length := by rw [List.size_toArray, ← r.length, List.length_map]
  have hj : j < its.toArray.size := by rw [hl]; exact (List.getElem?_eq_some_iff.mp hy).1
  have at' : ∀ (m : Nat) (hm : m < its.toArray.size), ∃ y t', ys[m]? = some y ∧ its.toArray[m] = Value.int y t' := fun m hm => by
    have hm' : m < ys.length := by rw [← hl]; exact hm
    obtain ⟨w, hw, t', hw'⟩ := r.get (i := m) (x := .int ys[m]) (by simp [hm'])
    refine ⟨ys[m], t', List.getElem?_eq_getElem hm', ?_⟩
    have e := (List.getElem?_eq_some_iff.mp hw).2
    rw [← hw', ← e]
    simp
  refine call_meets PySem.F.slot_tuple_index ⟨_, ho, rfl⟩ PySem.F.entry_tuple_index (PySem.F.args_tuple_index_2 _ _) (TI.tuple_indexAt p its.toArray n dd sl (.int z t) (eqU (.int z)) j hj ?_ ?_)
    ⟨ho, fun w hw => mem_eqAt (x := .int z) ⟨t, rfl⟩ rfl r (flat_intsV ys) w (by simpa using hw), ⟨.int (j : Nat), H, I.tok _, ⟨_, rfl⟩, q⟩⟩
  · obtain ⟨y, t', h1, h2⟩ := at' j hj
    rw [hy] at h1
    cases h1
    rw [h2]
    show (z == z) = true
    exact beq_self_eq_true z
  · intro m hm hmj
    obtain ⟨y, t', h1, h2⟩ := at' m hm
    rw [h2]
    show (y == z) = false
    exact beq_eq_false_iff_ne.mpr fun e => hno m hmj (e ▸ h1)
/-- a written tuple of numbers, and where it stands -/
def CtI (K : PySem.W.Frag) (mg : Str → Option Value) (x : Str) (ns : List Int) : Prop := ∃ p o, mg x = some (.ref p) ∧ K.lookup p = some o ∧ o.cls = .type "tuple" ∧ o.dict = none ∧ ∀ H : Hp, SqT K H p (ns.map V.int)
def sTIx (ns : List Int) (fs : SemA) : Sem := fun s => pkA fs s fun b => match b with
  | [.int i] => (match ns.findIdx? (fun z => z == i) with
    | some j => .ok (.d (.int (j : Nat))) s
    | none => .bad)
  | _ => .bad
theorem cti_mk {K : PySem.W.Frag} {h : Heap} {mg : Str → Option Value} {x : Str} {a : Addr} {ns : List Int} {od : Option Addr} {its : Array Value} {n : Nat} {sl : Array (Option Value)} (X : K.In h) (G : h.Ns mainGlobals mg) (hA : PySem.W.nsIn K mainGlobals x = some (some (.ref a)))
    (hL : K.lookup a = some ⟨.type "tuple", od, .seq its n, sl⟩) (ho : od = none) (hi : (decide (its.size ≤ 1000) && (its.toList.map intOf == ns.map some)) = true) : CtI K mg x ns := by
  rw [Bool.and_eq_true] at hi
  have h1 : its.size ≤ 1000 := of_decide_eq_true hi.1
  have h2 : its.toList.map intOf = ns.map some := eq_of_beq hi.2
  exact ⟨a, _, PySem.W.mg_of X G hA, hL, rfl, ho, fun H => .inr ⟨_, its, n, hL, rfl, rfl, Nat.le_trans h1 (by rw [sizeL]; decide), vals_ints h2⟩⟩
section
variable [CA] {X : Cx} {W : WX} {e : Expr} {es : List Expr} {g : SemA} {x : Str} {p apos cpos : Pos} {ns : List Int}
theorem r_tidx (c : CtI X.K X.mg x ns) (ha : PA X (e :: es) (tOfA X.K W g)) (hg : Gl X x := by rfl) (hd : (x == ("__debug__" : Str)) = false := by decide)
    (hbase : attributeBase (.Name x p) "index" X.env (eval (.Name x p) X.env) = eval (.Name x p) X.env := by rfl)
    (hfew : ((backTo cpos (starEach (e :: es) X.env)).all (fun x => !x.1) && (backToKw cpos (keywordEach [] X.env)).all (fun x => x.1.isSome) && decide ((e :: es).length + ([] : List Keyword).length + (if ([] : List Keyword).isEmpty then 0 else 1) < 30)) = true := by rfl)
    (hline : (apos.endLine == cpos.line) = true := by rfl) (hs : starEach (e :: es) X.env = (false, eval e X.env) :: starEach es X.env := by rfl) (hplain : (backTo cpos (starEach es X.env)).any (·.1) = false := by rfl) :
    PE X (.Call (.Attribute (.Name x p) "index" apos) (e :: es) [] cpos) (tOf X.K W (sTIx ns g)) := by
  obtain ⟨a, o, m, l, c1, c2, hq⟩ := c
  refine (pe_bm PySem.F.plainAttrs_tuple PySem.F.slot_tuple_index PySem.F.type_tuple_index mt_tup_indexI (pe_glob hg m (v := .ref a) rfl hd) ha hbase hfew hline hs hplain).le fun σ H Q h => ?_
  obtain ⟨F, G, s, pv, S, q⟩ := h
  refine ⟨.inr (.inl ⟨rfl, o, l, c1, c2⟩), ?_⟩
  refine pkA_use S q fun y b H2 e2 vb S2 q2 => ?_
  split at q2
  · rename_i i
    cases ej : ns.findIdx? (fun z => z == i) with
    | none => rw [ej] at q2; exact q2.elim
    | some j =>
      rw [ej] at q2
      obtain ⟨v, rfl, hv⟩ := vl1 vb
      obtain ⟨z, hz, hp, hno⟩ := find_lt ej
      have : z = i := by simpa using hp
      subst this
      refine ⟨a, ns, z, j, rfl, by rw [vint hv], hq H2, hz, fun m hm hc => ?_, q2 _ G H2 pv ?_ (List.prefix_refl _) (S2.push_d (.int _))⟩
      · have := hno m z hm hc
        simp at this
      · exact .rfl'
  · exact q2.elim
end
section
variable {s : S}
@[simp] theorem sTIx_eq {ns : List Int} {fs : SemA} : sTIx ns fs s = pkA fs s fun b => match b with
  | [.int i] => (match ns.findIdx? (fun z => z == i) with
    | some j => .ok (.d (.int (j : Nat))) s
    | none => .bad)
  | _ => .bad := id rfl
end
end BT
/-! ES: a list of things many times over. -/
namespace BT
open PySem PySem.Spec PyProof.Rows L2
/-- xs * k, where the things are laid still -/
def sRepO (fa fb : Sem) : Sem := fun s => (fa s).bind fun t s1 => (fb s1).bind fun u s2 => match t.dat [], u with
  | .lst xs, .d (.int k) => if k < 2 ^ 62 ∧ xs.length * k.toNat ≤ sizeLine ∧ -(2 ^ 62) ≤ k then .ok (.lst ((List.replicate k.toNat xs).flatten.map .d)) s2 else .bad
  | _, _ => .bad
section
variable [CA] {K : PySem.W.Frag} {F G G' H H' : Hp} {σ : L2.St} {s s' : S} {pv pv' : List V} {W : WX}
theorem KOk.post {Q : VK} {t : T} (po : Post F G G') (h : KOk K F G pv σ Q t s') : KOk K F G' pv σ Q t s' := fun v G1 H1 pv1 po1 px1 S1 => h v G1 H1 pv1 (po.tr po1) px1 S1
theorem sRepO_le {fa fb : Sem} {Q : VK} (h : tOf K W (sRepO fa fb) σ H Q) : tOp (rRepR K) (tOf K W fa) (tOf K W fb) σ H Q := by
  obtain ⟨F, G, s, pv, S, q⟩ := h
  refine ⟨F, G, s, pv, S, (bind_use q).imp (fun t s1 q1 => ?_) fun _ _ z => z⟩
  intro v G1 H1 pv1 po1 px1 S1
  obtain ⟨F2, S2, a⟩ := Sim.out (σ1 := [some v]) (r1 := [some t]) S1 rfl
  refine ⟨F2, G1, s1, pv1, S2, (bind_use q1).imp (fun u s2 q2 => ?_) fun x s2 q2 => ?_⟩
  · intro w G3 H3 pv3 po3 px3 S3
    have S5 := Sim.back (σ1 := [some v]) (r1 := [some t]) (σ' := some w :: σ) (r' := some u :: s2.r) (p' := s2.p) a po3 px3 S3
    split at q2
    · rename_i xs k e1
      by_cases c : k < 2 ^ 62 ∧ xs.length * k.toNat ≤ sizeLine ∧ -(2 ^ 62) ≤ k
      · rw [if_pos c] at q2
        have hw : w = .int k := vint S3.top
        subst hw
        obtain ⟨G4, po4, S6⟩ := Sim.freeze (r := some (.d (.int k)) :: s2.r) S5
        rw [e1] at S6
        have hv : Vw K G4 v (.lst xs) := by
          obtain ⟨ef, eg, A, B, ho, _⟩ := S6
          cases ho with
          | cons hh _ _ _ => cases hh with
            | d hv => exact hv
        have S7 : Sim K F G4 H3 σ s2 pv3 := S6.pop.pop
        obtain ⟨l, vs, rfl, h1, l1⟩ := hv.lst_inv
        refine ⟨l, k, vs, rfl, rfl, ex_x S7.eg h1, ⟨by omega, by omega, by rw [l1.len]; exact c.2.1⟩, fun p hp => ?_⟩
        have q3 : (Rv.fin (.lst (List.replicate k.toNat xs).flatten) s2).go (KOk K F G4 pv3 σ Q) (KEx K F G4 pv3 σ W) := fun v' G5 H5 pv5 po5 px5 S8 => q2 v' G5 H5 pv5 (po1.tr ((a.post po3).tr (po4.tr po5))) (px1.trans (px3.trans px5)) S8
        exact fin_use S7 q3 _ p (l1.rep _) hp
      · rw [if_neg c] at q2
        exact q2.elim
    · exact q2.elim
  · intro cls d G3 H3 pv3 po3 px3 S3 r
    have S4 := Sim.back a po3 px3 S3
    exact q2 cls d G3 H3 pv3 (po1.tr (a.post po3)) (px1.trans px3) S4.pop (a.xrep r)
end
section
variable [CA] {X : Cx} {W : WX} {a b : Expr} {fa fb : Sem} {pos : Pos}
theorem r_repO (ha : PE X a (tOf X.K W fa)) (hb : PE X b (tOf X.K W fb)) : PE X (.BinOp a .Mult b pos) (tOf X.K W (sRepO fa fb)) := (pe_op op_repR ha hb).le fun _ _ _ h => sRepO_le h
end
section
variable {s : S}
@[simp] theorem sRepO_eq {fa fb : Sem} : sRepO fa fb s = (fa s).bind fun t s1 => (fb s1).bind fun u s2 => match t.dat [], u with
  | .lst xs, .d (.int k) => if k < 2 ^ 62 ∧ xs.length * k.toNat ≤ sizeLine ∧ -(2 ^ 62) ≤ k then .ok (.lst ((List.replicate k.toNat xs).flatten.map .d)) s2 else .bad
  | _, _ => .bad := id rfl
end
end BT
/-! ET: dicts: in, d[k], d[k] = v. -/
namespace BT
open PySem PySem.Spec PyProof.Rows L2
def D.key : D → Option Key
  | .int i => some (.inl i)
  | .str x => some (.inr (sS x))
  | _ => none
def dlk {α : Type} (kvs : List (Key × α)) (k : Key) : Option α := (kvs.find? fun kv => decide (kv.1 = k)).map (·.2)
def dput {α : Type} (kvs : List (Key × α)) (k : Key) (v : α) : List (Key × α) :=
  if (kvs.any fun kv => decide (kv.1 = k)) = true then kvs.map (fun kv => if kv.1 = k then (kv.1, v) else kv) else kvs ++ [(k, v)]
def gInX (a b : D) : Option Rv := match b with
  | .dic kvs => a.key.map fun k => .one (.bl (dlk kvs k).isSome)
  | b => gIn a b
def gNinX (a b : D) : Option Rv := match b with
  | .dic kvs => a.key.map fun k => .one (.bl (!(dlk kvs k).isSome))
  | b => gNin a b
def gIdxX (a b : D) : Option Rv := match a with
  | .dic kvs => (b.key.bind fun k => dlk kvs k).map .one
  | a => gIdx a b
def rInD : R2 := fun x y H Q => ∃ a o, y = .ref a ∧ DGet H a x o ∧ Q (.bl o.isSome) H
def rNinD : R2 := fun x y H Q => ∃ a o, y = .ref a ∧ DGet H a x o ∧ Q (.bl (!o.isSome)) H
def rIxD : R2 := fun x y H Q => ∃ a v, x = .ref a ∧ DGet H a y (some v) ∧ Q v H
theorem op_in_dic {X : Cx} (hu : X.A.units + 64 < cLine) : OpR X (compareOp .In) rInD := by
  intro pins s σ H x y v u Q I rx ry h
  obtain ⟨a, o, rfl, g, q⟩ := h
  cases ry
  exact d_in (by omega) I g rx fun s3 I3 => ⟨.bl o.isSome, H, I3, rfl, q⟩
theorem op_notIn_dic {X : Cx} (hu : X.A.units + 64 < cLine) : OpR X (compareOp .NotIn) rNinD := by
  intro pins s σ H x y v u Q I rx ry h
  obtain ⟨a, o, rfl, g, q⟩ := h
  cases ry
  exact d_notIn (by omega) I g rx fun s3 I3 => ⟨.bl (!o.isSome), H, I3, rfl, q⟩
theorem sTail_builtin {prog : Program} {w : World} {A : Around} {E : Value → Shared → Prop} {s : Shared} {value slice : Expr} {o i : Value} {T id : String} {Q : Value → Shared → Prop} (hT : s.TypeIs o T)
    (hl : typeLookup (.type T) "__getitem__" = pure (some (.builtin id))) (h : wpAny (model prog w) A (getItem o i) Q E s)
    (hs : subscripted slice false o i = operate [o, i] (getItem o i)) : wpAny (model prog w) A (subscriptTail value slice o i) Q E s := by
  unfold subscriptTail
  refine wpAny_bind ?_
  rw [getitemInPython_of_ne hT.not_modules]
  refine wpAny_bind (wpAny_specialOf hT hl ?_)
  have fin : wpAny (model prog w) A (subscripted slice false o i) (fun r s₃ => wpAny (model prog w) A (letTemporaryGo value o r >>= fun _ => pure r) Q E s₃) E s := by
    rw [hs]
    exact wpAny_operating (wpAny_mono h (fun r s₃ h₃ => wpAny_bind (wpAny_letTemporaryGo (wpAny_pure h₃))) fun _ _ x => x)
  first
    | exact wpAny_pure (wpAny_bind fin)
    | exact wpAny_bind (wpAny_pure (wpAny_bind fin))
    | exact wpAny_bind fin
theorem ix_dic {X : Cx} (hu : X.A.units + 64 < cLine) : IxR X rIxD := by
  intro value slice pins s σ H x y v u Q I rx ry h hs
  obtain ⟨a, w, rfl, g, q⟩ := h
  cases rx
  exact sTail_builtin (dict_typeIs I g) PySem.F.slot_dict_getitem.lookup (d_getItem (by omega) I g ry fun w' s3 I3 rw' => ⟨w, H, I3, rw', q⟩) hs
section
variable [CA] {K : PySem.W.Frag} {F G G' H H' : Hp} {σ : L2.St} {s s' : S} {pv pv' : List V} {W : WX}
theorem Vw.key {v : V} {a : BT.D} {k : Key} (h : Vw K G v a) (e : a.key = some k) : v = kV k := by
  cases h with
  | int i => cases e; rfl
  | str x => cases e; rfl
  | _ => cases e
theorem Vw.dic_inv {v : V} {ds : List (Key × BT.D)} (h : Vw K G v (.dic ds)) : ∃ a vs, v = .ref a ∧ G a = some (.dK vs) ∧ VwK K G vs ds := by
  cases h with
  | dic hr hl => exact ⟨_, _, rfl, hr, hl⟩
theorem VwK.look : ∀ {vs : List (Key × V)} {ds : List (Key × BT.D)} (k : Key), VwK K G vs ds → (dlk ds k = none ∧ valV vs k = none) ∨ ∃ d v, dlk ds k = some d ∧ valV vs k = some v ∧ Vw K G v d
  | _, _, k, .nil => .inl ⟨rfl, rfl⟩
  | _, _, k, @VwK.cons _ _ _ k2 v vs d ds h l => by
    by_cases e : k2 = k
    · refine .inr ⟨d, v, ?_, valV_pos e, h⟩
      simp [dlk, List.find?_cons, e]
    · have e1 : dlk ((k2, d) :: ds) k = dlk ds k := by simp [dlk, List.find?_cons, e]
      rw [e1, valV_neg e]
      exact VwK.look k l
theorem dget_of {x y : V} {a : BT.D} {ds : List (Key × BT.D)} {k : Key} (g : Ex G H) (va : Vw K G x a) (e : a.key = some k) (vb : Vw K G y (.dic ds)) :
    ∃ p, y = .ref p ∧ ((dlk ds k = none ∧ DGet H p x none) ∨ ∃ d v, dlk ds k = some d ∧ DGet H p x (some v) ∧ Vw K G v d) := by
  obtain ⟨p, vs, rfl, hp, hl⟩ := vb.dic_inv
  rw [va.key e]
  have hd := DGet.k (k := k) (g _ _ hp)
  refine ⟨p, rfl, ?_⟩
  rcases hl.look k with ⟨e1, e2⟩ | ⟨d, v, e1, e2, hv⟩
  · rw [e2] at hd; exact .inl ⟨e1, hd⟩
  · rw [e2] at hd; exact .inr ⟨d, v, e1, hd, hv⟩
theorem o_inX : Op2 K (fun x y H Q => rIn K false x y H Q ∨ rInD x y H Q) gInX := by
  intro G H x y a b R Q g va vb e k
  unfold gInX at e
  split at e
  · rename_i ds
    cases ek : a.key with
    | none => rw [ek] at e; cases e
    | some ky =>
      rw [ek] at e
      cases e
      obtain ⟨p, rfl, h⟩ := dget_of g va ek vb
      rcases h with ⟨e1, hd⟩ | ⟨d, v, e1, hd, _⟩
      · simp only [e1] at k; exact .inr ⟨p, none, rfl, hd, rvB k⟩
      · simp only [e1] at k; exact .inr ⟨p, some v, rfl, hd, rvB k⟩
  · exact .inl (o_in G H x y a b R Q g va vb e k)
theorem o_ninX : Op2 K (fun x y H Q => rIn K true x y H Q ∨ rNinD x y H Q) gNinX := by
  intro G H x y a b R Q g va vb e k
  unfold gNinX at e
  split at e
  · rename_i ds
    cases ek : a.key with
    | none => rw [ek] at e; cases e
    | some ky =>
      rw [ek] at e
      cases e
      obtain ⟨p, rfl, h⟩ := dget_of g va ek vb
      rcases h with ⟨e1, hd⟩ | ⟨d, v, e1, hd, _⟩
      · simp only [e1] at k; exact .inr ⟨p, none, rfl, hd, rvB k⟩
      · simp only [e1] at k; exact .inr ⟨p, some v, rfl, hd, rvB k⟩
  · exact .inl (o_nin G H x y a b R Q g va vb e k)
theorem o_idxX : Op2 K (fun x y H Q => rIx K x y H Q ∨ rIxD x y H Q) gIdxX := by
  intro G H x y a b R Q g va vb e k
  unfold gIdxX at e
  split at e
  · rename_i ds
    cases ek : b.key with
    | none => rw [ek] at e; cases e
    | some ky =>
      rw [ek] at e
      obtain ⟨p, rfl, h⟩ := dget_of g vb ek va
      rcases h with ⟨e1, hd⟩ | ⟨d, v, e1, hd, hv⟩
      · simp [e1] at e
      · simp only [Option.bind_some, e1, Option.map_some] at e
        cases e
        exact .inr ⟨p, v, rfl, hd, k v hv⟩
  · exact .inl (o_idx G H x y a b R Q g va vb e k)
end
/-! ### d[k] = v -/
section
variable [CA] {K : PySem.W.Frag} {F G G' H H' : Hp} {σ : L2.St} {s s' : S} {pv pv' : List V} {W : WX} {D : Ends}
theorem RpK.any : ∀ {vs : List (Key × V)} {ts : List (Key × T)} {B : AS} (k : Key), RpK K G H pv vs ts B → (vs.any fun kv => decide (kv.1 = k)) = (ts.any fun kv => decide (kv.1 = k))
  | _, _, _, _, .nil => rfl
  | _, _, _, k, .cons _ l _ _ => by rw [List.any_cons, List.any_cons, RpK.any k l]
theorem RpK.len : ∀ {vs : List (Key × V)} {ts : List (Key × T)} {B : AS}, RpK K G H pv vs ts B → vs.length = ts.length
  | _, _, _, .nil => rfl
  | _, _, _, .cons _ l _ _ => congrArg (· + 1) (RpK.len l)
theorem RpK.repl {v : V} {x : BT.D} (hv : Vw K G v x) (k : Key) : ∀ {vs : List (Key × V)} {ts : List (Key × T)} {B : AS}, RpK K G H pv vs ts B → RpK K G H pv (vs.map fun kv => if kv.1 = k then (kv.1, v) else kv) (ts.map fun kv => if kv.1 = k then (kv.1, T.d x) else kv) B
  | _, _, _, .nil => .nil
  | _, _, B, @RpK.cons _ _ _ _ _ k2 w vs t ts _ A1 A2 h l s1 s2 => by
    rw [List.map_cons, List.map_cons]
    by_cases e : k2 = k
    · rw [if_pos e, if_pos e]
      exact .cons (A1 := fun _ => False) (.d hv) (RpK.repl hv k l) (fun _ z => z.elim) s2
    · rw [if_neg e, if_neg e]
      exact .cons h (RpK.repl hv k l) s1 s2
theorem RpK.snoc {v : V} {x : BT.D} (hv : Vw K G v x) (k : Key) : ∀ {vs : List (Key × V)} {ts : List (Key × T)} {B : AS}, RpK K G H pv vs ts B → RpK K G H pv (vs ++ [(k, v)]) (ts ++ [(k, T.d x)]) B
  | _, _, _, .nil => .cons (A1 := fun _ => False) (A2 := fun _ => False) (.d hv) .nil (fun _ z => z.elim) (fun _ z => z.elim)
  | _, _, _, .cons h l s1 s2 => .cons h (RpK.snoc hv k l) s1 s2
theorem RpK.put {v : V} {x : BT.D} (hv : Vw K G v x) (k : Key) {vs : List (Key × V)} {ts : List (Key × T)} {B : AS} (h : RpK K G H pv vs ts B) : RpK K G H pv (putK vs k v) (dput ts k (.d x)) B := by
  unfold putK dput
  rw [h.any k]
  split
  · exact h.repl hv k
  · exact h.snoc hv k
theorem Sim.dput {i : Nat} {kvs : List (Key × T)} {k : Key} {v : V} {x : BT.D} (h : Sim K F G H σ s pv) (g : s.getP i = some (.dic kvs)) (hv : Vw K G v x) :
    ∃ a vs, σ[i]? = some (some (.ref a)) ∧ H a = some (.dK vs) ∧ vs.length = kvs.length ∧ Sim K F G (upd H a (.dK (putK vs k v))) σ (s.putP i (.dic (BT.dput kvs k (.d x)))) pv := by
  obtain ⟨r, p⟩ := s
  obtain ⟨ef, eg, A, B, h2, hs, d, n⟩ := h
  have put : ∀ {a : Addr} {us : List (Key × V)} {Z : AS} (pw : List V), (∀ x, Z x → x ≠ a) → Fm K G G H (upd H a (.dK us)) pw pw Z := fun {a us Z} pw ne => ⟨Ex.rfl', fun b o z q => by rw [upd_ne (ne b z)]; exact q, fun _ _ z => z⟩
  unfold S.getP at g
  split at g
  · rename_i m ek
    obtain ⟨w, C1, C2, e1, h3, h4, c1, c2⟩ := h2.take ek
    cases h3 with
    | al hk =>
      obtain ⟨v2, E1, E2, e2, h5, f1, f2, back⟩ := hs.at g
      rw [hk] at e2
      cases e2
      cases h5 with
      | @dic a vs _ _ E3 ha aa s l =>
        refine ⟨a, vs, e1, ha, l.len, ?_⟩
        have Ba : B a := (f1 a aa).1
        have nA : ∀ x, A x → x ≠ a := fun x b w => d x b (by rw [w]; exact Ba)
        have hl : RpK K G (upd H a (.dK (putK vs k v))) pv (putK vs k v) (BT.dput kvs k (.d x)) E3 := RpK.put hv k (l.fm (put pv fun x b => (s x b).2))
        have pr := back G (upd H a (.dK (putK vs k v))) pv (.dic (BT.dput kvs k (.d x))) B E1 (put pv fun x b w => (f1 a aa).2 (by rw [← w]; exact b)) (.dic upd_same aa s hl) f1 f2
        have e4 : S.putP ⟨r, p⟩ i (.dic (BT.dput kvs k (.d x))) = ⟨r, p.set m (.dic (BT.dput kvs k (.d x)))⟩ := by
          unfold S.putP
          rw [show (S.mk r p).r[i]? = some (some (T.al m)) from ek]
        rw [e4]
        refine ⟨fun b o z => ?_, fun b o z => ?_, A, B, h2.fm (put pv nA), ?_, d, fun x b => ?_⟩
        · rw [upd_ne (fun w => by rw [w, (n a (.inr Ba)).2.1] at z; cases z)]; exact ef b o z
        · rw [upd_ne (fun w => by rw [w, (n a (.inr Ba)).2.2] at z; cases z)]; exact eg b o z
        · exact pr
        · obtain ⟨q1, q2⟩ := n x b
          refine ⟨?_, q2⟩
          by_cases w : x = a
          · subst w; rw [upd_same]; exact fun z => nomatch z
          · rw [upd_ne w]; exact q1
  · rename_i t nal ek
    have et : t = .dic kvs := Option.some.inj g
    subst et
    obtain ⟨w, C1, C2, e1, h3, h4, c1, c2⟩ := h2.take ek
    cases h3 with
    | @dic a vs _ _ E3 ha aa s l =>
      refine ⟨a, vs, e1, ha, l.len, ?_⟩
      have Aa : A a := (c1 a aa).1
      have n2 : ∀ x, C2 x → x ≠ a := fun x b w => (c1 a aa).2 (by rw [← w]; exact b)
      have nB : ∀ x, B x → x ≠ a := fun x b w => d a Aa (by rw [← w]; exact b)
      have hl : RpK K G (upd H a (.dK (putK vs k v))) pv (putK vs k v) (BT.dput kvs k (.d x)) E3 := RpK.put hv k (l.fm (put pv fun x b => (s x b).2))
      have hr : Rp K G (upd H a (.dK (putK vs k v))) pv (.ref a) (.dic (BT.dput kvs k (.d x))) C1 := .dic upd_same aa s hl
      have hi : i < σ.length := (List.getElem?_eq_some_iff.mp e1).1
      have pr := RpO.put (A := A) (h4.fm (put pv n2)) hi hr c1 c2
      have e3 : σ.set i (some (.ref a)) = σ := by
        apply List.ext_getElem?
        intro j
        by_cases w : i = j
        · subst w
          rw [List.getElem?_set_self hi, e1]
        · rw [List.getElem?_set_ne w]
      rw [e3, List.set_set] at pr
      have e4 : S.putP ⟨r, p⟩ i (.dic (BT.dput kvs k (.d x))) = ⟨r.set i (some (.dic (BT.dput kvs k (.d x)))), p⟩ := by
        unfold S.putP
        rw [show (S.mk r p).r[i]? = some (some (T.dic kvs)) from ek]
      rw [e4]
      refine ⟨fun b o z => ?_, fun b o z => ?_, A, B, ?_, ?_, d, fun x b => ?_⟩
      · rw [upd_ne (fun w => by rw [w, (n a (.inl Aa)).2.1] at z; cases z)]; exact ef b o z
      · rw [upd_ne (fun w => by rw [w, (n a (.inl Aa)).2.2] at z; cases z)]; exact eg b o z
      · exact pr
      · exact hs.fm (put pv nB)
      · obtain ⟨q1, q2⟩ := n x b
        refine ⟨?_, q2⟩
        by_cases w : x = a
        · subst w; rw [upd_same]; exact fun z => nomatch z
        · rw [upd_ne w]; exact q1
  · cases g
/-- d[k] = v, d a name, v data that stand still -/
def sDput (i : Nat) (fk fv : Sem) : SemS := fun s => (fv s).bindF fun t s1 => match t, s1.getP i with
  | .d x, some (.dic kvs) => (pk fk s1 fun b => match b.key with
    | some k => if kvs.length < sizeLine then .ok (.dic (BT.dput kvs k (.d x))) s1 else .bad
    | none => .bad : Res T).bindF fun t2 s2 => .next (s2.putP i t2)
  | _, _ => .bad
theorem sDput_le {i : Nat} {fk fv : Sem} (h : sOf K W (sDput i fk fv) D σ H) : sDPut (tVar i) (tOf K W fk) (tOf K W fv) D σ H := by
  obtain ⟨F, G, s, pv, S, q⟩ := h
  refine ⟨F, G, s, pv, S, (bindF_use q).imp (fun t s1 q1 => ?_) fun _ _ z => z.kex⟩
  intro v G1 H1 pv1 po px S1
  split at q1
  · rename_i x kvs g0
    have hv : Vw K G1 v x := by
      obtain ⟨ef, eg, A, B, ho, _⟩ := S1
      cases ho with
      | cons hh _ _ _ => cases hh with
        | d hv => exact hv
    have S2 : Sim K F G1 H1 σ s1 pv1 := S1.pop
    obtain ⟨a, vs, e0, h0, l0, _⟩ := Sim.dput (k := .inl 0) S2 g0 hv
    refine ⟨.ref a, e0, ?_⟩
    have q2 := (bindF_use q1).imp (k' := fun t2 s2 => Fin K F G1 pv1 W D (.next (s2.putP i t2))) (e' := KEx K F G1 pv1 σ W) (fun t2 s2 z => fun σ' G5 H5 pv5 po5 px5 S5 => z σ' G5 H5 pv5 (po.tr po5) (px.trans px5) S5) (fun x2 s2 z => fun cls d G5 H5 pv5 po5 px5 S5 r => z cls d σ G5 H5 pv5 (po.tr po5) (px.trans px5) S5 r)
    refine pk_use S2 q2 fun y b H3 e3 vb S3 q3 => ?_
    split at q3
    · rename_i k ek
      by_cases c : kvs.length < sizeLine
      · rw [if_pos c] at q3
        obtain ⟨a2, vs2, e4, h4, l4, S4⟩ := Sim.dput (k := k) S3 g0 hv
        rw [e0] at e4
        cases e4
        refine ⟨a, _, rfl, ?_, q3 σ G1 _ pv1 .rfl' (List.prefix_refl _) S4⟩
        rw [vb.key ek]
        exact DPut.k h4 (by rw [l4]; exact c)
      · rw [if_neg c] at q3
        exact q3.elim
    · exact q3.elim
  · exact q1.elim
end
section
variable [CA] {X : Cx} {W : WX} {a b e o : Expr} {fa fb fk fv : Sem} {x : Str} {p pos pos' : Pos}
theorem r_idxX (hu : X.A.units + 64 < cLine) (ha : PE X a (tOf X.K W fa)) (hb : PE X b (tOf X.K W fb)) (hs : PlainIx b := by exact fun _ _ => rfl) : PE X (.Subscript a b pos) (tOf X.K W (sBin gIdxX fa fb)) := r_ix (ix_seq.or (ix_dic hu)) o_idxX ha hb hs
theorem r_dput (i : Nat) (hu : X.A.units + 64 < cLine) (hk : PE X e (tOf X.K W fk)) (hv : PE X o (tOf X.K W fv)) (hN : X.N[i]? = some x := by rfl) (hvis : Vis X.env.scope x := by first | exact Or.inl rfl | exact Or.inr (Or.inl rfl) | exact Or.inr (Or.inr rfl)) (hd : (x == ("__debug__" : Str)) = false := by decide)
    (hcd : (x == ("__classdict__" : Str)) = false := by decide) (hs : swapsWith o (some (.Subscript (.Name x p) e pos')) pos.line X.env = pure false := by rfl) :
    PS X (.Assign [.Subscript (.Name x p) e pos'] o pos) (sOf X.K W (sDput i fk fv)) := (ps_dput (by omega) (pe_var hN hvis hd hcd) hk hv hs).le fun _ _ _ h => sDput_le h
end
section
variable {s : S} {i : Nat} {fk fv : Sem}
@[simp] theorem gInX_dic {a : D} {kvs : List (Key × D)} : gInX a (.dic kvs) = a.key.map fun k => .one (.bl (dlk kvs k).isSome) := id rfl
@[simp] theorem gNinX_dic {a : D} {kvs : List (Key × D)} : gNinX a (.dic kvs) = a.key.map fun k => .one (.bl (!(dlk kvs k).isSome)) := id rfl
@[simp] theorem gIdxX_dic {b : D} {kvs : List (Key × D)} : gIdxX (.dic kvs) b = (b.key.bind fun k => dlk kvs k).map .one := id rfl
@[simp] theorem gIdxX_lst {b : D} {xs : List D} : gIdxX (.lst xs) b = gIdx (.lst xs) b := id rfl
@[simp] theorem gIdxX_tup {b : D} {xs : List D} : gIdxX (.tup xs) b = gIdx (.tup xs) b := id rfl
@[simp] theorem gInX_lst {a : D} {xs : List D} : gInX a (.lst xs) = gIn a (.lst xs) := id rfl
@[simp] theorem gNinX_lst {a : D} {xs : List D} : gNinX a (.lst xs) = gNin a (.lst xs) := id rfl
@[simp] theorem key_int {j : Int} : (D.int j).key = some (.inl j) := id rfl
@[simp] theorem key_str {z : String} : (D.str z).key = some (.inr (sS z)) := id rfl
@[simp] theorem sDput_eq : sDput i fk fv s = (fv s).bindF fun t s1 => match t, s1.getP i with
  | .d x, some (.dic kvs) => (pk fk s1 fun b => match b.key with
    | some k => if kvs.length < sizeLine then .ok (.dic (BT.dput kvs k (.d x))) s1 else .bad
    | none => .bad : Res T).bindF fun t2 s2 => .next (s2.putP i t2)
  | _, _ => .bad := id rfl
end
end BT
/-! EU: [v for k, v in self.f[i].items() if k not in o]. -/
namespace BT
open PySem PySem.Spec PyProof.Rows L2
open CA (ca ok)
/-- of the dict at self.f[i] the values whose keys are not in the third name's dict -/
def sItemsNot (f : String) : Sem := fun s => match s.fz.r with
  | [some (.d (.obj C fs)), some (.d (.int i)), some (.d (.dic ko)), _, _] => if isExcN C = false ∧ (fieldsOf C).contains f = true then (match fs.lookup f with
    | some (.tup ds) => (match atI ds i with
      | some (.dic kvs) => if kvs.all (fun kv => kv.2.sc) = true ∧ kvs.length < sizeLine then .ok (.lst (((kvs.filter fun kv => (dlk ko kv.1).isNone).map (·.2)).map .d)) s else .bad
      | _ => .bad)
    | _ => .bad) else .bad
  | _ => .bad
section
variable [CA] {K : PySem.W.Frag} {F G G' H H' : Hp} {σ : L2.St} {s s' : S} {pv pv' : List V} {W : WX}
theorem Vw.obj_inv' {v : V} {C : String} {fs : List (String × BT.D)} (h : Vw K G v (.obj C fs)) : ∃ a dx vs, v = .ref a ∧ ok C ∧ G a = some (.ins (ca C) dx vs) ∧ VwF K G vs fs := by
  cases h with
  | obj c hr hl => exact ⟨_, _, _, rfl, c, hr, hl⟩
theorem VwK.filt {vs : List (Key × V)} {ds : List (Key × BT.D)} (P : Key → Bool) (h : VwK K G vs ds) : VwL K G ((vs.filter fun kv => P kv.1).map (·.2)) ((ds.filter fun kv => P kv.1).map (·.2)) := by
  induction ds generalizing vs with
  | nil => cases h; exact .nil
  | cons q ds ih =>
    cases h with
    | @cons k v vs d _ h l =>
      by_cases c : P k = true
      · rw [List.filter_cons_of_pos (by exact c), List.filter_cons_of_pos (by exact c)]
        exact .cons h (ih l)
      · rw [List.filter_cons_of_neg (by exact c), List.filter_cons_of_neg (by exact c)]
        exact ih l
theorem VwK.len : ∀ {vs : List (Key × V)} {ds : List (Key × BT.D)}, VwK K G vs ds → vs.length = ds.length
  | _, _, .nil => rfl
  | _, _, .cons _ l => congrArg (· + 1) (VwK.len l)
theorem sItemsNot_le {f : String} {Q : VK} (cf : Cfs K) (na : NoAts K) (h : tOf K W (sItemsNot f) σ H Q) :
    tLockE (tLc (iItems (tOp (rIxT K) (tFld K (tVar 0) (sS f)) (tVar 1))) (gTup K 2 (gCons (gName 3) (gCons (gName 4) gNil))) (tB (tDNotIn (tVar 3) (tVar 2))) (tVar 4) [3, 4]) σ H Q := by
  obtain ⟨F, G, s, pv, S, q⟩ := h
  unfold sItemsNot at q
  split at q
  · rename_i C fs i ko o3 o4 er
    split at q
    · rename_i c
      split at q
      · rename_i ds el
        split at q
        · rename_i kvs ea
          by_cases cs : kvs.all (fun kv => kv.2.sc) = true ∧ kvs.length < sizeLine
          · rw [if_pos cs] at q
            -- what lies where
            have Sz := S.fz
            have facts : ∃ v0 v1 v2 x3 x4, σ = [some v0, some v1, some v2, x3, x4] ∧ Vw K H v0 (.obj C fs) ∧ Vw K H v1 (.int i) ∧ Vw K H v2 (.dic ko) := by
              obtain ⟨ef, eg, A, B, ho, _⟩ := Sz
              rw [er] at ho
              cases ho with
              | @cons v0 σ1 _ _ _ _ _ h0 l0 _ _ =>
                cases l0 with
                | @cons v1 σ2 _ _ _ _ _ h1 l1 _ _ =>
                  cases l1 with
                  | @cons v2 σ3 _ _ _ _ _ h2 l2 _ _ =>
                    have hl : σ3.length = 2 := l2.len
                    have e3 : ∃ x3 x4, σ3 = [x3, x4] := by
                      match σ3, hl with
                      | [x3, x4], _ => exact ⟨x3, x4, rfl⟩
                    obtain ⟨x3, x4, rfl⟩ := e3
                    refine ⟨v0, v1, v2, x3, x4, rfl, ?_, ?_, ?_⟩
                    · cases h0 with
                      | d hv => exact hv
                    · cases h1 with
                      | d hv => exact hv
                    · cases h2 with
                      | d hv => exact hv
            obtain ⟨v0, v1, v2, x3, x4, rfl, w0, w1, w2⟩ := facts
            obtain ⟨a, dx, fvs, rfl, okC, ha, hf⟩ := w0.obj_inv'
            obtain ⟨fv, ef, wf⟩ := hf.look el
            obtain ⟨p, xs, rfl, hp, lx⟩ := wf.tup_inv
            obtain ⟨dv, ed, wd⟩ := lx.atI ea
            obtain ⟨d, vs, rfl, hd, wk⟩ := wd.dic_inv
            obtain ⟨d2, vs2, rfl, hd2, wk2⟩ := w2.dic_inv
            have e1 : v1 = .int i := vint w1
            subst e1
            have hlen := wk.len
            have nad : a ≠ d := fun z => by rw [z, hd] at ha; cases ha
            refine ⟨d, .dK vs, hd, trivial, fun od => ?_⟩
            have Hl : ∀ b o, b ≠ d → H b = some o → upd H d (.frz od (.dK vs)) b = some o := fun b o hb e => by rw [upd_ne hb]; exact e
            have hp' : SqT K (upd H d (.frz od (.dK vs))) p xs := by
              rcases hp with (hp | ⟨o, hp⟩) | hp
              · exact .inl (.inl (Hl p _ (fun z => by rw [z, hd] at hp; cases hp) hp))
              · exact .inl (.inr ⟨o, Hl p _ (fun z => by rw [z, hd] at hp; cases hp) hp⟩)
              · exact .inr hp
            have hrd : Rd (upd H d (.frz od (.dK vs))) d2 (.dK vs2) := by
              by_cases z : d2 = d
              · subst z
                rw [hd] at hd2
                cases hd2
                exact .inr ⟨od, upd_same⟩
              · exact .inl (Hl d2 _ z hd2)
            refine ⟨_, rfl, a, ca C, dx, fvs, _, rfl, Hl a _ nad ha, iobj_cls (cf.o C okC c.1), noat_of (na C okC) c.2, ef, _, rfl, p, xs, i, _, rfl, rfl, hp', ed, d, od, vs, rfl, upd_same, fun D1 hD => ?_⟩
            generalize hH1 : upd H d (.frz od (.dK vs)) = H1 at *
            have nD : ∀ b o, H1 b = some o → b ≠ D1 := fun b o e z => by rw [z, hD] at e; cases e
            let res : Nat → List V := fun i => ((vs.take i).filter fun kv => (valV vs2 kv.1).isNone).map (·.2)
            refine ⟨fun i m H2 => m = vs.length - i ∧ i ≤ vs.length ∧ Ex H1 H2 ∧ H2 D1 = some (.lst (res i)), ⟨vs.length, by simp, Nat.zero_le _, fun b o e => by rw [upd_ne (nD b o e)]; exact e, by simp [res, upd_same]⟩, fun i m H2 w => ?_⟩
            obtain ⟨rfl, hi, ex, hr⟩ := w
            have hdf : H2 d = some (.frz od (.dK vs)) := ex d _ (by rw [← hH1]; exact upd_same)
            by_cases hlt : i < vs.length
            · refine .inr ⟨⟨hdf, hlt⟩, fun H3 => i + 1 ≤ vs.length ∧ Ex H1 H3 ∧ H3 D1 = some (.lst (res (i + 1))), fun H3 w => ⟨vs.length - (i + 1), by omega, rfl, w.1, w.2.1, w.2.2⟩, fun x H3 y => ?_⟩
              obtain ⟨T1, k, v, ev, rfl, hT, rfl⟩ := y
              have nT : ∀ b o, H2 b = some o → upd H2 T1 (.tup [kV k, v]) b = some o := fun b o e => by rw [upd_ne (fun z => by rw [z, hT] at e; cases e)]; exact e
              have ex3 : Ex H1 (upd H2 T1 (.tup [kV k, v])) := fun b o e => nT b o (ex b o e)
              have etk : vs.take (i + 1) = vs.take i ++ [(k, v)] := by
                rw [List.take_succ, ev]; rfl
              refine ⟨T1, [kV k, v], rfl, .inl (.inl upd_same), rfl, kV k, [v], rfl, v, [], rfl, rfl, rfl, ?_⟩
              refine ⟨kV k, rfl, .ref d2, rfl, d2, valV vs2 k, rfl, .inl ⟨vs2, k, ex_rd ex3 hrd, rfl, rfl⟩, _, rfl, ?_⟩
              have hr3 := nT D1 _ hr
              cases en : valV vs2 k with
              | none =>
                refine ⟨v, rfl, res i, hr3, ?_, hlt, fun b o e => ?_, ?_⟩
                · have : (res i).length ≤ vs.length := by
                    simp only [res, List.length_map]
                    exact Nat.le_trans (List.length_filter_le _ _) (by simp; omega)
                  rw [hlen] at this
                  exact Nat.lt_of_le_of_lt this cs.2
                · rw [upd_ne (nD b o e)]; exact ex3 b o e
                · rw [upd_same]
                  simp only [res, etk, List.filter_append, List.map_append]
                  simp [en]
              | some z =>
                refine ⟨hlt, ex3, ?_⟩
                rw [hr3]
                simp only [res, etk, List.filter_append, List.map_append]
                simp [en]
            · have hi2 : i = vs.length := by omega
              subst hi2
              refine .inl ⟨⟨hdf, Nat.le_refl _⟩, hdf, ?_⟩
              -- the lock is taken off
              have hDd : D1 ≠ d := fun z => by rw [z, hdf] at hr; cases hr
              have hHD : H D1 = none := by
                rw [← hH1, upd_ne hDd] at hD
                exact hD
              let Hx : Hp := fun b => if b = D1 then none else upd H2 d (.dK vs) b
              have exx : Ex H Hx := fun b o e => by
                have nb : b ≠ D1 := fun z => by rw [z, hHD] at e; cases e
                show (if b = D1 then none else upd H2 d (.dK vs) b) = some o
                rw [if_neg nb]
                by_cases z : b = d
                · subst z
                  rw [hd] at e
                  cases e
                  exact upd_same
                · rw [upd_ne z]
                  exact ex b o (by rw [← hH1, upd_ne z]; exact e)
              have q3 : (Rv.fin (.lst ((kvs.filter fun kv => (dlk ko kv.1).isNone).map (·.2))) s).go (KOk K F G pv [some (.ref a), some (.int i), some (.ref d2), x3, x4] Q) (KEx K F G pv [some (.ref a), some (.int i), some (.ref d2), x3, x4] W) := q
              have rv := fin_use (S.grow exx) q3
              have hsame : ∀ k : Key, (valV vs2 k).isNone = (dlk ko k).isNone := by
                intro k
                rcases wk2.look k with ⟨z1, z2⟩ | ⟨dd, vv, z1, z2, _⟩ <;> rw [z1, z2] <;> rfl
              have hvw : VwL K H (((vs.filter fun kv => (valV vs2 kv.1).isNone)).map (·.2)) ((kvs.filter fun kv => (dlk ko kv.1).isNone).map (·.2)) := by
                simp only [hsame]
                exact wk.filt (fun k => (dlk ko k).isNone)
              have hall : ((kvs.filter fun kv => (dlk ko kv.1).isNone).map (·.2)).all D.sc = true := by
                rw [List.all_map, List.all_eq_true]
                intro kv hkv
                exact List.all_eq_true.mp cs.1 kv (List.mem_filter.mp hkv).1
              have fin := rv _ D1 (hvw.sc hall) (by show (if D1 = D1 then none else _) = none; rw [if_pos rfl])
              have eH : upd Hx D1 (.lst (((vs.filter fun kv => (valV vs2 kv.1).isNone)).map (·.2))) = upd H2 d (.dK vs) := by
                funext b
                by_cases z : b = D1
                · subst z
                  rw [upd_same, upd_ne hDd, hr]
                  simp [res]
                · rw [upd_ne z]
                  show (if b = D1 then none else upd H2 d (.dK vs) b) = _
                  rw [if_neg z]
              rw [eH] at fin
              exact fin
          · rw [if_neg cs] at q
            exact q.elim
        · exact q.elim
      · exact q.elim
    · exact q.elim
  · exact q.elim
end
theorem dn_hu {A : Around} (h : A.units + 64 < cLine) : A.units + 1 < cLine := by omega
@[simp] theorem sItemsNot_eq {f : String} {s : S} : sItemsNot f s = match s.fz.r with
  | [some (.d (.obj C fs)), some (.d (.int i)), some (.d (.dic ko)), _, _] => if isExcN C = false ∧ (fieldsOf C).contains f = true then (match fs.lookup f with
    | some (.tup ds) => (match atI ds i with
      | some (.dic kvs) => if kvs.all (fun kv => kv.2.sc) = true ∧ kvs.length < sizeLine then .ok (.lst (((kvs.filter fun kv => (dlk ko kv.1).isNone).map (·.2)).map .d)) s else .bad
      | _ => .bad)
    | _ => .bad) else .bad
  | _ => .bad := id rfl
end BT
/-! EV: list(range(a, b)), list(range(a, b, -1)). -/
namespace BT
open PySem PySem.Spec PyProof.Rows L2
def rgVc (a c : Int) (n : Nat) : List V := (List.range n).map fun i => V.int (a + (i : Nat) * c)
theorem vals_rgc {a c : Int} {n : Nat} {acc : Array Value} (h : ItemsOf (fun i v => ∃ t, v = .int (a + i * c) t) acc n) : Vals (rgVc a c n) acc.toList := by
  have e : acc.toList.length = n := by rw [Array.length_toList]; exact h.1
  unfold rgVc
  rw [← e]
  refine vals_of_get acc.toList _ fun j u hj => ?_
  obtain ⟨t, rfl⟩ := h.2 j u (by rw [← hj, Array.getElem?_toList])
  exact ⟨t, rfl⟩
def tLstRgC (ta : TA) : TE := fun σ H Q => ta σ H fun vs H1 => ∃ (i j c : Int) (n : Nat), vs = [.int i, .int j, .int c] ∧ RgC i j c n ∧ n ≤ 2 ^ 24 ∧ ∀ q, H1 q = none → Q (.ref q) (upd H1 q (.lst (rgVc i c n)))
section
variable {X : Cx} {a b c : Expr} {ta : TA} {p p2 pos pos2 : Pos}
theorem prg_3 (hg : Gl X "range") (hm : X.mg "range" = none) (ha : PA X [a, b, c] ta) (hs : starEach [a, b, c] X.env = (false, eval a X.env) :: starEach [b, c] X.env) (hpl : (backTo pos (starEach [b, c] X.env)).any (·.1) = false)
    (pins : List (Addr × Obj)) (s : Shared) (σ : L2.St) (H : Hp) (Q : Int → Int → Nat → Hp → Prop) (I : Inv X pins σ H s) (h : ta σ H fun vs H1 => ∃ (i j c : Int) (n : Nat), vs = [.int i, .int j, .int c] ∧ RgC i j c n ∧ Q i c n H1) :
    wpAny (model X.prog X.w) X.A (eval (.Call (.Name "range" p) [a, b, c] [] pos) X.env) (fun x s' => ∃ r i j c n t u v H', x = .ref r ∧ IsRange s'.heap r i j c t u v ∧ RgC i j c n ∧ Inv X pins σ H' s' ∧ Q i c n H') X.xe s := by
  refine Call_ (ld_blt I hg hm boot_range (PyProof.Rows.callWith_type1 (thn (ha.run pos pins s σ H _ I h) fun us s1 ⟨vs, H1, I1, r1, q1⟩ => ?_) hs hpl))
  obtain ⟨i, j, k, n, e, rc, q⟩ := q1
  subst e
  cases r1 with
  | cons r rr =>
    cases rr with
    | cons r' rr =>
      cases rr with
      | cons r'' rr =>
        cases rr
        obtain ⟨t, rfl⟩ := r
        obtain ⟨t', rfl⟩ := r'
        obtain ⟨t'', rfl⟩ := r''
        exact call_range_3 rc.1 ⟨_, i, j, k, n, _, _, _, H1, rfl, IsRange.new _ _ _ _ _ _ _, rc, I1.kept (t' := s1.toks) fun b o e => Heap.get?_push_of_some _ e, q⟩ (.inl (PyProof.noPylong_small rc.2.1))
theorem pe_listRgC (hc : X.calm = true) (hg : Gl X "list") (hm : X.mg "list" = none) (hg2 : Gl X "range") (hm2 : X.mg "range" = none) (ha : PA X [a, b, c] ta)
    (hs : starEach [a, b, c] X.env = (false, eval a X.env) :: starEach [b, c] X.env) (hpl : (backTo pos2 (starEach [b, c] X.env)).any (·.1) = false)
    (na : starEach [.Call (.Name "range" p2) [a, b, c] [] pos2] X.env = (false, eval (.Call (.Name "range" p2) [a, b, c] [] pos2) X.env) :: starEach [] X.env := by rfl) :
    PE X (.Call (.Name "list" p) [.Call (.Name "range" p2) [a, b, c] [] pos2] [] pos) (tLstRgC ta) := by
  refine ⟨fun pins s σ H Q I h => ?_⟩
  refine Call_ (ld_blt I hg hm boot_list (PyProof.Rows.callWith_type1 (args_cons (thn (prg_3 hg2 hm2 ha hs hpl pins s σ H (fun i c n H1 => n ≤ 2 ^ 24 ∧ ∀ q, H1 q = none → Q (.ref q) (upd H1 q (.lst (rgVc i c n)))) I h) fun x s1 ⟨r, i, j, k, n, t, u, v, H1, ex, hr, rc, I1, b5, q⟩ => args_nil ?_) na) na))
  subst ex
  refine call_list_range (n := n) (I1.ok.hd hc) hr rc.2.2.1 rc.2.2.2 b5 fun h' tk acc c' hk e' hi => ?_
  refine ⟨.ref s1.heap.objs.size, upd H1 s1.heap.objs.size (.lst (rgVc i k n)), I1.laid hk (Nat.le_refl _) (show ObjOk X.prog X.w _ _ _ (.lst (rgVc i k n)) from ⟨?_, acc.toList, c', vals_rgc hi, ?_⟩), rfl, q _ (I1.hok.fresh (Nat.le_refl _))⟩
  · rw [sizeLine_eq]; unfold rgVc; rw [List.length_map, List.length_range]; omega
  · rw [Array.toArray_toList]; exact e'
end
def dUp (i : Int) (n : Nat) : List D := (List.range n).map fun k : Nat => D.int (i + (k : Int))
def dDn (i : Int) (n : Nat) : List D := (List.range n).map fun k : Nat => D.int (i - (k : Int))
noncomputable def sLRu (fa fb : Sem) : Sem := fun s => pk fa s fun x => pk fb s fun y => match x, y with
  | .int i, .int j => @ite _ ((-(2 ^ 62) ≤ i ∧ i < 2 ^ 62) ∧ (-(2 ^ 62) ≤ j ∧ j < 2 ^ 62) ∧ (j - i).toNat ≤ 100000) (Classical.propDecidable _) (.ok (.lst ((dUp i (j - i).toNat).map .d)) s) .bad
  | _, _ => .bad
noncomputable def sLRd (fa fb : Sem) : Sem := fun s => pk fa s fun x => pk fb s fun y => match x, y with
  | .int i, .int j => @ite _ ((-(2 ^ 62) ≤ i ∧ i < 2 ^ 62) ∧ (-(2 ^ 62) ≤ j ∧ j < 2 ^ 62) ∧ (i - j).toNat ≤ 100000) (Classical.propDecidable _) (.ok (.lst ((dDn i (i - j).toNat).map .d)) s) .bad
  | _, _ => .bad
section
variable [CA] {K : PySem.W.Frag} {F G G' H H' : Hp} {σ : L2.St} {s s' : S} {pv pv' : List V} {W : WX}
theorem vwl_up (G : Hp) (i : Int) : ∀ l : List Nat, VwL K G (l.map fun k : Nat => V.int (i + (k : Int))) (l.map fun k : Nat => BT.D.int (i + (k : Int)))
  | [] => .nil
  | k :: l => .cons (.int _) (vwl_up G i l)
theorem vwl_dn (G : Hp) (i : Int) : ∀ l : List Nat, VwL K G (l.map fun k : Nat => V.int (i + (k : Int) * (-1))) (l.map fun k : Nat => BT.D.int (i - (k : Int)))
  | [] => .nil
  | k :: l => by
    rw [List.map_cons, List.map_cons, show i + (k : Int) * (-1) = i - (k : Int) by omega]
    exact .cons (.int _) (vwl_dn G i l)
theorem sLRu_le {fa fb : Sem} {Q : VK} (h : tOf K W (sLRu fa fb) σ H Q) : tLstRg (tRg2 (tOf K W fa) (tOf K W fb)) σ H Q := by
  obtain ⟨F, G, s, pv, S, q⟩ := h
  refine pk_use S q fun v x H1 e1 va S1 q1 => pk_use S1 q1 fun u y H2 e2 vb S2 q2 => ?_
  split at q2
  · rename_i i j
    split at q2
    · rename_i c
      refine ⟨i, j, vint va, vint vb, ⟨c.1.1, c.1.2, c.2.1.1, c.2.1.2, by omega⟩, fun p hp => ?_⟩
      have q3 : (Rv.fin (.lst (dUp i (j - i).toNat)) s).go (KOk K F G pv σ Q) (KEx K F G pv σ W) := q2
      exact fin_use S2 q3 _ p (vwl_up _ i _) hp
    · exact q2.elim
  · exact q2.elim
theorem sLRd_le {fa fb : Sem} {Q : VK} (h : tOf K W (sLRd fa fb) σ H Q) : tLstRgC (tCons (tOf K W fa) (tCons (tOf K W fb) (tCons (tUn (rU fun i => .int (-i)) (tC (.int 1))) tNil))) σ H Q := by
  obtain ⟨F, G, s, pv, S, q⟩ := h
  refine pk_use S q fun v x H1 e1 va S1 q1 => pk_use S1 q1 fun u y H2 e2 vb S2 q2 => ?_
  split at q2
  · rename_i i j
    split at q2
    · rename_i c
      rw [vint va, vint vb]
      refine ⟨1, rfl, i, j, -1, (i - j).toNat, rfl, RgC.neg c.1.1 c.1.2 c.2.1.1 c.2.1.2, by omega, fun p hp => ?_⟩
      have q3 : (Rv.fin (.lst (dDn i (i - j).toNat)) s).go (KOk K F G pv σ Q) (KEx K F G pv σ W) := q2
      exact fin_use S2 q3 _ p (vwl_dn _ i _) hp
    · exact q2.elim
  · exact q2.elim
end
section
variable [CA] {X : Cx} {W : WX} {e1 e2 : Expr} {f1 f2 : Sem} {p p2 pos pos2 : Pos}
theorem r_lru (hc : X.calm = true) (hm : X.mg "list" = none) (hm2 : X.mg "range" = none) (h1 : PE X e1 (tOf X.K W f1)) (h2 : PE X e2 (tOf X.K W f2)) (hg : Gl X "list" := by rfl) (hg2 : Gl X "range" := by rfl)
    (na : starEach [e1, e2] X.env = (false, eval e1 X.env) :: starEach [e2] X.env := by rfl) (nb : starEach [e2] X.env = (false, eval e2 X.env) :: starEach [] X.env := by rfl) (hp : (backTo pos2 (starEach [e2] X.env)).any (·.1) = false := by rfl)
    (nc : starEach [.Call (.Name "range" p2) [e1, e2] [] pos2] X.env = (false, eval (.Call (.Name "range" p2) [e1, e2] [] pos2) X.env) :: starEach [] X.env := by rfl) :
    PE X (.Call (.Name "list" p) [.Call (.Name "range" p2) [e1, e2] [] pos2] [] pos) (tOf X.K W (sLRu f1 f2)) := (pe_listRg hc hg hm (prg_2 hg2 hm2 h1 h2 na nb hp) nc).le fun _ _ _ h => sLRu_le h
theorem r_lrd {j q1 q2} (hc : X.calm = true) (hm : X.mg "list" = none) (hm2 : X.mg "range" = none) (h1 : PE X e1 (tOf X.K W f1)) (h2 : PE X e2 (tOf X.K W f2)) (hg : Gl X "list" := by rfl) (hg2 : Gl X "range" := by rfl)
    (hs : starEach [e1, e2, .UnaryOp .USub (.Constant (.int 1) j q1) q2] X.env = (false, eval e1 X.env) :: starEach [e2, .UnaryOp .USub (.Constant (.int 1) j q1) q2] X.env := by rfl)
    (hs2 : starEach [e2, .UnaryOp .USub (.Constant (.int 1) j q1) q2] X.env = (false, eval e2 X.env) :: starEach [.UnaryOp .USub (.Constant (.int 1) j q1) q2] X.env := by rfl)
    (hpl : (backTo pos2 (starEach [e2, .UnaryOp .USub (.Constant (.int 1) j q1) q2] X.env)).any (·.1) = false := by rfl)
    (nc : starEach [.Call (.Name "range" p2) [e1, e2, .UnaryOp .USub (.Constant (.int 1) j q1) q2] [] pos2] X.env = (false, eval (.Call (.Name "range" p2) [e1, e2, .UnaryOp .USub (.Constant (.int 1) j q1) q2] [] pos2) X.env) :: starEach [] X.env := by rfl) :
    PE X (.Call (.Name "list" p) [.Call (.Name "range" p2) [e1, e2, .UnaryOp .USub (.Constant (.int 1) j q1) q2] [] pos2] [] pos) (tOf X.K W (sLRd f1 f2)) :=
  (pe_listRgC hc hg hm hg2 hm2 (pa_cons h1 (pa_cons h2 (pa_cons (pe_un un_neg pe_int) pa_nil rfl) hs2) hs) hs hpl nc).le fun _ _ _ h => sLRd_le h
end
section
variable {s : S} {i j : Int}
noncomputable def lru (x y : D) (s : S) : Res T := match x, y with
  | .int i, .int j => @ite _ ((-(2 ^ 62) ≤ i ∧ i < 2 ^ 62) ∧ (-(2 ^ 62) ≤ j ∧ j < 2 ^ 62) ∧ (j - i).toNat ≤ 100000) (Classical.propDecidable _) (.ok (.lst ((dUp i (j - i).toNat).map .d)) s) .bad
  | _, _ => .bad
noncomputable def lrd (x y : D) (s : S) : Res T := match x, y with
  | .int i, .int j => @ite _ ((-(2 ^ 62) ≤ i ∧ i < 2 ^ 62) ∧ (-(2 ^ 62) ≤ j ∧ j < 2 ^ 62) ∧ (i - j).toNat ≤ 100000) (Classical.propDecidable _) (.ok (.lst ((dDn i (i - j).toNat).map .d)) s) .bad
  | _, _ => .bad
@[simp] theorem sLRu_eq {fa fb : Sem} : sLRu fa fb s = pk fa s fun x => pk fb s fun y => lru x y s := id rfl
@[simp] theorem sLRd_eq {fa fb : Sem} : sLRd fa fb s = pk fa s fun x => pk fb s fun y => lrd x y s := id rfl
theorem lru_ok (h1 : -4611686018427387904 ≤ i) (h2 : i < 4611686018427387904) (h3 : -4611686018427387904 ≤ j) (h4 : j < 4611686018427387904) (h5 : (j - i).toNat ≤ 100000) : lru (.int i) (.int j) s = .ok (.lst ((dUp i (j - i).toNat).map .d)) s := by
  unfold lru
  exact if_pos ⟨⟨by omega, by omega⟩, ⟨by omega, by omega⟩, h5⟩
theorem lrd_ok (h1 : -4611686018427387904 ≤ i) (h2 : i < 4611686018427387904) (h3 : -4611686018427387904 ≤ j) (h4 : j < 4611686018427387904) (h5 : (i - j).toNat ≤ 100000) : lrd (.int i) (.int j) s = .ok (.lst ((dDn i (i - j).toNat).map .d)) s := by
  unfold lrd
  exact if_pos ⟨⟨by omega, by omega⟩, ⟨by omega, by omega⟩, h5⟩
end
end BT
/-! EW: a list within an owned value is changed in place. -/
namespace BT
open PySem PySem.Spec PyProof.Rows L2
section
variable [CA] {K : PySem.W.Frag} {F G G' H H' : Hp} {σ : L2.St} {s s' : S} {pv pv' : List V} {W : WX} {D : Ends}
/-- what a name owns (or a root of the store) may be changed within its own cells -/
theorem Sim.modP {i : Nat} {t0 : T} (h : Sim K F G H σ s pv) (g : s.getP i = some t0) :
    ∃ (v : V) (C : AS), σ[i]? = some (some v) ∧ Rp K G H pv v t0 C ∧ (∀ b, C b → H b ≠ none) ∧ ∀ (H' : Hp) (t' : T), (∀ b, ¬ C b → H' b = H b) → (∀ b, C b → H' b ≠ none) → Rp K G H' pv v t' C → Sim K F G H' σ (s.putP i t') pv := by
  obtain ⟨r, p⟩ := s
  obtain ⟨ef, eg, A, B, h2, hs, d, n⟩ := h
  unfold S.getP at g
  split at g
  · rename_i m ek
    obtain ⟨w, C1, C2, e1, h3, h4, c1, c2⟩ := h2.take ek
    cases h3 with
    | al hk =>
      obtain ⟨v2, E1, E2, e2, h5, f1, f2, back⟩ := hs.at g
      rw [hk] at e2
      cases e2
      refine ⟨w, E1, e1, h5, fun b z => (n b (.inr (f1 b z).1)).1, fun H' t' k1 k2 hr => ?_⟩
      have keep : ∀ {Z : AS}, (∀ x, Z x → ¬ E1 x) → Fm K G G H H' pv pv Z := fun {Z} ne => ⟨Ex.rfl', fun b o z q => by rw [k1 b (ne b z)]; exact q, fun _ _ z => z⟩
      have pr := back G H' pv t' B E1 (keep fun x b z => (f1 x z).2 b) hr f1 f2
      have e4 : S.putP ⟨r, p⟩ i t' = ⟨r, p.set m t'⟩ := by
        unfold S.putP
        rw [show (S.mk r p).r[i]? = some (some (T.al m)) from ek]
      rw [e4]
      refine ⟨fun b o z => ?_, fun b o z => ?_, A, B, h2.fm (keep fun x b z => d x b (f1 x z).1), pr, d, fun x b => ?_⟩
      · rw [k1 b (fun w => by rw [(n b (.inr (f1 b w).1)).2.1] at z; cases z)]; exact ef b o z
      · rw [k1 b (fun w => by rw [(n b (.inr (f1 b w).1)).2.2] at z; cases z)]; exact eg b o z
      · obtain ⟨q1, q2⟩ := n x b
        refine ⟨?_, q2⟩
        by_cases w : E1 x
        · exact k2 x w
        · rw [k1 x w]; exact q1
  · rename_i t nal ek
    have et : t = t0 := Option.some.inj g
    subst et
    obtain ⟨w, C1, C2, e1, h3, h4, c1, c2⟩ := h2.take ek
    refine ⟨w, C1, e1, h3, fun b z => (n b (.inl (c1 b z).1)).1, fun H' t' k1 k2 hr => ?_⟩
    have keep : ∀ {Z : AS}, (∀ x, Z x → ¬ C1 x) → Fm K G G H H' pv pv Z := fun {Z} ne => ⟨Ex.rfl', fun b o z q => by rw [k1 b (ne b z)]; exact q, fun _ _ z => z⟩
    have hi : i < σ.length := (List.getElem?_eq_some_iff.mp e1).1
    have pr := RpO.put (A := A) (h4.fm (keep fun x b z => (c1 x z).2 b)) hi hr c1 c2
    have e3 : σ.set i (some w) = σ := by
      apply List.ext_getElem?
      intro j
      by_cases w : i = j
      · subst w
        rw [List.getElem?_set_self hi, e1]
      · rw [List.getElem?_set_ne w]
    rw [e3, List.set_set] at pr
    have e4 : S.putP ⟨r, p⟩ i t' = ⟨r.set i (some t'), p⟩ := by
      unfold S.putP
      cases t with
      | al m => exact absurd rfl (nal m)
      | _ => rw [show (S.mk r p).r[i]? = some (some _) from ek]
    rw [e4]
    refine ⟨fun b o z => ?_, fun b o z => ?_, A, B, pr, hs.fm (keep fun x b z => d x (c1 x z).1 b), d, fun x b => ?_⟩
    · rw [k1 b (fun w => by rw [(n b (.inl (c1 b w).1)).2.1] at z; cases z)]; exact ef b o z
    · rw [k1 b (fun w => by rw [(n b (.inl (c1 b w).1)).2.2] at z; cases z)]; exact eg b o z
    · obtain ⟨q1, q2⟩ := n x b
      refine ⟨?_, q2⟩
      by_cases w : C1 x
      · exact k2 x w
      · rw [k1 x w]; exact q1
  · cases g
end
/-- a tree's list or tuple, with one of its things exchanged -/
def T.kidSet (t : T) (k : Nat) (u : T) : Option T := match t with
  | .lst ts => some (.lst (ts.set k u))
  | .tup ts => some (.tup (ts.set k u))
  | _ => none
def T.kidAt (k : Nat) : T → Option T
  | .lst ts => ts[k]?
  | .tup ts => ts[k]?
  | _ => none
def T.kidLen : T → Nat
  | .lst ts => ts.length
  | .tup ts => ts.length
  | _ => 0
section
variable [CA] {K : PySem.W.Frag} {F G G' H H' : Hp} {σ : L2.St} {s s' : S} {pv pv' : List V} {W : WX} {D : Ends}
theorem rpl_sc : ∀ {vs : List V} {ds : List BT.D}, VwL K H vs ds → ds.all BT.D.sc = true → RpL K G H' pv vs (ds.map .d) (fun _ => False)
  | _, _, .nil, _ => .nil
  | _, _, .cons h l, c => by
    rw [List.all_cons, Bool.and_eq_true] at c
    exact .cons (A1 := fun _ => False) (A2 := fun _ => False) (.d (h.sc c.1 _)) (rpl_sc l c.2) (fun _ z => z.elim) (fun _ z => z.elim)
/-- the list at place k of a tree is changed -/
theorem Rp.kid {v : V} {t u' : T} {C : AS} {k : Nat} {ts : List T} {c : (α : Type) → List α → List α → Option (List α)} {qs : List T} {ds : List BT.D} (hc : Chg c) (h : Rp K G H pv v t C) (ek : t.kidAt k = some (.lst ts)) (hset : t.kidSet k (.lst qs) = some u') (hq : c T ts (ds.map .d) = some qs) (hds : ds.all BT.D.sc = true) :
    ∃ a xs b ws, v = .ref a ∧ (H a = some (.lst xs) ∨ H a = some (.tup xs)) ∧ xs.length = t.kidLen ∧ xs[k]? = some (.ref b) ∧ H b = some (.lst ws) ∧ C b ∧ ws.length = ts.length ∧
      ∀ (Hd : Hp) (ys us : List V), VwL K Hd ys ds → c V ws ys = some us → Rp K G (upd H b (.lst us)) pv v u' C := by
  have core : ∀ {a : Addr} {vs : List V} {kids : List T} {E : AS}, C a → (∀ x, E x → C x ∧ x ≠ a) → RpL K G H pv vs kids E → kids[k]? = some (.lst ts) → ∃ b ws, vs[k]? = some (.ref b) ∧ H b = some (.lst ws) ∧ C b ∧ b ≠ a ∧ ws.length = ts.length ∧
      ∀ (Hd : Hp) (ys us : List V), VwL K Hd ys ds → c V ws ys = some us → RpL K G (upd H b (.lst us)) pv vs (kids.set k (.lst qs)) E := by
    intro a vs kids E aa ss l e
    obtain ⟨w, B1, B2, e1, h1, d1, d2, back⟩ := l.at e
    cases h1 with
    | @lst b ws _ _ B3 hb bb s3 l3 =>
      refine ⟨b, ws, e1, hb, (ss b (d1 b bb).1).1, (ss b (d1 b bb).1).2, l3.len, fun Hd ys us hy hu => ?_⟩
      have put : ∀ {Z : AS}, (∀ x, Z x → x ≠ b) → Fm K G G H (upd H b (.lst us)) pv pv Z := fun {Z} ne => ⟨Ex.rfl', fun x o z q => by rw [upd_ne (ne x z)]; exact q, fun _ _ z => z⟩
      have all : RpL K G (upd H b (.lst us)) pv (ws ++ ys) (ts ++ ds.map .d) B3 := RpL.app (l3.fm (put fun x z => (s3 x z).2)) (rpl_sc hy hds) (fun x z => ⟨z, id⟩) (fun x z => z.elim)
      have hl := hc K G _ pv B3 ws ys us ts (ds.map .d) qs (by rw [List.length_map]; exact hy.len) l3.len all hq hu
      exact back G (upd H b (.lst us)) pv (.lst qs) E B1 (put fun x z w => (d1 b bb).2 (by rw [← w]; exact z)) (.lst upd_same bb s3 hl) d1 d2
  cases h with
  | @lst a vs kids _ E ha aa ss l =>
    cases hset
    obtain ⟨b, ws, e1, hb, cb, ne, lw, f⟩ := core aa ss l ek
    exact ⟨a, vs, b, ws, rfl, .inl ha, l.len, e1, hb, cb, lw, fun Hd ys us hy hu => .lst (by rw [upd_ne ne.symm]; exact ha) aa ss (f Hd ys us hy hu)⟩
  | @tup a vs kids _ E ha aa ss l =>
    cases hset
    obtain ⟨b, ws, e1, hb, cb, ne, lw, f⟩ := core aa ss l ek
    exact ⟨a, vs, b, ws, rfl, .inr ha, l.len, e1, hb, cb, lw, fun Hd ys us hy hu => .tup (by rw [upd_ne ne.symm]; exact ha) aa ss (f Hd ys us hy hu)⟩
  | d _ => cases ek
  | al _ => cases ek
  | dic _ _ _ _ => cases ek
  | obj _ _ _ _ _ _ _ _ => cases ek
end
/-- x[k].append(..) and its like: x a name, k a number, the arguments scalars -/
def sMutN (i : Nat) (fk : Sem) (c : (α : Type) → List α → List α → Option (List α)) (fs : SemA) : Sem := fun s => match s.getP i with
  | some t => pk fk s fun x => match x with
    | .int j => (match ixN t.kidLen j with
      | some k => (match t.kidAt k with
        | some (.lst ts) => pkA fs s fun ds => if ds.all D.sc = true then (match c T ts (ds.map .d) with
          | some qs => if qs.length ≤ sizeLine then (match t.kidSet k (.lst qs) with
            | some u => .ok (.d .non) (s.putP i u)
            | none => .bad) else .bad
          | none => .bad) else .bad
        | _ => .bad)
      | none => .bad)
    | _ => .bad
  | none => .bad
section
variable [CA] {K : PySem.W.Frag} {F G G' H H' : Hp} {σ : L2.St} {s s' : S} {pv pv' : List V} {W : WX} {D : Ends}
theorem sMutN_le {r : V → List V → Hp → VK → Prop} {c : (α : Type) → List α → List α → Option (List α)} {i : Nat} {fk : Sem} {fs : SemA} {Q : VK} (hc : Chg c) (hl : CLen c) (ok : MutOk r c)
    {ta : TA} (hta : ∀ {σ : L2.St} {H : Hp} {Q : List V → Hp → Prop}, tOfA K W fs σ H Q → ta σ H Q) (h : tOf K W (sMutN i fk c fs) σ H Q) : tBM K "list" r (tOp (rIx K) (tVar i) (tOf K W fk)) ta σ H Q := by
  obtain ⟨F, G, s, pv, S, q⟩ := h
  unfold sMutN at q
  split at q
  · rename_i t g0
    obtain ⟨v, C, e0, _, _, _⟩ := Sim.modP S g0
    refine ⟨v, e0, pk_use S q fun x d H1 e1 vx S1 q1 => ?_⟩
    split at q1
    · rename_i j
      split at q1
      · rename_i k ej
        split at q1
        · rename_i ts ek
          obtain ⟨v1, C1, e01, hr, _, back⟩ := Sim.modP S1 g0
          rw [e0] at e01
          cases e01
          have kset : ∃ u, t.kidSet k (.lst ts) = some u ∧ ∀ z, ∃ u', t.kidSet k z = some u' := by
            cases t with
            | lst kids => exact ⟨_, rfl, fun z => ⟨_, rfl⟩⟩
            | tup kids => exact ⟨_, rfl, fun z => ⟨_, rfl⟩⟩
            | _ => cases ek
          obtain ⟨u0, hu0, kk⟩ := kset
          -- what lies there
          have look : ∃ a xs b ws, v = .ref a ∧ (H1 a = some (.lst xs) ∨ H1 a = some (.tup xs)) ∧ xs.length = t.kidLen ∧ xs[k]? = some (.ref b) ∧ H1 b = some (.lst ws) := by
            obtain ⟨a, xs, b, ws, h1, h2, h3, h4, h5, _⟩ := Rp.kid (c := cExt) (qs := ts) (ds := []) chg_ext hr ek hu0 (by show some (ts ++ []) = some ts; rw [List.append_nil]) rfl
            exact ⟨a, xs, b, ws, h1, h2, h3, h4, h5⟩
          obtain ⟨a, xs, b, ws, rfl, h2, h3, h4, h5⟩ := look
          have eat : atI xs j = some (.ref b) := by
            unfold atI
            rw [h3, ej]
            exact h4
          have body : tyV K "list" (.ref b) H1 ∧ ta σ H1 fun ys H2 => r (.ref b) ys H2 Q := by
            refine ⟨.inl ⟨rfl, _, .inl (.inl h5)⟩, hta (pkA_use S1 q1 fun ys ds H2 e2 vy S2 q2 => ?_)⟩
            by_cases cs : ds.all BT.D.sc = true
            · rw [if_pos cs] at q2
              split at q2
              · rename_i qs eq
                by_cases cl : qs.length ≤ sizeLine
                · rw [if_pos cl] at q2
                  split at q2
                  · rename_i u' hu'
                    obtain ⟨v2, C2, e02, hr2, nn2, back2⟩ := Sim.modP S2 g0
                    rw [e0] at e02
                    cases e02
                    obtain ⟨a2, xs2, b2, ws2, g1, g2, g3, g4, g5, g6, g7, f⟩ := Rp.kid hc hr2 ek hu' eq cs
                    cases g1
                    have exb : H2 b = some (.lst ws) := e2 _ _ h5
                    have same : b2 = b := by
                      have exs : xs2 = xs := by
                        rcases h2 with h2 | h2 <;> have h2' := e2 _ _ h2 <;> rcases g2 with g2 | g2 <;> rw [h2'] at g2 <;> cases g2 <;> rfl
                      rw [exs, h4] at g4
                      cases g4; rfl
                    subst same
                    obtain ⟨us, hu, lu⟩ := hl ts (ds.map .d) qs ws2 ys g7 (by rw [List.length_map]; exact vy.len) eq
                    have S3 := back2 (upd H2 b2 (.lst us)) u' (fun z nz => by rw [upd_ne (fun w => nz (by rw [w]; exact g6))]) (fun z cz => by
                      by_cases w : z = b2
                      · rw [w, upd_same]; exact fun z => nomatch z
                      · rw [upd_ne w]
                        exact nn2 z cz) (f H2 ys us vy hu)
                    exact ok b2 ws2 ys us H2 Q g5 hu (by rw [lu]; exact cl) (q2 .non G _ pv .rfl' (List.prefix_refl _) (S3.push_d .non))
                  · exact q2.elim
                · rw [if_neg cl] at q2
                  exact q2.elim
              · exact q2.elim
            · rw [if_neg cs] at q2
              exact q2.elim
          have ix : rIx K (.ref a) x H1 fun y H2 => tyV K "list" y H2 ∧ ta σ H2 fun ys H3 => r y ys H3 Q := by
            have ex : x = .int j := vint vx
            rcases h2 with h2 | h2
            · exact .inl ⟨a, xs, j, _, rfl, ex, .inl (.inl h2), eat, body⟩
            · exact .inr (.inl ⟨a, xs, j, _, rfl, ex, .inl (.inl h2), eat, body⟩)
          exact ix
        · exact q1.elim
      · exact q1.elim
    · exact q1.elim
  · exact q.elim
end
/-! ### each of a list's things is changed within -/
def spoilL (k : Nat) (c : (α : Type) → List α → List α → Option (List α)) (ds : List D) : List T → Option (List T)
  | [] => some []
  | t :: ts => match t.kidAt k with
    | some (.lst us) => (match c T us (ds.map .d) with
      | some qs => if qs.length ≤ sizeLine then (match t.kidSet k (.lst qs), spoilL k c ds ts with
        | some t', some ts' => some (t' :: ts')
        | _, _ => none) else none
      | none => none)
    | _ => none
def sSpoil (i j k : Nat) (c : (α : Type) → List α → List α → Option (List α)) (ds : List D) : SemS := fun s => match s.r[i]? with
  | some (some (.lst ts)) => (match spoilL k c ds ts with
    | some us => if i ≠ j ∧ j < s.r.length ∧ ds.all D.sc = true ∧ k < 2 ^ 60 then .next ⟨(s.r.set i (some (.lst us))).set j none, s.p⟩ else .bad
    | none => .bad)
  | _ => .bad
section
variable [CA] {K : PySem.W.Frag} {F G G' H H' : Hp} {σ : L2.St} {s s' : S} {pv pv' : List V} {W : WX} {D : Ends}
theorem Sim.drop {j : Nat} {o : Option V} (h : Sim K F G H σ s pv) : Sim K F G H (σ.set j o) ⟨s.r.set j none, s.p⟩ pv := by
  obtain ⟨ef, eg, A, B, ho, hs, d, n⟩ := h
  exact ⟨ef, eg, A, B, ho.drop, hs, d, n⟩
theorem spoil_at {k : Nat} {c : (α : Type) → List α → List α → Option (List α)} {ds : List BT.D} : ∀ {ts us : List T} {n : Nat} {t : T}, spoilL k c ds ts = some us → ts[n]? = some t →
    ∃ vs qs u, t.kidAt k = some (.lst vs) ∧ c T vs (ds.map .d) = some qs ∧ qs.length ≤ sizeLine ∧ t.kidSet k (.lst qs) = some u ∧ us[n]? = some u
  | [], _, _, _, _, e => by simp at e
  | t :: ts, us, n, t2, h, e => by
    unfold spoilL at h
    split at h
    · rename_i vs ek
      split at h
      · rename_i qs ec
        by_cases cl : qs.length ≤ sizeLine
        · rw [if_pos cl] at h
          split at h
          · rename_i t' ts' e1 e2
            cases h
            cases n with
            | zero =>
              cases e
              exact ⟨vs, qs, t', ek, ec, cl, e1, rfl⟩
            | succ n =>
              have e' : ts[n]? = some t2 := e
              obtain ⟨vs2, qs2, u2, h1, h2, h3, h4, h5⟩ := spoil_at (n := n) e2 e'
              exact ⟨vs2, qs2, u2, h1, h2, h3, h4, by simpa using h5⟩
          · cases h
        · rw [if_neg cl] at h
          cases h
      · cases h
    · cases h
theorem spoil_len {k : Nat} {c : (α : Type) → List α → List α → Option (List α)} {ds : List BT.D} : ∀ {ts us : List T}, spoilL k c ds ts = some us → us.length = ts.length
  | [], us, h => by cases h; rfl
  | t :: ts, us, h => by
    unfold spoilL at h
    split at h
    · split at h
      · split at h
        · split at h
          · rename_i e2
            cases h
            rw [List.length_cons, List.length_cons, spoil_len e2]
          · cases h
        · cases h
      · cases h
    · cases h
theorem sSpoil_le {r : V → List V → Hp → VK → Prop} {c : (α : Type) → List α → List α → Option (List α)} {i j k : Nat} {ds : List BT.D} {ta : TA} (hc : Chg c) (hl : CLen c) (ok : MutOk r c)
    (hta : ∀ {σ : L2.St} {H : Hp} {Q : List V → Hp → Prop}, (∀ ys, VwL K H ys ds → Q ys H) → ta σ H Q) (h : sOf K W (sSpoil i j k c ds) D σ H) :
    tFor (iList K (tVar i)) (gName j) (tDrop (tBM K "list" r (tOp (rIx K) (tVar j) (tC (.int (k : Int)))) ta)) D σ H := by
  obtain ⟨F, G, s, pv, S, q⟩ := h
  unfold sSpoil at q
  split at q
  · rename_i ts er
    split at q
    · rename_i us esp
      by_cases cc : i ≠ j ∧ j < s.r.length ∧ ds.all BT.D.sc = true ∧ k < 2 ^ 60
      · rw [if_pos cc] at q
        obtain ⟨nij, jl, hds, hk⟩ := cc
        have g0 : s.getP i = some (.lst ts) := by unfold BT.S.getP; rw [er]
        obtain ⟨v, C, e0, hr, nn, back⟩ := Sim.modP S g0
        cases hr with
        | @lst a vs _ _ E ha aa ss l =>
          have σl : σ.length = s.r.length := by
            obtain ⟨_, _, _, _, ho, _⟩ := S
            exact ho.len
          have lv := l.len
          have lu := spoil_len esp
          have σ0 : σ.set j (σ[j]'(by omega)) = σ := List.set_getElem_self _
          have nE : ¬ E a := fun z => (ss a z).2 rfl
          refine ⟨.ref a, e0, a, rfl, ⟨vs, .inl (.inl ha)⟩, fun n m σ' H' => m = vs.length - n ∧ n ≤ vs.length ∧ (∃ o, σ' = σ.set j o) ∧ (∀ b, ¬ E b → H' b = H b) ∧ (∀ b, E b → H' b ≠ none) ∧ RpL K G H' pv vs (us.take n ++ ts.drop n) E,
            ⟨vs.length, by simp, Nat.zero_le _, ⟨_, σ0.symm⟩, fun _ _ => rfl, fun b z => nn b (ss b z).1, by simpa using l⟩, fun n m σ' H' w => ?_⟩
          obtain ⟨rfl, hn, ⟨o, rfl⟩, k1, k2, lr⟩ := w
          have ha' : H' a = some (.lst vs) := by rw [k1 a nE]; exact ha
          by_cases hlt : n < vs.length
          · refine .inr ⟨⟨vs, vs[n], .inl (.inl ha'), by simp [hlt]⟩, fun σ3 H3 => n + 1 ≤ vs.length ∧ (∃ o, σ3 = σ.set j o) ∧ (∀ b, ¬ E b → H3 b = H b) ∧ (∀ b, E b → H3 b ≠ none) ∧ RpL K G H3 pv vs (us.take (n + 1) ++ ts.drop (n + 1)) E, fun σ3 H3 w => ⟨vs.length - (n + 1), by omega, rfl, w.1, w.2.1, w.2.2.1, w.2.2.2.1, w.2.2.2.2⟩, fun x H3 y => ?_⟩
            obtain ⟨rfl, y⟩ := y
            have ex : vs[n]? = some x := y vs (.inl (.inl ha'))
            have tl : n < ts.length := by omega
            have et : ts[n]? = some ts[n] := List.getElem?_eq_getElem tl
            obtain ⟨zs, qs, u, f1, f2, f3, f4, f5⟩ := spoil_at esp et
            have el : (us.take n ++ ts.drop n)[n]? = some ts[n] := by
              rw [List.getElem?_append_right (by rw [List.length_take]; omega)]
              rw [List.length_take, show n - min n us.length = 0 by omega]
              simp [tl]
            obtain ⟨w, B1, B2, e1, h1, d1, d2, bk⟩ := lr.at el
            rw [ex] at e1
            cases e1
            obtain ⟨a2, xs2, b2, ws2, rfl, g2, g3, g4, g5, g6, g7, f⟩ := Rp.kid hc h1 f1 f4 f2 hds
            have kl : k < xs2.length := (List.getElem?_eq_some_iff.mp g4).1
            have eat : atI xs2 (k : Int) = some (.ref b2) := by rw [atI_nn (by omega) (by omega)]; simpa using g4
            have body : tyV K "list" (.ref b2) H3 ∧ ta ((σ.set j o).set j (some (.ref a2))) H3 fun ys H4 => r (.ref b2) ys H4 fun _ H5 => n + 1 ≤ vs.length ∧ (∃ o', (σ.set j o).set j (some (.ref a2)) = σ.set j o') ∧ (∀ b, ¬ E b → H5 b = H b) ∧ (∀ b, E b → H5 b ≠ none) ∧ RpL K G H5 pv vs (us.take (n + 1) ++ ts.drop (n + 1)) E := by
              refine ⟨.inl ⟨rfl, _, .inl (.inl g5)⟩, hta fun ys hy => ?_⟩
              obtain ⟨xs3, hu, lu3⟩ := hl zs (ds.map .d) qs ws2 ys g7 (by rw [List.length_map]; exact hy.len) f2
              refine ok b2 ws2 ys xs3 H3 _ g5 hu (by rw [lu3]; exact f3) ?_
              have Eb : E b2 := (d1 b2 g6).1
              refine ⟨hlt, ⟨some (.ref a2), by simp⟩, fun b nb => ?_, fun b eb => ?_, ?_⟩
              · rw [upd_ne (fun w => nb (by rw [w]; exact Eb))]; exact k1 b nb
              · by_cases w : b = b2
                · rw [w, upd_same]; exact fun z => nomatch z
                · rw [upd_ne w]; exact k2 b eb
              · have res := bk G (upd H3 b2 (.lst xs3)) pv u E B1 ⟨Ex.rfl', fun x o z q => by rw [upd_ne (fun w => (d1 b2 g6).2 (by rw [← w]; exact z))]; exact q, fun _ _ z => z⟩ (f H3 ys xs3 hy hu) d1 d2
                have eset : (us.take n ++ ts.drop n).set n u = us.take (n + 1) ++ ts.drop (n + 1) := by
                  have un : n < us.length := by omega
                  have eu : us[n] = u := by
                    have := List.getElem?_eq_getElem un
                    rw [f5] at this
                    exact (Option.some.inj this).symm
                  rw [List.set_append_right _ _ (by rw [List.length_take]; omega), List.length_take, show n - min n us.length = 0 by omega, List.drop_eq_getElem_cons tl]
                  simp only [List.set_cons_zero]
                  rw [List.take_succ, List.getElem?_eq_getElem un, eu]
                  simp
                rw [eset] at res
                exact res
            refine ⟨.ref a2, by rw [List.getElem?_set_self (by simp; omega)], ?_⟩
            have ix : rIx K (.ref a2) (.int (k : Int)) H3 fun y H4 => tyV K "list" y H4 ∧ ta ((σ.set j o).set j (some (.ref a2))) H4 fun ys H5 => r y ys H5 fun _ H6 => n + 1 ≤ vs.length ∧ (∃ o', (σ.set j o).set j (some (.ref a2)) = σ.set j o') ∧ (∀ b, ¬ E b → H6 b = H b) ∧ (∀ b, E b → H6 b ≠ none) ∧ RpL K G H6 pv vs (us.take (n + 1) ++ ts.drop (n + 1)) E := by
              rcases g2 with g2 | g2
              · exact .inl ⟨a2, xs2, (k : Int), _, rfl, rfl, .inl (.inl g2), eat, body⟩
              · exact .inr (.inl ⟨a2, xs2, (k : Int), _, rfl, rfl, .inl (.inl g2), eat, body⟩)
            exact ix
          · have hn2 : n = vs.length := by omega
            subst hn2
            refine .inl ⟨⟨vs, .inl (.inl ha'), Nat.le_refl _⟩, ?_⟩
            rw [List.take_of_length_le (by omega), List.drop_eq_nil_of_le (by omega), List.append_nil] at lr
            have S2 := back H' (.lst us) (fun b nb => k1 b (fun z => nb (ss b z).1)) (fun b cb => by
              by_cases z : E b
              · exact k2 b z
              · rw [k1 b z]; exact nn b cb) (.lst ha' aa ss lr)
            have e4 : s.putP i (.lst us) = ⟨s.r.set i (some (.lst us)), s.p⟩ := by unfold BT.S.putP; rw [er]
            rw [e4] at S2
            exact q _ G H' pv .rfl' (List.prefix_refl _) (Sim.drop (o := o) S2)
      · rw [if_neg cc] at q
        exact q.elim
    · exact q.elim
  · exact q.elim
end
section
variable [CA] {X : Cx} {W : WX} {e k : Expr} {es : List Expr} {fk : Sem} {g : SemA} {x y : Str} {p p1 p2 apos cpos spos pos ipos : Pos}
theorem r_appN (i : Nat) (hk : PE X k (tOf X.K W fk)) (ha : PA X (e :: es) (tOfA X.K W g)) (hN : X.N[i]? = some x := by rfl) (hv : Vis X.env.scope x := by first | exact Or.inl rfl | exact Or.inr (Or.inl rfl) | exact Or.inr (Or.inr rfl)) (hd : (x == ("__debug__" : Str)) = false := by decide)
    (hcd : (x == ("__classdict__" : Str)) = false := by decide) (hs : PlainIx k := by exact fun _ _ => rfl) (hbase : attributeBase (.Subscript (.Name x p) k spos) "append" X.env (eval (.Subscript (.Name x p) k spos) X.env) = eval (.Subscript (.Name x p) k spos) X.env := by rfl)
    (hfew : ((backTo cpos (starEach (e :: es) X.env)).all (fun x => !x.1) && (backToKw cpos (keywordEach [] X.env)).all (fun x => x.1.isSome) && decide ((e :: es).length + ([] : List Keyword).length + (if ([] : List Keyword).isEmpty then 0 else 1) < 30)) = true := by rfl)
    (hline : (apos.endLine == cpos.line) = true := by rfl) (hse : starEach (e :: es) X.env = (false, eval e X.env) :: starEach es X.env := by rfl) (hplain : (backTo cpos (starEach es X.env)).any (·.1) = false := by rfl) :
    PE X (.Call (.Attribute (.Subscript (.Name x p) k spos) "append" apos) (e :: es) [] cpos) (tOf X.K W (sMutN i fk cApp g)) :=
  (pe_bm PySem.F.plainAttrs_list PySem.F.slot_list_append PySem.F.type_list_append mt_append (pe_ix ix_seq (pe_var hN hv hd hcd) hk hs) ha hbase hfew hline hse hplain).le fun _ _ _ h => sMutN_le chg_app len_app mok_app id h
theorem r_revN (i : Nat) (hk : PE X k (tOf X.K W fk)) (hN : X.N[i]? = some x := by rfl) (hv : Vis X.env.scope x := by first | exact Or.inl rfl | exact Or.inr (Or.inl rfl) | exact Or.inr (Or.inr rfl)) (hd : (x == ("__debug__" : Str)) = false := by decide)
    (hcd : (x == ("__classdict__" : Str)) = false := by decide) (hs : PlainIx k := by exact fun _ _ => rfl) (hbase : attributeBase (.Subscript (.Name x p) k spos) "reverse" X.env (eval (.Subscript (.Name x p) k spos) X.env) = eval (.Subscript (.Name x p) k spos) X.env := by rfl)
    (hline : (apos.endLine == cpos.line) = true := by rfl) : PE X (.Call (.Attribute (.Subscript (.Name x p) k spos) "reverse" apos) [] [] cpos) (tOf X.K W (sMutN i fk cRev sAn)) :=
  (pe_bm0 PySem.F.plainAttrs_list PySem.F.slot_list_reverse PySem.F.type_list_reverse mt_reverse (pe_ix ix_seq (pe_var hN hv hd hcd) hk hs) hbase hline).le fun _ _ _ h => sMutN_le (ta := tNil) chg_rev len_rev mok_rev sAn_le h
theorem r_clrN (i : Nat) (hk : PE X k (tOf X.K W fk)) (hN : X.N[i]? = some x := by rfl) (hv : Vis X.env.scope x := by first | exact Or.inl rfl | exact Or.inr (Or.inl rfl) | exact Or.inr (Or.inr rfl)) (hd : (x == ("__debug__" : Str)) = false := by decide)
    (hcd : (x == ("__classdict__" : Str)) = false := by decide) (hs : PlainIx k := by exact fun _ _ => rfl) (hbase : attributeBase (.Subscript (.Name x p) k spos) "clear" X.env (eval (.Subscript (.Name x p) k spos) X.env) = eval (.Subscript (.Name x p) k spos) X.env := by rfl)
    (hline : (apos.endLine == cpos.line) = true := by rfl) : PE X (.Call (.Attribute (.Subscript (.Name x p) k spos) "clear" apos) [] [] cpos) (tOf X.K W (sMutN i fk cClr sAn)) :=
  (pe_bm0 PySem.F.plainAttrs_list PySem.F.slot_list_clear PySem.F.type_list_clear mt_clear (pe_ix ix_seq (pe_var hN hv hd hcd) hk hs) hbase hline).le fun _ _ _ h => sMutN_le (ta := tNil) chg_clr len_clr mok_clr sAn_le h
/-- for y in x: y[k].append(a number) -/
theorem r_spoilApp (i j k : Nat) (n : Int) (hp : PassesOwn (model X.prog X.w) X.A X.env X.xe) (hc : X.calm = true) (hN : X.N.Nodup) (hi : X.N[i]? = some x := by rfl) (hj : X.N[j]? = some y := by rfl) (hv : Vis X.env.scope x := by first | exact Or.inl rfl | exact Or.inr (Or.inl rfl) | exact Or.inr (Or.inr rfl)) (hw : Vis X.env.scope y := by first | exact Or.inl rfl | exact Or.inr (Or.inl rfl) | exact Or.inr (Or.inr rfl))
    (hl : Loc X.env.scope y := by first | exact Or.inl rfl | exact Or.inr rfl) (hf : X.fn y = true ∨ X.env.scope.names.lookup y = some .local := by first | exact .inl rfl | exact .inr rfl) (hd : (x == ("__debug__" : Str)) = false := by decide) (hcd : (x == ("__classdict__" : Str)) = false := by decide) (hd2 : (y == ("__debug__" : Str)) = false := by decide) (hcd2 : (y == ("__classdict__" : Str)) = false := by decide)
    {kk kn : Nat} {kz : Int} {q1 q2 q3 : Pos} (hbase : attributeBase (.Subscript (.Name y p1) (.Constant (.int kz) kk q1) spos) "append" X.env (eval (.Subscript (.Name y p1) (.Constant (.int kz) kk q1) spos) X.env) = eval (.Subscript (.Name y p1) (.Constant (.int kz) kk q1) spos) X.env := by rfl)
    (hfew : ((backTo cpos (starEach [.Constant (.int n) kn q2] X.env)).all (fun x => !x.1) && (backToKw cpos (keywordEach [] X.env)).all (fun x => x.1.isSome) && decide (([.Constant (.int n) kn q2] : List Expr).length + ([] : List Keyword).length + (if ([] : List Keyword).isEmpty then 0 else 1) < 30)) = true := by rfl)
    (hline : (apos.endLine == cpos.line) = true := by rfl) (hse : starEach [.Constant (.int n) kn q2] X.env = (false, eval (.Constant (.int n) kn q2) X.env) :: starEach [] X.env := by rfl) (hplain : (backTo cpos (starEach [] X.env)).any (·.1) = false := by rfl) (hsw : swapsWith (.Call (.Attribute (.Subscript (.Name y p1) (.Constant (.int kz) kk q1) spos) "append" apos) [.Constant (.int n) kn q2] [] cpos) none q3.line X.env = pure false := by rfl)
    (hkz : kz = (k : Int) := by rfl) (hfs : ∀ z, foldedSetIterable (.Name x p) X.env z = pure z := by intro _; rfl) :
    PS X (.For (.Name y p2) (.Name x p) [.Expr (.Call (.Attribute (.Subscript (.Name y p1) (.Constant (.int kz) kk q1) spos) "append" apos) [.Constant (.int n) kn q2] [] cpos) q3] [] pos) (sOf X.K W (sSpoil i j k cApp [.int n])) :=
  by
  subst hkz
  exact (ps_for hp hc (pi_list (pe_var hi hv hd hcd)) (pg_name hN hj hl hf) (pss_one (ps_expr (pe_bm PySem.F.plainAttrs_list PySem.F.slot_list_append PySem.F.type_list_append mt_append (pe_ix ix_seq (pe_var hj hw hd2 hcd2) pe_int (fun _ _ => rfl)) (pa_cons pe_int pa_nil hse) hbase hfew hline hse hplain) hsw)) hfs).le
    fun _ _ _ h => sSpoil_le chg_app len_app mok_app (fun q => q _ (.cons (.int _) .nil)) h
/-- for y in x: y[k].clear() -/
theorem r_spoilClr (i j k : Nat) (hp : PassesOwn (model X.prog X.w) X.A X.env X.xe) (hc : X.calm = true) (hN : X.N.Nodup) (hi : X.N[i]? = some x := by rfl) (hj : X.N[j]? = some y := by rfl) (hv : Vis X.env.scope x := by first | exact Or.inl rfl | exact Or.inr (Or.inl rfl) | exact Or.inr (Or.inr rfl)) (hw : Vis X.env.scope y := by first | exact Or.inl rfl | exact Or.inr (Or.inl rfl) | exact Or.inr (Or.inr rfl))
    (hl : Loc X.env.scope y := by first | exact Or.inl rfl | exact Or.inr rfl) (hf : X.fn y = true ∨ X.env.scope.names.lookup y = some .local := by first | exact .inl rfl | exact .inr rfl) (hd : (x == ("__debug__" : Str)) = false := by decide) (hcd : (x == ("__classdict__" : Str)) = false := by decide) (hd2 : (y == ("__debug__" : Str)) = false := by decide) (hcd2 : (y == ("__classdict__" : Str)) = false := by decide)
    {kk : Nat} {kz : Int} {q1 q3 : Pos} (hbase : attributeBase (.Subscript (.Name y p1) (.Constant (.int kz) kk q1) spos) "clear" X.env (eval (.Subscript (.Name y p1) (.Constant (.int kz) kk q1) spos) X.env) = eval (.Subscript (.Name y p1) (.Constant (.int kz) kk q1) spos) X.env := by rfl)
    (hline : (apos.endLine == cpos.line) = true := by rfl) (hsw : swapsWith (.Call (.Attribute (.Subscript (.Name y p1) (.Constant (.int kz) kk q1) spos) "clear" apos) [] [] cpos) none q3.line X.env = pure false := by rfl)
    (hkz : kz = (k : Int) := by rfl) (hfs : ∀ z, foldedSetIterable (.Name x p) X.env z = pure z := by intro _; rfl) :
    PS X (.For (.Name y p2) (.Name x p) [.Expr (.Call (.Attribute (.Subscript (.Name y p1) (.Constant (.int kz) kk q1) spos) "clear" apos) [] [] cpos) q3] [] pos) (sOf X.K W (sSpoil i j k cClr [])) := by
  subst hkz
  exact (ps_for hp hc (pi_list (pe_var hi hv hd hcd)) (pg_name hN hj hl hf) (pss_one (ps_expr (pe_bm0 PySem.F.plainAttrs_list PySem.F.slot_list_clear PySem.F.type_list_clear mt_clear (pe_ix ix_seq (pe_var hj hw hd2 hcd2) pe_int (fun _ _ => rfl)) hbase hline) hsw)) hfs).le
    fun _ _ _ h => sSpoil_le (ta := tNil) chg_clr len_clr mok_clr (fun q => q _ .nil) h
end
section
variable {s : S} {i j k : Nat} {t u : T} {ts : List T}
@[simp] theorem kidAt_l : (T.lst ts).kidAt k = ts[k]? := id rfl
@[simp] theorem kidAt_t : (T.tup ts).kidAt k = ts[k]? := id rfl
@[simp] theorem kidSet_l : (T.lst ts).kidSet k u = some (.lst (ts.set k u)) := id rfl
@[simp] theorem kidSet_t : (T.tup ts).kidSet k u = some (.tup (ts.set k u)) := id rfl
@[simp] theorem kidLen_l : (T.lst ts).kidLen = ts.length := id rfl
@[simp] theorem kidLen_t : (T.tup ts).kidLen = ts.length := id rfl
@[simp] theorem spoil_nil {c : (α : Type) → List α → List α → Option (List α)} {ds : List D} : spoilL k c ds [] = some [] := id rfl
@[simp] theorem sMutN_eq {fk : Sem} {c : (α : Type) → List α → List α → Option (List α)} {fs : SemA} : sMutN i fk c fs s = match s.getP i with
  | some t => pk fk s fun x => match x with
    | .int j => (match ixN t.kidLen j with
      | some k => (match t.kidAt k with
        | some (.lst ts) => pkA fs s fun ds => if ds.all D.sc = true then (match c T ts (ds.map .d) with
          | some qs => if qs.length ≤ sizeLine then (match t.kidSet k (.lst qs) with
            | some u => .ok (.d .non) (s.putP i u)
            | none => .bad) else .bad
          | none => .bad) else .bad
        | _ => .bad)
      | none => .bad)
    | _ => .bad
  | none => .bad := id rfl
@[simp] theorem sSpoil_eq {c : (α : Type) → List α → List α → Option (List α)} {ds : List D} : sSpoil i j k c ds s = match s.r[i]? with
  | some (some (.lst ts)) => (match spoilL k c ds ts with
    | some us => if i ≠ j ∧ j < s.r.length ∧ ds.all D.sc = true ∧ k < 2 ^ 60 then .next ⟨(s.r.set i (some (.lst us))).set j none, s.p⟩ else .bad
    | none => .bad)
  | _ => .bad := id rfl
end
end BT
/-! EX: in, of deep things; slices of things that stay. -/
namespace BT
open PySem PySem.Spec PyProof.Rows L2
theorem room65 {k : Nat} {A : Around} (r : Room k A) : A.units + 65 < cLine := by have := r.un; omega
def gInF (a b : D) : Option Rv := match b with
  | .lst xs => if a.flat 60 && (D.lst xs).flat 60 then some (.one (.bl (xs.any fun z => z.deq a))) else none
  | _ => none
def gNinF (a b : D) : Option Rv := match b with
  | .lst xs => if a.flat 60 && (D.lst xs).flat 60 then some (.one (.bl (!xs.any fun z => z.deq a))) else none
  | _ => none
def sCutO (fa : Sem) (lo hi : Option Sem) : Sem := fun s => (fa s).bind fun t s1 => pkO lo s1 fun l => pkO hi s1 fun h => match t.dat [] with
  | .lst xs => .ok (.lst ((cut xs l h).map .d)) s1
  | _ => .bad
section
variable [CA] {K : PySem.W.Frag} {F G G' H H' : Hp} {σ : L2.St} {s s' : S} {pv pv' : List V} {W : WX}
theorem any_py {a : D} (ha : a.flat 60 = true) : ∀ (xs : List D) (n : Nat), xs.all (D.flat n) = true → ((D.pyL xs).any fun z => PyData.eqv z a.py) = xs.any fun z => z.deq a
  | [], _, _ => rfl
  | x :: xs, n, c => by
    rw [List.all_cons, Bool.and_eq_true] at c
    show (PyData.eqv x.py a.py || (D.pyL xs).any fun z => PyData.eqv z a.py) = _
    rw [D.py_eq x a n 60 c.1 ha, any_py ha xs n c.2, List.any_cons]
theorem o_inF : Op2 K (L2.rInD K) gInF := by
  intro G H x y a b R Q g va vb e k
  unfold gInF at e
  split at e
  · rename_i xs
    split at e
    · rename_i c
      cases e
      refine ⟨a.py, D.pyL xs, (va.ex g).dp (and1 c), (vb.ex g).dp (and2 c), D.shp (and1 c), D.shp (and2 c), ?_⟩
      rw [any_py (and1 c) xs 59 (and2 c)]
      exact rvB k
    · cases e
  · cases e
theorem o_ninF : Op2 K (L2.rNotInD K) gNinF := by
  intro G H x y a b R Q g va vb e k
  unfold gNinF at e
  split at e
  · rename_i xs
    split at e
    · rename_i c
      cases e
      refine ⟨a.py, D.pyL xs, (va.ex g).dp (and1 c), (vb.ex g).dp (and2 c), D.shp (and1 c), D.shp (and2 c), ?_⟩
      rw [any_py (and1 c) xs 59 (and2 c)]
      exact rvB k
    · cases e
  · cases e
theorem sCutO_le {fa : Sem} {lo hi : Option Sem} {Q : VK} (h : tOf K W (sCutO fa lo hi) σ H Q) : tSl (rSlL K) (tOf K W fa) (tOfO K W lo) (tOfO K W hi) σ H Q := by
  obtain ⟨F, G, s, pv, S, q⟩ := h
  refine ⟨F, G, s, pv, S, (bind_use q).imp (fun t s1 q1 => ?_) fun _ _ z => z⟩
  intro v G1 H1 pv1 po px S1
  have S2 : Sim K F G1 H1 σ s1 pv1 := S1.pop
  have q1' : (pkO lo s1 fun l => pkO hi s1 fun h => match t.dat [] with
    | .lst xs => .ok (.lst ((cut xs l h).map .d)) s1
    | _ => .bad : Res T).go (KOk K F G1 pv1 σ Q) (KEx K F G1 pv1 σ W) := q1.imp (fun t2 s2 z => fun v' G5 H5 pv5 po5 px5 S5 => z v' G5 H5 pv5 (po.tr po5) (px.trans px5) S5) (fun x2 s2 z => fun cls d G5 H5 pv5 po5 px5 S5 r => z cls d G5 H5 pv5 (po.tr po5) (px.trans px5) S5 r)
  refine pkO_use S2 q1' fun l H2 e2 S3 q2 => pkO_use S3 q2 fun u H3 e3 S4 q3 => ?_
  split at q3
  · rename_i xs ex
    have S5 := S1.grow (e2.tr e3)
    obtain ⟨G4, po4, S6⟩ := Sim.freeze (r := s1.r) (p := s1.p) S5
    rw [ex] at S6
    have hv : Vw K G4 v (.lst xs) := by
      obtain ⟨ef, eg, A, B, ho, _⟩ := S6
      cases ho with
      | cons hh _ _ _ => cases hh with
        | d hv => exact hv
    have S7 : Sim K F G4 H3 σ s1 pv1 := S6.pop
    obtain ⟨a1, vs, rfl, h1, l1⟩ := hv.lst_inv
    have q4 : (Rv.fin (.lst (cut xs l u)) s1).go (KOk K F G4 pv1 σ Q) (KEx K F G4 pv1 σ W) := fun v' G5 H5 pv5 po5 px5 S8 => q3 v' G5 H5 pv5 (po4.tr po5) px5 S8
    exact ⟨a1, vs, rfl, (ex_x S7.eg h1).l, fun p hp => fin_use S7 q4 _ p (l1.cut l u) hp⟩
  · exact q3.elim
end
section
variable {s : S}
@[simp] theorem gInF_l {a : D} {xs : List D} : gInF a (.lst xs) = if a.flat 60 && (D.lst xs).flat 60 then some (.one (.bl (xs.any fun z => z.deq a))) else none := id rfl
@[simp] theorem gNinF_l {a : D} {xs : List D} : gNinF a (.lst xs) = if a.flat 60 && (D.lst xs).flat 60 then some (.one (.bl (!xs.any fun z => z.deq a))) else none := id rfl
@[simp] theorem sCutO_eq {fa : Sem} {lo hi : Option Sem} : sCutO fa lo hi s = (fa s).bind fun t s1 => pkO lo s1 fun l => pkO hi s1 fun h => match t.dat [] with
  | .lst xs => .ok (.lst ((cut xs l h).map .d)) s1
  | _ => .bad := id rfl
end
section
variable [CA] {X : Cx} {W : WX} {e : Expr} {f : Sem} {lo hi : Option Expr} {flo fhi : Option Sem} {p2 pos : Pos}
theorem r_cutO (he : PE X e (tOf X.K W f)) (hl : PO X lo (tOfO X.K W flo)) (hu : PO X hi (tOfO X.K W fhi)) : PE X (.Subscript e (.Slice lo hi none p2) pos) (tOf X.K W (sCutO f flo fhi)) := (pe_slice sl_list he hl hu).le fun _ _ _ h => sCutO_le h
end
end BT
/-! EY: [v for k, v in self.f[i].items() if k not in o], self an alias (under construction). -/
namespace BT
open PySem PySem.Spec PyProof.Rows L2
open CA (ca ok)
def sItemsNotA (f : String) : Sem := fun s => match s.r with
  | [some (.al k), some (.d (.int i)), some (.d (.dic ko)), _, _] => (match s.p[k]? with
    | some (.obj C ts) => if isExcN C = false ∧ (fieldsOf C).contains f = true then (match ts.lookup f with
      | some (.d (.tup ds)) => (match atI ds i with
        | some (.dic kvs) => if kvs.all (fun kv => kv.2.sc) = true ∧ kvs.length < sizeLine then .ok (.lst (((kvs.filter fun kv => (dlk ko kv.1).isNone).map (·.2)).map .d)) s else .bad
        | _ => .bad)
      | _ => .bad) else .bad
    | _ => .bad)
  | _ => .bad
section
variable [CA] {K : PySem.W.Frag} {F G G' H H' : Hp} {σ : L2.St} {s s' : S} {pv pv' : List V} {W : WX}
theorem sItemsNotA_le {f : String} {Q : VK} (cf : Cfs K) (na : NoAts K) (h : tOf K W (sItemsNotA f) σ H Q) :
    tLockE (tLc (iItems (tOp (rIxT K) (tFld K (tVar 0) (sS f)) (tVar 1))) (gTup K 2 (gCons (gName 3) (gCons (gName 4) gNil))) (tB (tDNotIn (tVar 3) (tVar 2))) (tVar 4) [3, 4]) σ H Q := by
  obtain ⟨F, G, s, pv, S, q⟩ := h
  unfold sItemsNotA at q
  split at q
  · rename_i k0 i ko o3 o4 er
    split at q
    · rename_i C ts ep
      split at q
      · rename_i c
        split at q
        · rename_i ds el
          split at q
          · rename_i kvs ea
            by_cases cs : kvs.all (fun kv => kv.2.sc) = true ∧ kvs.length < sizeLine
            · rw [if_pos cs] at q
              -- what lies where
              have facts : ∃ v0 v1 v2 x3 x4, σ = [some v0, some v1, some v2, x3, x4] ∧ pv[k0]? = some v0 ∧ Vw K H v1 (.int i) ∧ Vw K H v2 (.dic ko) := by
                obtain ⟨ef, eg, A, B, ho, _⟩ := S
                rw [er] at ho
                cases ho with
                | @cons v0 σ1 _ _ _ _ _ h0 l0 _ _ =>
                  cases l0 with
                  | @cons v1 σ2 _ _ _ _ _ h1 l1 _ _ =>
                    cases l1 with
                    | @cons v2 σ3 _ _ _ _ _ h2 l2 _ _ =>
                      have hl : σ3.length = 2 := l2.len
                      have e3 : ∃ x3 x4, σ3 = [x3, x4] := by
                        match σ3, hl with
                        | [x3, x4], _ => exact ⟨x3, x4, rfl⟩
                      obtain ⟨x3, x4, rfl⟩ := e3
                      refine ⟨v0, v1, v2, x3, x4, rfl, ?_, ?_, ?_⟩
                      · cases h0 with
                        | al e => exact e
                      · cases h1 with
                        | d hv => exact Vw.ex eg hv
                      · cases h2 with
                        | d hv => exact Vw.ex eg hv
              obtain ⟨v0, v1, v2, x3, x4, rfl, w0, w1, w2⟩ := facts
              obtain ⟨v9, Aa, A1, ev, _, hu, _, _, _, _, _⟩ := Sim.root (σa := []) (ra := []) (r := s.r) (p := s.p) (h := S) rfl ep
              have eg := S.eg
              rw [w0] at ev
              cases ev
              have main : ∃ a dx fvs fv, v0 = .ref a ∧ ok C ∧ H a = some (.ins (ca C) dx fvs) ∧ fvs.lookup (sS f) = some fv ∧ Vw K H fv (.tup ds) := by
                cases hu with
                | obj o h h2 a1 a2 nn ss l =>
                  obtain ⟨w, A3, hw, hx, _⟩ := l.look el
                  cases hx with
                  | d hx => exact ⟨_, _, _, _, rfl, o, h, hw, Vw.ex eg hx⟩
              obtain ⟨a, dx, fvs, fv, rfl, okC, ha, ef, wf⟩ := main
              obtain ⟨p, xs, rfl, hp, lx⟩ := wf.tup_inv
              obtain ⟨dv, ed, wd⟩ := lx.atI ea
              obtain ⟨d, vs, rfl, hd, wk⟩ := wd.dic_inv
              obtain ⟨d2, vs2, rfl, hd2, wk2⟩ := w2.dic_inv
              have e1 : v1 = .int i := vint w1
              subst e1
              have hlen := wk.len
              have nad : a ≠ d := fun z => by rw [z, hd] at ha; cases ha
              refine ⟨d, .dK vs, hd, trivial, fun od => ?_⟩
              have Hl : ∀ b o, b ≠ d → H b = some o → upd H d (.frz od (.dK vs)) b = some o := fun b o hb e => by rw [upd_ne hb]; exact e
              have hp' : SqT K (upd H d (.frz od (.dK vs))) p xs := by
                rcases hp with (hp | ⟨o, hp⟩) | hp
                · exact .inl (.inl (Hl p _ (fun z => by rw [z, hd] at hp; cases hp) hp))
                · exact .inl (.inr ⟨o, Hl p _ (fun z => by rw [z, hd] at hp; cases hp) hp⟩)
                · exact .inr hp
              have hrd : Rd (upd H d (.frz od (.dK vs))) d2 (.dK vs2) := by
                by_cases z : d2 = d
                · subst z
                  rw [hd] at hd2
                  cases hd2
                  exact .inr ⟨od, upd_same⟩
                · exact .inl (Hl d2 _ z hd2)
              refine ⟨_, rfl, a, ca C, dx, fvs, _, rfl, Hl a _ nad ha, iobj_cls (cf.o C okC c.1), noat_of (na C okC) c.2, ef, _, rfl, p, xs, i, _, rfl, rfl, hp', ed, d, od, vs, rfl, upd_same, fun D1 hD => ?_⟩
              generalize hH1 : upd H d (.frz od (.dK vs)) = H1 at *
              have nD : ∀ b o, H1 b = some o → b ≠ D1 := fun b o e z => by rw [z, hD] at e; cases e
              let res : Nat → List V := fun i => ((vs.take i).filter fun kv => (valV vs2 kv.1).isNone).map (·.2)
              refine ⟨fun i m H2 => m = vs.length - i ∧ i ≤ vs.length ∧ Ex H1 H2 ∧ H2 D1 = some (.lst (res i)), ⟨vs.length, by simp, Nat.zero_le _, fun b o e => by rw [upd_ne (nD b o e)]; exact e, by simp [res, upd_same]⟩, fun i m H2 w => ?_⟩
              obtain ⟨rfl, hi, ex, hr⟩ := w
              have hdf : H2 d = some (.frz od (.dK vs)) := ex d _ (by rw [← hH1]; exact upd_same)
              by_cases hlt : i < vs.length
              · refine .inr ⟨⟨hdf, hlt⟩, fun H3 => i + 1 ≤ vs.length ∧ Ex H1 H3 ∧ H3 D1 = some (.lst (res (i + 1))), fun H3 w => ⟨vs.length - (i + 1), by omega, rfl, w.1, w.2.1, w.2.2⟩, fun x H3 y => ?_⟩
                obtain ⟨T1, k, v, ev, rfl, hT, rfl⟩ := y
                have nT : ∀ b o, H2 b = some o → upd H2 T1 (.tup [kV k, v]) b = some o := fun b o e => by rw [upd_ne (fun z => by rw [z, hT] at e; cases e)]; exact e
                have ex3 : Ex H1 (upd H2 T1 (.tup [kV k, v])) := fun b o e => nT b o (ex b o e)
                have etk : vs.take (i + 1) = vs.take i ++ [(k, v)] := by
                  rw [List.take_succ, ev]; rfl
                refine ⟨T1, [kV k, v], rfl, .inl (.inl upd_same), rfl, kV k, [v], rfl, v, [], rfl, rfl, rfl, ?_⟩
                refine ⟨kV k, rfl, .ref d2, rfl, d2, valV vs2 k, rfl, .inl ⟨vs2, k, ex_rd ex3 hrd, rfl, rfl⟩, _, rfl, ?_⟩
                have hr3 := nT D1 _ hr
                cases en : valV vs2 k with
                | none =>
                  refine ⟨v, rfl, res i, hr3, ?_, hlt, fun b o e => ?_, ?_⟩
                  · have : (res i).length ≤ vs.length := by
                      simp only [res, List.length_map]
                      exact Nat.le_trans (List.length_filter_le _ _) (by simp; omega)
                    rw [hlen] at this
                    exact Nat.lt_of_le_of_lt this cs.2
                  · rw [upd_ne (nD b o e)]; exact ex3 b o e
                  · rw [upd_same]
                    simp only [res, etk, List.filter_append, List.map_append]
                    simp [en]
                | some z =>
                  refine ⟨hlt, ex3, ?_⟩
                  rw [hr3]
                  simp only [res, etk, List.filter_append, List.map_append]
                  simp [en]
              · have hi2 : i = vs.length := by omega
                subst hi2
                refine .inl ⟨⟨hdf, Nat.le_refl _⟩, hdf, ?_⟩
                -- the lock is taken off
                have hDd : D1 ≠ d := fun z => by rw [z, hdf] at hr; cases hr
                have hHD : H D1 = none := by
                  rw [← hH1, upd_ne hDd] at hD
                  exact hD
                let Hx : Hp := fun b => if b = D1 then none else upd H2 d (.dK vs) b
                have exx : Ex H Hx := fun b o e => by
                  have nb : b ≠ D1 := fun z => by rw [z, hHD] at e; cases e
                  show (if b = D1 then none else upd H2 d (.dK vs) b) = some o
                  rw [if_neg nb]
                  by_cases z : b = d
                  · subst z
                    rw [hd] at e
                    cases e
                    exact upd_same
                  · rw [upd_ne z]
                    exact ex b o (by rw [← hH1, upd_ne z]; exact e)
                have q3 : (Rv.fin (.lst ((kvs.filter fun kv => (dlk ko kv.1).isNone).map (·.2))) s).go (KOk K F G pv [some (.ref a), some (.int i), some (.ref d2), x3, x4] Q) (KEx K F G pv [some (.ref a), some (.int i), some (.ref d2), x3, x4] W) := q
                have rv := fin_use (S.grow exx) q3
                have hsame : ∀ k : Key, (valV vs2 k).isNone = (dlk ko k).isNone := by
                  intro k
                  rcases wk2.look k with ⟨z1, z2⟩ | ⟨dd, vv, z1, z2, _⟩ <;> rw [z1, z2] <;> rfl
                have hvw : VwL K H (((vs.filter fun kv => (valV vs2 kv.1).isNone)).map (·.2)) ((kvs.filter fun kv => (dlk ko kv.1).isNone).map (·.2)) := by
                  simp only [hsame]
                  exact wk.filt (fun k => (dlk ko k).isNone)
                have hall : ((kvs.filter fun kv => (dlk ko kv.1).isNone).map (·.2)).all D.sc = true := by
                  rw [List.all_map, List.all_eq_true]
                  intro kv hkv
                  exact List.all_eq_true.mp cs.1 kv (List.mem_filter.mp hkv).1
                have fin := rv _ D1 (hvw.sc hall) (by show (if D1 = D1 then none else _) = none; rw [if_pos rfl])
                have eH : upd Hx D1 (.lst (((vs.filter fun kv => (valV vs2 kv.1).isNone)).map (·.2))) = upd H2 d (.dK vs) := by
                  funext b
                  by_cases z : b = D1
                  · subst z
                    rw [upd_same, upd_ne hDd, hr]
                    simp [res]
                  · rw [upd_ne z]
                    show (if b = D1 then none else upd H2 d (.dK vs) b) = _
                    rw [if_neg z]
                rw [eH] at fin
                exact fin
            · rw [if_neg cs] at q
              exact q.elim
          · exact q.elim
        · exact q.elim
      · exact q.elim
    · exact q.elim
  · exact q.elim
end
@[simp] theorem sItemsNotA_eq {f : String} {s : S} : sItemsNotA f s = match s.r with
  | [some (.al k), some (.d (.int i)), some (.d (.dic ko)), _, _] => (match s.p[k]? with
    | some (.obj C ts) => if isExcN C = false ∧ (fieldsOf C).contains f = true then (match ts.lookup f with
      | some (.d (.tup ds)) => (match atI ds i with
        | some (.dic kvs) => if kvs.all (fun kv => kv.2.sc) = true ∧ kvs.length < sizeLine then .ok (.lst (((kvs.filter fun kv => (dlk ko kv.1).isNone).map (·.2)).map .d)) s else .bad
        | _ => .bad)
      | _ => .bad) else .bad
    | _ => .bad)
  | _ => .bad := id rfl
end BT
/-! EZ: an empty dict beside ints: ==, in. -/
namespace BT
open PySem PySem.Spec PyProof.Rows L2
theorem int_eq_dict (b : Int) (u : Tok) (l : Addr) (o : Obj) (es : Array DictEntry) (ep : Nat) :
    Meets (Builtin.«int.__eq__» ⟨[.int b u, .ref l], []⟩) (fun _ R s => s.heap.get? l = some o ∧ o.data = .dict es ep ∧ R (.ok (.ret .notImplemented)) s) :=
  .of_wp fun prog w A R s h => by
    obtain ⟨hp, g, d, tk, os⟩ := s
    obtain ⟨hl, hd, h⟩ := h
    obtain ⟨cls, dd, data, sl⟩ := o
    cases hd
    wp_walk using wpAny_loadPart' hl, wpAny_load hl
    exact ⟨_, rfl, h⟩
section
variable {A : Around} {s : Shared} {p : Addr}
theorem int_dict (b : Int) (u : Tok) {o : Obj} {es : Array DictEntry} {ep : Nat} (ho : s.heap.get? p = some o) (hc : s.TypeIs (.ref p) "dict") (hd : o.data = .dict es ep) (hu : A.units < cLine) : SeqAt.RcAt A s (.int b u) (.ref p) false := fun prog w E Q h =>
  SeqAt.rc_eq_decline_or (k := false) (typeIs_int s b u) hc (by decide) PySem.F.sub_dict_int PySem.F.slot_int_eq PySem.F.slot_dict_eq_refl
    (fun _ hq => call_meets PySem.F.slot_int_eq (typeIs_int s b u) PySem.F.entry_int_eq (PySem.F.args_int_eq_2 _ _) (int_eq_dict b u p o es ep) ⟨ho, hd, hq⟩)
    (fun Q' hq => by
      refine wpAny_call_entry PySem.F.slot_dict_eq_refl hc PySem.F.entry_dict_eq ?_ (PySem.F.args_dict_eq_2 _ _)
      show wpAny _ _ (Builtin.Dict.dictSlotArgs "__eq__" ⟨[.ref p, .int b u], []⟩ >>= _) _ _ s
      refine wpAny_bind ?_
      unfold Builtin.Dict.dictSlotArgs
      refine wpAny_bind (wpAny_notOrdered_dict hc ?_)
      show wpAny _ _ (pure (Value.ref p, Value.int b u)) _ _ s
      refine wpAny_pure ?_
      refine wpAny_bind (wpAny_isInstance (T := "int") (typeIs_int s b u) PySem.F.sub_int_dict ?_)
      simp only [Bool.not_false, if_true]
      exact wpAny_bind (wpAny_rule (wpAny_pure ⟨_, rfl, hq⟩)))
    (fun _ hq => wpAny_of_eq (rfl : isSame (.int b u) (.ref p) = pure false) hq) (.inr hu) h
theorem int_dict_at (b : Int) (u : Tok) {o : Obj} {es : Array DictEntry} {ep : Nat} (ho : s.heap.get? p = some o) (hc : s.TypeIs (.ref p) "dict") (hd : o.data = .dict es ep) (hu : A.units < cLine) : SeqAt.EqAt A s (.int b u) (.ref p) false := fun prog w E Q h => by
  unfold eqBool
  refine wpAny_holding ?_
  refine wpAny_ite_split (fun hab => absurd (eq_of_beq hab) nofun) (fun _ => ?_)
  exact wpAny_bind (int_dict b u ho hc hd hu prog w E _ (wpAny_truthy_bool h))
end
def isI : D → Bool
  | .int _ => true
  | _ => false
def gInE (a b : D) : Option Rv := match a, b with
  | .dic [], .lst xs => if xs.all isI = true then some (.one (.bl false)) else none
  | a, b => gInF a b
def gEqE (a b : D) : Option Rv := match a, b with
  | .int _, .dic [] => some (.one (.bl false))
  | a, b => gEqX a b
def rInE [CA] (K : PySem.W.Frag) : R2 := fun x y H Q => L2.rInD K x y H Q ∨ ∃ p l vs xs, x = .ref p ∧ H p = some (.dK []) ∧ y = .ref l ∧ SqX K H l vs ∧ VwL K H vs xs ∧ xs.all isI = true ∧ Q (.bl false) H
def rEqE [CA] (K : PySem.W.Frag) : R2 := fun x y H Q => rEqX K x y H Q ∨ ∃ p i, x = .int i ∧ y = .ref p ∧ H p = some (.dK []) ∧ Q (.bl false) H
section
variable [CA] {X : Cx}
theorem ints_items {K : PySem.W.Frag} {H : Hp} : ∀ {vs : List V} {xs : List D} {us : List Value}, VwL K H vs xs → Vals vs us → xs.all isI = true → ∀ w ∈ us, ∃ b u, w = Value.int b u
  | _, _, _, .nil, .nil, _, w, hw => by cases hw
  | _, _, _, @VwL.cons _ _ _ _ _ d ds h l, .cons r rs, ha, w, hw => by
    rw [List.all_cons, Bool.and_eq_true] at ha
    rcases List.mem_cons.mp hw with rfl | hw
    · cases d with
      | int i =>
        cases h
        obtain ⟨t, rfl⟩ := r
        exact ⟨i, t, rfl⟩
      | _ => cases ha.1
    · exact ints_items l rs ha.2 w hw
theorem op_inE (hu : X.A.units + 65 < cLine) : OpR X (compareOp .In) (rInE X.K) := by
  intro pins s σ H x y v u Q I rx ry h
  rcases h with h | ⟨p, l, vs, xs, rfl, hp, rfl, hl, l1, ha, q⟩
  · exact op_inD hu pins s σ H x y v u Q I rx ry h
  · cases (show v = Value.ref _ from rx)
    cases (show u = Value.ref _ from ry)
    obtain ⟨us, r1, p1, _⟩ := I.list hl.l
    obtain ⟨_, ya, va, ra, da⟩ := dk_of I.hok hp
    obtain ⟨o, es, ep, ho, hx, hd, _⟩ := id da
    refine SeqAt.in_listAt (fun _ => false) p1.isList (fun w hw => ?_) ⟨.bl false, H, I, (show Value.bool (us.toArray.any fun _ => false) = Value.bool false by simp), q⟩
    obtain ⟨b, t, rfl⟩ := ints_items l1 r1 ha w (by simpa using hw)
    exact int_dict_at b t ho da.typeIs hd (by show X.A.units + 1 < cLine; omega)
theorem op_eqE (hu : X.A.units + 64 < cLine) : OpR X (compareOp .Eq) (rEqE X.K) := by
  intro pins s σ H x y v u Q I rx ry h
  rcases h with h | ⟨p, i, rfl, rfl, hp, q⟩
  · exact op_eqX hu pins s σ H x y v u Q I rx ry h
  · obtain ⟨t, rfl⟩ := rx
    cases (show u = Value.ref _ from ry)
    obtain ⟨_, ya, va, ra, da⟩ := dk_of I.hok hp
    obtain ⟨o, es, ep, ho, hx, hd, _⟩ := id da
    exact int_dict i t ho da.typeIs hd (by omega) X.prog X.w _ _ ⟨.bl false, H, I, rfl, q⟩
end
section
variable [CA] {K : PySem.W.Frag}
theorem o_inE : Op2 K (rInE K) gInE := by
  intro G H x y a b R Q g va vb e k
  unfold gInE at e
  split at e
  · rename_i xs
    split at e
    · rename_i c
      cases e
      obtain ⟨p, vs, rfl, hp, hl⟩ := va.dic_inv
      cases hl
      cases vb with
      | lst h1 l1 => exact .inr ⟨p, _, _, xs, rfl, g _ _ hp, rfl, ex_x g h1, l1.ex g, c, rvB k⟩
    · cases e
  · exact .inl (o_inF G H x y _ _ R Q g va vb e k)
theorem o_eqE : Op2 K (rEqE K) gEqE := by
  intro G H x y a b R Q g va vb e k
  unfold gEqE at e
  split at e
  · cases e
    obtain ⟨p, vs, rfl, hp, hl⟩ := vb.dic_inv
    cases hl
    cases va
    exact .inr ⟨p, _, rfl, rfl, g _ _ hp, rvB k⟩
  · exact .inl (o_eqX G H x y _ _ R Q g va vb e k)
end
section
variable {a : D} {xs : List D} {i : Int}
theorem gInE_d : gInE (.dic []) (.lst xs) = if xs.all isI = true then some (.one (.bl false)) else none := id rfl
@[simp] theorem isI_ints {ns : List Int} : (ns.map D.int).all isI = true := by induction ns <;> simp_all [isI]
@[simp] theorem gInE_di {ns : List Int} : gInE (.dic []) (.lst (ns.map D.int)) = some (.one (.bl false)) := by rw [gInE_d, if_pos isI_ints]
theorem gInE_n (h : ∀ kv, a ≠ .dic kv) : gInE a (.lst xs) = gInF a (.lst xs) := by
  cases a with
  | dic kv => exact absurd rfl (h kv)
  | _ => rfl
@[simp] theorem gInE_i : gInE (.int i) (.lst xs) = gInF (.int i) (.lst xs) := id rfl
@[simp] theorem gEqE_d : gEqE (.int i) (.dic []) = some (.one (.bl false)) := id rfl
end
end BT
/-! FA: for a, b in x: b.append(a number), x an own list of own tuples. -/
namespace BT
open PySem PySem.Spec PyProof.Rows L2
def isT2 : T → Bool
  | .tup [_, _] => true
  | _ => false
def sSpoil2 (i j j2 : Nat) (c : (α : Type) → List α → List α → Option (List α)) (ds : List D) : SemS := fun s => match s.r[i]? with
  | some (some (.lst ts)) => (match spoilL 1 c ds ts with
    | some us => if i ≠ j ∧ i ≠ j2 ∧ j ≠ j2 ∧ j < s.r.length ∧ j2 < s.r.length ∧ ds.all D.sc = true ∧ ts.all isT2 = true then .next ⟨((s.r.set i (some (.lst us))).set j none).set j2 none, s.p⟩ else .bad
    | none => .bad)
  | _ => .bad
section
variable [CA] {K : PySem.W.Frag} {F G G' H H' : Hp} {σ : L2.St} {s s' : S} {pv pv' : List V} {W : WX} {D : Ends}
theorem sSpoil2_le {r : V → List V → Hp → VK → Prop} {c : (α : Type) → List α → List α → Option (List α)} {i j j2 : Nat} {ds : List BT.D} {ta : TA} (hc : Chg c) (hl : CLen c) (ok : MutOk r c)
    (hta : ∀ {σ : L2.St} {H : Hp} {Q : List V → Hp → Prop}, (∀ ys, VwL K H ys ds → Q ys H) → ta σ H Q) (h : sOf K W (sSpoil2 i j j2 c ds) D σ H) :
    tFor (iList K (tVar i)) (gTup K 2 (gCons (gName j) (gCons (gName j2) gNil))) (tDrop (tBM K "list" r (tVar j2) ta)) D σ H := by
  obtain ⟨F, G, s, pv, S, q⟩ := h
  unfold sSpoil2 at q
  split at q
  · rename_i ts er
    split at q
    · rename_i us esp
      by_cases cc : i ≠ j ∧ i ≠ j2 ∧ j ≠ j2 ∧ j < s.r.length ∧ j2 < s.r.length ∧ ds.all BT.D.sc = true ∧ ts.all isT2 = true
      · rw [if_pos cc] at q
        obtain ⟨nij, nij2, njj, jl, jl2, hds, hk⟩ := cc
        have g0 : s.getP i = some (.lst ts) := by unfold BT.S.getP; rw [er]
        obtain ⟨v, C, e0, hr, nn, back⟩ := Sim.modP S g0
        cases hr with
        | @lst a vs _ _ E ha aa ss l =>
          have σl : σ.length = s.r.length := by
            obtain ⟨_, _, _, _, ho, _⟩ := S
            exact ho.len
          have lv := l.len
          have lu := spoil_len esp
          have σ0 : (σ.set j (σ[j]'(by omega))).set j2 (σ[j2]'(by omega)) = σ := by rw [List.set_getElem_self, List.set_getElem_self]
          have nE : ¬ E a := fun z => (ss a z).2 rfl
          refine ⟨.ref a, e0, a, rfl, ⟨vs, .inl (.inl ha)⟩, fun n m σ' H' => m = vs.length - n ∧ n ≤ vs.length ∧ (∃ o o2, σ' = (σ.set j o).set j2 o2) ∧ (∀ b, ¬ E b → H' b = H b) ∧ (∀ b, E b → H' b ≠ none) ∧ RpL K G H' pv vs (us.take n ++ ts.drop n) E,
            ⟨vs.length, by simp, Nat.zero_le _, ⟨_, _, σ0.symm⟩, fun _ _ => rfl, fun b z => nn b (ss b z).1, by simpa using l⟩, fun n m σ' H' w => ?_⟩
          obtain ⟨rfl, hn, ⟨o, o2, rfl⟩, k1, k2, lr⟩ := w
          have ha' : H' a = some (.lst vs) := by rw [k1 a nE]; exact ha
          by_cases hlt : n < vs.length
          · refine .inr ⟨⟨vs, vs[n], .inl (.inl ha'), by simp [hlt]⟩, fun σ3 H3 => n + 1 ≤ vs.length ∧ (∃ o o2, σ3 = (σ.set j o).set j2 o2) ∧ (∀ b, ¬ E b → H3 b = H b) ∧ (∀ b, E b → H3 b ≠ none) ∧ RpL K G H3 pv vs (us.take (n + 1) ++ ts.drop (n + 1)) E, fun σ3 H3 w => ⟨vs.length - (n + 1), by omega, rfl, w.1, w.2.1, w.2.2.1, w.2.2.2.1, w.2.2.2.2⟩, fun x H3 y => ?_⟩
            obtain ⟨rfl, y⟩ := y
            have ex : vs[n]? = some x := y vs (.inl (.inl ha'))
            have tl : n < ts.length := by omega
            have et : ts[n]? = some ts[n] := List.getElem?_eq_getElem tl
            obtain ⟨zs, qs, u, f1, f2, f3, f4, f5⟩ := spoil_at esp et
            have el : (us.take n ++ ts.drop n)[n]? = some ts[n] := by
              rw [List.getElem?_append_right (by rw [List.length_take]; omega)]
              rw [List.length_take, show n - min n us.length = 0 by omega]
              simp [tl]
            obtain ⟨w, B1, B2, e1, h1, d1, d2, bk⟩ := lr.at el
            rw [ex] at e1
            cases e1
            have t2 : ∃ x0 x1, ts[n] = .tup [x0, x1] := by
              have := List.all_eq_true.mp hk _ (List.getElem_mem tl)
              revert this
              cases ts[n] with
              | tup l =>
                intro z
                match l, z with
                | [x0, x1], _ => exact ⟨x0, x1, rfl⟩
              | _ => intro z; cases z
            obtain ⟨x0, x1, et2⟩ := t2
            have ht : ∃ a', x = .ref a' ∧ ∃ zs, H3 a' = some (.tup zs) := by
              rw [et2] at h1
              cases h1 with
              | tup h a s l => exact ⟨_, rfl, _, h⟩
            have kl2 : ts[n].kidLen = 2 := by rw [et2]; rfl
            obtain ⟨a2, xs2, b2, ws2, rfl, g2, g3, g4, g5, g6, g7, f⟩ := Rp.kid hc h1 f1 f4 f2 hds
            obtain ⟨a', ea', zs', hz⟩ := ht
            cases ea'
            have g2' : H3 a2 = some (.tup xs2) := by
              rcases g2 with g2 | g2
              · rw [g2] at hz; cases hz
              · exact g2
            rw [kl2] at g3
            obtain ⟨v0, rfl⟩ : ∃ v0, xs2 = [v0, .ref b2] := by
              match xs2, g3, g4 with
              | [v0, v1], _, g4 =>
                refine ⟨v0, ?_⟩
                simp only [List.getElem?_cons_succ, List.getElem?_cons_zero, Option.some.injEq] at g4
                rw [g4]
            have eS : (((σ.set j o).set j2 o2).set j (some v0)).set j2 (some (.ref b2)) = (σ.set j (some v0)).set j2 (some (.ref b2)) := by
              rw [List.set_comm o2 (some v0) (Ne.symm njj), List.set_set, List.set_set]
            have body : tyV K "list" (.ref b2) H3 ∧ ta ((((σ.set j o).set j2 o2).set j (some v0)).set j2 (some (.ref b2))) H3 fun ys H4 => r (.ref b2) ys H4 fun _ H5 => n + 1 ≤ vs.length ∧ (∃ o' o2', (((σ.set j o).set j2 o2).set j (some v0)).set j2 (some (.ref b2)) = (σ.set j o').set j2 o2') ∧ (∀ b, ¬ E b → H5 b = H b) ∧ (∀ b, E b → H5 b ≠ none) ∧ RpL K G H5 pv vs (us.take (n + 1) ++ ts.drop (n + 1)) E := by
              refine ⟨.inl ⟨rfl, _, .inl (.inl g5)⟩, hta fun ys hy => ?_⟩
              obtain ⟨xs3, hu, lu3⟩ := hl zs (ds.map .d) qs ws2 ys g7 (by rw [List.length_map]; exact hy.len) f2
              refine ok b2 ws2 ys xs3 H3 _ g5 hu (by rw [lu3]; exact f3) ?_
              have Eb : E b2 := (d1 b2 g6).1
              refine ⟨hlt, ⟨some v0, some (.ref b2), eS⟩, fun b nb => ?_, fun b eb => ?_, ?_⟩
              · rw [upd_ne (fun w => nb (by rw [w]; exact Eb))]; exact k1 b nb
              · by_cases w : b = b2
                · rw [w, upd_same]; exact fun z => nomatch z
                · rw [upd_ne w]; exact k2 b eb
              · have res := bk G (upd H3 b2 (.lst xs3)) pv u E B1 ⟨Ex.rfl', fun x o z q => by rw [upd_ne (fun w => (d1 b2 g6).2 (by rw [← w]; exact z))]; exact q, fun _ _ z => z⟩ (f H3 ys xs3 hy hu) d1 d2
                have eset : (us.take n ++ ts.drop n).set n u = us.take (n + 1) ++ ts.drop (n + 1) := by
                  have un : n < us.length := by omega
                  have eu : us[n] = u := by
                    have := List.getElem?_eq_getElem un
                    rw [f5] at this
                    exact (Option.some.inj this).symm
                  rw [List.set_append_right _ _ (by rw [List.length_take]; omega), List.length_take, show n - min n us.length = 0 by omega, List.drop_eq_getElem_cons tl]
                  simp only [List.set_cons_zero]
                  rw [List.take_succ, List.getElem?_eq_getElem un, eu]
                  simp
                rw [eset] at res
                exact res
            exact ⟨a2, _, rfl, .inl (.inl g2'), rfl, v0, _, rfl, .ref b2, [], rfl, rfl, .ref b2, by rw [List.getElem?_set_self (by simp; omega)], body⟩
          · have hn2 : n = vs.length := by omega
            subst hn2
            refine .inl ⟨⟨vs, .inl (.inl ha'), Nat.le_refl _⟩, ?_⟩
            rw [List.take_of_length_le (by omega), List.drop_eq_nil_of_le (by omega), List.append_nil] at lr
            have S2 := back H' (.lst us) (fun b nb => k1 b (fun z => nb (ss b z).1)) (fun b cb => by
              by_cases z : E b
              · exact k2 b z
              · rw [k1 b z]; exact nn b cb) (.lst ha' aa ss lr)
            have e4 : s.putP i (.lst us) = ⟨s.r.set i (some (.lst us)), s.p⟩ := by unfold BT.S.putP; rw [er]
            rw [e4] at S2
            exact q _ G H' pv .rfl' (List.prefix_refl _) (Sim.drop (o := o2) (Sim.drop (o := o) S2))
      · rw [if_neg cc] at q
        exact q.elim
    · exact q.elim
  · exact q.elim
end
section
variable [CA] {X : Cx} {W : WX} {x y y2 : Str} {p p1 p2 p3 apos cpos tpos pos : Pos}
/-- for a, b in x: b.append(a number) -/
theorem r_spoil2App (i j j2 : Nat) (n : Int) (hp : PassesOwn (model X.prog X.w) X.A X.env X.xe) (hc : X.calm = true) (hN : X.N.Nodup) (hi : X.N[i]? = some x := by rfl) (hj : X.N[j]? = some y := by rfl) (hj2 : X.N[j2]? = some y2 := by rfl) (hv : Vis X.env.scope x := by first | exact Or.inl rfl | exact Or.inr (Or.inl rfl) | exact Or.inr (Or.inr rfl)) (hw : Vis X.env.scope y2 := by first | exact Or.inl rfl | exact Or.inr (Or.inl rfl) | exact Or.inr (Or.inr rfl))
    (hl : Loc X.env.scope y := by first | exact Or.inl rfl | exact Or.inr rfl) (hf : X.fn y = true ∨ X.env.scope.names.lookup y = some .local := by first | exact .inl rfl | exact .inr rfl) (hl2 : Loc X.env.scope y2 := by first | exact Or.inl rfl | exact Or.inr rfl) (hf2 : X.fn y2 = true ∨ X.env.scope.names.lookup y2 = some .local := by first | exact .inl rfl | exact .inr rfl) (hd : (x == ("__debug__" : Str)) = false := by decide) (hcd : (x == ("__classdict__" : Str)) = false := by decide) (hd2 : (y2 == ("__debug__" : Str)) = false := by decide) (hcd2 : (y2 == ("__classdict__" : Str)) = false := by decide)
    {kn kt : Nat} {q2 q3 : Pos} (hbase : attributeBase (.Name y2 p1) "append" X.env (eval (.Name y2 p1) X.env) = eval (.Name y2 p1) X.env := by rfl)
    (hfew : ((backTo cpos (starEach [.Constant (.int n) kn q2] X.env)).all (fun x => !x.1) && (backToKw cpos (keywordEach [] X.env)).all (fun x => x.1.isSome) && decide (([.Constant (.int n) kn q2] : List Expr).length + ([] : List Keyword).length + (if ([] : List Keyword).isEmpty then 0 else 1) < 30)) = true := by rfl)
    (hline : (apos.endLine == cpos.line) = true := by rfl) (hse : starEach [.Constant (.int n) kn q2] X.env = (false, eval (.Constant (.int n) kn q2) X.env) :: starEach [] X.env := by rfl) (hplain : (backTo cpos (starEach [] X.env)).any (·.1) = false := by rfl) (hsw : swapsWith (.Call (.Attribute (.Name y2 p1) "append" apos) [.Constant (.int n) kn q2] [] cpos) none q3.line X.env = pure false := by rfl)
    (hna : (assignEach [.Name y p2, .Name y2 p3] X.env).length = 2 := by rfl) (hst : (assignEach [.Name y p2, .Name y2 p3] X.env).findIdx? (·.1) = none := by rfl) (ha1 : (assignEach [.Name y p2, .Name y2 p3] X.env).map (·.2) = assign (.Name y p2) X.env :: (assignEach [.Name y2 p3] X.env).map (·.2) := by rfl) (ha2 : (assignEach [.Name y2 p3] X.env).map (·.2) = assign (.Name y2 p3) X.env :: (assignEach [] X.env).map (·.2) := by rfl)
    (hfs : ∀ z, foldedSetIterable (.Name x p) X.env z = pure z := by intro _; rfl) :
    PS X (.For (.Tuple [.Name y p2, .Name y2 p3] kt tpos) (.Name x p) [.Expr (.Call (.Attribute (.Name y2 p1) "append" apos) [.Constant (.int n) kn q2] [] cpos) q3] [] pos) (sOf X.K W (sSpoil2 i j j2 cApp [.int n])) :=
  (ps_for hp hc (pi_list (pe_var hi hv hd hcd)) (pg_tup hc (pgs_cons (pg_name hN hj hl hf) (pgs_cons (pg_name hN hj2 hl2 hf2) pgs_nil ha2) ha1) hna hst) (pss_one (ps_expr (pe_bm PySem.F.plainAttrs_list PySem.F.slot_list_append PySem.F.type_list_append mt_append (pe_var hj2 hw hd2 hcd2) (pa_cons pe_int pa_nil hse) hbase hfew hline hse hplain) hsw)) hfs).le
    fun _ _ _ h => sSpoil2_le chg_app len_app mok_app (fun q => q _ (.cons (.int _) .nil)) h
end
section
variable {s : S} {i j j2 : Nat} {t u : T} {ts : List T}
@[simp] theorem isT2_tup {a b : T} : isT2 (.tup [a, b]) = true := rfl
@[simp] theorem sSpoil2_eq {c : (α : Type) → List α → List α → Option (List α)} {ds : List D} : sSpoil2 i j j2 c ds s = match s.r[i]? with
  | some (some (.lst ts)) => (match spoilL 1 c ds ts with
    | some us => if i ≠ j ∧ i ≠ j2 ∧ j ≠ j2 ∧ j < s.r.length ∧ j2 < s.r.length ∧ ds.all D.sc = true ∧ ts.all isT2 = true then .next ⟨((s.r.set i (some (.lst us))).set j none).set j2 none, s.p⟩ else .bad
    | none => .bad)
  | _ => .bad := id rfl
end
end BT
/-! FB: for .. in x: if c: raise X(..), upon what is seen. -/
namespace BT
open PySem PySem.Spec PyProof.Rows L2
def rzL (h : D → S → Option S) (c : SemT) (C : String) (names : List String) (fs : SemA) : List D → S → Option (Option Xn)
  | [], _ => some none
  | d :: ds, s => match h d s with
    | none => none
    | some s1 => match c s1 with
      | .ok false s2 => rzL h c C names fs ds s2
      | .ok true s2 => (match sRzF C names fs s2 with
        | .exc x _ => some (some x)
        | _ => none)
      | .exc x _ => some (some x)
      | .bad => none
def sForRz (fi : SemI) (h : D → S → Option S) (ns : List Nat) (c : SemT) (C : String) (names : List String) (fs : SemA) : SemS := fun s => match fi s.fz with
  | .ok ds s1 => (match rzL h c C names fs ds s1 with
    | some none => .next (s.wipe ns)
    | some (some x) => if x.sc = true then .exc x (s.wipe ns) else .bad
    | none => .bad)
  | _ => .bad
section
variable [CA] {K : PySem.W.Frag} {F G G' H H' : Hp} {σ : L2.St} {s s' : S} {pv pv' : List V} {W : WX} {D : Ends}
theorem off_wipe {vs : List Nat} {σ σ2 : L2.St} (o : Off vs σ σ2) : L2.wipe σ2 vs = L2.wipe σ vs := by
  apply List.ext_getElem?
  intro j
  by_cases c : j ∈ vs
  · by_cases k : j < σ.length
    · rw [wipe_in c (by rw [o.1]; exact k), wipe_in c k]
    · rw [List.getElem?_eq_none_iff.mpr (by rw [wipe_length, o.1]; omega), List.getElem?_eq_none_iff.mpr (by rw [wipe_length]; omega)]
  · rw [wipe_get c, wipe_get c, o.2 j c]
theorem sForRz_le {fi : SemI} {h : BT.D → S → Option S} {ns : List Nat} {c : SemT} {C : String} {names : List String} {fs : SemA} (ok : CA.ok C) (ne : names ≠ []) (l : names.length ≤ 900) (g : sOf K W (sForRz fi h ns c C names fs) D σ H) :
    tFor (tOfI K W fi) (gOf K ns h) (tIfS (tOfT K W c) (fun _ σ H => tMkX (CA.ca C) (names.map sS) (tOfA K W fs) σ H fun cls d H' => W cls d σ H') tNext) D σ H := by
  obtain ⟨F, G, s, pv, S, q⟩ := g
  have base : ∀ σ', Off ns σ σ' → Sim K F G H σ' (s.wipe ns) pv := fun σ' o => Sim.unwipe ns (by rw [off_wipe o]; exact (S.wipe ns : Sim K F G H (L2.wipe σ ns) (s.wipe ns) pv))
  let Rq : Option (Option Xn) → Prop := fun R => match R with
    | some none => GN K F G pv D.nx (s.wipe ns)
    | some (some x) => x.sc = true ∧ GX K F G pv W x (s.wipe ns)
    | none => False
  refine ⟨H, H, s.fz, [], S.fz, ?_⟩
  unfold sForRz at q
  cases e : fi s.fz with
  | bad => rw [e] at q; exact q.elim
  | exc x s1 => rw [e] at q; exact q.elim
  | ok ds s1 =>
    rw [e] at q
    have q' : Rq (rzL h c C names fs ds s1) := by
      have q2 : Fin K F G pv W D (match rzL h c C names fs ds s1 with
        | some none => .next (s.wipe ns)
        | some (some x) => if x.sc = true then .exc x (s.wipe ns) else .bad
        | none => .bad) := q
      revert q2
      cases rzL h c C names fs ds s1 with
      | none => intro z; exact z.elim
      | some o =>
        cases o with
        | none => intro z; exact z
        | some x =>
          intro z
          have z2 : Fin K F G pv W D (if x.sc = true then .exc x (s.wipe ns) else .bad) := z
          by_cases cx : x.sc = true
          · rw [if_pos cx] at z2; exact ⟨cx, z2⟩
          · rw [if_neg cx] at z2; exact z2.elim
    intro J G1 H1 pv1 po px S1 io
    refine ⟨fun i m σ' H' => m = ds.length - i ∧ i ≤ ds.length ∧ Off ns σ σ' ∧ ∃ G2 s2 pv2, Post H G1 G2 ∧ Sim K H G2 H' σ' s2 pv2 ∧ Rq (rzL h c C names fs (ds.drop i) s2),
      ⟨ds.length, by simp, Nat.zero_le _, ⟨rfl, fun _ _ => rfl⟩, G1, s1, pv1, .rfl', S1, by rw [List.drop_zero]; exact q'⟩, fun i m σ2 H2 w => ?_⟩
    obtain ⟨rfl, hi, off, G2, s2, pv2, po2, S2, f2⟩ := w
    obtain ⟨go, stop, yld⟩ := io G2 H2 po2 S2.eg S2.ef i
    by_cases hlt : i < ds.length
    · refine .inr ⟨go hlt, fun σ3 H3 => i + 1 ≤ ds.length ∧ Off ns σ σ3 ∧ ∃ G3 s3 pv3, Post H G1 G3 ∧ Sim K H G3 H3 σ3 s3 pv3 ∧ Rq (rzL h c C names fs (ds.drop (i + 1)) s3), fun σ3 H3 n => ⟨ds.length - (i + 1), by omega, rfl, n.1, n.2⟩, fun x H3 y => ?_⟩
      obtain ⟨G3, e1, e2, e3, e4, hv⟩ := yld x H3 ds[i] (by rw [List.getElem?_eq_getElem hlt]) y
      have S3 := S2.more e1 e2 e3 e4
      have po3 : Post H G2 G3 := ⟨e2, fun a o z => e4 a (by rw [S2.ef a o z]; exact fun z => nomatch z)⟩
      rw [List.drop_eq_getElem_cons hlt] at f2
      unfold rzL at f2
      cases eh : h ds[i] s2 with
      | none => rw [eh] at f2; exact f2.elim
      | some s3 =>
        rw [eh] at f2
        refine ⟨H, G3, s2, pv2, ds[i], s3, S3, hv, eh, fun σ4 o4 S4 => ?_⟩
        have off4 : Off ns σ σ4 := ⟨o4.1.trans off.1, fun j hj => (o4.2 j hj).trans (off.2 j hj)⟩
        have b4 := base σ4 off4
        refine ⟨H, G3, s3, pv2, S4, ?_⟩
        cases ec : c s3 with
        | bad => simp only [ec] at f2; exact f2.elim
        | exc x s5 =>
          simp only [ec] at f2
          obtain ⟨hsc, hgx⟩ : x.sc = true ∧ GX K F G pv W x (s.wipe ns) := f2
          intro cls d G' H' pv' po' px' S' rep
          exact kex_look b4 hgx.kex hsc S'.ef S'.eg rep
        | ok b s5 =>
          intro G4 H4 pv4 po4 px4 S5
          cases b with
          | false =>
            simp only [ec] at f2
            exact ⟨hlt, off4, G4, s5, pv4, (po2.tr po3).tr po4, S5, f2⟩
          | true =>
            simp only [ec] at f2
            cases er : sRzF C names fs s5 with
            | exc x s6 =>
              rw [er] at f2
              obtain ⟨hsc, hgx⟩ : x.sc = true ∧ GX K F G pv W x (s.wipe ns) := f2
              have W' : WX := fun cls d σ' H' => σ' = σ4 → W cls d σ4 H'
              have z := sRzF_le (K := K) (W := fun cls d σ' H' => σ' = σ4 → W cls d σ4 H') (D := D) (σ := σ4) (H := H4) ok ne l ⟨H, G4, s5, pv4, S5, by
                show Fin K H G4 pv4 _ D (sRzF C names fs s5)
                rw [er]
                intro cls d σ' G' H' pv' po' px' S' rep es
                subst es
                exact kex_look b4 hgx.kex hsc S'.ef S'.eg rep⟩
              obtain ⟨F7, G7, s7, pv7, S7, q7⟩ := z
              refine ⟨F7, G7, s7, pv7, S7, q7.imp (fun ts s8 k vs G' H' pv' po' px' el S' => ?_) fun x s8 k cls d G' H' pv' po' px' S' rep => k cls d G' H' pv' po' px' S' rep rfl⟩
              obtain ⟨k1, k2, k3⟩ := k vs G' H' pv' po' px' el S'
              exact ⟨k1, k2, fun d H2 n1 n2 n3 => k3 d H2 n1 n2 n3 rfl⟩
            | next s6 => rw [er] at f2; exact f2.elim
            | ret t s6 => rw [er] at f2; exact f2.elim
            | brk s6 => rw [er] at f2; exact f2.elim
            | cont s6 => rw [er] at f2; exact f2.elim
            | bad => rw [er] at f2; exact f2.elim
    · have hd : ds.drop i = [] := List.drop_eq_nil_of_le (by omega)
      rw [hd] at f2
      have f3 : GN K F G pv D.nx (s.wipe ns) := f2
      exact .inl ⟨stop (by omega), f3 σ2 G H2 pv .rfl' (List.prefix_refl _) ((base σ2 off).grow S2.ef)⟩
end
section
variable [CA] {X : Cx} {W : WX} {x : Str} {C : String} {names : List String} {fs : SemA} {e ce : Expr} {es : List Expr} {tg iter : Expr} {fi : SemI} {h : D → S → Option S} {ns : List Nat} {c : SemT} {p p2 pos pos2 pos3 : Pos}
/-- for tg in iter: if ce: raise X(e, ..) -/
theorem r_forRz (hp : PassesOwn (model X.prog X.w) X.A X.env X.xe) (hc : X.calm = true) (T : Tx X W) (hi : PI X tg iter (tOfI X.K W fi)) (hg : PG X tg (gOf X.K ns h)) (ht : PT X ce (tOfT X.K W c)) (k : XFld X.prog X.w X.K X.mg X.base x C names) (hr : Room 2 X.A) (ha : PA X (e :: es) (tOfA X.K W fs))
    (ne : names ≠ [] := by decide) (l : names.length ≤ 900 := by decide) (hgl : Gl X x := by rfl)
    (hdb : (x == ("__debug__" : Str)) = false := by decide) (he : starEach (e :: es) X.env = (false, eval e X.env) :: starEach es X.env := by rfl) (hpl : (backTo p (starEach es X.env)).any (·.1) = false := by rfl) (hs : ∀ x, foldedSetIterable iter X.env x = pure x := by intro _; rfl) :
    PS X (.For tg iter [.If ce [.Raise (some (.Call (.Name x p2) (e :: es) [] p)) none pos3] [] pos2] [] pos) (sOf X.K W (sForRz fi h ns c C names fs)) := by
  obtain ⟨fI, fd, ps, h1, h2, F1, hb⟩ := k.ex
  exact (ps_for hp hc hi hg (pss_one (ps_if ht (pss_one (L2N.ps_raise hc T.tk (pmk_x k.T h1 h2 F1 hr hb k.md ha hgl hdb he hpl))) pss_nil)) hs).le fun _ _ _ q => sForRz_le k.ok ne l q
end
section
variable {s : S} {h : D → S → Option S} {c : SemT} {C : String} {names : List String} {fs : SemA} {fi : SemI} {ns : List Nat}
@[simp] theorem rzL_nil : rzL h c C names fs [] s = some none := id rfl
theorem rzL_cons {d : D} {ds : List D} : rzL h c C names fs (d :: ds) s = match h d s with
    | none => none
    | some s1 => match c s1 with
      | .ok false s2 => rzL h c C names fs ds s2
      | .ok true s2 => (match sRzF C names fs s2 with
        | .exc x _ => some (some x)
        | _ => none)
      | .exc x _ => some (some x)
      | .bad => none := id rfl
theorem rzL_no {d : D} {ds : List D} {s1 s2 : S} (e1 : h d s = some s1) (e2 : c s1 = .ok false s2) : rzL h c C names fs (d :: ds) s = rzL h c C names fs ds s2 := by rw [rzL_cons, e1]; simp only [e2]
theorem rzL_yes {d : D} {ds : List D} {s1 s2 s3 : S} {x : Xn} (e1 : h d s = some s1) (e2 : c s1 = .ok true s2) (e3 : sRzF C names fs s2 = .exc x s3) : rzL h c C names fs (d :: ds) s = some (some x) := by rw [rzL_cons, e1]; simp only [e2, e3]
@[simp] theorem sForRz_eq : sForRz fi h ns c C names fs s = match fi s.fz with
  | .ok ds s1 => (match rzL h c C names fs ds s1 with
    | some none => .next (s.wipe ns)
    | some (some x) => if x.sc = true then .exc x (s.wipe ns) else .bad
    | none => .bad)
  | _ => .bad := id rfl
end
end BT
/-! FC: running loans and changes of fields by simp. -/
namespace BT
open PySem PySem.Spec PyProof.Rows L2
section
variable {s : S} {r : List (Option T)} {p : List T} {i n : Nat} {f : String} {g fo fe : Sem} {fs : SemA}
@[simp] theorem unl_mk : (S.mk r p).unl i n = match r[i]?, p[n]? with
  | some (some (.al m)), some t => if (m = n ∧ p.length = n + 1) ∧ albO n (r.set i none) = true ∧ T.albL n p = true then some ⟨r.set i (some t), p.take n⟩ else none
  | _, _ => none := id rfl
@[simp] theorem unlF_mk : (S.mk r p).unlF i f n = match r[i]? with
  | some (some (.al k)) => (match p[k]?, p[n]? with
    | some (.obj C ts), some t => (match ts.lookup f with
      | some (.al m) => if (m = n ∧ p.length = n + 1 ∧ k < n) ∧ albO n r = true ∧ T.albL n ((p.take n).set k (.obj C (putT f t ts))) = true then some ⟨r, (p.take n).set k (.obj C (putT f t ts))⟩ else none
      | _ => none)
    | _, _ => none)
  | _ => none := id rfl
@[simp] theorem sWith_eq : sWith i g s = match s.r[i]? with
  | some (some (.al _)) => g s
  | some (some t) => (match g ⟨s.r.set i (some (.al s.p.length)), s.p ++ [t]⟩ with
    | .ok u s1 => if u.alb s.p.length = true then (match s1.unl i s.p.length with
      | some s2 => .ok u s2
      | none => .bad) else .bad
    | .exc x s1 => (match s1.unl i s.p.length with
      | some s2 => .exc x s2
      | none => .bad)
    | .bad => .bad)
  | _ => .bad := id rfl
@[simp] theorem sWithF_eq : sWithF i f g s = match s.r[i]? with
  | some (some (.al k)) => (match s.p[k]? with
    | some (.obj C ts) => (match ts.lookup f with
      | some (.al _) => g s
      | some t => (match g ⟨s.r, s.p.set k (.obj C (putT f (.al s.p.length) ts)) ++ [t]⟩ with
        | .ok u s1 => if u.alb s.p.length = true then (match s1.unlF i f s.p.length with
          | some s2 => .ok u s2
          | none => .bad) else .bad
        | .exc x s1 => (match s1.unlF i f s.p.length with
          | some s2 => .exc x s2
          | none => .bad)
        | .bad => .bad)
      | none => .bad)
    | _ => .bad)
  | _ => .bad := id rfl
@[simp] theorem sFldZ_eq : sFldZ i f s = match s.r[i]? with
  | some (some (.al k)) => (match s.p[k]? with
    | some (.obj C ts) => if isExcN C = false ∧ (fieldsOf C).contains f = true then (match ts.lookup f with
      | some (.al j) => .ok (.al j) s
      | some t => .ok (.d (t.dat [])) ⟨s.r, s.p.set k (.obj C (putT f (.d (t.dat [])) ts))⟩
      | none => .bad) else .bad
    | _ => .bad)
  | _ => .bad := id rfl
@[simp] theorem sAugF_eq {op : D → D → Option Rv} : sAugF i f op fe s = match s.r[i]? with
  | some (some (.al k)) => (match s.p[k]? with
    | some (.obj C ts) => if isExcN C = false ∧ (fieldsOf C).contains f = true ∧ ts.length < 900 then (match ts.lookup f with
      | some (.d a) => (pk fe s fun b => lk (op a b) s).bindF fun t s1 => .next ⟨s1.r, s1.p.set k (.obj C (putT f t ts))⟩
      | _ => .bad) else .bad
    | _ => .bad)
  | _ => .bad := id rfl
@[simp] theorem sMutE_eq {c : (α : Type) → List α → List α → Option (List α)} : sMutE c fo fs s = (fo s).bind fun t s1 => match t with
  | .al k => (match s1.p[k]? with
    | some (.lst _) => (fs s1).bind fun rs s2 => match s2.p[k]? with
      | some (.lst ts) => (match c T ts rs with
        | some qs => if qs.length ≤ sizeLine then .ok (.d .non) ⟨s2.r, s2.p.set k (.lst qs)⟩ else .bad
        | none => .bad)
      | _ => .bad
    | _ => .bad)
  | _ => .bad := id rfl
@[simp] theorem sExtE_eq : sExtE fo fe s = (fo s).bind fun t s1 => match t with
  | .al k => (match s1.p[k]? with
    | some (.lst _) => (fe s1).bind fun r s2 => match s2.p[k]?, r.kids with
      | some (.lst ts), some us => if (ts ++ us).length ≤ sizeLine then .ok (.d .non) ⟨s2.r, s2.p.set k (.lst (ts ++ us))⟩ else .bad
      | _, _ => .bad
    | _ => .bad)
  | _ => .bad := id rfl
@[simp] theorem sPeek_eq' : sPeek g s = match g s.fz with
  | .ok t _ => if t.ind then .ok t s else .bad
  | .exc x _ => if x.sc then .exc x s else .bad
  | .bad => .bad := id rfl
end
end BT
/-! FD: for y in x: if c: return ..; y[k].clear(), c never true. -/
namespace BT
open PySem PySem.Spec PyProof.Rows L2
noncomputable def sSpoilT (i j k : Nat) (tst : SemT) (c : (α : Type) → List α → List α → Option (List α)) (ds : List D) : SemS := fun s => match s.r[i]? with
  | some (some (.lst ts)) => (match spoilL k c ds ts with
    | some us => @ite _ ((i ≠ j ∧ j < s.r.length ∧ ds.all D.sc = true ∧ k < 2 ^ 60) ∧ ∀ t ∈ ts, ∃ s', tst ⟨(s.fz.r.set i none).set j (some (.d (t.dat s.sd))), []⟩ = .ok false s') (Classical.propDecidable _) (.next ⟨(s.r.set i (some (.lst us))).set j none, s.p⟩) .bad
    | none => .bad)
  | _ => .bad
section
variable [CA] {K : PySem.W.Frag} {F G G' H H' : Hp} {σ : L2.St} {s s' : S} {pv pv' : List V} {W : WX} {D : Ends}
theorem Sim.modP2 {i : Nat} {t0 : T} (h : Sim K F G H σ s pv) (g : s.getP i = some t0) :
    ∃ (v : V) (C : AS), σ[i]? = some (some v) ∧ Rp K G H pv v t0 C ∧ (∀ b, C b → H b ≠ none) ∧ ∀ (H' : Hp) (t' : T), (∀ b o, ¬ C b → H b = some o → H' b = some o) → (∀ b, C b → H' b ≠ none) → Rp K G H' pv v t' C → Sim K F G H' σ (s.putP i t') pv := by
  obtain ⟨r, p⟩ := s
  obtain ⟨ef, eg, A, B, h2, hs, d, n⟩ := h
  unfold S.getP at g
  split at g
  · rename_i m ek
    obtain ⟨w, C1, C2, e1, h3, h4, c1, c2⟩ := h2.take ek
    cases h3 with
    | al hk =>
      obtain ⟨v2, E1, E2, e2, h5, f1, f2, back⟩ := hs.at g
      rw [hk] at e2
      cases e2
      refine ⟨w, E1, e1, h5, fun b z => (n b (.inr (f1 b z).1)).1, fun H' t' k1 k2 hr => ?_⟩
      have keep : ∀ {Z : AS}, (∀ x, Z x → ¬ E1 x) → Fm K G G H H' pv pv Z := fun {Z} ne => ⟨Ex.rfl', fun b o z q => k1 b o (ne b z) q, fun _ _ z => z⟩
      have pr := back G H' pv t' B E1 (keep fun x b z => (f1 x z).2 b) hr f1 f2
      have e4 : S.putP ⟨r, p⟩ i t' = ⟨r, p.set m t'⟩ := by
        unfold S.putP
        rw [show (S.mk r p).r[i]? = some (some (T.al m)) from ek]
      rw [e4]
      refine ⟨fun b o z => ?_, fun b o z => ?_, A, B, h2.fm (keep fun x b z => d x b (f1 x z).1), pr, d, fun x b => ?_⟩
      · exact k1 b o (fun w => by rw [(n b (.inr (f1 b w).1)).2.1] at z; cases z) (ef b o z)
      · exact k1 b o (fun w => by rw [(n b (.inr (f1 b w).1)).2.2] at z; cases z) (eg b o z)
      · obtain ⟨q1, q2⟩ := n x b
        refine ⟨?_, q2⟩
        by_cases w : E1 x
        · exact k2 x w
        · intro z; cases e : H x with | none => exact q1 e | some o => rw [k1 x o w e] at z; cases z
  · rename_i t nal ek
    have et : t = t0 := Option.some.inj g
    subst et
    obtain ⟨w, C1, C2, e1, h3, h4, c1, c2⟩ := h2.take ek
    refine ⟨w, C1, e1, h3, fun b z => (n b (.inl (c1 b z).1)).1, fun H' t' k1 k2 hr => ?_⟩
    have keep : ∀ {Z : AS}, (∀ x, Z x → ¬ C1 x) → Fm K G G H H' pv pv Z := fun {Z} ne => ⟨Ex.rfl', fun b o z q => k1 b o (ne b z) q, fun _ _ z => z⟩
    have hi : i < σ.length := (List.getElem?_eq_some_iff.mp e1).1
    have pr := RpO.put (A := A) (h4.fm (keep fun x b z => (c1 x z).2 b)) hi hr c1 c2
    have e3 : σ.set i (some w) = σ := by
      apply List.ext_getElem?
      intro j
      by_cases w : i = j
      · subst w
        rw [List.getElem?_set_self hi, e1]
      · rw [List.getElem?_set_ne w]
    rw [e3, List.set_set] at pr
    have e4 : S.putP ⟨r, p⟩ i t' = ⟨r.set i (some t'), p⟩ := by
      unfold S.putP
      cases t with
      | al m => exact absurd rfl (nal m)
      | _ => rw [show (S.mk r p).r[i]? = some (some _) from ek]
    rw [e4]
    refine ⟨fun b o z => ?_, fun b o z => ?_, A, B, pr, hs.fm (keep fun x b z => d x (c1 x z).1 b), d, fun x b => ?_⟩
    · exact k1 b o (fun w => by rw [(n b (.inl (c1 b w).1)).2.1] at z; cases z) (ef b o z)
    · exact k1 b o (fun w => by rw [(n b (.inl (c1 b w).1)).2.2] at z; cases z) (eg b o z)
    · obtain ⟨q1, q2⟩ := n x b
      refine ⟨?_, q2⟩
      by_cases w : C1 x
      · exact k2 x w
      · intro z; cases e : H x with | none => exact q1 e | some o => rw [k1 x o w e] at z; cases z
  · cases g
theorem sSpoilT_le {r : V → List V → Hp → VK → Prop} {c : (α : Type) → List α → List α → Option (List α)} {i j k : Nat} {tst : SemT} {u0 : TS} {ds : List BT.D} {ta : TA} (hc : Chg c) (hl : CLen c) (ok : MutOk r c)
    (hta : ∀ {σ : L2.St} {H : Hp} {Q : List V → Hp → Prop}, (∀ ys, VwL K H ys ds → Q ys H) → ta σ H Q) (h : sOf K W (sSpoilT i j k tst c ds) D σ H) :
    tFor (iList K (tVar i)) (gName j) (tSeq (tIfS (tOfT K W tst) u0 tNext) (tDrop (tBM K "list" r (tOp (rIx K) (tVar j) (tC (.int (k : Int)))) ta))) D σ H := by
  obtain ⟨F, G, s, pv, S, q⟩ := h
  unfold sSpoilT at q
  split at q
  · rename_i ts er
    split at q
    · rename_i us esp
      by_cases cc : (i ≠ j ∧ j < s.r.length ∧ ds.all BT.D.sc = true ∧ k < 2 ^ 60) ∧ ∀ t ∈ ts, ∃ s', tst ⟨(s.fz.r.set i none).set j (some (.d (t.dat s.sd))), []⟩ = .ok false s'
      · rw [if_pos cc] at q
        obtain ⟨⟨nij, jl, hds, hk⟩, htst⟩ := cc
        have g0 : s.getP i = some (.lst ts) := by unfold BT.S.getP; rw [er]
        obtain ⟨v, C, e0, hr, nn, back⟩ := Sim.modP2 S g0
        cases hr with
        | @lst a vs _ _ E ha aa ss l =>
          have σl : σ.length = s.r.length := by
            obtain ⟨_, _, _, _, ho, _⟩ := S
            exact ho.len
          have lv := l.len
          have lu := spoil_len esp
          have σ0 : σ.set j (σ[j]'(by omega)) = σ := List.set_getElem_self _
          have nE : ¬ E a := fun z => (ss a z).2 rfl
          refine ⟨.ref a, e0, a, rfl, ⟨vs, .inl (.inl ha)⟩, fun n m σ' H' => m = vs.length - n ∧ n ≤ vs.length ∧ (∃ o, σ' = σ.set j o) ∧ (∀ b o, ¬ E b → H b = some o → H' b = some o) ∧ (∀ b, E b → H' b ≠ none) ∧ RpL K G H' pv vs (us.take n ++ ts.drop n) E,
            ⟨vs.length, by simp, Nat.zero_le _, ⟨_, σ0.symm⟩, fun _ _ _ z => z, fun b z => nn b (ss b z).1, by simpa using l⟩, fun n m σ' H' w => ?_⟩
          obtain ⟨rfl, hn, ⟨o, rfl⟩, k1, k2, lr⟩ := w
          have ha' : H' a = some (.lst vs) := k1 a _ nE ha
          by_cases hlt : n < vs.length
          · refine .inr ⟨⟨vs, vs[n], .inl (.inl ha'), by simp [hlt]⟩, fun σ3 H3 => n + 1 ≤ vs.length ∧ (∃ o, σ3 = σ.set j o) ∧ (∀ b o, ¬ E b → H b = some o → H3 b = some o) ∧ (∀ b, E b → H3 b ≠ none) ∧ RpL K G H3 pv vs (us.take (n + 1) ++ ts.drop (n + 1)) E, fun σ3 H3 w => ⟨vs.length - (n + 1), by omega, rfl, w.1, w.2.1, w.2.2.1, w.2.2.2.1, w.2.2.2.2⟩, fun x H3 y => ?_⟩
            obtain ⟨rfl, y⟩ := y
            have ex : vs[n]? = some x := y vs (.inl (.inl ha'))
            have tl : n < ts.length := by omega
            have et : ts[n]? = some ts[n] := List.getElem?_eq_getElem tl
            obtain ⟨zs, qs, u, f1, f2, f3, f4, f5⟩ := spoil_at esp et
            have el : (us.take n ++ ts.drop n)[n]? = some ts[n] := by
              rw [List.getElem?_append_right (by rw [List.length_take]; omega)]
              rw [List.length_take, show n - min n us.length = 0 by omega]
              simp [tl]
            obtain ⟨w, B1, B2, e1, h1, d1, d2, bk⟩ := lr.at el
            rw [ex] at e1
            cases e1
            have e4 : s.putP i (.lst (us.take n ++ ts.drop n)) = ⟨s.r.set i (some (.lst (us.take n ++ ts.drop n))), s.p⟩ := by unfold BT.S.putP; rw [er]
            have S2n := back H3 (.lst (us.take n ++ ts.drop n)) (fun b o nb e => k1 b o (fun z => nb (ss b z).1) e) (fun b cb => by
              by_cases z : E b
              · exact k2 b z
              · cases e : H b with
                | none => exact absurd e (nn b cb)
                | some o2 => rw [k1 b o2 z e]; exact fun z => nomatch z) (.lst ha' aa ss lr)
            rw [e4] at S2n
            have SS : Sim K H3 H3 H3 ((σ.set j o).set j (some x)) ⟨(s.fz.r.set i none).set j (some (.d (ts[n].dat s.sd))), []⟩ [] := by
              obtain ⟨ef, eg, A0, B0, ho0, hs0, dd0, n0⟩ := id S2n
              have hv : Vw K H3 x (ts[n].dat s.sd) := h1.vw (hs0.pv_get eg) (fun _ _ _ e => e) eg
              have z1 := (Sim.drop (j := j) (o := o) S2n).fz
              have hoi : i < (σ.set j o).length := by rw [List.length_set, σl]; exact (List.getElem?_eq_some_iff.mp er).1
              have z2 := (((Sim.drop (j := i) (o := (σ.set j o)[i]) z1).push_d hv).store (i := j))
              rw [List.set_getElem_self] at z2
              have er2 : ((((s.r.set i (some (.lst (us.take n ++ ts.drop n)))).set j none).map (Option.map fun t => T.d (t.dat s.sd))).set i none).set j (some (.d (ts[n].dat s.sd))) = ((s.r.map (Option.map fun t => T.d (t.dat s.sd))).set i none).set j (some (.d (ts[n].dat s.sd))) := by
                rw [List.map_set, List.map_set, List.set_comm _ _ (Ne.symm nij), List.set_set, List.set_set]
              have er3 : BT.S.mk (((((s.r.set i (some (.lst (us.take n ++ ts.drop n)))).set j none).map (Option.map fun t => T.d (t.dat s.sd))).set i none).set j (some (.d (ts[n].dat s.sd)))) [] = BT.S.mk ((s.fz.r.set i none).set j (some (.d (ts[n].dat s.sd)))) [] := by rw [er2]; rfl
              rw [← er3]
              exact z2
            obtain ⟨sT, eT⟩ := htst ts[n] (List.getElem_mem tl)
            refine ⟨H3, H3, _, [], SS, ?_⟩
            rw [eT]
            intro G4 H4 pv4 po4 px4 S4
            have ex4 : Ex H3 H4 := S4.ef
            clear SS S2n h1 d1 d2 bk
            have lr4 := lr.fm (G' := G) (H' := H4) (pv' := pv) ⟨Ex.rfl', fun a o _ q => ex4 a o q, fun _ _ z => z⟩
            have k14 : ∀ b o, ¬ E b → H b = some o → H4 b = some o := fun b o nb e => ex4 _ _ (k1 b o nb e)
            have k24 : ∀ b, E b → H4 b ≠ none := fun b eb => by
              cases e : H3 b with
              | none => exact absurd e (k2 b eb)
              | some o2 => rw [ex4 b o2 e]; exact fun z => nomatch z
            obtain ⟨w, B1, B2, e1, h1, d1, d2, bk⟩ := lr4.at el
            rw [ex] at e1
            cases e1
            obtain ⟨a2, xs2, b2, ws2, rfl, g2, g3, g4, g5, g6, g7, f⟩ := Rp.kid hc h1 f1 f4 f2 hds
            have kl : k < xs2.length := (List.getElem?_eq_some_iff.mp g4).1
            have eat : atI xs2 (k : Int) = some (.ref b2) := by rw [atI_nn (by omega) (by omega)]; simpa using g4
            have body : tyV K "list" (.ref b2) H4 ∧ ta ((σ.set j o).set j (some (.ref a2))) H4 fun ys H4 => r (.ref b2) ys H4 fun _ H5 => n + 1 ≤ vs.length ∧ (∃ o', (σ.set j o).set j (some (.ref a2)) = σ.set j o') ∧ (∀ b o, ¬ E b → H b = some o → H5 b = some o) ∧ (∀ b, E b → H5 b ≠ none) ∧ RpL K G H5 pv vs (us.take (n + 1) ++ ts.drop (n + 1)) E := by
              refine ⟨.inl ⟨rfl, _, .inl (.inl g5)⟩, hta fun ys hy => ?_⟩
              obtain ⟨xs3, hu, lu3⟩ := hl zs (ds.map .d) qs ws2 ys g7 (by rw [List.length_map]; exact hy.len) f2
              refine ok b2 ws2 ys xs3 H4 _ g5 hu (by rw [lu3]; exact f3) ?_
              have Eb : E b2 := (d1 b2 g6).1
              refine ⟨hlt, ⟨some (.ref a2), by simp⟩, fun b ob nb eo => ?_, fun b eb => ?_, ?_⟩
              · rw [upd_ne (fun w => nb (by rw [w]; exact Eb))]; exact k14 b ob nb eo
              · by_cases w : b = b2
                · rw [w, upd_same]; exact fun z => nomatch z
                · rw [upd_ne w]; exact k24 b eb
              · have res := bk G (upd H4 b2 (.lst xs3)) pv u E B1 ⟨Ex.rfl', fun x o z q => by rw [upd_ne (fun w => (d1 b2 g6).2 (by rw [← w]; exact z))]; exact q, fun _ _ z => z⟩ (f H4 ys xs3 hy hu) d1 d2
                have eset : (us.take n ++ ts.drop n).set n u = us.take (n + 1) ++ ts.drop (n + 1) := by
                  have un : n < us.length := by omega
                  have eu : us[n] = u := by
                    have := List.getElem?_eq_getElem un
                    rw [f5] at this
                    exact (Option.some.inj this).symm
                  rw [List.set_append_right _ _ (by rw [List.length_take]; omega), List.length_take, show n - min n us.length = 0 by omega, List.drop_eq_getElem_cons tl]
                  simp only [List.set_cons_zero]
                  rw [List.take_succ, List.getElem?_eq_getElem un, eu]
                  simp
                rw [eset] at res
                exact res
            refine ⟨.ref a2, by rw [List.getElem?_set_self (by simp; omega)], ?_⟩
            have ix : rIx K (.ref a2) (.int (k : Int)) H4 fun y H4 => tyV K "list" y H4 ∧ ta ((σ.set j o).set j (some (.ref a2))) H4 fun ys H5 => r y ys H5 fun _ H6 => n + 1 ≤ vs.length ∧ (∃ o', (σ.set j o).set j (some (.ref a2)) = σ.set j o') ∧ (∀ b o, ¬ E b → H b = some o → H6 b = some o) ∧ (∀ b, E b → H6 b ≠ none) ∧ RpL K G H6 pv vs (us.take (n + 1) ++ ts.drop (n + 1)) E := by
              rcases g2 with g2 | g2
              · exact .inl ⟨a2, xs2, (k : Int), _, rfl, rfl, .inl (.inl g2), eat, body⟩
              · exact .inr (.inl ⟨a2, xs2, (k : Int), _, rfl, rfl, .inl (.inl g2), eat, body⟩)
            exact ix
          · have hn2 : n = vs.length := by omega
            subst hn2
            refine .inl ⟨⟨vs, .inl (.inl ha'), Nat.le_refl _⟩, ?_⟩
            rw [List.take_of_length_le (by omega), List.drop_eq_nil_of_le (by omega), List.append_nil] at lr
            have S2 := back H' (.lst us) (fun b o nb e => k1 b o (fun z => nb (ss b z).1) e) (fun b cb => by
              by_cases z : E b
              · exact k2 b z
              · cases e : H b with
                | none => exact absurd e (nn b cb)
                | some o2 => rw [k1 b o2 z e]; exact fun z => nomatch z) (.lst ha' aa ss lr)
            have e4 : s.putP i (.lst us) = ⟨s.r.set i (some (.lst us)), s.p⟩ := by unfold BT.S.putP; rw [er]
            rw [e4] at S2
            exact q _ G H' pv .rfl' (List.prefix_refl _) (Sim.drop (o := o) S2)
      · rw [if_neg cc] at q
        exact q.elim
    · exact q.elim
  · exact q.elim
end
section
variable [CA] {X : Cx} {W : WX} {ce : Expr} {rets : List Stmt} {tst : SemT} {g : SemS} {x y : Str} {p p1 p2 apos cpos spos pos pos4 : Pos}
/-- for y in x: if ce: return ..; y[k].clear() -/
theorem r_spoilTClr (i j k : Nat) (hp : PassesOwn (model X.prog X.w) X.A X.env X.xe) (hc : X.calm = true) (hN : X.N.Nodup) (ht : PT X ce (tOfT X.K W tst)) (hr : PSs X rets (sOf X.K W g)) (hi : X.N[i]? = some x := by rfl) (hj : X.N[j]? = some y := by rfl) (hv : Vis X.env.scope x := by first | exact Or.inl rfl | exact Or.inr (Or.inl rfl) | exact Or.inr (Or.inr rfl)) (hw : Vis X.env.scope y := by first | exact Or.inl rfl | exact Or.inr (Or.inl rfl) | exact Or.inr (Or.inr rfl))
    (hl : Loc X.env.scope y := by first | exact Or.inl rfl | exact Or.inr rfl) (hf : X.fn y = true ∨ X.env.scope.names.lookup y = some .local := by first | exact .inl rfl | exact .inr rfl) (hd : (x == ("__debug__" : Str)) = false := by decide) (hcd : (x == ("__classdict__" : Str)) = false := by decide) (hd2 : (y == ("__debug__" : Str)) = false := by decide) (hcd2 : (y == ("__classdict__" : Str)) = false := by decide)
    {kk : Nat} {kz : Int} {q1 q3 : Pos} (hbase : attributeBase (.Subscript (.Name y p1) (.Constant (.int kz) kk q1) spos) "clear" X.env (eval (.Subscript (.Name y p1) (.Constant (.int kz) kk q1) spos) X.env) = eval (.Subscript (.Name y p1) (.Constant (.int kz) kk q1) spos) X.env := by rfl)
    (hline : (apos.endLine == cpos.line) = true := by rfl) (hsw : swapsWith (.Call (.Attribute (.Subscript (.Name y p1) (.Constant (.int kz) kk q1) spos) "clear" apos) [] [] cpos) none q3.line X.env = pure false := by rfl)
    (hkz : kz = (k : Int) := by rfl) (hfs : ∀ z, foldedSetIterable (.Name x p) X.env z = pure z := by intro _; rfl) :
    PS X (.For (.Name y p2) (.Name x p) [.If ce rets [] pos4, .Expr (.Call (.Attribute (.Subscript (.Name y p1) (.Constant (.int kz) kk q1) spos) "clear" apos) [] [] cpos) q3] [] pos) (sOf X.K W (sSpoilT i j k tst cClr [])) := by
  subst hkz
  exact (ps_for hp hc (pi_list (pe_var hi hv hd hcd)) (pg_name hN hj hl hf) (pss_cons (ps_if ht hr pss_nil) (pss_one (ps_expr (pe_bm0 PySem.F.plainAttrs_list PySem.F.slot_list_clear PySem.F.type_list_clear mt_clear (pe_ix ix_seq (pe_var hj hw hd2 hcd2) pe_int (fun _ _ => rfl)) hbase hline) hsw))) hfs).le
    fun _ _ _ h => sSpoilT_le (ta := tNil) chg_clr len_clr mok_clr (fun q => q _ .nil) h
end
theorem sSpoilT_go {i j k : Nat} {tst : SemT} {c : (α : Type) → List α → List α → Option (List α)} {ds : List D} {s : S} {ts us : List T} (e1 : s.r[i]? = some (some (.lst ts))) (e2 : spoilL k c ds ts = some us) (h1 : i ≠ j ∧ j < s.r.length ∧ ds.all D.sc = true ∧ k < 2 ^ 60)
    (h2 : ∀ t ∈ ts, ∃ s', tst ⟨(s.fz.r.set i none).set j (some (.d (t.dat s.sd))), []⟩ = .ok false s') : sSpoilT i j k tst c ds s = .next ⟨(s.r.set i (some (.lst us))).set j none, s.p⟩ := by
  unfold sSpoilT
  rw [e1]
  simp only [e2]
  exact if_pos ⟨h1, h2⟩
end BT
/-! FE: any() of a list of ints. -/
namespace BT
open PySem PySem.Spec PyProof.Rows L2
theorem vals_int : ∀ {ks : List Int} {its : List Value} {i : Nat} {v : Value}, Vals (ks.map V.int) its → its[i]? = some v → ∃ k t, ks[i]? = some k ∧ v = Value.int k t
  | [], _, i, v, .nil, e => by simp at e
  | k :: ks, _, 0, v, .cons r rs, e => by
    simp at e
    subst e
    obtain ⟨t, rfl⟩ := r
    exact ⟨k, t, rfl, rfl⟩
  | k :: ks, _, i + 1, v, .cons r rs, e => by
    rw [List.getElem?_cons_succ] at e ⊢
    exact vals_int rs e
theorem truth_ints {prog : Program} {w : World} {A : Around} {ks : List Int} {its : List Value} (rv : Vals (ks.map V.int) its) :
    TruthOf prog w A (fun i v => its.toArray[i]? = some v) (fun i => ks.getD i 0 != 0) := fun i v s Q E hv hq => by
  have hv' : its[i]? = some v := by simpa using hv
  obtain ⟨k, t, hk, rfl⟩ := vals_int rv hv'
  have hg : ks.getD i 0 = k := by rw [List.getD_eq_getElem?_getD, hk] <;> rfl
  have hq' : Q (ks.getD i 0 != 0) s := hq
  rw [hg] at hq'
  exact truthy_int hq'
theorem any_rangeI : ∀ ks : List Int, (List.range ks.length).any (fun i => ks.getD i 0 != 0) = ks.any fun k => k != 0
  | [] => rfl
  | k :: ks => by
    rw [List.length_cons, List.range_succ_eq_map, List.any_cons, List.any_map, List.any_cons, ← any_rangeI ks]
    all_goals rfl
def rAnyI (K : PySem.W.Frag) : List V → Hp → VK → Prop := fun vs H Q => ∃ (a : Addr) (ks : List Int), vs = [V.ref a] ∧ SqL K H a (ks.map V.int) ∧ Q (.bl (ks.any fun k => k != 0)) H
theorem cr_anyI {X : Cx} (hc : X.calm = true) : CallR X (.builtin "any") (rAnyI X.K) := by
  intro pins s σ H vs us Q I r h
  obtain ⟨a, bs, rfl, hs, q⟩ := h
  obtain ⟨its, rv, hl, _⟩ := I.list hs
  rw [Vals.ref1 r]
  refine call_any_walk (iter_any hl.isList fun s₂ e2 st hne => ?_)
  subst e2
  refine ⟨_, _, _, _, _, _, _, rfl, Walks.list (A := X.A.in1) (I.ok.hd hc) _ a hne its.toArray, st, truth_ints rv, fun h' tk hk => ?_⟩
  refine ⟨.bl _, H, I.kept fun b o eo => hk b o (fun hmem => ?_) (Heap.get?_push_of_some _ eo), ?_, q⟩
  · rcases List.mem_cons.mp hmem with e1 | hmem
    · exact absurd (e1 ▸ Heap.lt_size eo) (Nat.lt_irrefl _)
    · cases hmem
  · show Value.bool _ = Value.bool _
    rw [← any_rangeI bs, List.size_toArray, ← rv.length, List.length_map]
def gAnyI : List D → Option Rv
  | [.lst xs] => (D.ints xs).map fun ns => .one (.bl (ns.any fun k => k != 0))
  | _ => none
theorem o_anyI [CA] {K : PySem.W.Frag} : OpA K (rAnyI K) gAnyI := by
  intro G H x a R Q g va e k
  unfold gAnyI at e
  split at e
  · rename_i xs
    cases q : D.ints xs with
    | none => rw [q] at e; cases e
    | some ns =>
      rw [q] at e
      cases e
      obtain ⟨v, rfl, hv⟩ := vl1 va
      obtain ⟨a1, vs, rfl, h1, l1⟩ := hv.lst_inv
      exact ⟨a1, ns, rfl, by rw [← l1.ints q]; exact (ex_x g h1).l, rvB k⟩
  · cases e
@[simp] theorem gAnyI_l {xs : List D} : gAnyI [.lst xs] = (D.ints xs).map fun ns => .one (.bl (ns.any fun k => k != 0)) := id rfl
end BT
/-! FF: range(x) where x changes a list. -/
namespace BT
open PySem PySem.Spec PyProof.Rows L2
noncomputable def r1W (t : T) (s : S) : Res (List D) := match t.dat [] with
  | .int j => @ite _ (-(2 ^ 62) ≤ j ∧ j < 2 ^ 62) (Classical.propDecidable _) (.ok (intsFrom 0 j.toNat) s) .bad
  | _ => .bad
noncomputable def iR1W (f : Sem) : SemI := fun s => (f s).bind fun t s' => r1W t s'
section
variable [CA] {K : PySem.W.Frag} {F G G' H H' : Hp} {σ : L2.St} {s s' : S} {pv pv' : List V} {W : WX}
theorem iR1W_le {f : Sem} {R : It → Hp → Prop} (h : tOfI K W (iR1W f) σ H R) : iRng1 (tCons (tOf K W f) tNil) σ H R := by
  obtain ⟨F, G, s, pv, S, q⟩ := h
  refine ⟨F, G, s, pv, S, (bind_use q).imp (fun t s1 q1 => ?_) fun _ _ z => z⟩
  intro v G1 H1 pv1 po px S1
  obtain ⟨G2, po2, S2⟩ := S1.freeze
  have hv := S2.top_d
  unfold r1W at q1
  split at q1
  · rename_i j ej
    split at q1
    · rename_i c
      rw [ej] at hv
      rw [vint hv]
      exact ⟨j, rfl, c.1, c.2, q1 _ G2 H1 pv1 (po.tr po2) px S2.pop io_range⟩
    · exact q1.elim
  · exact q1.elim
end
section
variable [CA] {X : Cx} {W : WX} {tg e : Expr} {pos p : Pos} {f : Sem}
theorem i_r1w (hm : X.mg "range" = none) (he : PE X e (tOf X.K W f)) (hg : Gl X "range" := by rfl) (hs : starEach [e] X.env = [(false, eval e X.env)] := by rfl) : PI X tg (.Call (.Name "range" p) [e] [] pos) (tOfI X.K W (iR1W f)) := (pi_range1 hg hm (pa_cons he pa_nil (by rw [hs]; rfl)) hs).le fun _ _ _ q => iR1W_le q
end
theorem r1W_int {j : Int} {s : S} (h1 : -4611686018427387904 ≤ j) (h2 : j < 4611686018427387904) : r1W (.d (.int j)) s = .ok (intsFrom 0 j.toNat) s := by
  show @ite _ (-(2 ^ 62) ≤ j ∧ j < 2 ^ 62) (Classical.propDecidable _) _ _ = _
  exact @if_pos _ (Classical.propDecidable _) ⟨by omega, by omega⟩ _ _ _
@[simp] theorem iR1W_eq {f : Sem} {s : S} : iR1W f s = (f s).bind fun t s' => r1W t s' := id rfl
end BT
/-! FG: an int, and behind the sign something that changes a list. -/
namespace BT
open PySem PySem.Spec PyProof.Rows L2
def kB (g : D → D → Option Rv) (a : D) (t : T) (s : S) : Res T := lk (g a (t.dat [])) s
def sBinR (g : D → D → Option Rv) (fa fb : Sem) : Sem := fun s => pk fa s fun a => match a with
  | .int i => (fb s).bind fun t s' => kB g (.int i) t s'
  | _ => .bad
section
variable [CA] {K : PySem.W.Frag} {F G G' H H' : Hp} {σ : L2.St} {s s' : S} {pv pv' : List V} {W : WX}
theorem sBinR_le {r : R2} {g : D → D → Option Rv} {fa fb : Sem} {Q : VK} (o : Op2 K r g) (h : tOf K W (sBinR g fa fb) σ H Q) : tOp r (tOf K W fa) (tOf K W fb) σ H Q := by
  obtain ⟨F, G, s, pv, S, q⟩ := h
  refine pk_use S q fun x a H1 e1 va S1 q1 => ?_
  cases a with
  | int i =>
    refine ⟨F, G, s, pv, S1, (bind_use q1).imp (fun t s1 q2 => ?_) fun _ _ z => z⟩
    intro v G1 H2 pv1 po px S2
    obtain ⟨G2, po2, S3⟩ := S2.freeze
    have hv := S3.top_d
    unfold kB at q2
    obtain ⟨R, eR, k⟩ := lk_use S3.pop (q2.imp (fun t s' k v G' H' pv' p' x' S' => k v G' H' pv' ((po.tr po2).tr p') (px.trans x') S') fun _ _ z => z)
    rw [vint va]
    exact o G2 H2 (.int i) v (.int i) (t.dat []) R Q S3.eg (.int i) hv eR (k G2)
  | _ => exact q1.elim
end
section
variable [CA] {X : Cx} {W : WX} {a b : Expr} {fa fb : Sem} {pos : Pos}
theorem r_binr {op : Operator} {r : R2} {gg : D → D → Option Rv} (ho : OpR X (binaryOp op) r) (o : Op2 X.K r gg) (ha : PE X a (tOf X.K W fa)) (hb : PE X b (tOf X.K W fb)) : PE X (.BinOp a op b pos) (tOf X.K W (sBinR gg fa fb)) :=
  (pe_op ho ha hb).le fun _ _ _ h => sBinR_le o h
end
@[simp] theorem sBinR_eq {g : D → D → Option Rv} {fa fb : Sem} {s : S} : sBinR g fa fb s = pk fa s fun a => match a with
  | .int i => (fb s).bind fun t s' => kB g (.int i) t s'
  | _ => .bad := id rfl
@[simp] theorem kB_d {g : D → D → Option Rv} {a b : D} {s : S} : kB g a (.d b) s = lk (g a b) s := rfl
end BT
/-! FH: a comprehension that is laid still at once. -/
namespace BT
open PySem PySem.Spec PyProof.Rows L2
section
variable [CA] {X : Cx} {W W0 : WX} {elt tg iter : Expr} {ifs : List Expr} {scope : Scope} {own : List (Str × Nat)} {pos : Pos} {fi : SemI} {h : BT.D → S → Option S} {c : SemT} {f : Sem}
theorem r_setLcZ (i : Nat) {y : Str} {py spos : Pos} (hc : X.calm = true) (hN : X.N.Nodup) (hi : PI X tg iter (tOfI X.K W fi)) (ok : BlkOk X.N X.env.scope scope own)
    (hg : ∀ (s : Shared) (H : Hp) (C : Addr) (cl : List (Str × Addr)) (fp : List Addr), PG (X.blk s H scope (compEnvC scope cl C X.env) fp) tg (gOf X.K (own.map (·.2)) h)) (ht : ∀ (s : Shared) (H : Hp) (C : Addr) (cl : List (Str × Addr)) (fp : List Addr), PTs (X.blk s H scope (compEnvC scope cl C X.env) fp) ifs (tOfT X.K W0 c))
    (he : ∀ (s : Shared) (H : Hp) (C : Addr) (cl : List (Str × Addr)) (fp : List Addr), PE (X.blk s H scope (compEnvC scope cl C X.env) fp) elt (tOf X.K W0 f))
    (hy : X.N[i]? = some y := by rfl) (hyl : X.env.scope.names.lookup y = some .local := by rfl) (hsw : swapsWith (.ListComp elt [⟨tg, iter, ifs, 0⟩] scope pos) (some (.Name y py)) spos.line X.env = pure true := by exact sw_true rfl rfl rfl (by decide +kernel)) (hs : ∀ x, foldedSetIterable iter X.env x = pure x := by intro _; rfl) :
    PS X (.Assign [.Name y py] (.ListComp elt [⟨tg, iter, ifs, 0⟩] scope pos) spos) (sOf X.K W (sAsg i (sZ (sLc fi h c f (own.map (·.2)))))) := (ps_setLc hc hN hy hyl hsw hi ok hg ht he hs).le fun D σ H q => by
  obtain ⟨F, G, s, pv, S, q⟩ := sAsg_le q
  exact sLc_le (sZ_le ⟨F, G, s, pv, S, q⟩)
end
end BT
/-! FI: an item of a list that is lent; an item that is an alias. -/
namespace BT
open PySem PySem.Spec PyProof.Rows L2
/-- the root where the aliases behind root k lead -/
def follow (p : List T) : Nat → List Nat → Option Nat
  | k, [] => some k
  | k, j :: js => match p[k]? with
    | some (.lst ts) => (match ts[j]? with
      | some (.al m) => follow p m js
      | _ => none)
    | _ => none
/-- item j of root k goes back -/
def S.unlI (k j n : Nat) (s : S) : Option S := match s.p[k]?, s.p[n]? with
  | some (.lst ts), some t => (match ts[j]? with
    | some (.al m) => if (m = n ∧ s.p.length = n + 1 ∧ k < n) ∧ albO n s.r = true ∧ T.albL n ((s.p.take n).set k (.lst (ts.set j t))) = true then some ⟨s.r, (s.p.take n).set k (.lst (ts.set j t))⟩ else none
    | _ => none)
  | _, _ => none
/-- g while item j of root k is in the store -/
def lendI (k j : Nat) (g : Sem) : Sem := fun s => match s.p[k]? with
  | some (.lst ts) => (match ts[j]? with
    | some (.al _) => g s
    | some t => (match g ⟨s.r, s.p.set k (.lst (ts.set j (.al s.p.length))) ++ [t]⟩ with
      | .ok u s1 => if u.alb s.p.length = true then (match s1.unlI k j s.p.length with
        | some s2 => .ok u s2
        | none => .bad) else .bad
      | .exc x s1 => (match s1.unlI k j s.p.length with
        | some s2 => .exc x s2
        | none => .bad)
      | .bad => .bad)
    | none => .bad)
  | _ => .bad
/-- a slot's number, as a place -/
def S.ix (i : Nat) (s : S) : Nat := match s.r[i]? with
  | some (some (.d (.int j))) => j.toNat
  | _ => 0
/-- g while the item that the places π lead to, behind slot i, is in the store -/
def sWithI (i : Nat) (π : S → List Nat) (j : S → Nat) (g : Sem) : Sem := fun s => match s.r[i]? with
  | some (some (.al k0)) => (match follow s.p k0 (π s) with
    | some k => lendI k (j s) g s
    | none => .bad)
  | _ => .bad
/-- an item, through an alias too -/
def T.kidR (p : List T) (i : Int) : T → Option T
  | .al k => (match p[k]? with
    | some (.lst ts) => (match atI ts i with
      | some (.al m) => some (.al m)
      | some (.d x) => some (.d x)
      | _ => none)
    | _ => none)
  | t => (match t.kidsA with
    | some us => atI us i
    | none => none)
def sIa (fa fi : Sem) : Sem := fun s => (fa s).bind fun t s1 => pk fi s1 fun x => match x with
  | .int i => (match t.kidR s1.p i with
    | some u => .ok u s1
    | none => .bad)
  | _ => .bad
section
variable [CA] {K : PySem.W.Frag} {F G G' H H' : Hp} {σ σa : L2.St} {s s' : S} {pv pv' pw : List V} {W : WX} {D : Ends}
theorem Sim.loanI {r : List (Option T)} {p : List T} {k j : Nat} {ts : List T} {t : T} (h : Sim K F G H σ ⟨r, p⟩ pv) (ep : p[k]? = some (.lst ts)) (el : ts[j]? = some t) :
    ∃ v, Sim K F G H σ ⟨r, p.set k (.lst (ts.set j (.al p.length))) ++ [t]⟩ (pv ++ [v]) := by
  have lp := h.plen
  obtain ⟨ef, eg, A, B, ho, hs, d, n⟩ := h
  obtain ⟨w, E1, E2, e1, h5, f1, f2, back⟩ := hs.at ep
  cases h5 with
  | @lst a vs _ _ B3 h1 a1 ss l =>
    obtain ⟨v, A1, A2, ev, hv, d1, d2, back1⟩ := l.at el
    have lp2 : pv.length = p.length := lp
    have fm : ∀ Z : AS, Fm K G G H H pv (pv ++ [v]) Z := fun Z => ⟨Ex.rfl', fun _ _ _ z => z, pfx_app pv v⟩
    have l2 := back1 G H (pv ++ [v]) (.al p.length) A2 (fun _ => False) (fm A2) (.al (by rw [← lp2, List.getElem?_append_right (Nat.le_refl _), Nat.sub_self]; rfl)) (fun _ z => z.elim) (fun _ z => z)
    have na : ¬ A1 a := fun z => (ss a (d1 a z).1).2 rfl
    have r2 : Rp K G H (pv ++ [v]) (.ref a) (.lst (ts.set j (.al p.length))) (fun x => E1 x ∧ ¬ A1 x) := .lst (B := A2) h1 ⟨a1, na⟩ (fun x b => ⟨⟨(ss x (d2 x b)).1, fun z => (d1 x z).2 b⟩, (ss x (d2 x b)).2⟩) l2
    have l3 := back G H (pv ++ [v]) _ (fun x => B x ∧ ¬ A1 x) _ (fm E2) r2 (fun x b => ⟨⟨(f1 x b.1).1, b.2⟩, (f1 x b.1).2⟩) fun x b => ⟨f2 x b, fun z => (f1 x (ss x (d1 x z).1).1).2 b⟩
    have inB : ∀ x, A1 x → B x := fun x z => (f1 x (ss x (d1 x z).1).1).1
    refine ⟨v, ef, eg, A, B, ho.fm (fm A), RpL.app l3 (.cons (A := A1) (A1 := A1) (A2 := fun _ => False) (hv.fm (fm A1)) .nil (fun x b => ⟨b, id⟩) fun _ z => z.elim) (fun x b => ⟨b.1, b.2⟩) inB, d, n⟩
theorem Sim.unloanI {r : List (Option T)} {p : List T} {k j : Nat} {ts : List T} {t : T} {v : V} (h : Sim K F G H σ ⟨r, p ++ [t]⟩ (pv ++ [v])) (lp : pv.length = p.length) (ep : p[k]? = some (.lst ts)) (el : ts[j]? = some (.al p.length))
    (c1 : albO p.length r = true) (c2 : T.albL p.length (p.set k (.lst (ts.set j t))) = true) : Sim K F G H σ ⟨r, p.set k (.lst (ts.set j t))⟩ pv := by
  obtain ⟨ef, eg, A, B, ho, hs, d, n⟩ := h
  obtain ⟨B1, B2, k1, k2, b1, b2⟩ := RpL.part lp hs
  have cut : ∀ k, k < p.length → ∀ u, (pv ++ [v])[k]? = some u → pv[k]? = some u := fun k hk u z => by
    rw [List.getElem?_append_left (by rw [lp]; exact hk)] at z
    exact z
  obtain ⟨w, E1, E2, e1, h5, f1, f2, back⟩ := k1.at ep
  cases h5 with
  | @lst a vs _ _ B3 h1 a1 ss l =>
    obtain ⟨y, A1, A2, ev, hv, d1, d2, back1⟩ := l.at el
    have ey : y = v := by
      cases hv with
      | al z =>
        rw [← lp, List.getElem?_append_right (Nat.le_refl _), Nat.sub_self] at z
        exact (Option.some.inj z).symm
    subst ey
    cases k2 with
    | @cons _ _ _ _ _ C1 C2 ht hn s1 s2 =>
      have fm : ∀ Z : AS, Fm K G G H H (pv ++ [y]) (pv ++ [y]) Z := fun Z => ⟨Ex.rfl', fun _ _ _ z => z, fun _ _ z => z⟩
      have cb : ∀ x, C1 x → ¬ B1 x := fun x b z => (b1 x z).2 (s1 x b).1
      have inE : ∀ x, A2 x → E1 x := fun x b => (ss x (d2 x b)).1
      have l2 := back1 G H (pv ++ [y]) t (fun x => A2 x ∨ C1 x) C1 (fm A2) ht (fun x b => ⟨.inr b, fun z => cb x b (f1 x (inE x z)).1⟩) fun x b => .inl b
      have r2 : Rp K G H (pv ++ [y]) (.ref a) (.lst (ts.set j t)) (fun x => E1 x ∨ C1 x) := .lst (B := fun x => A2 x ∨ C1 x) h1 (.inl a1) (fun x b => by
        rcases b with b | b
        · exact ⟨.inl (inE x b), (ss x (d2 x b)).2⟩
        · exact ⟨.inr b, fun w => cb x b (by rw [w]; exact (f1 a a1).1)⟩) l2
      have l3 := back G H (pv ++ [y]) _ (fun x => B1 x ∨ C1 x) _ (fm E2) r2 (fun x b => b.elim (fun z => ⟨.inl (f1 x z).1, (f1 x z).2⟩) fun z => ⟨.inr z, fun q => cb x z (f2 x q)⟩) fun x b => .inl (f2 x b)
      refine ⟨ef, eg, A, _, ho.cutv cut c1, l3.cutv cut c2, fun x b z => z.elim (fun z => d x b (b1 x z).1) fun z => d x b (b2 x (s1 x z).1), fun x b => n x ?_⟩
      rcases b with b | b | b
      · exact .inl b
      · exact .inr (b1 x b).1
      · exact .inr (b2 x (s1 x b).1)
theorem Sim.unlI {k j n : Nat} {s1 s2 : S} {pv1 : List V} {v : V} (h : Sim K F G H σ s1 pv1) (px : pv ++ [v] <+: pv1) (ln : pv.length = n) (e : s1.unlI k j n = some s2) : Sim K F G H σ s2 pv := by
  unfold S.unlI at e
  split at e
  · rename_i _ _ ts t ek en
    split at e
    · rename_i m el
      split at e
      · rename_i c
        cases e
        obtain ⟨⟨c0, c1, c4⟩, c2, c3⟩ := c
        subst c0
        have lp : pv1.length = s1.p.length := h.plen
        have epv := pfx_len px (by rw [lp, c1, ln])
        subst epv
        have ep := take_snoc c1 en
        have lt : (s1.p.take m).length = m := by rw [List.length_take]; omega
        have h2 : Sim K F G H σ ⟨s1.r, s1.p.take m ++ [t]⟩ (pv ++ [v]) := by rw [← ep]; exact h
        exact Sim.unloanI h2 (by rw [lt]; exact ln) (by rw [List.getElem?_take_of_lt c4]; exact ek) (by rw [lt]; exact el) (by rw [lt]; exact c2) (by rw [lt]; exact c3)
      · cases e
    · cases e
  · cases e
theorem Sim.unlI_v {k j n : Nat} {s1 s2 : S} {pv1 : List V} {v w : V} {u : T} (h : Sim K F G H (some w :: σ) ⟨some u :: s1.r, s1.p⟩ pv1) (px : pv ++ [v] <+: pv1) (ln : pv.length = n) (cu : u.alb n = true) (e : s1.unlI k j n = some s2) : Sim K F G H (some w :: σ) ⟨some u :: s2.r, s2.p⟩ pv := by
  refine Sim.unlI (k := k) (j := j) h px ln ?_
  unfold S.unlI at e ⊢
  split at e
  · rename_i _ _ ts t ek en
    split at e
    · rename_i m el
      split at e
      · rename_i c
        cases e
        simp only [ek, en, el]
        exact if_pos ⟨c.1, Bool.and_eq_true_iff.mpr ⟨cu, c.2.1⟩, c.2.2⟩
      · cases e
    · cases e
  · cases e
theorem lendI_le {k j : Nat} {g : Sem} {Q : VK} (h : tOf K W (lendI k j g) σ H Q) : tOf K W g σ H Q := by
  obtain ⟨F, G, s, pv, S, q⟩ := h
  unfold lendI at q
  split at q
  · rename_i ts ep
    split at q
    · exact ⟨F, G, s, pv, S, q⟩
    · rename_i t _ el
      obtain ⟨v, S1⟩ := Sim.loanI (r := s.r) (p := s.p) S ep el
      have ln : pv.length = s.p.length := S.plen
      refine ⟨F, G, _, _, S1, ?_⟩
      cases ef : g ⟨s.r, s.p.set k (.lst (ts.set j (.al s.p.length))) ++ [t]⟩ with
      | bad => rw [ef] at q; exact q.elim
      | ok u s1 =>
        rw [ef] at q
        simp only at q
        by_cases cu : u.alb s.p.length = true
        · rw [if_pos cu] at q
          cases eu : s1.unlI k j s.p.length with
          | none => rw [eu] at q; exact q.elim
          | some s2 =>
            rw [eu] at q
            exact fun w G1 H1 pv1 po px S2 => q w G1 H1 pv po (List.prefix_refl _) (Sim.unlI_v S2 px ln cu eu)
        · rw [if_neg cu] at q
          exact q.elim
      | exc x s1 =>
        rw [ef] at q
        simp only at q
        cases eu : s1.unlI k j s.p.length with
        | none => rw [eu] at q; exact q.elim
        | some s2 =>
          rw [eu] at q
          exact fun cls d G1 H1 pv1 po px S2 r => q cls d G1 H1 pv po (List.prefix_refl _) (Sim.unlI S2 px ln eu) r
    · exact q.elim
  · exact q.elim
theorem sWithI_le {i : Nat} {π : S → List Nat} {j : S → Nat} {g : Sem} {Q : VK} (h : tOf K W (sWithI i π j g) σ H Q) : tOf K W g σ H Q := by
  obtain ⟨F, G, s, pv, S, q⟩ := h
  unfold sWithI at q
  split at q
  · split at q
    · rename_i k ek
      exact lendI_le ⟨F, G, s, pv, S, q⟩
    · exact q.elim
  · exact q.elim
theorem sIa_le {fa fi : Sem} {Q : VK} (h : tOf K W (sIa fa fi) σ H Q) : tOp (rIx K) (tOf K W fa) (tOf K W fi) σ H Q := by
  obtain ⟨F, G, s, pv, S, q⟩ := h
  refine ⟨F, G, s, pv, S, (bind_use q).imp (fun t s1 q1 => ?_) fun _ _ z => z⟩
  intro v G1 H1 pv1 po px S1
  have q1' := Res.go.imp q1 (fun _ _ z => KOk.after po px z) fun _ _ z => KEx.after po px z
  refine pk_use (W := W) (F := F) (G := G1) (pv := pv1) S1.pop q1' fun w x H2 e2 vw S3 q2 => ?_
  cases x with
  | int i =>
    simp only at q2
    cases ek : t.kidR s1.p i with
    | none => rw [ek] at q2; exact q2.elim
    | some u =>
      rw [ek] at q2
      have hw := vint vw
      cases t with
      | al k =>
        unfold T.kidR at ek
        simp only at ek
        have S4 := S1.grow e2
        have eal := S4.al_top
        cases ep : s1.p[k]? with
        | none => rw [ep] at ek; cases ek
        | some r0 =>
          rw [ep] at ek
          cases r0 with
          | lst ts =>
            simp only at ek
            obtain ⟨v2, Aa, A1, ev, _, hu, _, _, _, _, _⟩ := Sim.root (σa := []) (ra := []) (r := s1.r) (p := s1.p) (h := S4.pop) rfl ep
            rw [eal] at ev
            cases ev
            cases hu with
            | @lst b zs _ _ B h1 a1 ss l =>
              cases ea : L2.atI ts i with
              | none => rw [ea] at ek; cases ek
              | some y =>
                rw [ea] at ek
                have lz : zs.length = ts.length := l.len
                unfold L2.atI at ea
                cases ei : ixN ts.length i with
                | none => rw [ei] at ea; cases ea
                | some j =>
                  rw [ei] at ea
                  obtain ⟨z, A3, A4, ez, hz, _, _, _⟩ := l.at ea
                  have az : L2.atI zs i = some z := by
                    unfold L2.atI
                    rw [lz, ei]
                    exact ez
                  have fin : Q z H2 := by
                    cases y with
                    | al m =>
                      cases ek
                      cases hz with
                      | al hz => exact q2 z G1 H2 pv1 .rfl' (List.prefix_refl _) (S4.pop.push_al hz)
                    | d x =>
                      cases ek
                      cases hz with
                      | d hz => exact q2 z G1 H2 pv1 .rfl' (List.prefix_refl _) (S4.pop.push_d hz)
                    | lst _ => cases ek
                    | tup _ => cases ek
                    | dic _ => cases ek
                    | obj _ _ => cases ek
                  exact .inl ⟨b, zs, i, z, rfl, hw, sq_of h1, az, fin⟩
          | d _ => cases ek
          | al _ => cases ek
          | tup _ => cases ek
          | dic _ => cases ek
          | obj _ _ => cases ek
      | _ =>
        unfold T.kidR at ek
        simp only at ek
        split at ek
        · rename_i us ek2
          obtain ⟨b, zs, rfl, hb, lz, S4⟩ := Sim.kidsA (r := s1.r) (p := s1.p) (S1.grow e2) ek2
          unfold L2.atI at ek
          cases ei : ixN us.length i with
          | none => rw [ei] at ek; cases ek
          | some j =>
            rw [ei] at ek
            obtain ⟨z, ez, S5⟩ := Sim.pick S4 lz ek
            have az : L2.atI zs i = some z := by
              unfold L2.atI
              rw [lz, ei]
              exact ez
            have fin : Q z H2 := q2 z G1 H2 pv1 .rfl' (List.prefix_refl _) S5
            rcases hb with hb | hb
            · exact .inl ⟨b, zs, i, z, rfl, hw, hb, az, fin⟩
            · exact .inr (.inl ⟨b, zs, i, z, rfl, hw, hb, az, fin⟩)
        · cases ek
  | _ => exact q2.elim
end
section
variable [CA] {X : Cx} {W : WX} {e a b : Expr} {g fa fb : Sem} {pos : Pos}
theorem r_withI (i : Nat) (π : S → List Nat) (j : S → Nat) (he : PE X e (tOf X.K W g)) : PE X e (tOf X.K W (sWithI i π j g)) := he.le fun _ _ _ h => sWithI_le h
theorem r_ia (ha : PE X a (tOf X.K W fa)) (hb : PE X b (tOf X.K W fb)) (hs : PlainIx b := by exact fun _ _ => rfl) : PE X (.Subscript a b pos) (tOf X.K W (sIa fa fb)) := (pe_ix ix_seq ha hb hs).le fun _ _ _ h => sIa_le h
end
section
variable {s : S} {r : List (Option T)} {p : List T} {i k j n : Nat} {g fa fi : Sem} {π : S → List Nat} {jj : S → Nat}
@[simp] theorem sWithI_eq : sWithI i π jj g s = match s.r[i]? with
  | some (some (.al k0)) => (match follow s.p k0 (π s) with
    | some k => lendI k (jj s) g s
    | none => .bad)
  | _ => .bad := id rfl
@[simp] theorem sIa_eq : sIa fa fi s = (fa s).bind fun t s1 => pk fi s1 fun x => match x with
  | .int i => (match t.kidR s1.p i with
    | some u => .ok u s1
    | none => .bad)
  | _ => .bad := id rfl
@[simp] theorem follow_nil : follow p k [] = some k := rfl
@[simp] theorem follow_cons {js : List Nat} : follow p k (j :: js) = match p[k]? with
  | some (.lst ts) => (match ts[j]? with
    | some (.al m) => follow p m js
    | _ => none)
  | _ => none := rfl
@[simp] theorem kidR_al {i : Int} : (T.al k).kidR p i = match p[k]? with
    | some (.lst ts) => (match atI ts i with
      | some (.al m) => some (.al m)
      | some (.d x) => some (.d x)
      | _ => none)
    | _ => none := rfl
@[simp] theorem kidR_lst {i : Int} {ts : List T} : (T.lst ts).kidR p i = atI ts i := rfl
@[simp] theorem kidR_d {i : Int} {ds : List D} : (T.d (.lst ds)).kidR p i = atI (ds.map .d) i := rfl
@[simp] theorem kidR_dt {i : Int} {ds : List D} : (T.d (.tup ds)).kidR p i = atI (ds.map .d) i := rfl
@[simp] theorem ix_mk : (S.mk r p).ix i = match r[i]? with
  | some (some (.d (.int j))) => j.toNat
  | _ => 0 := rfl
/-- an item lent: what g does with it in the store -/
theorem lendI_ok {ts : List T} {t t' u : T} {p' : List T} (ep : p[k]? = some (.lst ts)) (et : ts[j]? = some t) (nt : ∀ m, t ≠ .al m)
    (hg : g ⟨r, p.set k (.lst (ts.set j (.al p.length))) ++ [t]⟩ = .ok u ⟨r, p'.set k (.lst (ts.set j (.al p.length))) ++ [t']⟩) (hl : p'.length = p.length) (hu : u.alb p.length = true) (hr : albO p.length r = true)
    (hA : T.albL p.length (p'.set k (.lst (ts.set j t'))) = true) : lendI k j g ⟨r, p⟩ = .ok u ⟨r, p'.set k (.lst (ts.set j t'))⟩ := by
  have hk : k < p.length := (List.getElem?_eq_some_iff.mp ep).1
  have hj : j < ts.length := (List.getElem?_eq_some_iff.mp et).1
  have e1 : (p'.set k (.lst (ts.set j (.al p.length))) ++ [t'])[k]? = some (.lst (ts.set j (.al p.length))) := by
    rw [List.getElem?_append_left (by rw [List.length_set]; omega), List.getElem?_set_self (by omega)]
  have e2 : (p'.set k (.lst (ts.set j (.al p.length))) ++ [t'])[p.length]? = some t' := by
    rw [List.getElem?_append_right (by rw [List.length_set]; omega), List.length_set, hl, Nat.sub_self]; rfl
  have e3 : (ts.set j (.al p.length))[j]? = some (.al p.length) := List.getElem?_set_self hj
  have e4 : (p'.set k (.lst (ts.set j (.al p.length))) ++ [t']).take p.length = p'.set k (.lst (ts.set j (.al p.length))) := by
    rw [List.take_append_of_le_length (by rw [List.length_set]; omega), List.take_of_length_le (by rw [List.length_set]; omega)]
  have hun : (S.mk r (p'.set k (.lst (ts.set j (.al p.length))) ++ [t'])).unlI k j p.length = some ⟨r, p'.set k (.lst (ts.set j t'))⟩ := by
    unfold S.unlI
    simp only [e1, e2, e3, e4, List.set_set]
    rw [if_pos ⟨⟨trivial, by rw [List.length_append, List.length_set, hl]; rfl, hk⟩, hr, hA⟩]
  unfold lendI
  simp only [ep, et]
  cases t with
  | al m => exact absurd rfl (nt m)
  | _ => simp only [hg, hu, if_true, hun]
end
end BT
/-! FJ: list(reversed(x)). -/
namespace BT
open PySem PySem.Spec PyProof.Rows L2 RT
section
variable {prog : Program} {w : World} {A : Around} {E : Value → Shared → Prop} {s : Shared}
theorem list_init_rev {R : Result → Shared → Prop} {it l : Addr} {items : Array Value} (hh : A.handled = none) (hit : s.heap.IsRevIter it l ((items.size : Int) - 1)) (hl : s.heap.IsList l items) (hne : l ≠ it) (hn : items.size ≤ sizeLine) (S : Addr) (hS : s.heap.get? S = some { cls := .type "list", data := .seq #[] }) (hSi : S ≠ it) (hSl : S ≠ l)
    (hR : ∀ h' tk acc' c', (∀ b o, b ≠ S → b ≠ it → s.heap.get? b = some o → h'.get? b = some o) → h'.get? S = some { cls := .type "list", dict := none, data := .seq acc' c', slots := #[] } →
      ItemsOf (fun i v => items[items.size - 1 - i]? = some v) acc' items.size → R (.ok (.ret .none)) { s with heap := h', toks := tk }) :
    wpAny (model prog w) A.in1 (Builtin.«list.__init__» ⟨[.ref S, .ref it], []⟩)
      (fun fin s' => match fin with | .done f => R (.ok f) s' | .again c' => c'.quiet = true ∧ codeAny (model prog w) A c' R s') (fun e s' => R (.error e) s') s := by
  have W := (Walks.listRev (prog := prog) (w := w) (A := A.in1) hh it l hne items).toS
  have hSf : S ∉ [it, l] := by simp only [List.mem_cons, List.not_mem_nil, or_false, not_or]; exact ⟨hSi, hSl⟩
  show wpAny _ _ (do let old ← Builtin.List.listItems (.ref S); Builtin.List.listUpdate (.ref S) (fun _ => #[]); letGo old.toList.reverse; Builtin.List.listExtendWith (.ref S) (.ref it) .none) _ _ s
  refine wpAny_bind ?_
  unfold Builtin.List.listItems
  refine wpAny_bind (wpAny_seqItems hS rfl (wpAny_pure ?_))
  show wpAny _ _ (updateSeq S (fun _ => #[]) >>= fun _ => letGo (#[] : Array Value).toList.reverse >>= fun _ => Builtin.List.listExtendWith (.ref S) (.ref it) .none) _ _ s
  refine wpAny_bind (wpAny_updateSeq hS rfl ?_)
  have hS₂ := Heap.get?_update_self (Obj.mapSeq (fun _ => (#[] : Array Value))) hS rfl
  have oth : ∀ b o, b ≠ S → s.heap.get? b = some o → (s.heap.update S (Obj.mapSeq (fun _ => (#[] : Array Value)))).get? b = some o :=
    fun b o hb e => (Heap.get?_update_other _ _ (Ne.symm hb)).trans e
  refine wpAny_bind (wpAny_letGo ?_)
  have hit1 : (s.heap.update S (Obj.mapSeq (fun _ => (#[] : Array Value)))).IsRevIter it l ((items.size : Int) - 1) := hit.at fun o e => oth it o (Ne.symm hSi) e
  have hl1 : (s.heap.update S (Obj.mapSeq (fun _ => (#[] : Array Value)))).IsList l items := by
    obtain ⟨o, ho, r⟩ := hl
    exact ⟨o, oth l o (Ne.symm hSl) ho, r⟩
  have hT : ({ s with heap := s.heap.update S (Obj.mapSeq (fun _ => (#[] : Array Value))) } : Shared).TypeIs (.ref it) "list_reverseiterator" := Heap.IsRevIter.typeIs (s := { s with heap := s.heap.update S (Obj.mapSeq (fun _ => (#[] : Array Value))) }) hit1
  have h1 : Builtin.List.listSameRef (.ref S) (.ref it) = false := by simp [Builtin.List.listSameRef, hSi]
  unfold Builtin.List.listExtendWith
  refine wpAny_bind (wpAny_typeOf hT ?_)
  rw [if_neg (by rw [h1]; decide)]
  refine wpAny_bind (wpAny_pyIter_revIter (s := { s with heap := s.heap.update S (Obj.mapSeq (fun _ => (#[] : Array Value))) }) hit1 ?_)
  refine wpAny_bind (wpAny_holding ?_)
  unfold Builtin.List.listLengthHint
  refine wpAny_bind (wpAny_specialOf hT nolen_lri ?_)
  show wpAny _ A.in1 (specialOf (Value.ref it) (Str.ofString "__length_hint__") >>= _) _ _ _
  refine wpAny_bind (wpAny_specialOf hT hint_lri ?_)
  generalize hid : ("list_reverseiterator.__length_hint__" : String) = id0
  wp_delta
  rw [show splitId id0 = some ("list_reverseiterator", "__length_hint__") from by subst hid; decide +kernel]
  subst hid
  refine wpAny_bind (wpAny_isInstance (b := true) hT (by rw [isSubtype_type]; kernel_rfl) ?_)
  refine wpAny_pure ?_
  rw [if_neg (by decide)]
  have e0 : ((items.size : Nat) : Int) - 1 - ((0 : Nat) : Int) = (items.size : Int) - 1 := by omega
  refine wpAny_pure ⟨plainId_quiet F.plain_extend_loop _, codeAny_extend_loopS W hn _ hSf _ items.size 0 _ _ _ rfl (Nat.zero_le _) ⟨Nat.zero_le _, by rw [e0]; exact hit1, hl1⟩ hS₂ (ItemsOf.nil _) fun s' acc' c' hm hS' hacc => ?_⟩
  rw [Moved.eq_with hm]
  refine hR s'.heap s'.toks acc' c' (fun b o hb hc e => hm.heap b o (fun hmem => ?_) (oth b o hb e)) hS' hacc
  rcases List.mem_cons.mp hmem with e' | hmem
  · exact hb e'
  · exact hc (List.mem_singleton.mp hmem)
theorem call_list_rev {Q : Value → Shared → Prop} {it l : Addr} {items : Array Value} (hh : A.handled = none) (hit : s.heap.IsRevIter it l ((items.size : Int) - 1)) (hl : s.heap.IsList l items) (hne : l ≠ it) (hn : items.size ≤ sizeLine)
    (hQ : ∀ h' tk acc' c', (∀ b o, b ≠ it → s.heap.get? b = some o → h'.get? b = some o) →
      h'.get? s.heap.objs.size = some { cls := .type "list", dict := none, data := .seq acc' c', slots := #[] } → ItemsOf (fun i v => items[items.size - 1 - i]? = some v) acc' items.size → Q (.ref s.heap.objs.size) { s with heap := h', toks := tk }) :
    wpAny (model prog w) A (call (.type "list") [.ref it]) Q E s := by
  refine callType_codes (Q₁ := fun obj s₁ => obj = .ref s.heap.objs.size ∧ s₁ = { s with heap := s.heap.push { cls := .type "list", data := .seq #[] } }) F.called_list (F.typeCall_list_1 _) F.entry_list_init
    (code_list_new _ ⟨rfl, rfl⟩) fun obj s₁ h₁ => ?_
  obtain ⟨rfl, rfl⟩ := h₁
  have hS : (s.heap.push { cls := .type "list", data := .seq #[] }).get? s.heap.objs.size = some { cls := .type "list", data := .seq #[] } := Heap.get?_push_size _ rfl
  obtain ⟨oi, hoi, _⟩ := id hit
  obtain ⟨ol, hol, _⟩ := id hl
  refine ⟨⟨_, hS, rfl⟩, F.args_list_init_2 _ _, list_init_rev (A := A.in1) hh (hit.at fun o e => Heap.get?_push_of_some _ e) (hl.push _) hne hn _ hS (Nat.ne_of_gt (Heap.lt_size hoi)) (Nat.ne_of_gt (Heap.lt_size hol)) fun h' tk acc' c' hk hS' hacc => ?_⟩
  exact ⟨rfl, hQ h' tk acc' c' (fun b o hb e => hk b o (Nat.ne_of_lt (Heap.lt_size e)) hb (Heap.get?_push_of_some _ e)) hS' hacc⟩
end
def tLstRev (K : PySem.W.Frag) (te : TE) : TE := fun σ H Q => te σ H fun v H1 => ∃ (a : Addr) (xs : List V), v = .ref a ∧ SqL K H1 a xs ∧ ∀ q, H1 q = none → Q (.ref q) (upd H1 q (.lst xs.reverse))
section
variable {X : Cx}
theorem pe_lstRev {e : Expr} {te : TE} {p p2 pos pos2 : Pos} (hc : X.calm = true) (hg : Gl X "list") (hm : X.mg "list" = none) (hg2 : Gl X "reversed") (hm2 : X.mg "reversed" = none) (he : PE X e te)
    (hs : starEach [e] X.env = (false, eval e X.env) :: starEach [] X.env := by rfl)
    (hs2 : starEach [.Call (.Name "reversed" p2) [e] [] pos2] X.env = (false, eval (.Call (.Name "reversed" p2) [e] [] pos2) X.env) :: starEach [] X.env := by rfl) :
    PE X (.Call (.Name "list" p) [.Call (.Name "reversed" p2) [e] [] pos2] [] pos) (tLstRev X.K te) := by
  refine ⟨fun pins s σ H Q I h => ?_⟩
  refine Call_ (ld_blt I hg hm boot_list (PyProof.Rows.callWith_type1 (args_cons (Call_ (ld_blt I hg2 hm2 PyProof.Rows.boot_reversed (PyProof.Rows.callWith_type1 (args_cons (thn (he.run pins s σ H _ I h) fun u s1 ⟨v, H1, I1, r1, q1⟩ => args_nil ?_) hs) hs rfl))) hs2) hs2 rfl))
  obtain ⟨a, xs, ev, hq, q⟩ := q1
  subst ev
  obtain rfl : u = Value.ref a := r1
  obtain ⟨its, rv, p', hz⟩ := I1.list hq
  refine call_reversed_list p'.isList (args_nil ?_)
  have k0 : ∀ b o, s1.heap.get? b = some o → (s1.heap.push (revObj a ((its.toArray.size : Int) - 1))).get? b = some o := fun b o e => Heap.get?_push_of_some _ e
  have I2 : Inv X pins σ H1 { s1 with heap := s1.heap.push (revObj a ((its.toArray.size : Int) - 1)) } := I1.kept (t' := s1.toks) k0
  obtain ⟨f0, f1, f2, f3, f4, f5⟩ := I1.fpOk (H' := H1) (b := s1.heap.objs.size) (Nat.le_refl _) (I1.hok.fresh (Nat.le_refl _))
  have hl := p'.isList
  obtain ⟨ol, hol, _⟩ := id hl
  have hne : a ≠ s1.heap.objs.size := Nat.ne_of_lt (Heap.lt_size hol)
  have hn : its.toArray.size ≤ sizeLine := by rw [List.size_toArray, ← rv.length]; exact hz
  refine call_list_rev (s := { s1 with heap := s1.heap.push (revObj a ((its.toArray.size : Int) - 1)) }) (I1.ok.hd hc) ⟨_, Heap.get?_push_size _ rfl, rfl, rfl⟩ (hl.push _) hne hn fun h' tk acc c' hk e' hi => ?_
  have hlt : s1.heap.objs.size ≤ (s1.heap.push (revObj a ((its.toArray.size : Int) - 1))).objs.size := by simp [Heap.push]
  refine ⟨.ref _, upd H1 (s1.heap.push (revObj a ((its.toArray.size : Int) - 1))).objs.size (.lst xs.reverse), I1.laid (t' := tk) (fun c o e => hk c o (Nat.ne_of_lt (Heap.lt_size e)) (Heap.get?_push_of_some _ e)) hlt (show ObjOk X.prog X.w _ _ _ (.lst xs.reverse) from ⟨by rw [List.length_reverse]; exact hz, acc.toList, c', vals_rev rv hi, ?_⟩), rfl, q _ (I1.hok.fresh hlt)⟩
  rw [Array.toArray_toList]; exact e'
end
/-- list(reversed(x)), x a list -/
def gRev : D → Option Rv
  | .lst xs => some (.lst xs.reverse)
  | _ => none
def sRevL (fa : Sem) : Sem := fun s => pk fa s fun a => lk (gRev a) s
section
variable [CA] {K : PySem.W.Frag} {F G G' H H' : Hp} {σ : L2.St} {s s' : S} {pv pv' : List V} {W : WX}
theorem vwl_rev {G : Hp} : ∀ {vs : List V} {ds : List BT.D}, VwL K G vs ds → VwL K G vs.reverse ds.reverse := by
  intro vs
  induction vs with
  | nil => intro ds h; cases h; exact .nil
  | cons v vs ih =>
    intro ds h
    cases h with
    | cons h1 h2 =>
      rw [List.reverse_cons, List.reverse_cons]
      exact VwL.app (ih h2) (.cons h1 .nil)
theorem sRevL_le {fa : Sem} {Q : VK} (h : tOf K W (sRevL fa) σ H Q) : tLstRev K (tOf K W fa) σ H Q := by
  obtain ⟨F, G, s, pv, S, q⟩ := h
  refine pk_use S q fun v x H1 e1 va S1 q1 => ?_
  cases x with
  | lst ds =>
    obtain ⟨R, eR, k⟩ := lk_use S1 q1
    cases eR
    obtain ⟨a1, vs, rfl, h1, l1⟩ := va.lst_inv
    exact ⟨a1, vs, rfl, h1.l, fun p hp => k H1 _ p (vwl_rev l1) hp⟩
  | _ => exact q1.elim
end
section
variable [CA] {X : Cx} {W : WX} {e : Expr} {f : Sem} {p p2 pos pos2 : Pos}
theorem r_revL (hc : X.calm = true) (hm : X.mg "list" = none) (hm2 : X.mg "reversed" = none) (he : PE X e (tOf X.K W f)) (hg : Gl X "list" := by rfl) (hg2 : Gl X "reversed" := by rfl)
    (hs : starEach [e] X.env = (false, eval e X.env) :: starEach [] X.env := by rfl)
    (hs2 : starEach [.Call (.Name "reversed" p2) [e] [] pos2] X.env = (false, eval (.Call (.Name "reversed" p2) [e] [] pos2) X.env) :: starEach [] X.env := by rfl) :
    PE X (.Call (.Name "list" p) [.Call (.Name "reversed" p2) [e] [] pos2] [] pos) (tOf X.K W (sRevL f)) := (pe_lstRev hc hg hm hg2 hm2 he hs hs2).le fun _ _ _ h => sRevL_le h
end
@[simp] theorem sRevL_eq {fa : Sem} {s : S} : sRevL fa s = pk fa s fun a => lk (gRev a) s := id rfl
@[simp] theorem gRev_lst {xs : List D} : gRev (.lst xs) = some (.lst xs.reverse) := rfl
end BT
/-! FK: a loop over a list that is lent, or stands still. -/
namespace BT
open PySem PySem.Spec PyProof.Rows L2
open Classical in
noncomputable def sLoopC (chk : S → Prop) (h : D → S → Option S) (body : SemS) : List D → SemS
  | [], s => if chk s then .next s else .bad
  | d :: ds, s => if chk s then (match h d s with
    | none => .bad
    | some s1 => match body s1 with
      | .next s2 => sLoopC chk h body ds s2
      | .cont s2 => sLoopC chk h body ds s2
      | .brk s2 => .next s2
      | .ret t s2 => .ret t s2
      | .exc x s2 => .exc x s2
      | .bad => .bad) else .bad
/-- root k is the list ds -/
def okA (k : Nat) (ds : List D) (s : S) : Prop := s.p[k]? = some (.lst (ds.map .d))
def enB (en : Bool) (ds : List D) : List D := if en then enumFrom' 0 ds else ds
def itB (en : Bool) : T → S → Option ((S → Prop) × List D)
  | .al k, s => (match s.p[k]? with
    | some (.lst ts) => (match T.allD ts with
      | some ds => some (okA k ds, enB en ds)
      | none => none)
    | _ => none)
  | t, _ => (match t.dat [] with
    | .lst ds => some (fun _ => True, enB en ds)
    | _ => none)
noncomputable def sForB (en : Bool) (fo : Sem) (h : D → S → Option S) (body : SemS) : SemS := fun s => (fo s).bindF fun t s' => match itB en t s' with
  | some (chk, ds) => sLoopC chk h body ds s'
  | none => .bad
section
variable [CA] {K : PySem.W.Frag} {F G G' H H' : Hp} {σ : L2.St} {s s' : S} {pv pv' : List V} {W : WX} {D : Ends}
/-- item i is the data ds[i], as long as chk is kept -/
def IOk2 [CA] (K : PySem.W.Frag) (F G : Hp) (pv : List V) (J : It) (chk : S → Prop) (ds : List BT.D) : Prop := ∀ G1 H σ s pv1, Sim K F G1 H σ s pv1 → Post F G G1 → pv <+: pv1 → chk s → ∀ i : Nat, (i < ds.length → J.go i H) ∧ (ds.length ≤ i → J.stop i H) ∧
  ∀ x H' d, ds[i]? = some d → J.yld i H x H' → ∃ G2, Ex H H' ∧ Ex G1 G2 ∧ Ex G2 H' ∧ (∀ a, H a ≠ none → G2 a = G1 a) ∧ Vw K G2 x d
theorem IOk.two {J : It} {ds : List BT.D} (h : IOk K F G J ds) : IOk2 K F G pv J (fun _ => True) ds := fun G1 H σ s pv1 S po _ _ i => h G1 H po S.eg S.ef i
theorem vwl_allD : ∀ {vs : List V} {ds : List BT.D} {A : AS}, RpL K G H pv vs (ds.map .d) A → VwL K G vs ds := by
  intro vs ds
  induction ds generalizing vs with
  | nil => intro A h; cases h; exact .nil
  | cons d ds ih =>
    intro A h
    rw [List.map_cons] at h
    cases h with
    | cons h1 h2 _ _ =>
      cases h1 with
      | d h1 => exact .cons h1 (ih h2)
theorem allD_map : ∀ {ts : List T} {ds : List BT.D}, T.allD ts = some ds → ts = ds.map .d := by
  intro ts
  induction ts with
  | nil => intro ds e; cases e; rfl
  | cons t ts ih =>
    intro ds e
    unfold T.allD at e
    cases t with
    | d x =>
      simp only at e
      cases e2 : T.allD ts with
      | none => rw [e2] at e; cases e
      | some es => rw [e2] at e; cases e; rw [List.map_cons, ← ih e2]
    | _ => cases e
/-- where a lent list lies -/
theorem rootL {r : List (Option T)} {p : List T} {k : Nat} {ds : List BT.D} {v : V} (S : Sim K F G H σ ⟨r, p⟩ pv) (ek : pv[k]? = some v) (ep : p[k]? = some (.lst (ds.map .d))) : ∃ a vs, v = .ref a ∧ H a = some (.lst vs) ∧ VwL K G vs ds := by
  obtain ⟨v2, Aa, A1, ev, _, hu, _, _, _, _, _⟩ := Sim.root (σa := []) (ra := []) (r := r) (p := p) (h := S) rfl ep
  rw [ek] at ev
  cases ev
  cases hu with
  | lst h1 a1 ss l => exact ⟨_, _, rfl, h1, vwl_allD l⟩
theorem io2_list {k : Nat} {a : Addr} {ds : List BT.D} (ek : pv[k]? = some (.ref a)) : IOk2 K F G pv (Itl K a) (okA k ds) ds := by
  intro G1 H σ s pv1 S po px hc i
  obtain ⟨a', vs, e, h, l⟩ := rootL (r := s.r) (p := s.p) S (pfx px _ _ ek) hc
  cases e
  have hq : SqL K H a vs := sq_of h
  refine ⟨fun c => ⟨vs, vs[i]'(by rw [l.len]; exact c), hq, by rw [List.getElem?_eq_getElem]⟩, fun c => ⟨vs, hq, by rw [l.len]; exact c⟩, fun x H' d e y => ?_⟩
  obtain ⟨rfl, y⟩ := y
  exact ⟨G1, Ex.rfl', Ex.rfl', S.eg, fun _ _ => rfl, l.at (y vs hq) e⟩
theorem io2_enum {k : Nat} {a : Addr} {ds : List BT.D} (ek : pv[k]? = some (.ref a)) : IOk2 K F G pv (Ite K a) (okA k ds) (enumFrom' 0 ds) := by
  intro G1 H σ s pv1 S po px hc i
  obtain ⟨a', vs, e, h, l⟩ := rootL (r := s.r) (p := s.p) S (pfx px _ _ ek) hc
  cases e
  have hq : SqL K H a vs := sq_of h
  rw [enum_len]
  refine ⟨fun c => ⟨vs, vs[i]'(by rw [l.len]; exact c), hq, by rw [List.getElem?_eq_getElem]⟩, fun c => ⟨vs, hq, by rw [l.len]; exact c⟩, fun x H' d e y => ?_⟩
  obtain ⟨T, y, rfl, hT, rfl, hy⟩ := y
  obtain ⟨z, e1, e2⟩ := enum_at ds 0 i d e
  subst e2
  have hv := l.at (hy vs hq) e1
  rw [Nat.zero_add]
  exact tup_new S.eg hT (.cons (.int _) (.cons hv .nil))
theorem loopC_le {J : It} {chk : S → Prop} {ds : List BT.D} {h : BT.D → S → Option S} {ns : List Nat} {body : SemS} {G1 H1 : Hp} {s1 : S} {pv1 : List V} (S1 : Sim K F G1 H1 σ s1 pv1) (io : IOk2 K F G1 pv1 J chk ds) (q1 : Fin K F G1 pv1 W D (sLoopC chk h body ds s1)) :
    ∃ Wx : Nat → Nat → L2.St → Hp → Prop, (∃ m, Wx 0 m σ H1) ∧ ∀ i m σ H, Wx i m σ H →
      (J.stop i H ∧ D.nx σ H) ∨ (J.go i H ∧ ∃ N : L2.St → Hp → Prop, (∀ σ' H', N σ' H' → ∃ m', m' < m ∧ Wx (i + 1) m' σ' H') ∧ ∀ x H', J.yld i H x H' → gOf K ns h x σ H' fun σ2 H2 => sOf K W body { D with nx := N, ct := N, bk := D.nx } σ2 H2) := by
  refine ⟨fun i m σ H => m = ds.length - i ∧ i ≤ ds.length ∧ ∃ G2 s2 pv2, Post F G1 G2 ∧ pv1 <+: pv2 ∧ Sim K F G2 H σ s2 pv2 ∧ Fin K F G2 pv2 W D (sLoopC chk h body (ds.drop i) s2),
    ⟨ds.length, by simp, Nat.zero_le _, G1, s1, pv1, .rfl', List.prefix_refl _, S1, by rw [List.drop_zero]; exact q1⟩, fun i m σ2 H2 w => ?_⟩
  obtain ⟨rfl, hi, G2, s2, pv2, po2, px2, S2, f2⟩ := w
  have hc : chk s2 := by
    cases hd : ds.drop i with
    | nil =>
      rw [hd] at f2
      unfold sLoopC at f2
      by_cases c : chk s2
      · exact c
      · rw [if_neg c] at f2; exact f2.elim
    | cons d r =>
      rw [hd] at f2
      unfold sLoopC at f2
      by_cases c : chk s2
      · exact c
      · rw [if_neg c] at f2; exact f2.elim
  obtain ⟨go, stop, yld⟩ := io G2 H2 σ2 s2 pv2 S2 po2 px2 hc i
  by_cases hlt : i < ds.length
  · refine .inr ⟨go hlt, fun σ3 H3 => i + 1 ≤ ds.length ∧ ∃ G3 s3 pv3, Post F G1 G3 ∧ pv1 <+: pv3 ∧ Sim K F G3 H3 σ3 s3 pv3 ∧ Fin K F G3 pv3 W D (sLoopC chk h body (ds.drop (i + 1)) s3), fun σ3 H3 n => ⟨ds.length - (i + 1), by omega, rfl, n.1, n.2⟩, fun x H3 y => ?_⟩
    obtain ⟨G3, e1, e2, e3, e4, hv⟩ := yld x H3 ds[i] (by rw [List.getElem?_eq_getElem hlt]) y
    have S3 := S2.more e1 e2 e3 e4
    have po3 : Post F G2 G3 := ⟨e2, fun a o z => e4 a (by rw [S2.ef a o z]; exact fun z => nomatch z)⟩
    rw [List.drop_eq_getElem_cons hlt] at f2
    unfold sLoopC at f2
    rw [if_pos hc] at f2
    cases eh : h ds[i] s2 with
    | none => rw [eh] at f2; exact f2.elim
    | some s3 =>
      rw [eh] at f2
      refine ⟨F, G3, s2, pv2, ds[i], s3, S3, hv, eh, fun σ4 _ S4 => ⟨F, G3, s3, pv2, S4, ?_⟩⟩
      have again : ∀ s5, Fin K F G2 pv2 W D (sLoopC chk h body (ds.drop (i + 1)) s5) → GN K F G3 pv2 (fun σ3 H3 => i + 1 ≤ ds.length ∧ ∃ G3 s3 pv3, Post F G1 G3 ∧ pv1 <+: pv3 ∧ Sim K F G3 H3 σ3 s3 pv3 ∧ Fin K F G3 pv3 W D (sLoopC chk h body (ds.drop (i + 1)) s3)) s5 := fun s5 z σ5 G5 H5 pv5 po5 px5 S5 =>
        ⟨hlt, G5, s5, pv5, (po2.tr po3).tr po5, px2.trans px5, S5, z.after (po3.tr po5) px5⟩
      cases eb : body s3 with
      | next s5 =>
        have f3 : Fin K F G2 pv2 W D (sLoopC chk h body (ds.drop (i + 1)) s5) := by simpa [eb] using f2
        exact again s5 f3
      | cont s5 =>
        have f3 : Fin K F G2 pv2 W D (sLoopC chk h body (ds.drop (i + 1)) s5) := by simpa [eb] using f2
        exact again s5 f3
      | brk s5 =>
        have f3 : Fin K F G2 pv2 W D (.next s5) := by simpa [eb] using f2
        exact GN.after po3 (List.prefix_refl _) f3
      | ret t s5 =>
        have f3 : Fin K F G2 pv2 W D (.ret t s5) := by simpa [eb] using f2
        exact GR.after po3 (List.prefix_refl _) f3
      | exc x s5 =>
        have f3 : Fin K F G2 pv2 W D (.exc x s5) := by simpa [eb] using f2
        exact GX.after po3 (List.prefix_refl _) f3
      | bad =>
        have f3 : Fin K F G2 pv2 W D .bad := by simpa [eb] using f2
        exact f3.elim
  · have hd : ds.drop i = [] := List.drop_eq_nil_of_le (by omega)
    rw [hd] at f2
    unfold sLoopC at f2
    rw [if_pos hc] at f2
    exact .inl ⟨stop (by omega), f2 σ2 G2 H2 pv2 .rfl' (List.prefix_refl _) S2⟩
theorem sForB_use {en : Bool} {fo : Sem} {h : BT.D → S → Option S} {ns : List Nat} {body : SemS} (g : sOf K W (sForB en fo h body) D σ H) :
    tOf K W fo σ H fun v H1 => ∃ a, v = .ref a ∧ (∃ xs, SqL K H1 a xs) ∧ ∃ Wx : Nat → Nat → L2.St → Hp → Prop, (∃ m, Wx 0 m σ H1) ∧ ∀ i m σ H, Wx i m σ H →
      ((if en then Ite K a else Itl K a).stop i H ∧ D.nx σ H) ∨ ((if en then Ite K a else Itl K a).go i H ∧ ∃ N : L2.St → Hp → Prop, (∀ σ' H', N σ' H' → ∃ m', m' < m ∧ Wx (i + 1) m' σ' H') ∧ ∀ x H', (if en then Ite K a else Itl K a).yld i H x H' → gOf K ns h x σ H' fun σ2 H2 => sOf K W body { D with nx := N, ct := N, bk := D.nx } σ2 H2) := by
  obtain ⟨F, G, s, pv, S, q⟩ := g
  refine ⟨F, G, s, pv, S, (bindF_use q).imp (fun t s1 q1 => ?_) fun _ _ z => z.kex⟩
  intro v G1 H1 pv1 po px S1
  have still : ∀ t : T, (∀ k, t ≠ .al k) → Sim K F G1 H1 (some v :: σ) ⟨some t :: s1.r, s1.p⟩ pv1 → Fin K F G pv W D (match itB en t s1 with
      | some (chk, ds) => sLoopC chk h body ds s1
      | none => .bad) → ∃ a, v = .ref a ∧ (∃ xs, SqL K H1 a xs) ∧ ∃ Wx : Nat → Nat → L2.St → Hp → Prop, (∃ m, Wx 0 m σ H1) ∧ ∀ i m σ H, Wx i m σ H →
      ((if en then Ite K a else Itl K a).stop i H ∧ D.nx σ H) ∨ ((if en then Ite K a else Itl K a).go i H ∧ ∃ N : L2.St → Hp → Prop, (∀ σ' H', N σ' H' → ∃ m', m' < m ∧ Wx (i + 1) m' σ' H') ∧ ∀ x H', (if en then Ite K a else Itl K a).yld i H x H' → gOf K ns h x σ H' fun σ2 H2 => sOf K W body { D with nx := N, ct := N, bk := D.nx } σ2 H2) := by
    intro t nt S1 q1
    obtain ⟨G2, po2, S2⟩ := S1.freeze
    have hv := S2.top_d
    have eit : itB en t s1 = match t.dat [] with
        | .lst ds => some (fun _ => True, enB en ds)
        | _ => none := by
      cases t with
      | al k => exact absurd rfl (nt k)
      | _ => rfl
    rw [eit] at q1
    cases e : t.dat [] with
    | lst ds =>
      rw [e] at q1 hv
      obtain ⟨a, vs, rfl, hr, hl⟩ := hv.lst_inv
      refine ⟨a, rfl, ⟨_, (ex_x S2.eg hr).l⟩, ?_⟩
      refine loopC_le (F := F) S2.pop (ds := enB en ds) ?_ (Fin.after (po.tr po2) px q1)
      cases en with
      | false => exact (io_list hr hl).two
      | true => exact (io_enum hr hl).two
    | _ => rw [e] at q1; exact q1.elim
  cases t with
  | al k =>
    have eal := S1.al_top
    have q1' : Fin K F G pv W D (match itB en (.al k) s1 with
      | some (chk, ds) => sLoopC chk h body ds s1
      | none => .bad) := q1
    unfold itB at q1'
    simp only at q1'
    cases ep : s1.p[k]? with
    | none => rw [ep] at q1'; exact q1'.elim
    | some u =>
      rw [ep] at q1'
      cases u with
      | lst ts =>
        simp only at q1'
        cases ea : T.allD ts with
        | none => rw [ea] at q1'; exact q1'.elim
        | some ds =>
          rw [ea] at q1'
          rw [allD_map ea] at ep
          obtain ⟨a, vs, rfl, hr, hl⟩ := rootL (r := s1.r) (p := s1.p) S1.pop eal ep
          refine ⟨a, rfl, ⟨_, sq_of hr⟩, ?_⟩
          refine loopC_le (F := F) S1.pop (ds := enB en ds) ?_ (Fin.after po px q1')
          cases en with
          | false => exact io2_list eal
          | true => exact io2_enum eal
      | _ => exact q1'.elim
  | _ => exact still _ (fun k z => by cases z) S1 q1
theorem sForB_le {fo : Sem} {h : BT.D → S → Option S} {ns : List Nat} {body : SemS} (g : sOf K W (sForB false fo h body) D σ H) : tFor (iList K (tOf K W fo)) (gOf K ns h) (sOf K W body) D σ H := sForB_use g
theorem sForE_le {fo : Sem} {h : BT.D → S → Option S} {ns : List Nat} {body : SemS} (g : sOf K W (sForB true fo h body) D σ H) : tFor (iEnum K (tCons (tOf K W fo) tNil)) (gOf K ns h) (sOf K W body) D σ H := by
  have := sForB_use (ns := ns) g
  obtain ⟨F, G, s, pv, S, q⟩ := this
  refine ⟨F, G, s, pv, S, q.imp (fun t s1 k => ?_) fun _ _ z => z⟩
  intro v G1 H1 pv1 po px S1
  obtain ⟨a, rfl, ⟨xs, hx⟩, r⟩ := k v G1 H1 pv1 po px S1
  exact ⟨a, xs, rfl, hx, r⟩
end
section
variable [CA] {X : Cx} {W : WX} {tg e : Expr} {fo : Sem} {h : BT.D → S → Option S} {n1 : List Nat} {bs : List Stmt} {body : SemS} {pos : Pos}
theorem r_forB (hp : PassesOwn (model X.prog X.w) X.A X.env X.xe) (hc : X.calm = true) (he : PE X e (tOf X.K W fo)) (hg : PG X tg (gOf X.K n1 h)) (hb : PSs X bs (sOf X.K W body)) (hs : ∀ x, foldedSetIterable e X.env x = pure x := by intro _; rfl) :
    PS X (.For tg e bs [] pos) (sOf X.K W (sForB false fo h body)) := (ps_for hp hc (pi_list he) hg hb hs).le fun _ _ _ q => sForB_le q
theorem r_forE {elts : List Expr} {kk : Nat} {p pos' pos2 : Pos} (hp : PassesOwn (model X.prog X.w) X.A X.env X.xe) (hc : X.calm = true) (hm : X.mg "enumerate" = none) (he : PE X e (tOf X.K W fo)) (hg : PG X (.Tuple elts kk pos') (gOf X.K n1 h)) (hb : PSs X bs (sOf X.K W body)) (hgl : Gl X "enumerate" := by rfl) (hst : starEach [e] X.env = [(false, eval e X.env)] := by rfl)
    (hs : ∀ x, foldedSetIterable (.Call (.Name "enumerate" p) [e] [] pos2) X.env x = pure x := by intro _; rfl) :
    PS X (.For (.Tuple elts kk pos') (.Call (.Name "enumerate" p) [e] [] pos2) bs [] pos) (sOf X.K W (sForB true fo h body)) := (ps_for hp hc (pi_enum hgl hm (pa_cons he pa_nil (by rw [hst]; rfl)) hst) hg hb hs).le fun _ _ _ q => sForE_le q
end
section
variable {s s1 s2 : S} {chk : S → Prop} {h : D → S → Option S} {body : SemS} {d : D} {ds : List D} {R : Fl}
@[simp] theorem sForB_eq {en : Bool} {fo : Sem} : sForB en fo h body s = (fo s).bindF fun t s' => match itB en t s' with
  | some (chk, ds) => sLoopC chk h body ds s'
  | none => .bad := id rfl
theorem loopC_nil (c : chk s) : sLoopC chk h body [] s = .next s := by unfold sLoopC; rw [if_pos c]
theorem loopC_next (c : chk s) (e : sTurn h body d s = .next s2) : sLoopC chk h body (d :: ds) s = sLoopC chk h body ds s2 := by
  unfold sTurn at e
  rw [sLoopC, if_pos c]
  cases eh : h d s with
  | none => rw [eh] at e; cases e
  | some s1 =>
    rw [eh] at e
    simp only at e ⊢
    cases eb : body s1 <;> rw [eb] at e <;> cases e <;> rfl
theorem loopC_brk (c : chk s) (e : sTurn h body d s = .brk s2) : sLoopC chk h body (d :: ds) s = .next s2 := by
  unfold sTurn at e
  rw [sLoopC, if_pos c]
  cases eh : h d s with
  | none => rw [eh] at e; cases e
  | some s1 =>
    rw [eh] at e
    simp only at e ⊢
    cases eb : body s1 <;> rw [eb] at e <;> cases e <;> rfl
theorem loopC_ret {t : T} (c : chk s) (e : sTurn h body d s = .ret t s2) : sLoopC chk h body (d :: ds) s = .ret t s2 := by
  unfold sTurn at e
  rw [sLoopC, if_pos c]
  cases eh : h d s with
  | none => rw [eh] at e; cases e
  | some s1 =>
    rw [eh] at e
    simp only at e ⊢
    cases eb : body s1 <;> rw [eb] at e <;> cases e <;> rfl
theorem loopC_exc {x : Xn} (c : chk s) (e : sTurn h body d s = .exc x s2) : sLoopC chk h body (d :: ds) s = .exc x s2 := by
  unfold sTurn at e
  rw [sLoopC, if_pos c]
  cases eh : h d s with
  | none => rw [eh] at e; cases e
  | some s1 =>
    rw [eh] at e
    simp only at e ⊢
    cases eb : body s1 <;> rw [eb] at e <;> cases e <;> rfl
theorem itB_d {en : Bool} {ds : List D} : itB en (.d (.lst ds)) s = some (fun _ => True, enB en ds) := rfl
theorem allD_dm : ∀ {ds : List D}, T.allD (ds.map .d) = some ds
  | [] => rfl
  | d :: ds => by rw [List.map_cons, T.allD, allD_dm]; rfl
theorem itB_al {en : Bool} {k : Nat} {ds : List D} (e : s.p[k]? = some (.lst (ds.map .d))) : itB en (.al k) s = some (okA k ds, enB en ds) := by
  unfold itB
  simp only [e, allD_dm]
theorem forB_go {en : Bool} {fo : Sem} {t : T} (e : fo s = .ok t s1) (e2 : itB en t s1 = some (chk, ds)) (e3 : sLoopC chk h body ds s1 = R) : sForB en fo h body s = R := by
  rw [sForB_eq, e]
  simp only [bindF_ok, e2, e3]
end
end BT
/-! FL: a lent list's items taken: x.extend(y), list(y). -/
namespace BT
open PySem PySem.Spec PyProof.Rows L2
/-- children, of a lent list of data too -/
def T.kidsR (p : List T) : T → Option (List T)
  | .al k => (match p[k]? with
    | some (.lst ts) => (match T.allD ts with
      | some ds => some (ds.map .d)
      | none => none)
    | _ => none)
  | t => t.kids
def sExtA (i : Nat) (f : Sem) : Sem := fun s => match s.getP i with
  | some (.lst _) => (f s).bind fun r s1 => match s1.getP i, r.kidsR s1.p with
    | some (.lst ts), some us => if (ts ++ us).length ≤ sizeLine then .ok (.d .non) (s1.putP i (.lst (ts ++ us))) else .bad
    | _, _ => .bad
  | _ => .bad
def sCopyA (fa : Sem) : Sem := fun s => (fa s).bind fun t s1 => match t.kidsR s1.p with
  | some us => .ok (.lst us) s1
  | none => .bad
section
variable [CA] {K : PySem.W.Frag} {F G G' H H' : Hp} {σ : L2.St} {s s' : S} {pv pv' : List V} {W : WX}
theorem Sim.kidsR {v : V} {t : T} {us : List T} {r : List (Option T)} {p : List T} (h : Sim K F G H (some v :: σ) ⟨some t :: r, p⟩ pv) (e : t.kidsR p = some us) :
    ∃ b zs, v = .ref b ∧ SqX K H b zs ∧ zs.length = us.length ∧ Sim K F G H (zs.map some ++ σ) ⟨us.map some ++ r, p⟩ pv := by
  cases t with
  | al k =>
    unfold T.kidsR at e
    simp only at e
    have eal := h.al_top
    cases ep : p[k]? with
    | none => rw [ep] at e; cases e
    | some u =>
      rw [ep] at e
      cases u with
      | lst ts =>
        simp only at e
        cases ea : T.allD ts with
        | none => rw [ea] at e; cases e
        | some ds =>
          rw [ea] at e
          cases e
          rw [allD_map ea] at ep
          have h2 : Sim K F G H σ ⟨r, p⟩ pv := h.pop
          obtain ⟨a, vs, rfl, hr, hl⟩ := rootL h2 eal ep
          obtain ⟨ef, eg, A, B, ho, hs, d, n⟩ := h2
          have hl' : RpL K G H pv _ _ (fun _ => False) := hl.rpl
          exact ⟨_, _, rfl, sx_of hr, by rw [List.length_map]; exact hl.len, ef, eg, A, B, RpO.join hl'.roots ho (fun _ z => z.elim) (fun _ z => z), hs, d, n⟩
      | d _ => cases e
      | al _ => cases e
      | tup _ => cases e
      | dic _ => cases e
      | obj _ _ => cases e
  | d x => exact h.kids e
  | lst ts => exact h.kids e
  | tup ts => exact h.kids e
  | dic ts => exact h.kids e
  | obj C ts => exact h.kids e
theorem sExtA_le {i : Nat} {f : Sem} {Q : VK} (h : tOf K W (sExtA i f) σ H Q) : tBM K "list" (rExtR K) (tVar i) (tCons (tOf K W f) tNil) σ H Q := by
  obtain ⟨F, G, s, pv, S, q⟩ := h
  unfold sExtA at q
  split at q
  · rename_i ts0 g0
    obtain ⟨a, vs0, e0, h0, _⟩ := getP_lst S g0
    refine ⟨.ref a, e0, .inl ⟨rfl, _, .inl (.inl h0)⟩, F, G, s, pv, S, (bind_use q).imp (fun r s1 q1 => ?_) fun _ _ z => z⟩
    intro v G1 H1 pv1 po px S1
    split at q1
    · rename_i ts us g1 ek
      obtain ⟨b, zs, rfl, hb, lz, S2⟩ := Sim.kidsR (r := s1.r) (p := s1.p) S1 ek
      have q2 : (if (ts ++ us).length ≤ sizeLine then Res.ok (.d .non) (s1.putP i (.lst (ts ++ us))) else .bad : Res T).go (KOk K F G pv σ Q) (KEx K F G pv σ W) := q1
      by_cases cc : (ts ++ us).length ≤ sizeLine
      · rw [if_pos cc] at q2
        obtain ⟨a2, vs, e1, h1, lv, k⟩ := Sim.chg (r := s1.r) (p := s1.p) chg_ext S2 lz g1 rfl
        rw [e0] at e1
        cases e1
        have l2 := cc
        rw [List.length_append] at l2
        exact ⟨a, b, vs, zs, rfl, rfl, h1, hb, by omega, q2 .non G1 _ pv1 po px ((k _ rfl).push_d .non)⟩
      · rw [if_neg cc] at q2
        exact q2.elim
    · exact q1.elim
  · exact q.elim
theorem sCopyA_le {fa : Sem} {Q : VK} (h : tOf K W (sCopyA fa) σ H Q) : tCB (fun xs H Q => ∃ p ys, xs = [.ref p] ∧ (SqL K H p ys ∨ SqT K H p ys) ∧ ∀ l, H l = none → Q (.ref l) (upd H l (.lst ys))) (tCons (tOf K W fa) tNil) σ H Q := by
  obtain ⟨F, G, s, pv, S, q⟩ := h
  refine ⟨F, G, s, pv, S, (bind_use q).imp (fun t s1 q1 => ?_) fun _ _ z => z⟩
  intro v G1 H1 pv1 po px S1
  cases ek : t.kidsR s1.p with
  | none => rw [ek] at q1; exact q1.elim
  | some us =>
    rw [ek] at q1
    obtain ⟨b, zs, rfl, hb, lz, S2⟩ := Sim.kidsR (r := s1.r) (p := s1.p) S1 ek
    refine ⟨b, zs, rfl, .inl hb.l, fun l hl => ?_⟩
    exact q1 (.ref l) G1 _ pv1 po px (S2.wrap lz hl fun H3 A B e1 hh a b => .lst e1 a b hh)
end
section
variable [CA] {X : Cx} {W : WX} {e a : Expr} {f fa : Sem} {x : Str} {p apos cpos pos : Pos}
theorem r_extA (i : Nat) (he : PE X e (tOf X.K W f)) (hN : X.N[i]? = some x := by rfl) (hv : Vis X.env.scope x := by first | exact Or.inl rfl | exact Or.inr (Or.inl rfl) | exact Or.inr (Or.inr rfl)) (hd : (x == ("__debug__" : Str)) = false := by decide)
    (hcd : (x == ("__classdict__" : Str)) = false := by decide) (hbase : attributeBase (.Name x p) "extend" X.env (eval (.Name x p) X.env) = eval (.Name x p) X.env := by rfl)
    (hfew : ((backTo cpos (starEach [e] X.env)).all (fun x => !x.1) && (backToKw cpos (keywordEach [] X.env)).all (fun x => x.1.isSome) && decide ([e].length + ([] : List Keyword).length + (if ([] : List Keyword).isEmpty then 0 else 1) < 30)) = true := by rfl)
    (hline : (apos.endLine == cpos.line) = true := by rfl) (hs : starEach [e] X.env = (false, eval e X.env) :: starEach [] X.env := by rfl) (hplain : (backTo cpos (starEach [] X.env)).any (·.1) = false := by rfl) :
    PE X (.Call (.Attribute (.Name x p) "extend" apos) [e] [] cpos) (tOf X.K W (sExtA i f)) :=
  (pe_bm PySem.F.plainAttrs_list PySem.F.slot_list_extend PySem.F.type_list_extend mt_extR (pe_var hN hv hd hcd) (pa_cons he pa_nil hs) hbase hfew hline hs hplain).le fun _ _ _ h => sExtA_le h
theorem r_copyA (hm : X.mg "list" = none) (he : PE X e (tOf X.K W f)) (hg : Gl X "list" := by rfl) (hs : starEach [e] X.env = (false, eval e X.env) :: starEach [] X.env := by rfl) (hpl : (backTo pos (starEach [] X.env)).any (·.1) = false := by rfl) :
    PE X (.Call (.Name "list" p) [e] [] pos) (tOf X.K W (sCopyA f)) := (pe_callTy call_list_of hg hm (by decide +kernel) (pa_cons he pa_nil hs) (by decide) (by decide) hs hpl).le fun _ _ _ h => sCopyA_le h
end
section
variable {s : S} {i k : Nat} {f fa : Sem} {p : List T}
@[simp] theorem sExtA_eq : sExtA i f s = match s.getP i with
  | some (.lst _) => (f s).bind fun r s1 => match s1.getP i, r.kidsR s1.p with
    | some (.lst ts), some us => if (ts ++ us).length ≤ sizeLine then .ok (.d .non) (s1.putP i (.lst (ts ++ us))) else .bad
    | _, _ => .bad
  | _ => .bad := id rfl
@[simp] theorem sCopyA_eq : sCopyA fa s = (fa s).bind fun t s1 => match t.kidsR s1.p with
  | some us => .ok (.lst us) s1
  | none => .bad := id rfl
theorem kidsR_al {ds : List D} (e : p[k]? = some (.lst (ds.map .d))) : (T.al k).kidsR p = some (ds.map .d) := by
  unfold T.kidsR
  simp only [e, allD_dm]
theorem kidsR_ints {ns : List Int} (e : p[k]? = some (.lst (ns.map (T.d ∘ D.int)))) : (T.al k).kidsR p = some (ns.map (T.d ∘ D.int)) := by
  rw [← List.map_map] at e ⊢
  exact kidsR_al e
@[simp] theorem kidsR_d {x : D} : (T.d x).kidsR p = (T.d x).kids := rfl
@[simp] theorem kidsR_lst {ts : List T} : (T.lst ts).kidsR p = some ts := rfl
theorem itB_ints {en : Bool} {ns : List Int} (e : s.p[k]? = some (.lst (ns.map (T.d ∘ D.int)))) : itB en (.al k) s = some (okA k (ns.map D.int), enB en (ns.map D.int)) := by
  rw [← List.map_map] at e
  exact itB_al e
theorem okA_ints {ns : List Int} (e : s.p[k]? = some (.lst (ns.map (T.d ∘ D.int)))) : okA k (ns.map D.int) s := by
  rw [← List.map_map] at e
  exact e
end
end BT
/-! FM: looks that see through aliases within the store. -/
namespace BT
open PySem PySem.Spec PyProof.Rows L2
/-- the roots' data, with what their aliases tell -/
def S.sd2 (s : S) : List D := s.p.map (T.dat s.sd)
def S.fz2 (s : S) : S := ⟨s.r.map (Option.map fun t => T.d (t.dat s.sd2)), []⟩
def sPeek2 (f : Sem) : Sem := fun s => match f s.fz2 with
  | .ok t _ => if t.ind then .ok t s else .bad
  | .exc x _ => if x.sc then .exc x s else .bad
  | .bad => .bad
section
variable [CA] {K : PySem.W.Frag} {F G G' H H' : Hp} {σ : L2.St} {s s' : S} {pv pv' : List V} {W : WX} {D : Ends}
theorem RpL.pv_get2 {p : List T} {B : AS} {sd : List BT.D} (hsd : ∀ (k : Nat) v, pv[k]? = some v → Vw K H v (sd.getD k .any)) (h : RpL K G H pv pv p B) (eg : Ex G H) : ∀ (k : Nat) v, pv[k]? = some v → Vw K H v ((p.map (T.dat sd)).getD k .any) := by
  intro k v e
  have hl := h.len
  have hk : k < p.length := by rw [← hl]; exact (List.getElem?_eq_some_iff.mp e).1
  have ep : p[k]? = some p[k] := List.getElem?_eq_getElem hk
  obtain ⟨v2, A1, A2, e1, h1, _, _, _⟩ := h.at ep
  rw [e] at e1
  cases e1
  have := h1.vw hsd (fun _ _ _ e => e) eg
  rw [List.getD_eq_getElem?_getD, List.getElem?_map, ep]
  exact this
theorem Sim.fz2 (h : Sim K F G H σ s pv) : Sim K H H H σ s.fz2 [] := by
  obtain ⟨ef, eg, A, B, ho, hs, d, n⟩ := h
  exact ⟨Ex.rfl', Ex.rfl', fun _ => False, fun _ => False, RpO.fz (hs.pv_get2 (hs.pv_get eg) eg) eg ho, .nil, fun _ z => z.elim, fun _ z => z.elim (fun z => z.elim) fun z => z.elim⟩
theorem sPeek2_le {f : Sem} {Q : VK} (h : tOf K W (sPeek2 f) σ H Q) : tOf K W f σ H Q := by
  obtain ⟨F, G, s, pv, S, q⟩ := h
  refine ⟨H, H, s.fz2, [], S.fz2, ?_⟩
  unfold sPeek2 at q
  cases e : f s.fz2 with
  | ok t s' =>
    rw [e] at q
    have q2 : (if t.ind then Res.ok t s else .bad : Res T).go (KOk K F G pv σ Q) (KEx K F G pv σ W) := q
    intro v G' H' pv' po px S2
    by_cases c : t.ind = true
    · rw [if_pos c] at q2
      exact q2 v G H' pv .rfl' (List.prefix_refl _) (S.take_ind S2.only c)
    · rw [if_neg c] at q2
      exact q2.elim
  | exc x s' =>
    rw [e] at q
    have q2 : (if x.sc then Res.exc x s else .bad : Res T).go (KOk K F G pv σ Q) (KEx K F G pv σ W) := q
    intro cls d G' H' pv' po px S2 r
    by_cases c : x.sc = true
    · rw [if_pos c] at q2
      exact kex_look S q2 c S2.ef S2.eg r
    · rw [if_neg c] at q2
      exact q2.elim
  | bad =>
    rw [e] at q
    exact q.elim
end
section
variable [CA] {X : Cx} {W : WX} {e : Expr} {f : Sem}
theorem r_peek2 (he : PE X e (tOf X.K W f)) : PE X e (tOf X.K W (sPeek2 f)) := he.le fun _ _ _ h => sPeek2_le h
end
@[simp] theorem sPeek2_eq {f : Sem} {s : S} : sPeek2 f s = match f s.fz2 with
  | .ok t _ => if t.ind then .ok t s else .bad
  | .exc x _ => if x.sc then .exc x s else .bad
  | .bad => .bad := id rfl
@[simp] theorem fz2_mk {r : List (Option T)} {p : List T} : (S.mk r p).fz2 = ⟨r.map (Option.map fun t => T.d (t.dat (p.map (T.dat (p.map (T.dat []))))))  , []⟩ := rfl
end BT
/-! FN: a comparison whose left side changes what it is asked of. -/
namespace BT
open PySem PySem.Spec PyProof.Rows L2
def sBinL (g : D → D → Option Rv) (fa fb : Sem) : Sem := fun s => (fa s).bind fun t s1 => pk fb s1 fun b => lk (g (t.dat []) b) s1
section
variable [CA] {K : PySem.W.Frag} {F G G' H H' : Hp} {σ : L2.St} {s s' : S} {pv pv' : List V} {W : WX} {D : Ends}
theorem sBinL_le {r : R2} {g : BT.D → BT.D → Option Rv} {fa fb : Sem} {Q : VK} (o : Op2 K r g) (h : tOf K W (sBinL g fa fb) σ H Q) : tOp r (tOf K W fa) (tOf K W fb) σ H Q := by
  obtain ⟨F, G, s, pv, S, q⟩ := h
  refine ⟨F, G, s, pv, S, (bind_use q).imp (fun t s1 q1 => ?_) fun _ _ z => z⟩
  intro v G1 H1 pv1 po px S1
  obtain ⟨G2, po2, S2⟩ := S1.freeze
  have hv := S2.top_d
  have q1' := Res.go.imp q1 (fun _ _ z => KOk.after (po.tr po2) px z) fun _ _ z => KEx.after (po.tr po2) px z
  refine pk_use (W := W) (F := F) (G := G2) (pv := pv1) S2.pop q1' fun w b H2 e2 vw S3 q2 => ?_
  obtain ⟨R, eR, k⟩ := lk_use S3 q2
  exact o H2 H2 v w (t.dat []) b R Q Ex.rfl' (hv.ex (fun a o z => S3.eg a o z)) vw eR (k H2)
end
section
variable [CA] {X : Cx} {W : WX} {a b : Expr} {fa fb : Sem} {pos : Pos}
theorem r_cmpL {op : CmpOp} {r : R2} {gg : D → D → Option Rv} (ho : OpR X (compareOp op) r) (o : Op2 X.K r gg) (ha : PE X a (tOf X.K W fa)) (hb : PE X b (tOf X.K W fb)) (hm : behindInMarks op b = false := by first | exact nomark _ | rfl) :
    PE X (.Compare a [op] [b] pos) (tOf X.K W (sBinL gg fa fb)) := (pe_cmpR ho ha hb hm).le fun _ _ _ h => sBinL_le o h
theorem r_tcmpL {op : CmpOp} {r : R2} {gg : D → D → Option Rv} (ho : OpR X (compareOp op) r) (o : Op2 X.K r gg) (ha : PE X a (tOf X.K W fa)) (hb : PE X b (tOf X.K W fb)) (hm : behindInMarks op b = false := by first | exact nomark _ | rfl) :
    PT X (.Compare a [op] [b] pos) (tOfT X.K W (sTb (sBinL gg fa fb))) := (pt_cmpR ho ha hb hm).le fun σ H Q h => by
  obtain ⟨F, G, s, pv, S, q⟩ := sTb_le h
  exact sBinL_le o ⟨F, G, s, pv, S, q⟩
end
@[simp] theorem sBinL_eq {g : D → D → Option Rv} {fa fb : Sem} {s : S} : sBinL g fa fb s = (fa s).bind fun t s1 => pk fb s1 fun b => lk (g (t.dat []) b) s1 := id rfl
end BT
/-! FO: x[k::2]. -/
namespace BT
open PySem PySem.Spec PyProof.Rows L2 RT
/-- every second item, the first among them -/
def ev2 {α : Type} : List α → List α
  | [] => []
  | [a] => [a]
  | a :: _ :: r => a :: ev2 r
theorem ev2_len {α : Type} : ∀ l : List α, (ev2 l).length ≤ l.length
  | [] => Nat.le_refl _
  | [_] => Nat.le_refl _
  | _ :: _ :: r => by
    have := ev2_len r
    simp only [ev2, List.length_cons]
    omega
theorem ev2_map {α β : Type} (f : α → β) : ∀ l : List α, ev2 (l.map f) = (ev2 l).map f
  | [] => rfl
  | [_] => rfl
  | _ :: _ :: r => by simp only [ev2, List.map_cons, ev2_map f r]
theorem ev2_range {α : Type} : ∀ l : List α, (List.range ((l.length + 1) / 2)).filterMap (fun m => l[2 * m]?) = ev2 l
  | [] => by simp [ev2]
  | [a] => by simp [ev2, List.range_succ]
  | a :: b :: r => by
    rw [show (a :: b :: r).length = r.length + 2 from rfl, show (r.length + 2 + 1) / 2 = (r.length + 1) / 2 + 1 by omega, List.range_succ_eq_map, List.filterMap_cons, List.filterMap_map, ev2, ← ev2_range r]
    rfl
theorem fm_congr {α β : Type} {f g : α → Option β} : ∀ {l : List α}, (∀ x ∈ l, f x = g x) → l.filterMap f = l.filterMap g
  | [], _ => rfl
  | a :: l, h => by rw [List.filterMap_cons, List.filterMap_cons, h a (by simp), fm_congr fun x hx => h x (by simp [hx])]
theorem ev2_pick (its : List Value) (k : Nat) : slicePick its.toArray (some (k : Int)) none (some 2) = (ev2 (its.drop k)).toArray := by
  unfold slicePick
  have e1 : (sliceBounds (some (k : Int)) none (some 2) its.toArray.size).1 = ((min k its.length : Nat) : Int) := by
    simp [sliceBounds]
    omega
  have e2 : (sliceBounds (some (k : Int)) none (some 2) its.toArray.size).2.1 = (its.length : Int) := by
    simp [sliceBounds]
  have e3 : (sliceBounds (some (k : Int)) none (some 2) its.toArray.size).2.2 = 2 := rfl
  rw [e1, e2, e3]
  unfold sliceRange
  have e4 : (if (2 : Int) > 0 then (if ((min k its.length : Nat) : Int) < (its.length : Int) then ((its.length : Int) - ((min k its.length : Nat) : Int) + 2 - 1) / 2 else 0) else (if ((min k its.length : Nat) : Int) > (its.length : Int) then (((min k its.length : Nat) : Int) - (its.length : Int) - 2 - 1) / (-2) else 0)).toNat = ((its.drop k).length + 1) / 2 := by
    rw [if_pos (by omega), List.length_drop]
    split <;> omega
  simp only []
  rw [e4, List.filterMap_map, ← ev2_range (its.drop k)]
  congr 1
  refine fm_congr fun m hm => ?_
  simp only [Function.comp, List.getElem?_toArray, List.getElem?_drop]
  rw [List.mem_range, List.length_drop] at hm
  congr 1
  omega
theorem vals_ev2 : ∀ {xs : List V} {us : List Value}, Vals xs us → Vals (ev2 xs) (ev2 us)
  | _, _, .nil => .nil
  | _, _, .cons r .nil => .cons r .nil
  | _, _, .cons r (.cons _ t) => .cons r (vals_ev2 t)
section
variable [CA] {K : PySem.W.Frag} {G : Hp}
theorem VwL.ev2 : ∀ {vs : List V} {ds : List D}, VwL K G vs ds → VwL K G (BT.ev2 vs) (BT.ev2 ds)
  | _, _, .nil => .nil
  | _, _, .cons h .nil => .cons h .nil
  | _, _, .cons h (.cons _ l) => .cons h (VwL.ev2 l)
end
def tEv2 (K : PySem.W.Frag) (k : Nat) (te : TE) : TE := fun σ H Q => te σ H fun x H1 => ∃ a xs, x = .ref a ∧ SqL K H1 a xs ∧ ∀ p, H1 p = none → Q (.ref p) (upd H1 p (.lst (ev2 (xs.drop k))))
section
variable {X : Cx}
theorem pe_ev2 {e : Expr} {te : TE} {k k2 k3 : Nat} {p1 p2 p3 pos : Pos} (he : PE X e te) : PE X (.Subscript e (.Slice (some (.Constant (.int (k : Int)) k2 p1)) none (some (.Constant (.int 2) k3 p2)) p3) pos) (tEv2 X.K k te) := by
  refine ⟨fun pins s σ H Q I h => ?_⟩
  refine Subscript_ (thn (he.run pins s σ H _ I h) fun v s1 ⟨x, H1, I1, r1, q1⟩ => ?_)
  obtain ⟨a, xs, ex, hx, q⟩ := q1
  subst ex
  cases r1
  have hlo : PO X (some (.Constant (.int (k : Int)) k2 p1)) (tPart (tC (.int (k : Int)))) := po_some pe_int
  have hst : PO X (some (.Constant (.int 2) k3 p2)) (tPart (tC (.int 2))) := po_some pe_int
  refine wpAny_Slice (thn (hlo.run pins s1 σ H1 (fun o H2 => o = some (k : Int) ∧ H2 = H1) I1 ⟨(k : Int), rfl, rfl, rfl⟩) fun vl s2 ⟨l, H2, I2, pl, el, e2⟩ => ?_)
  subst el e2
  refine thn (po_none.run pins s2 σ H2 (fun o H3 => o = none ∧ H3 = H2) I2 ⟨rfl, rfl⟩) fun vu s3 ⟨u, H3, I3, pu, eu, e3⟩ => ?_
  subst eu e3
  refine thn (hst.run pins s3 σ H3 (fun o H4 => o = some 2 ∧ H4 = H3) I3 ⟨2, rfl, rfl, rfl⟩) fun vs s4 ⟨o, H4, I4, ps, eo, e4⟩ => ?_
  subst eo e4
  have I5 : Inv X pins σ H4 { s4 with heap := s4.heap.push { cls := .type "slice", data := .fields #[vl, vu, vs] } } := I4.kept (t' := s4.toks) fun b ob q => Heap.get?_push_of_some _ q
  obtain ⟨its, r, ht, hz⟩ := I5.list hx
  have hlen := r.length
  show wpAny (model X.prog X.w) X.A (subscriptTail e (.Slice (some (.Constant (.int (k : Int)) k2 p1)) none (some (.Constant (.int 2) k3 p2)) p3) (.ref a) (.ref s4.heap.objs.size)) (EP X pins σ Q) X.xe { s4 with heap := s4.heap.push { cls := .type "slice", data := .fields #[vl, vu, vs] } }
  refine tail_any (ops := [.ref a, .ref s4.heap.objs.size]) ht.isList.typeIs (PySem.slot_list_getitem.lookup) ?_ (by with_unfolding_all rfl)
  refine wpAny_getItem_list_slice ht.isList (Heap.IsSliceOf.new _ vl vu vs) pl pu ps (by decide) ?_ (by rw [List.size_toArray]; omega)
  rw [ev2_pick]
  refine ⟨.ref _, _, I5.laid (t' := s4.toks) (o := .lst (ev2 (xs.drop k))) (fun b ob q => Heap.get?_push_of_some _ q) (Nat.le_refl _) ?_, rfl, q _ (I5.hok.fresh (Nat.le_refl _))⟩
  exact ⟨Nat.le_trans (Nat.le_trans (ev2_len _) (by rw [List.length_drop]; omega)) hz, _, 0, vals_ev2 (r.drop k), Heap.get?_push_size _ rfl⟩
end
/-- x[k::2] -/
def sEv2 (k : Nat) (fa : Sem) : Sem := fun s => pk fa s fun a => match a with
  | .lst xs => lk (some (.lst (ev2 (xs.drop k)))) s
  | _ => .bad
@[simp] theorem sEv2_eq {k : Nat} {fa : Sem} {s : S} : sEv2 k fa s = pk fa s fun a => match a with
  | .lst xs => lk (some (.lst (ev2 (xs.drop k)))) s
  | _ => .bad := id rfl
section
variable [CA] {K : PySem.W.Frag} {σ : L2.St} {H : Hp} {W : WX}
theorem sEv2_le {k : Nat} {fa : Sem} {Q : VK} (h : tOf K W (sEv2 k fa) σ H Q) : tEv2 K k (tOf K W fa) σ H Q := by
  obtain ⟨F, G, s, pv, S, q⟩ := h
  refine pk_use S q fun x a H1 e1 va S1 q1 => ?_
  split at q1
  · rename_i xs
    obtain ⟨R, eR, kk⟩ := lk_use S1 q1
    cases eR
    obtain ⟨a1, vs, rfl, h1, l1⟩ := va.lst_inv
    exact ⟨a1, vs, rfl, h1.l, fun p hp => kk H1 _ p ((l1.drops k).ev2) hp⟩
  · exact q1.elim
end
section
variable [CA] {X : Cx} {W : WX} {e : Expr} {f : Sem} {k k2 k3 : Nat} {p1 p2 p3 pos : Pos}
theorem r_ev2 (he : PE X e (tOf X.K W f)) : PE X (.Subscript e (.Slice (some (.Constant (.int (k : Int)) k2 p1)) none (some (.Constant (.int 2) k3 p2)) p3) pos) (tOf X.K W (sEv2 k f)) := (pe_ev2 he).le fun _ _ _ h => sEv2_le h
end
end BT
namespace K54
open PySem PySem.Spec PyProof.Rows L2 BT
/-! ### the text -/
def topS (i : Nat) : Stmt := PySem.Challenge.pw_bytetongue_k54_whole_order_of_letters.main.body.getD i (.Pass ⟨0, 0, 0, 0⟩)
abbrev s__law_pick : Stmt := topS 10
abbrev s__law_pot : Stmt := topS 13
abbrev s__law_digit : Stmt := topS 14
abbrev s__law_digits : Stmt := topS 15
abbrev s__law_free_row : Stmt := topS 16
abbrev s_parted : Stmt := topS 4
abbrev s_together : Stmt := topS 5
abbrev s_lettered : Stmt := topS 8
abbrev s__law_order : Stmt := topS 12
abbrev s__law_same : Stmt := topS 17
abbrev s_law : Stmt := topS 18
def d_LETTERS : D := (.tup [(.int 45), (.int 48), (.int 49), (.int 50), (.int 51), (.int 52), (.int 53), (.int 54), (.int 55), (.int 56), (.int 57), (.int 65), (.int 66), (.int 67), (.int 68), (.int 69), (.int 70), (.int 71), (.int 72), (.int 73), (.int 74), (.int 75), (.int 76), (.int 77), (.int 78), (.int 79), (.int 80), (.int 81), (.int 82), (.int 83), (.int 84), (.int 85), (.int 86), (.int 87), (.int 88), (.int 89), (.int 90), (.int 95), (.int 97), (.int 98), (.int 99), (.int 100), (.int 101), (.int 102), (.int 103), (.int 104), (.int 105), (.int 106), (.int 107), (.int 108), (.int 109), (.int 110), (.int 111), (.int 112), (.int 113), (.int 114), (.int 115), (.int 116), (.int 117), (.int 118), (.int 119), (.int 120), (.int 121), (.int 122)])
/-! ### what the defs do -/
noncomputable def b__law_pick : SemS := sRet (sIt (sBin gAdd (sCut (sRd 0) (some (sRd 1)) (some (sBin gAdd (sRd 1) (sC (.int 1))))) (sLst (sAc (sC (.int 0)) (sAn)))) (sC (.int 0)))
noncomputable def F__law_pick : SemF := runX 2 2 b__law_pick
noncomputable def l__law_pot_0 : SemS := sSeq (sAsg 1 (sBin gMod (sBin gAdd (sBin gAdd (sBin gMul (sRd 1) (sRd 1)) (sBin gMul (sC (.int 48271)) (sRd 1))) (sRd 3)) (sC (.int 2147483647)))) (sSetIx 2 (sC (.int 0)) (sBin gAdd (sBin gMul (sIt (sRd 2) (sC (.int 0))) (sC (.int 2147483647))) (sRd 1)))
noncomputable def a__law_pot_0 : SemS := sAsg 1 (sZ (sBin gAdd (sBin gMod (sBin gDiv (sRd 0) (sC (.int 2))) (sC (.int 2147483629))) (sC (.int 7))))
noncomputable def a__law_pot_1 : SemS := sAsg 2 (sLst (sAc (sC (.int 0)) (sAn)))
noncomputable def a__law_pot_2 : SemS := sFor (iR1 (sC (.int 40))) (hName 3) l__law_pot_0
noncomputable def a__law_pot_3 : SemS := sIf (sTand (sTb (sBin gEq (sBin gMod (sRd 0) (sC (.int 2))) (sC (.int 1)))) (sTb (sBin gNe (sBin gDiv (sRd 0) (sC (.int 2))) (sC (.int 0))))) (sEx (sMut 2 cApp (sAc (sBin gDiv (sRd 0) (sC (.int 2))) (sAn)))) (sSkip)
noncomputable def a__law_pot_4 : SemS := sRet (sMv 2)
noncomputable def b__law_pot : SemS := sSeq (a__law_pot_0) (sSeq (a__law_pot_1) (sSeq (a__law_pot_2) (sSeq (a__law_pot_3) (a__law_pot_4))))
noncomputable def F__law_pot : SemF := runX 1 4 b__law_pot
noncomputable def b__law_digit : SemS := sSeq (sAsg 2 (sBin gMod (sIt (sRd 0) (sUn gNeg (sC (.int 1)))) (sRd 1))) (sSeq (sSetIx 0 (sUn gNeg (sC (.int 1))) (sBin gDiv (sIt (sRd 0) (sUn gNeg (sC (.int 1)))) (sRd 1))) (sSeq (sIf (sTand (sTb (sBin gEq (sIt (sRd 0) (sUn gNeg (sC (.int 1)))) (sC (.int 0)))) (sTb (sBin gGt (sCB gLen (sAc (sRd 0) (sAn))) (sC (.int 1))))) (sEx (sPop 0)) (sSkip)) (sRet (sMv 2))))
noncomputable def F__law_digit : SemF := runX 2 3 b__law_digit
noncomputable def e__law_digits_0 : Sem := sWith 3 (sCallR F__law_digit [] (sAc (sFz 3) (sAc (sFz 1) (sAn))))
noncomputable def c__law_digits_0 : Sem := sLc (iR1W (sWith 3 (sCallR F__law_digit [] (sAc (sFz 3) (sAc (sBin gAdd (sRd 2) (sC (.int 1))) (sAn)))))) (hName 4) (tYesS) (e__law_digits_0) [4]
noncomputable def b__law_digits : SemS := sSeq (sAsg 3 (sCallP F__law_pot [] (sAc (sRd 0) (sAn)))) (sRet (c__law_digits_0))
noncomputable def F__law_digits : SemF := runX 3 5 b__law_digits
noncomputable def l__law_free_row_0 : SemS := sAsg 1 (sBin gAdd (sRd 1) (sCallP F__law_digits [] (sAc (sRd 2) (sAc (sC (.int 256)) (sAc (sC (.int 24)) (sAn))))))
noncomputable def b__law_free_row : SemS := sSeq (sAsg 1 (sLst (sAn))) (sSeq (sFor (iL (sCut (sRd 0) none (some (sC (.int 30))))) (hName 2) l__law_free_row_0) (sRet (sMv 1)))
noncomputable def F__law_free_row : SemF := runX 1 3 b__law_free_row
noncomputable def l_parted_0 : SemS := sEx (sMut 3 cApp (sAc (sBin gAnd (sBin gShr (sRd 0) (sBin gMul (sRd 1) (sRd 4))) (sBin gSub (sBin gShl (sC (.int 1)) (sRd 1)) (sC (.int 1)))) (sAn)))
noncomputable def b_parted : SemS := sSeq (sIf (sTor (sTb (sBin gLt (sRd 0) (sC (.int 0)))) (sTb (sBin gGt (sBin gShr (sRd 0) (sBin gMul (sRd 1) (sRd 2))) (sC (.int 0))))) (sRz "TooGreat") (sSkip)) (sSeq (sAsg 3 (sLst (sAn))) (sSeq (sFor (iRm (sBin gSub (sRd 2) (sC (.int 1))) (sUn gNeg (sC (.int 1)))) (hName 4) l_parted_0) (sRet (sMv 3))))
noncomputable def F_parted : SemF := runX 3 5 b_parted
noncomputable def l_together_0 : SemS := sSeq (sIf (sTor (sTb (sBin gLt (sRd 3) (sC (.int 0)))) (sTb (sBin gGt (sBin gShr (sRd 3) (sRd 1)) (sC (.int 0))))) (sRz "TooGreat") (sSkip)) (sAsg 2 (sBin gOr (sBin gShl (sRd 2) (sRd 1)) (sRd 3)))
noncomputable def b_together : SemS := sSeq (sAsg 2 (sC (.int 0))) (sSeq (sFor (iL (sFz 0)) (hName 3) l_together_0) (sRet (sMv 2)))
noncomputable def F_together : SemF := runX 2 4 b_together
noncomputable def e_lettered_0 : Sem := sBin gIdx (sC d_LETTERS) (sRd 6)
noncomputable def c_lettered_0 : Sem := sLc (iL (sCut (sRd 5) none (some (sBin gSub (sC (.int 4)) (sRd 4))))) (hName 6) (tYesS) (e_lettered_0) [6]
noncomputable def l_lettered_0 : SemS := sSeq (sAsg 3 (sCut (sRd 0) (some (sRd 2)) (some (sBin gAdd (sRd 2) (sC (.int 3)))))) (sSeq (sAsg 4 (sBin gSub (sC (.int 3)) (sCB gLen (sAc (sRd 3) (sAn))))) (sSeq (sAsg 5 (sCallP F_parted [] (sAc (sCallP F_together [] (sAc (sBin gAdd (sRd 3) (sBin gRep (sLst (sAc (sC (.int 0)) (sAn))) (sRd 4))) (sAc (sC (.int 8)) (sAn)))) (sAc (sC (.int 6)) (sAc (sC (.int 4)) (sAn)))))) (sEx (sExt 1 (c_lettered_0)))))
noncomputable def b_lettered : SemS := sSeq (sAsg 1 (sLst (sAn))) (sSeq (sFor (iR3 (sC (.int 0)) (sCB gLen (sAc (sRd 0) (sAn))) (sC (.int 3))) (hName 2) l_lettered_0) (sRet (sMv 1)))
noncomputable def F_lettered : SemF := runX 1 7 b_lettered
noncomputable def l__law_order_0 : SemS := sIf (sTb (sBin gNe (sIt (sFz 0) (sRd 2)) (sIt (sFz 1) (sRd 2)))) (sRet (sBin gSub (sC (.int 1)) (sBin gMul (sC (.int 2)) (sCB gInt (sAc (sBin gLt (sIt (sFz 0) (sRd 2)) (sIt (sFz 1) (sRd 2))) (sAn)))))) (sSkip)
noncomputable def b__law_order : SemS := sSeq (sFor (iR1 (sCB gMin2 (sAc (sCB gLen (sAc (sRd 0) (sAn))) (sAc (sCB gLen (sAc (sRd 1) (sAn))) (sAn))))) (hName 2) l__law_order_0) (sRet (sBin gSub (sCB gInt (sAc (sBin gGt (sCB gLen (sAc (sRd 0) (sAn))) (sCB gLen (sAc (sRd 1) (sAn)))) (sAn))) (sCB gInt (sAc (sBin gLt (sCB gLen (sAc (sRd 0) (sAn))) (sCB gLen (sAc (sRd 1) (sAn)))) (sAn)))))
noncomputable def F__law_order : SemF := runX 2 3 b__law_order
noncomputable def b__law_same : SemS := sSeq (sAsg 2 (sZ (sCallP F__law_order [] (sAc (sRd 0) (sAc (sRd 1) (sAn)))))) (sSeq (sAsg 3 (sZ (sCallP F_lettered [] (sAc (sCB gListOf (sAc (sRd 0) (sAn))) (sAn))))) (sSeq (sAsg 4 (sZ (sCallP F_lettered [] (sAc (sCB gListOf (sAc (sRd 1) (sAn))) (sAn))))) (sRet (sAnd (sBin gEq (sCallP F__law_order [] (sAc (sRd 3) (sAc (sRd 4) (sAn)))) (sRd 2)) (sBin gEq (sBin gEq (sRd 3) (sRd 4)) (sBin gEq (sRd 2) (sC (.int 0))))))))
noncomputable def F__law_same : SemF := runX 2 5 b__law_same
noncomputable def e_law_0 : Sem := sBin gMod (sRd 2) (sC (.int 256))
noncomputable def c_law_0 : Sem := sLc (iL (sCut (sRd 0) (some (sC (.int 3))) (some (sC (.int 303))))) (hName 2) (tYesS) (e_law_0) [2]
noncomputable def l_law_0 : SemS := sIf (sTor (sTnot (sTb (sCallP F__law_same [] (sAc (sRd 7) (sAc (sRd 1) (sAn)))))) (sTnot (sTb (sCallP F__law_same [] (sAc (sRd 5) (sAc (sRd 7) (sAn))))))) (sRet (sC (.bl false))) (sSkip)
noncomputable def a_law_0 : SemS := sAsg 1 (sZ (c_law_0))
noncomputable def a_law_1 : SemS := sAsg 3 (sBin gMod (sCallP F__law_pick [] (sAc (sRd 0) (sAc (sC (.int 0)) (sAn)))) (sBin gAdd (sCB gLen (sAc (sRd 1) (sAn))) (sC (.int 1))))
noncomputable def a_law_2 : SemS := sAsg 4 (sBin gMod (sCallP F__law_pick [] (sAc (sRd 0) (sAc (sC (.int 1)) (sAn)))) (sC (.int 256)))
noncomputable def a_law_3 : SemS := sAsg 5 (sZ (sLst (sAc (sCut (sRd 1) none (some (sRd 3))) (sAc (sBin gAdd (sCut (sRd 1) none (some (sRd 3))) (sLst (sAc (sFz 4) (sAn)))) (sAc (sBin gAdd (sBin gAdd (sCut (sRd 1) none (some (sRd 3))) (sLst (sAc (sFz 4) (sAn)))) (sCut (sRd 1) (some (sBin gDiv (sRd 3) (sC (.int 2)))) none)) (sAc (sBin gAdd (sCut (sRd 1) none (some (sRd 3))) (sCut (sRd 1) (some (sBin gAdd (sRd 3) (sC (.int 1)))) none)) (sAn)))))))
noncomputable def a_law_4 : SemS := sAsg 5 (sZ (sIt (sFz 5) (sBin gMod (sCallP F__law_pick [] (sAc (sRd 0) (sAc (sC (.int 2)) (sAn)))) (sC (.int 4)))))
noncomputable def a_law_5 : SemS := sIf (sTb (sBin gEq (sBin gMod (sBin gDiv (sCallP F__law_pick [] (sAc (sRd 0) (sAc (sC (.int 2)) (sAn)))) (sC (.int 4))) (sC (.int 2))) (sC (.int 1)))) (sSeq (sAsg 1 (sZ (sCallP F__law_free_row [] (sAc (sEv2 3 (sRd 0)) (sAn))))) (sAsg 5 (sZ (sCallP F__law_free_row [] (sAc (sEv2 4 (sRd 0)) (sAn)))))) (sSkip)
noncomputable def a_law_6 : SemS := sAsg 6 (sZ (sLst (sAc (sFz 1) (sAc (sFz 5) (sAc (sCut (sRd 1) none (some (sRd 3))) (sAc (sCut (sRd 1) none (some (sBin gDiv (sRd 3) (sC (.int 2))))) (sAc (sCut (sRd 5) none (some (sUn gNeg (sC (.int 1))))) (sAc (sBin gAdd (sRd 5) (sLst (sAc (sC (.int 0)) (sAn)))) (sAc (sBin gAdd (sRd 1) (sLst (sAc (sC (.int 255)) (sAn)))) (sAn))))))))))
noncomputable def a_law_7 : SemS := sFor (iL (sFz 6)) (hName 7) l_law_0
noncomputable def a_law_8 : SemS := sRet (sC (.bl true))
noncomputable def b_law : SemS := sSeq (a_law_0) (sSeq (a_law_1) (sSeq (a_law_2) (sSeq (a_law_3) (sSeq (a_law_4) (sSeq (a_law_5) (sSeq (a_law_6) (sSeq (a_law_7) (a_law_8))))))))
noncomputable def F_law : SemF := runX 1 8 b_law
/-! ### what is known of the head -/
structure Hd [CA] (P : Program) (w : World) (K : PySem.W.Frag) (mg : Str → Option Value) (base : Heap) : Prop where
  tt : True
  cf : Cfs K
  na : NoAts K
  b_int : mg "int" = none
  b_len : mg "len" = none
  b_list : mg "list" = none
  b_min : mg "min" = none
  b_range : mg "range" = none
  C_LETTERS : Cn K mg "LETTERS" d_LETTERS
  m_TooGreat : mg "TooGreat" = some (.ref (CA.ca "TooGreat"))
  o_TooGreat : CA.ok "TooGreat"
  -- raised without fields
  x_TooGreat : PySem.W.excIn K (CA.ca "TooGreat") veB "ValueError.__new__" = true
  y_TooGreat : xownB K (CA.ca "TooGreat") = true
/-! ### the defs' bodies -/
section
variable [CA] {P : Program} {w : World} {K : PySem.W.Frag} {mg : Str → Option Value} {base : Heap}
theorem sc__law_pick : FnScope ["_law_script", "_law_k"] ["_law_script", "_law_k"] (defScope s__law_pick) := ⟨rfl, rfl, rfl, by decide +kernel, rfl, by decide +kernel, by decide +kernel⟩
theorem df__law_pick (h : Hd P w K mg base) {f : Addr} (At : DxA K "_law_pick" "_law_pick" s__law_pick [] f) : Df (L2N.CX P w) P w K mg base f 2 F__law_pick 1 [[]] := by
  obtain ⟨fd, F⟩ := At
  exact df_mk F (fnS F sc__law_pick rfl fun cdv A outer s H E hr T =>
    (r_last (r_ret (r_it (r_bin (op_add.or op_catR) o_add (r_cut (r_rd 0) (r_so (r_rd 1)) (r_so (r_bin (op_add.or op_catR) o_add (r_rd 1) r_int))) (r_lst (r_ac r_int r_an))) r_int)))) (mem1 (bd_n F (fun _ _ _ _ _ _ us hl => match us, hl with | [_, _], _ => rfl)) mem0)
theorem sc__law_pot : FnScope ["_law_cell", "_law_number", "_law_pot_here", "_law_k"] ["_law_cell"] (defScope s__law_pot) := ⟨rfl, rfl, rfl, by decide +kernel, rfl, by decide +kernel, by decide +kernel⟩
theorem df__law_pot (h : Hd P w K mg base) {f : Addr} (At : DxA K "_law_pot" "_law_pot" s__law_pot [] f) : Df (L2N.CX P w) P w K mg base f 1 F__law_pot 1 [[]] := by
  obtain ⟨fd, F⟩ := At
  exact df_mk F (fnS F sc__law_pot rfl fun cdv A outer s H E hr T =>
    (r_seq (r_asg 1 sc__law_pot.nd (r_z (r_bin (op_add.or op_catR) o_add (r_bin op_mod o_mod (r_bin op_fdivW o_div (r_rd 0) r_int) r_int) r_int)))
    (r_seq (r_asg 2 sc__law_pot.nd (r_lst (r_ac r_int r_an)))
    (r_seq (r_for T.po rfl (i_r1 h.b_range r_int) (g_name 3 sc__law_pot.nd) (r_seq (r_asg 1 sc__law_pot.nd (r_bin op_mod o_mod (r_bin (op_add.or op_catR) o_add (r_bin (op_add.or op_catR) o_add (r_bin op_mul o_mul (r_rd 1) (r_rd 1)) (r_bin op_mul o_mul r_int (r_rd 1))) (r_rd 3)) r_int))
    (r_last (r_setIx 2 r_int (r_bin (op_add.or op_catR) o_add (r_bin op_mul o_mul (r_it (r_rd 2) r_int) r_int) (r_rd 1))))))
    (r_seq (r_if (r_tand (r_tcmp (op_eqD hr.units) o_eq (r_bin op_mod o_mod (r_rd 0) r_int) r_int) (r_tand1 (r_tcmp (op_neD hr.units) o_ne (r_bin op_fdivW o_div (r_rd 0) r_int) r_int))).pt (r_last (r_ex (r_app 2 (r_ac (r_bin op_fdivW o_div (r_rd 0) r_int) r_an)))) r_nil)
    (r_last (r_ret (r_mv 2)))))))) (mem1 (bd_n F (fun _ _ _ _ _ _ us hl => match us, hl with | [_], _ => rfl)) mem0)
theorem sc__law_digit : FnScope ["_law_pot_here", "_law_many", "_law_digit_here"] ["_law_pot_here", "_law_many"] (defScope s__law_digit) := ⟨rfl, rfl, rfl, by decide +kernel, rfl, by decide +kernel, by decide +kernel⟩
theorem df__law_digit (h : Hd P w K mg base) {f : Addr} (At : DxA K "_law_digit" "_law_digit" s__law_digit [] f) : Df (L2N.CX P w) P w K mg base f 2 F__law_digit 1 [[]] := by
  obtain ⟨fd, F⟩ := At
  exact df_mk F (fnS F sc__law_digit rfl fun cdv A outer s H E hr T =>
    (r_seq (r_asg 2 sc__law_digit.nd (r_bin op_mod o_mod (r_it (r_rd 0) (r_un un_neg o_neg r_int)) (r_rd 1)))
    (r_seq (r_setIx 0 (r_un un_neg o_neg r_int) (r_bin op_fdivW o_div (r_it (r_rd 0) (r_un un_neg o_neg r_int)) (r_rd 1)))
    (r_seq (r_if (r_tand (r_tcmp (op_eqD hr.units) o_eq (r_it (r_rd 0) (r_un un_neg o_neg r_int)) r_int) (r_tand1 (r_tcmp op_gt o_gt (r_callB call_len_seq o_len h.b_len (by decide +kernel) (r_ac (r_rd 0) r_an)) r_int))).pt (r_last (r_ex (r_pop 0))) r_nil)
    (r_last (r_ret (r_mv 2))))))) (mem1 (bd_n F (fun _ _ _ _ _ _ us hl => match us, hl with | [_, _], _ => rfl)) mem0)
theorem sc__law_digits : FnScope ["_law_cell", "_law_base", "_law_most", "_law_pot_here", "_law_k"] ["_law_cell", "_law_base", "_law_most"] (defScope s__law_digits) := ⟨rfl, rfl, rfl, by decide +kernel, rfl, by decide +kernel, by decide +kernel⟩
theorem df__law_digits (h : Hd P w K mg base) (K__law_digit : Kf (L2N.CX P w) P w K mg base "_law_digit" 2 F__law_digit 1 [[]]) (K__law_pot : Kf (L2N.CX P w) P w K mg base "_law_pot" 1 F__law_pot 1 [[]]) {f : Addr} (At : DxA K "_law_digits" "_law_digits" s__law_digits [] f) : Df (L2N.CX P w) P w K mg base f 3 F__law_digits 2 [[]] := by
  obtain ⟨fd, F⟩ := At
  exact df_mk F (fnS F sc__law_digits rfl fun cdv A outer s H E hr T =>
    (r_seq (r_asg 3 sc__law_digits.nd (c_p [] K__law_pot (hr.mono (by decide)) T.ps (r_ac (r_rd 0) r_an)))
    (r_last (r_ret (r_lc (W0 := BT.W0) (own := [("_law_k", 4)]) rfl sc__law_digits.nd (i_r1w h.b_range (r_with 3 (c_r [] K__law_digit (hr.mono (by decide)) T.ps (r_ac (r_fz 3) (r_ac (r_bin (op_add.or op_catR) o_add (r_rd 2) r_int) r_an))))) (blkOk_by (own := [("_law_k", 4)]) (N := ["_law_cell", "_law_base", "_law_most", "_law_pot_here", "_law_k"]) (sc := defScope s__law_digits) (by decide +kernel)) (fun _ _ _ _ _ => (g_name 4 sc__law_digits.nd)) (fun _ _ _ _ _ => t_nil) (fun _ _ _ _ _ => (r_with 3 (c_r [] K__law_digit (hr.mono (by decide)) ps0s (r_ac (r_fz 3) (r_ac (r_fz 1) r_an)))))))))) (mem1 (bd_n F (fun _ _ _ _ _ _ us hl => match us, hl with | [_, _, _], _ => rfl)) mem0)
theorem sc__law_free_row : FnScope ["_law_cells", "_law_row", "_law_cell"] ["_law_cells"] (defScope s__law_free_row) := ⟨rfl, rfl, rfl, by decide +kernel, rfl, by decide +kernel, by decide +kernel⟩
theorem df__law_free_row (h : Hd P w K mg base) (K__law_digits : Kf (L2N.CX P w) P w K mg base "_law_digits" 3 F__law_digits 2 [[]]) {f : Addr} (At : DxA K "_law_free_row" "_law_free_row" s__law_free_row [] f) : Df (L2N.CX P w) P w K mg base f 1 F__law_free_row 3 [[]] := by
  obtain ⟨fd, F⟩ := At
  exact df_mk F (fnS F sc__law_free_row rfl fun cdv A outer s H E hr T =>
    (r_seq (r_asg 1 sc__law_free_row.nd (r_lst r_an))
    (r_seq (r_for T.po rfl (i_list (r_cut (r_rd 0) r_no (r_so r_int))) (g_name 2 sc__law_free_row.nd) (r_last (r_asg 1 sc__law_free_row.nd (r_bin (op_add.or op_catR) o_add (r_rd 1) (c_p [] K__law_digits (hr.mono (by decide)) T.ps (r_ac (r_rd 2) (r_ac r_int (r_ac r_int r_an))))))))
    (r_last (r_ret (r_mv 1)))))) (mem1 (bd_n F (fun _ _ _ _ _ _ us hl => match us, hl with | [_], _ => rfl)) mem0)
theorem sc_parted : FnScope ["number", "bits", "many", "found", "k"] ["number", "bits", "many"] (defScope s_parted) := ⟨rfl, rfl, rfl, by decide +kernel, rfl, by decide +kernel, by decide +kernel⟩
theorem df_parted (h : Hd P w K mg base) {f : Addr} (At : DxA K "parted" "parted" s_parted [] f) : Df (L2N.CX P w) P w K mg base f 3 F_parted 1 [[]] := by
  obtain ⟨fd, F⟩ := At
  exact df_mk F (fnS F sc_parted rfl fun cdv A outer s H E hr T =>
    (r_seq (r_if (r_tor (r_tcmp op_lt o_lt (r_rd 0) r_int) (r_tor1 (r_tcmp op_gt o_gt (r_bin op_shr o_shr (r_rd 0) (r_bin op_mul o_mul (r_rd 1) (r_rd 2))) r_int))).pt (r_last (z_raise T rfl (xcls_mk h.o_TooGreat PySem.F.excBase_ValueError h.x_TooGreat h.y_TooGreat h.m_TooGreat))) r_nil)
    (r_seq (r_asg 3 sc_parted.nd (r_lst r_an))
    (r_seq (r_for T.po rfl (i_rm h.b_range (r_bin op_sub o_sub (r_rd 2) r_int) (r_un un_neg o_neg r_int)) (g_name 4 sc_parted.nd) (r_last (r_ex (r_app 3 (r_ac (r_bin op_and o_and (r_bin op_shr o_shr (r_rd 0) (r_bin op_mul o_mul (r_rd 1) (r_rd 4))) (r_bin op_sub o_sub (r_bin (op_shl.or op_shlW) o_shl r_int (r_rd 1)) r_int)) r_an)))))
    (r_last (r_ret (r_mv 3))))))) (mem1 (bd_n F (fun _ _ _ _ _ _ us hl => match us, hl with | [_, _, _], _ => rfl)) mem0)
theorem sc_together : FnScope ["parts", "bits", "number", "part"] ["parts", "bits"] (defScope s_together) := ⟨rfl, rfl, rfl, by decide +kernel, rfl, by decide +kernel, by decide +kernel⟩
theorem df_together (h : Hd P w K mg base) {f : Addr} (At : DxA K "together" "together" s_together [] f) : Df (L2N.CX P w) P w K mg base f 2 F_together 1 [[]] := by
  obtain ⟨fd, F⟩ := At
  exact df_mk F (fnS F sc_together rfl fun cdv A outer s H E hr T =>
    (r_seq (r_asg 2 sc_together.nd r_int)
    (r_seq (r_for T.po rfl (i_list (r_fz 0)) (g_name 3 sc_together.nd) (r_seq (r_if (r_tor (r_tcmp op_lt o_lt (r_rd 3) r_int) (r_tor1 (r_tcmp op_gt o_gt (r_bin op_shr o_shr (r_rd 3) (r_rd 1)) r_int))).pt (r_last (z_raise T rfl (xcls_mk h.o_TooGreat PySem.F.excBase_ValueError h.x_TooGreat h.y_TooGreat h.m_TooGreat))) r_nil)
    (r_last (r_asg 2 sc_together.nd (r_bin op_or o_or (r_bin (op_shl.or op_shlW) o_shl (r_rd 2) (r_rd 1)) (r_rd 3))))))
    (r_last (r_ret (r_mv 2)))))) (mem1 (bd_n F (fun _ _ _ _ _ _ us hl => match us, hl with | [_, _], _ => rfl)) mem0)
theorem sc_lettered : FnScope ["row", "found", "at", "group", "lacks", "numbers", "number"] ["row"] (defScope s_lettered) := ⟨rfl, rfl, rfl, by decide +kernel, rfl, by decide +kernel, by decide +kernel⟩
theorem df_lettered (h : Hd P w K mg base) (K_parted : Kf (L2N.CX P w) P w K mg base "parted" 3 F_parted 1 [[]]) (K_together : Kf (L2N.CX P w) P w K mg base "together" 2 F_together 1 [[]]) {f : Addr} (At : DxA K "lettered" "lettered" s_lettered [] f) : Df (L2N.CX P w) P w K mg base f 1 F_lettered 2 [[]] := by
  obtain ⟨fd, F⟩ := At
  exact df_mk F (fnS F sc_lettered rfl fun cdv A outer s H E hr T =>
    (r_seq (r_asg 1 sc_lettered.nd (r_lst r_an))
    (r_seq (r_for T.po rfl (i_r3 h.b_range r_int (r_callB call_len_seq o_len h.b_len (by decide +kernel) (r_ac (r_rd 0) r_an)) r_int) (g_name 2 sc_lettered.nd) (r_seq (r_asg 3 sc_lettered.nd (r_cut (r_rd 0) (r_so (r_rd 2)) (r_so (r_bin (op_add.or op_catR) o_add (r_rd 2) r_int))))
    (r_seq (r_asg 4 sc_lettered.nd (r_bin op_sub o_sub r_int (r_callB call_len_seq o_len h.b_len (by decide +kernel) (r_ac (r_rd 3) r_an))))
    (r_seq (r_asg 5 sc_lettered.nd (c_p [] K_parted (hr.mono (by decide)) T.ps (r_ac (c_p [] K_together (hr.mono (by decide)) T.ps (r_ac (r_bin (op_add.or op_catR) o_add (r_rd 3) (r_bin op_repR o_rep (r_lst (r_ac r_int r_an)) (r_rd 4))) (r_ac r_int r_an))) (r_ac r_int (r_ac r_int r_an)))))
    (r_last (r_ex (r_ext 1 (r_lc (W0 := BT.W0) (own := [("number", 6)]) rfl sc_lettered.nd (i_list (r_cut (r_rd 5) r_no (r_so (r_bin op_sub o_sub r_int (r_rd 4))))) (blkOk_by (own := [("number", 6)]) (N := ["row", "found", "at", "group", "lacks", "numbers", "number"]) (sc := defScope s_lettered) (by decide +kernel)) (fun _ _ _ _ _ => (g_name 6 sc_lettered.nd)) (fun _ _ _ _ _ => t_nil) (fun _ _ _ _ _ => (r_idx (cn_r h.C_LETTERS) (r_rd 6)))))))))))
    (r_last (r_ret (r_mv 1)))))) (mem1 (bd_n F (fun _ _ _ _ _ _ us hl => match us, hl with | [_], _ => rfl)) mem0)
theorem sc__law_order : FnScope ["_law_one", "_law_other", "_law_k"] ["_law_one", "_law_other"] (defScope s__law_order) := ⟨rfl, rfl, rfl, by decide +kernel, rfl, by decide +kernel, by decide +kernel⟩
theorem df__law_order (h : Hd P w K mg base) {f : Addr} (At : DxA K "_law_order" "_law_order" s__law_order [] f) : Df (L2N.CX P w) P w K mg base f 2 F__law_order 1 [[]] := by
  obtain ⟨fd, F⟩ := At
  exact df_mk F (fnS F sc__law_order rfl fun cdv A outer s H E hr T =>
    (r_seq (r_for T.po rfl (i_r1 h.b_range (r_callB (call_min2 rfl) o_min2 h.b_min (by decide +kernel) (r_ac (r_callB call_len_seq o_len h.b_len (by decide +kernel) (r_ac (r_rd 0) r_an)) (r_ac (r_callB call_len_seq o_len h.b_len (by decide +kernel) (r_ac (r_rd 1) r_an)) r_an)))) (g_name 2 sc__law_order.nd) (r_last (r_if (r_tcmp (op_neD hr.units) o_ne (r_it (r_fz 0) (r_rd 2)) (r_it (r_fz 1) (r_rd 2))) (r_last (r_ret (r_bin op_sub o_sub r_int (r_bin op_mul o_mul r_int (r_callTy call_int1 o_int1 h.b_int (by decide +kernel) (r_ac (r_cmp op_lt o_lt (r_it (r_fz 0) (r_rd 2)) (r_it (r_fz 1) (r_rd 2))) r_an)))))) r_nil)))
    (r_last (r_ret (r_bin op_sub o_sub (r_callTy call_int1 o_int1 h.b_int (by decide +kernel) (r_ac (r_cmp op_gt o_gt (r_callB call_len_seq o_len h.b_len (by decide +kernel) (r_ac (r_rd 0) r_an)) (r_callB call_len_seq o_len h.b_len (by decide +kernel) (r_ac (r_rd 1) r_an))) r_an)) (r_callTy call_int1 o_int1 h.b_int (by decide +kernel) (r_ac (r_cmp op_lt o_lt (r_callB call_len_seq o_len h.b_len (by decide +kernel) (r_ac (r_rd 0) r_an)) (r_callB call_len_seq o_len h.b_len (by decide +kernel) (r_ac (r_rd 1) r_an))) r_an))))))) (mem1 (bd_n F (fun _ _ _ _ _ _ us hl => match us, hl with | [_, _], _ => rfl)) mem0)
theorem sc__law_same : FnScope ["_law_one", "_law_other", "_law_due", "_law_left", "_law_right"] ["_law_one", "_law_other"] (defScope s__law_same) := ⟨rfl, rfl, rfl, by decide +kernel, rfl, by decide +kernel, by decide +kernel⟩
theorem df__law_same (h : Hd P w K mg base) (K__law_order : Kf (L2N.CX P w) P w K mg base "_law_order" 2 F__law_order 1 [[]]) (K_lettered : Kf (L2N.CX P w) P w K mg base "lettered" 1 F_lettered 2 [[]]) {f : Addr} (At : DxA K "_law_same" "_law_same" s__law_same [] f) : Df (L2N.CX P w) P w K mg base f 2 F__law_same 3 [[]] := by
  obtain ⟨fd, F⟩ := At
  exact df_mk F (fnS F sc__law_same rfl fun cdv A outer s H E hr T =>
    (r_seq (r_asg 2 sc__law_same.nd (r_z (c_p [] K__law_order (hr.mono (by decide)) T.ps (r_ac (r_rd 0) (r_ac (r_rd 1) r_an)))))
    (r_seq (r_asg 3 sc__law_same.nd (r_z (c_p [] K_lettered (hr.mono (by decide)) T.ps (r_ac (r_callTy call_list_of o_listOf h.b_list (by decide +kernel) (r_ac (r_rd 0) r_an)) r_an))))
    (r_seq (r_asg 4 sc__law_same.nd (r_z (c_p [] K_lettered (hr.mono (by decide)) T.ps (r_ac (r_callTy call_list_of o_listOf h.b_list (by decide +kernel) (r_ac (r_rd 1) r_an)) r_an))))
    (r_last (r_ret (r_and (r_cmp (op_eqD hr.units) o_eq (c_p [] K__law_order (hr.mono (by decide)) T.ps (r_ac (r_rd 3) (r_ac (r_rd 4) r_an))) (r_rd 2)) (r_one (r_cmp (op_eqD hr.units) o_eq (r_cmp (op_eqD hr.units) o_eq (r_rd 3) (r_rd 4)) (r_cmp (op_eqD hr.units) o_eq (r_rd 2) r_int)))))))))) (mem1 (bd_n F (fun _ _ _ _ _ _ us hl => match us, hl with | [_, _], _ => rfl)) mem0)
theorem sc_law : FnScope ["_law_script", "_law_row", "_law_cell", "_law_at", "_law_byte", "_law_other", "_law_some", "_law_one"] ["_law_script"] (defScope s_law) := ⟨rfl, rfl, rfl, by decide +kernel, rfl, by decide +kernel, by decide +kernel⟩
theorem ok_law (h : Hd P w K mg base) (K__law_free_row : Kf (L2N.CX P w) P w K mg base "_law_free_row" 1 F__law_free_row 3 [[]]) (K__law_pick : Kf (L2N.CX P w) P w K mg base "_law_pick" 2 F__law_pick 1 [[]]) (K__law_same : Kf (L2N.CX P w) P w K mg base "_law_same" 2 F__law_same 3 [[]]) {f : Addr} {fd : FuncData} (F : Dx K "law" "law" s_law [] f fd) : FnOk P w K mg base (L2.CX P w) 4 f fd ["_law_script"] (spOf K 1 F_law) :=
  fn_weak (fnS F sc_law rfl fun cdv A outer s H E hr T =>
    (r_seq (r_setLcZ 1 (W0 := BT.W0) (own := [("_law_cell", 2)]) rfl sc_law.nd (i_list (r_cut (r_rd 0) (r_so r_int) (r_so r_int))) (blkOk_by (own := [("_law_cell", 2)]) (N := ["_law_script", "_law_row", "_law_cell", "_law_at", "_law_byte", "_law_other", "_law_some", "_law_one"]) (sc := defScope s_law) (by decide +kernel)) (fun _ _ _ _ _ => (g_name 2 sc_law.nd)) (fun _ _ _ _ _ => t_nil) (fun _ _ _ _ _ => (r_bin op_mod o_mod (r_rd 2) r_int)))
    (r_seq (r_asg 3 sc_law.nd (r_bin op_mod o_mod (c_p [] K__law_pick (hr.mono (by decide)) T.ps (r_ac (r_rd 0) (r_ac r_int r_an))) (r_bin (op_add.or op_catR) o_add (r_callB call_len_seq o_len h.b_len (by decide +kernel) (r_ac (r_rd 1) r_an)) r_int)))
    (r_seq (r_asg 4 sc_law.nd (r_bin op_mod o_mod (c_p [] K__law_pick (hr.mono (by decide)) T.ps (r_ac (r_rd 0) (r_ac r_int r_an))) r_int))
    (r_seq (r_asg 5 sc_law.nd (r_z (r_lst (r_ac (r_cut (r_rd 1) r_no (r_so (r_rd 3))) (r_ac (r_bin (op_add.or op_catR) o_add (r_cut (r_rd 1) r_no (r_so (r_rd 3))) (r_lst (r_ac (r_fz 4) r_an))) (r_ac (r_bin (op_add.or op_catR) o_add (r_bin (op_add.or op_catR) o_add (r_cut (r_rd 1) r_no (r_so (r_rd 3))) (r_lst (r_ac (r_fz 4) r_an))) (r_cut (r_rd 1) (r_so (r_bin op_fdivW o_div (r_rd 3) r_int)) r_no)) (r_ac (r_bin (op_add.or op_catR) o_add (r_cut (r_rd 1) r_no (r_so (r_rd 3))) (r_cut (r_rd 1) (r_so (r_bin (op_add.or op_catR) o_add (r_rd 3) r_int)) r_no)) r_an)))))))
    (r_seq (r_asg 5 sc_law.nd (r_z (r_it (r_fz 5) (r_bin op_mod o_mod (c_p [] K__law_pick (hr.mono (by decide)) T.ps (r_ac (r_rd 0) (r_ac r_int r_an))) r_int))))
    (r_seq (r_if (r_tcmp (op_eqD hr.units) o_eq (r_bin op_mod o_mod (r_bin op_fdivW o_div (c_p [] K__law_pick (hr.mono (by decide)) T.ps (r_ac (r_rd 0) (r_ac r_int r_an))) r_int) r_int) r_int) (r_seq (r_asg 1 sc_law.nd (r_z (c_p [] K__law_free_row (hr.mono (by decide)) T.ps (r_ac (r_ev2 (k := 3) (r_rd 0)) r_an))))
    (r_last (r_asg 5 sc_law.nd (r_z (c_p [] K__law_free_row (hr.mono (by decide)) T.ps (r_ac (r_ev2 (k := 4) (r_rd 0)) r_an)))))) r_nil)
    (r_seq (r_asg 6 sc_law.nd (r_z (r_lst (r_ac (r_fz 1) (r_ac (r_fz 5) (r_ac (r_cut (r_rd 1) r_no (r_so (r_rd 3))) (r_ac (r_cut (r_rd 1) r_no (r_so (r_bin op_fdivW o_div (r_rd 3) r_int))) (r_ac (r_cut (r_rd 5) r_no (r_so (r_un un_neg o_neg r_int))) (r_ac (r_bin (op_add.or op_catR) o_add (r_rd 5) (r_lst (r_ac r_int r_an))) (r_ac (r_bin (op_add.or op_catR) o_add (r_rd 1) (r_lst (r_ac r_int r_an))) r_an))))))))))
    (r_seq (r_for T.po rfl (i_list (r_fz 6)) (g_name 7 sc_law.nd) (r_last (r_if (r_tor (r_tnot (r_tb (c_p [] K__law_same (hr.mono (by decide)) T.ps (r_ac (r_rd 7) (r_ac (r_rd 1) r_an))))) (r_tor1 (r_tnot (r_tb (c_p [] K__law_same (hr.mono (by decide)) T.ps (r_ac (r_rd 5) (r_ac (r_rd 7) r_an))))))).pt (r_last (r_ret r_bl)) r_nil)))
    (r_last (r_ret r_bl)))))))))))
end
/-! ### from the head -/
theorem all_mk {P : Program} {w : World} {K : PySem.W.Frag} {h : Heap} {mg : Str → Option Value} {fa : Addr} (X : K.In h) (G : h.Ns mainGlobals mg) (hfa : mg "law" = some (.ref fa))
    {a_TongueError : Addr}
    (n_TongueError : PySem.W.nsIn K mainGlobals "TongueError" = some (some (.ref a_TongueError)))
    {a_TooGreat : Addr}
    (n_TooGreat : PySem.W.nsIn K mainGlobals "TooGreat" = some (some (.ref a_TooGreat)))
    (gg : igenB K = true)
    (c_TongueError : iexcB K a_TongueError = true)
    (f_TongueError : noatB K a_TongueError [] = true)
    (c_TooGreat : iexcB K a_TooGreat = true)
    (f_TooGreat : noatB K a_TooGreat [] = true)
    (x1_TooGreat : PySem.W.excIn K a_TooGreat veB "ValueError.__new__" = true)
    (y1_TooGreat : xownB K a_TooGreat = true)
    {f_LETTERS : Addr} {od_LETTERS : Option Addr} {its_LETTERS : Array Value} {nn_LETTERS : Nat} {sl_LETTERS : Array (Option Value)}
    (qa_LETTERS : PySem.W.nsIn K mainGlobals "LETTERS" = some (some (.ref f_LETTERS)))
    (ql_LETTERS : K.lookup f_LETTERS = some ⟨.type "tuple", od_LETTERS, .seq its_LETTERS nn_LETTERS, sl_LETTERS⟩)
    (qi_LETTERS : (decide (its_LETTERS.size ≤ 1000) && (its_LETTERS.toList.map intOf == ([45, 48, 49, 50, 51, 52, 53, 54, 55, 56, 57, 65, 66, 67, 68, 69, 70, 71, 72, 73, 74, 75, 76, 77, 78, 79, 80, 81, 82, 83, 84, 85, 86, 87, 88, 89, 90, 95, 97, 98, 99, 100, 101, 102, 103, 104, 105, 106, 107, 108, 109, 110, 111, 112, 113, 114, 115, 116, 117, 118, 119, 120, 121, 122] : List Int).map some)) = true)
    (z_int : PySem.W.nsIn K mainGlobals "int" = some none)
    (z_len : PySem.W.nsIn K mainGlobals "len" = some none)
    (z_list : PySem.W.nsIn K mainGlobals "list" = some none)
    (z_min : PySem.W.nsIn K mainGlobals "min" = some none)
    (z_range : PySem.W.nsIn K mainGlobals "range" = some none)
    {f__law_pick : Addr} {od__law_pick an__law_pick : Option Addr} {sl__law_pick : Array (Option Value)} {oc__law_pick kV__law_pick dc__law_pick pm__law_pick cd__law_pick ct__law_pick : Value}
    (a__law_pick : PySem.W.nsIn K mainGlobals "_law_pick" = some (some (.ref f__law_pick)))
    (l__law_pick : K.lookup f__law_pick = some ⟨oc__law_pick, od__law_pick, .func (PySem.W.fnOf "_law_pick" "_law_pick" (defArgs s__law_pick) (defBody s__law_pick) (defScope s__law_pick) .none kV__law_pick dc__law_pick pm__law_pick an__law_pick cd__law_pick ct__law_pick), sl__law_pick⟩)
    (c__law_pick : PySem.W.codeIn K cd__law_pick "_law_pick" = true)
    (k__law_pick : PySem.W.keepIn K (.ref f__law_pick) = true)
    {f__law_pot : Addr} {od__law_pot an__law_pot : Option Addr} {sl__law_pot : Array (Option Value)} {oc__law_pot kV__law_pot dc__law_pot pm__law_pot cd__law_pot ct__law_pot : Value}
    (a__law_pot : PySem.W.nsIn K mainGlobals "_law_pot" = some (some (.ref f__law_pot)))
    (l__law_pot : K.lookup f__law_pot = some ⟨oc__law_pot, od__law_pot, .func (PySem.W.fnOf "_law_pot" "_law_pot" (defArgs s__law_pot) (defBody s__law_pot) (defScope s__law_pot) .none kV__law_pot dc__law_pot pm__law_pot an__law_pot cd__law_pot ct__law_pot), sl__law_pot⟩)
    (c__law_pot : PySem.W.codeIn K cd__law_pot "_law_pot" = true)
    (k__law_pot : PySem.W.keepIn K (.ref f__law_pot) = true)
    {f__law_digit : Addr} {od__law_digit an__law_digit : Option Addr} {sl__law_digit : Array (Option Value)} {oc__law_digit kV__law_digit dc__law_digit pm__law_digit cd__law_digit ct__law_digit : Value}
    (a__law_digit : PySem.W.nsIn K mainGlobals "_law_digit" = some (some (.ref f__law_digit)))
    (l__law_digit : K.lookup f__law_digit = some ⟨oc__law_digit, od__law_digit, .func (PySem.W.fnOf "_law_digit" "_law_digit" (defArgs s__law_digit) (defBody s__law_digit) (defScope s__law_digit) .none kV__law_digit dc__law_digit pm__law_digit an__law_digit cd__law_digit ct__law_digit), sl__law_digit⟩)
    (c__law_digit : PySem.W.codeIn K cd__law_digit "_law_digit" = true)
    (k__law_digit : PySem.W.keepIn K (.ref f__law_digit) = true)
    {f__law_digits : Addr} {od__law_digits an__law_digits : Option Addr} {sl__law_digits : Array (Option Value)} {oc__law_digits kV__law_digits dc__law_digits pm__law_digits cd__law_digits ct__law_digits : Value}
    (a__law_digits : PySem.W.nsIn K mainGlobals "_law_digits" = some (some (.ref f__law_digits)))
    (l__law_digits : K.lookup f__law_digits = some ⟨oc__law_digits, od__law_digits, .func (PySem.W.fnOf "_law_digits" "_law_digits" (defArgs s__law_digits) (defBody s__law_digits) (defScope s__law_digits) .none kV__law_digits dc__law_digits pm__law_digits an__law_digits cd__law_digits ct__law_digits), sl__law_digits⟩)
    (c__law_digits : PySem.W.codeIn K cd__law_digits "_law_digits" = true)
    (k__law_digits : PySem.W.keepIn K (.ref f__law_digits) = true)
    {f__law_free_row : Addr} {od__law_free_row an__law_free_row : Option Addr} {sl__law_free_row : Array (Option Value)} {oc__law_free_row kV__law_free_row dc__law_free_row pm__law_free_row cd__law_free_row ct__law_free_row : Value}
    (a__law_free_row : PySem.W.nsIn K mainGlobals "_law_free_row" = some (some (.ref f__law_free_row)))
    (l__law_free_row : K.lookup f__law_free_row = some ⟨oc__law_free_row, od__law_free_row, .func (PySem.W.fnOf "_law_free_row" "_law_free_row" (defArgs s__law_free_row) (defBody s__law_free_row) (defScope s__law_free_row) .none kV__law_free_row dc__law_free_row pm__law_free_row an__law_free_row cd__law_free_row ct__law_free_row), sl__law_free_row⟩)
    (c__law_free_row : PySem.W.codeIn K cd__law_free_row "_law_free_row" = true)
    (k__law_free_row : PySem.W.keepIn K (.ref f__law_free_row) = true)
    {f_parted : Addr} {od_parted an_parted : Option Addr} {sl_parted : Array (Option Value)} {oc_parted kV_parted dc_parted pm_parted cd_parted ct_parted : Value}
    (a_parted : PySem.W.nsIn K mainGlobals "parted" = some (some (.ref f_parted)))
    (l_parted : K.lookup f_parted = some ⟨oc_parted, od_parted, .func (PySem.W.fnOf "parted" "parted" (defArgs s_parted) (defBody s_parted) (defScope s_parted) .none kV_parted dc_parted pm_parted an_parted cd_parted ct_parted), sl_parted⟩)
    (c_parted : PySem.W.codeIn K cd_parted "parted" = true)
    (k_parted : PySem.W.keepIn K (.ref f_parted) = true)
    {f_together : Addr} {od_together an_together : Option Addr} {sl_together : Array (Option Value)} {oc_together kV_together dc_together pm_together cd_together ct_together : Value}
    (a_together : PySem.W.nsIn K mainGlobals "together" = some (some (.ref f_together)))
    (l_together : K.lookup f_together = some ⟨oc_together, od_together, .func (PySem.W.fnOf "together" "together" (defArgs s_together) (defBody s_together) (defScope s_together) .none kV_together dc_together pm_together an_together cd_together ct_together), sl_together⟩)
    (c_together : PySem.W.codeIn K cd_together "together" = true)
    (k_together : PySem.W.keepIn K (.ref f_together) = true)
    {f_lettered : Addr} {od_lettered an_lettered : Option Addr} {sl_lettered : Array (Option Value)} {oc_lettered kV_lettered dc_lettered pm_lettered cd_lettered ct_lettered : Value}
    (a_lettered : PySem.W.nsIn K mainGlobals "lettered" = some (some (.ref f_lettered)))
    (l_lettered : K.lookup f_lettered = some ⟨oc_lettered, od_lettered, .func (PySem.W.fnOf "lettered" "lettered" (defArgs s_lettered) (defBody s_lettered) (defScope s_lettered) .none kV_lettered dc_lettered pm_lettered an_lettered cd_lettered ct_lettered), sl_lettered⟩)
    (c_lettered : PySem.W.codeIn K cd_lettered "lettered" = true)
    (k_lettered : PySem.W.keepIn K (.ref f_lettered) = true)
    {f__law_order : Addr} {od__law_order an__law_order : Option Addr} {sl__law_order : Array (Option Value)} {oc__law_order kV__law_order dc__law_order pm__law_order cd__law_order ct__law_order : Value}
    (a__law_order : PySem.W.nsIn K mainGlobals "_law_order" = some (some (.ref f__law_order)))
    (l__law_order : K.lookup f__law_order = some ⟨oc__law_order, od__law_order, .func (PySem.W.fnOf "_law_order" "_law_order" (defArgs s__law_order) (defBody s__law_order) (defScope s__law_order) .none kV__law_order dc__law_order pm__law_order an__law_order cd__law_order ct__law_order), sl__law_order⟩)
    (c__law_order : PySem.W.codeIn K cd__law_order "_law_order" = true)
    (k__law_order : PySem.W.keepIn K (.ref f__law_order) = true)
    {f__law_same : Addr} {od__law_same an__law_same : Option Addr} {sl__law_same : Array (Option Value)} {oc__law_same kV__law_same dc__law_same pm__law_same cd__law_same ct__law_same : Value}
    (a__law_same : PySem.W.nsIn K mainGlobals "_law_same" = some (some (.ref f__law_same)))
    (l__law_same : K.lookup f__law_same = some ⟨oc__law_same, od__law_same, .func (PySem.W.fnOf "_law_same" "_law_same" (defArgs s__law_same) (defBody s__law_same) (defScope s__law_same) .none kV__law_same dc__law_same pm__law_same an__law_same cd__law_same ct__law_same), sl__law_same⟩)
    (c__law_same : PySem.W.codeIn K cd__law_same "_law_same" = true)
    (k__law_same : PySem.W.keepIn K (.ref f__law_same) = true)
    {f_law : Addr} {od_law an_law : Option Addr} {sl_law : Array (Option Value)} {oc_law kV_law dc_law pm_law cd_law ct_law : Value}
    (a_law : PySem.W.nsIn K mainGlobals "law" = some (some (.ref f_law)))
    (l_law : K.lookup f_law = some ⟨oc_law, od_law, .func (PySem.W.fnOf "law" "law" (defArgs s_law) (defBody s_law) (defScope s_law) .none kV_law dc_law pm_law an_law cd_law ct_law), sl_law⟩)
    (c_law : PySem.W.codeIn K cd_law "law" = true)
    (k_law : PySem.W.keepIn K (.ref f_law) = true)
    : ∃ (_ : CA) (fd : FuncData), (∀ (s : Shared) (v : Value), BindsTo s fd ⟨[v], []⟩ [("_law_script", v)]) ∧ ∀ base : Heap, K.In base → base.Ns mainGlobals mg → FnOk P w K mg base (L2.CX P w) 4 fa fd ["_law_script"] (spOf K 1 F_law) := by
  letI I : CA := mkCA [("TongueError", a_TongueError), ("TooGreat", a_TooGreat)]
  have E_TongueError : CA.ca "TongueError" = a_TongueError := by show caOf [("TongueError", a_TongueError), ("TooGreat", a_TooGreat)] "TongueError" = a_TongueError; simp [caOf, List.lookup]
  have E_TooGreat : CA.ca "TooGreat" = a_TooGreat := by show caOf [("TongueError", a_TongueError), ("TooGreat", a_TooGreat)] "TooGreat" = a_TooGreat; simp [caOf, List.lookup]
  have O_TongueError : CA.ok "TongueError" := by show (List.lookup "TongueError" [("TongueError", a_TongueError), ("TooGreat", a_TooGreat)]).isSome = true; simp [List.lookup]
  have O_TooGreat : CA.ok "TooGreat" := by show (List.lookup "TooGreat" [("TongueError", a_TongueError), ("TooGreat", a_TooGreat)]).isSome = true; simp [List.lookup]
  refine law_mkW (st := s_law) X G hfa a_law l_law c_law k_law (fun s v => .of_eq rfl) fun base _ _ f fd F => ?_
  have cf : Cfs K := cfs_mk gg (mem1 (by rw [show isExcN "TongueError" = true from by decide +kernel]; exact c_TongueError) (mem1 (by rw [show isExcN "TooGreat" = true from by decide +kernel]; exact c_TooGreat) mem0))
  have na : NoAts K := noats_mk (mem1 f_TongueError (mem1 f_TooGreat mem0))
  have Hh : Hd P w K mg base := ⟨trivial,
    cf,
    na,
    PySem.W.mg_none_of X G z_int,
    PySem.W.mg_none_of X G z_len,
    PySem.W.mg_none_of X G z_list,
    PySem.W.mg_none_of X G z_min,
    PySem.W.mg_none_of X G z_range,
    cn_tup X G qa_LETTERS ql_LETTERS qi_LETTERS,
    (by rw [E_TooGreat]; exact PySem.W.mg_of X G n_TooGreat),
    O_TooGreat,
    (by rw [E_TooGreat]; exact x1_TooGreat),
    (by rw [E_TooGreat]; exact y1_TooGreat)⟩
  have D__law_pick := df__law_pick (P := P) (w := w) (base := base) Hh (dxa_n l__law_pick c__law_pick k__law_pick)
  have K__law_pick : Kf (L2N.CX P w) P w K mg base "_law_pick" 2 F__law_pick 1 [[]] := ⟨_, PySem.W.mg_of X G a__law_pick, D__law_pick⟩
  have D__law_pot := df__law_pot (P := P) (w := w) (base := base) Hh (dxa_n l__law_pot c__law_pot k__law_pot)
  have K__law_pot : Kf (L2N.CX P w) P w K mg base "_law_pot" 1 F__law_pot 1 [[]] := ⟨_, PySem.W.mg_of X G a__law_pot, D__law_pot⟩
  have D__law_digit := df__law_digit (P := P) (w := w) (base := base) Hh (dxa_n l__law_digit c__law_digit k__law_digit)
  have K__law_digit : Kf (L2N.CX P w) P w K mg base "_law_digit" 2 F__law_digit 1 [[]] := ⟨_, PySem.W.mg_of X G a__law_digit, D__law_digit⟩
  have D__law_digits := df__law_digits (P := P) (w := w) (base := base) Hh K__law_digit K__law_pot (dxa_n l__law_digits c__law_digits k__law_digits)
  have K__law_digits : Kf (L2N.CX P w) P w K mg base "_law_digits" 3 F__law_digits 2 [[]] := ⟨_, PySem.W.mg_of X G a__law_digits, D__law_digits⟩
  have D__law_free_row := df__law_free_row (P := P) (w := w) (base := base) Hh K__law_digits (dxa_n l__law_free_row c__law_free_row k__law_free_row)
  have K__law_free_row : Kf (L2N.CX P w) P w K mg base "_law_free_row" 1 F__law_free_row 3 [[]] := ⟨_, PySem.W.mg_of X G a__law_free_row, D__law_free_row⟩
  have D_parted := df_parted (P := P) (w := w) (base := base) Hh (dxa_n l_parted c_parted k_parted)
  have K_parted : Kf (L2N.CX P w) P w K mg base "parted" 3 F_parted 1 [[]] := ⟨_, PySem.W.mg_of X G a_parted, D_parted⟩
  have D_together := df_together (P := P) (w := w) (base := base) Hh (dxa_n l_together c_together k_together)
  have K_together : Kf (L2N.CX P w) P w K mg base "together" 2 F_together 1 [[]] := ⟨_, PySem.W.mg_of X G a_together, D_together⟩
  have D_lettered := df_lettered (P := P) (w := w) (base := base) Hh K_parted K_together (dxa_n l_lettered c_lettered k_lettered)
  have K_lettered : Kf (L2N.CX P w) P w K mg base "lettered" 1 F_lettered 2 [[]] := ⟨_, PySem.W.mg_of X G a_lettered, D_lettered⟩
  have D__law_order := df__law_order (P := P) (w := w) (base := base) Hh (dxa_n l__law_order c__law_order k__law_order)
  have K__law_order : Kf (L2N.CX P w) P w K mg base "_law_order" 2 F__law_order 1 [[]] := ⟨_, PySem.W.mg_of X G a__law_order, D__law_order⟩
  have D__law_same := df__law_same (P := P) (w := w) (base := base) Hh K__law_order K_lettered (dxa_n l__law_same c__law_same k__law_same)
  have K__law_same : Kf (L2N.CX P w) P w K mg base "_law_same" 2 F__law_same 3 [[]] := ⟨_, PySem.W.mg_of X G a__law_same, D__law_same⟩
  exact ok_law Hh K__law_free_row K__law_pick K__law_same F
end K54
noncomputable section
namespace K54
open PySem PySem.Spec PyProof.Rows L2 BT
theorem cutI_from {xs : List Int} {a : Int} (h : 0 ≤ a) : cut xs (some a) none = xs.drop a.toNat := cut_from h
theorem cutI_to {xs : List Int} {a : Int} (h : 0 ≤ a) : cut xs none (some a) = xs.take a.toNat := cut_to h
theorem cutI_two {xs : List Int} {a b : Int} (ha : 0 ≤ a) (hb : 0 ≤ b) : cut xs (some a) (some b) = (xs.drop a.toNat).take (b.toNat - a.toNat) := cut_two ha hb
theorem cutN_from {xs : List Nat} {a : Int} (h : 0 ≤ a) : cut xs (some a) none = xs.drop a.toNat := cut_from h
theorem cutN_to {xs : List Nat} {a : Int} (h : 0 ≤ a) : cut xs none (some a) = xs.take a.toNat := cut_to h
theorem cutN_two {xs : List Nat} {a b : Int} (ha : 0 ≤ a) (hb : 0 ≤ b) : cut xs (some a) (some b) = (xs.drop a.toNat).take (b.toNat - a.toNat) := cut_two ha hb
theorem beq_nn {a b : Nat} : ((a : Int) == (b : Int)) = decide (a = b) := by rw [Bool.eq_iff_iff]; simp; omega
theorem cat_ic {a b : List Nat} : cat (ic a) (ic b) = ic (a ++ b) := ic_app.symm
theorem turn_x {h : D → S → Option S} {body : SemS} {d : D} {s s1 s2 : S} {x : Xn} (e : h d s = some s1) (e2 : body s1 = .exc x s2) : sTurn h body d s = .exc x s2 := by unfold sTurn; rw [e]; simp only [e2]
theorem turn_exc {h : D → S → Option S} {body : SemS} {d : D} {s s' : S} {x : Xn} {ds : List D} (e : sTurn h body d s = .exc x s') : sLoop h body (d :: ds) s = .exc x s' := by
  rw [sLoop_cons]
  unfold sTurn at e
  cases e1 : h d s with
  | none => rw [e1] at e; cases e
  | some s1 =>
    rw [e1] at e
    simp only at e ⊢
    cases e2 : body s1 <;> rw [e2] at e <;> cases e <;> rfl
theorem take_ic {xs : List Nat} {n : Nat} : (ic xs).take n = ic (xs.take n) := by simp only [ic, List.map_take]
theorem drop_ic {xs : List Nat} {n : Nat} : (ic xs).drop n = ic (xs.drop n) := by simp only [ic, List.map_drop]
theorem ic_mapT {α : Type} {f : α → Nat} {l : List α} : List.map (fun c => T.d (D.int (f c : Nat))) l = List.map (T.d ∘ D.int) (ic (l.map f)) := by
  simp only [ic, List.map_map]; rfl
theorem cutD1 {x : D} {xs : List D} : cut (x :: xs) (some 1) none = xs := by rw [cut_from (by omega)]; rfl
theorem cutD0 {xs : List D} : cut xs (some 0) none = xs := by rw [cut_from (by omega)]; rfl
@[simp] theorem ixN20 : ixN 2 0 = some 0 := by decide
@[simp] theorem ixN21 : ixN 2 1 = some 1 := by decide
@[simp] theorem ixN30 : ixN 3 0 = some 0 := by decide
@[simp] theorem ixN31 : ixN 3 1 = some 1 := by decide
@[simp] theorem ixN32 : ixN 3 2 = some 2 := by decide
@[simp] theorem at_4 {α : Type} {x y z w v : α} {xs : List α} : atI (x :: y :: z :: w :: v :: xs) 4 = some v := by rw [atI_nn (by omega) (by simp; omega)]; rfl
@[simp] theorem at_1 {α : Type} {x y : α} {xs : List α} : atI (x :: y :: xs) 1 = some y := by rw [atI_nn (by omega) (by simp; omega)]; rfl
@[simp] theorem at_2 {α : Type} {x y z : α} {xs : List α} : atI (x :: y :: z :: xs) 2 = some z := by rw [atI_nn (by omega) (by simp; omega)]; rfl
@[simp] theorem at_3 {α : Type} {x y z w : α} {xs : List α} : atI (x :: y :: z :: w :: xs) 3 = some w := by rw [atI_nn (by omega) (by simp; omega)]; rfl
theorem pick_ok (ns : List Int) (k : Nat) (p : List T) : F__law_pick [.d (.lst (ns.map D.int)), .d (.int (k : Int))] p = .ret (.d (.int (pick ns k))) p := by
  have e : ((ns.drop k).take 1 ++ [0])[0]? = some (pick ns k) := by
    unfold pick
    rw [List.getD_eq_getElem?_getD]
    by_cases c : k < ns.length
    · rw [List.getElem?_append_left (by simp; omega)]
      simp [c]
    · rw [List.drop_eq_nil_of_le (by omega)]
      simp [List.getElem?_eq_none_iff.mpr (show ns.length ≤ k by omega)]
  have e1 : ((k : Int) + 1).toNat - k = 1 := by omega
  have e2 : ((k : Int) + 1).toNat = k + 1 := by omega
  have hl : ((ns.drop k).take 1).length ≤ 1 := by simp; omega
  generalize ec : (ns.drop k).take 1 = xs at *
  cases xs with
  | nil =>
    have e3 : pick ns k = 0 := by simpa using e.symm
    rw [e3]
    (simp (disch := omega) [F__law_pick, b__law_pick, cutD1, cutD0, -List.drop_one, take_ic, drop_ic, -List.map_take, -List.map_drop, -List.all_map, List.getElem?_cons_zero, List.getElem?_cons_succ, if_pos, if_neg, sizeL, gEq_eq, gNe_eq, cutI_from, cutI_to, cutI_two, cutN_from, cutN_to, cutN_two, e1, e2, ec] <;> (try omega))

  | cons x xs =>
    have e3 : pick ns k = x := by simpa using e.symm
    obtain rfl : xs = [] := by simpa using hl
    rw [e3]
    (simp (disch := omega) [F__law_pick, b__law_pick, cutD1, cutD0, -List.drop_one, take_ic, drop_ic, -List.map_take, -List.map_drop, -List.all_map, List.getElem?_cons_zero, List.getElem?_cons_succ, if_pos, if_neg, sizeL, gEq_eq, gNe_eq, cutI_from, cutI_to, cutI_two, cutN_from, cutN_to, cutN_two, e1, e2, ec] <;> (try omega))

@[simp] theorem sMake_eq {C : String} {Φ : SemF} {dd : List D} {fs : SemA} {s : S} : sMake C Φ dd fs s = (fs s).bind fun ts s1 => match Φ (.al s1.p.length :: ts ++ dd.map .d) (s1.p ++ [.obj C []]) with
  | .ret (.d .non) p => (match p[s1.p.length]? with
    | some t => if p.length = s1.p.length + 1 ∧ albO s1.p.length s1.r = true ∧ T.albL s1.p.length p = true then .ok t ⟨s1.r, p.take s1.p.length⟩ else .bad
    | none => .bad)
  | .exc x p => if p.length = s1.p.length + 1 ∧ albO s1.p.length s1.r = true ∧ T.albL s1.p.length p = true then .exc x ⟨s1.r, p.take s1.p.length⟩ else .bad
  | _ => .bad := id rfl
@[simp] theorem albO_nil {n : Nat} : albO n [] = true := rfl
@[simp] theorem albO_no {n : Nat} {r : List (Option T)} : albO n (none :: r) = albO n r := rfl
@[simp] theorem albO_so {n : Nat} {t : T} {r : List (Option T)} : albO n (some t :: r) = (t.alb n && albO n r) := rfl
@[simp] theorem alb_d {n : Nat} {x : D} : (T.d x).alb n = true := id rfl
@[simp] theorem alb_al {n k : Nat} : (T.al k).alb n = decide (k < n) := id rfl
@[simp] theorem alb_lst {n : Nat} {ts : List T} : (T.lst ts).alb n = T.albL n ts := id rfl
@[simp] theorem alb_tup {n : Nat} {ts : List T} : (T.tup ts).alb n = T.albL n ts := id rfl
@[simp] theorem alb_obj {n : Nat} {C : String} {fs : List (String × T)} : (T.obj C fs).alb n = T.albF n fs := id rfl
@[simp] theorem albL_nil {n : Nat} : T.albL n [] = true := id rfl
@[simp] theorem albL_cons {n : Nat} {t : T} {ts : List T} : T.albL n (t :: ts) = (t.alb n && T.albL n ts) := id rfl
@[simp] theorem albF_nil {n : Nat} : T.albF n [] = true := id rfl
@[simp] theorem albF_cons {n : Nat} {k : String} {t : T} {ts : List (String × T)} : T.albF n ((k, t) :: ts) = (t.alb n && T.albF n ts) := id rfl
@[simp] theorem albL_int {n : Nat} {xs : List Int} : T.albL n (xs.map (T.d ∘ D.int)) = true := by
  induction xs with
  | nil => rfl
  | cons x xs ih => rw [List.map_cons, albL_cons, ih]; rfl
@[simp] theorem albO_mp {n : Nat} {sd : List D} {v : Option T} {r : List (Option T)} : albO n (Option.map (fun t => T.d (T.dat sd t)) v :: r) = albO n r := by
  cases v <;> simp
/-- a loop whose turns all go on, with an invariant of the state -/
theorem loop_all {h : D → S → Option S} {body : SemS} (Q : D → Prop) (I : S → Prop) : ∀ (ds : List D) (s : S), (∀ d ∈ ds, Q d) → I s → (∀ d s, Q d → I s → ∃ s', sTurn h body d s = .next s' ∧ I s') → ∃ s', sLoop h body ds s = .next s' ∧ I s'
  | [], s, _, hi, _ => ⟨s, rfl, hi⟩
  | d :: ds, s, hq, hi, hs => by
    obtain ⟨s1, h1, h2⟩ := hs d s (hq d (by simp)) hi
    obtain ⟨s', h3, h4⟩ := loop_all Q I ds s1 (fun x hx => hq x (by simp [hx])) h2 hs
    exact ⟨s', by rw [turn_next h1, h3], h4⟩
theorem ints_nat : ∀ (n : Nat) (i : Int) (d : D), 0 ≤ i → d ∈ intsFrom i n → ∃ k : Nat, d = .int (k : Int)
  | 0, _, _, _, h => by cases h
  | n + 1, i, d, hi, h => by
    rcases List.mem_cons.mp h with h | h
    · exact ⟨i.toNat, by rw [h, Int.toNat_of_nonneg hi]⟩
    · exact ints_nat n (i + 1) d (by omega) h
/-- the k-th of many parts of b bits of n -/
def pI (n b many : Nat) : List Int := (List.range many).map fun k => ((part n b many k : Nat) : Int)
theorem pI_eq (n b many : Nat) : pI n b many = (parts n b many).map fun k : Nat => (k : Int) := by
  unfold pI parts
  rw [List.map_map]
  rfl
abbrev stP (n b many : Nat) (p : List T) (acc : List Int) (u : Option T) : S := ⟨[some (.d (.int (n : Int))), some (.d (.int (b : Int))), some (.d (.int (many : Int))), some (.lst (acc.map (T.d ∘ D.int))), u], p⟩
theorem turnP (n b many : Nat) (p : List T) (hb : b ≤ 1000) (hm : many ≤ 1000) (k : Nat) (acc : List Int) (ha : acc.length ≤ 1000) (hk : k < many) (u : Option T) :
    ∃ u', sTurn (hName 4) l_parted_0 (.int (((many : Int) - 1) + -1 * (k : Int))) (stP n b many p acc u) = .next (stP n b many p (acc ++ [((part n b many k : Nat) : Int)]) u') := by
  refine ⟨some (.d (.int (((many : Int) - 1) + -1 * (k : Int)))), ?_⟩
  have e1 : ((many : Int) - 1) + -1 * (k : Int) = ((many - 1 - k : Nat) : Int) := by omega
  rw [e1]
  have c1 : (b : Int) < 18446744073709551616 ∧ -18446744073709551616 < (b : Int) := by omega
  have c2 : (0 : Int) ≤ (b : Int) * ((many - 1 - k : Nat) : Int) := Int.mul_nonneg (by omega) (by omega)
  have e2 : ((b : Int) * ((many - 1 - k : Nat) : Int)).toNat = b * (many - 1 - k) := by rw [← Int.natCast_mul, Int.toNat_natCast]
  have e3 : (2 : Int) ^ b - 1 = ((2 ^ b - 1 : Nat) : Int) := by
    have : 0 < 2 ^ b := Nat.two_pow_pos b
    rw [Int.natCast_sub this, Int.natCast_pow]; rfl
  have e4 : (n : Int) / 2 ^ (b * (many - 1 - k)) = ((n / 2 ^ (b * (many - 1 - k)) : Nat) : Int) := by
    rw [Int.natCast_ediv, Int.natCast_pow]; rfl
  have e5 : Builtin.bitAnd ((n : Int) / 2 ^ (b * (many - 1 - k))) ((2 : Int) ^ b - 1) = ((part n b many k : Nat) : Int) := by
    rw [e3, e4, and_mask]; rfl
  have c3 : (b : Int) ≤ 1000000 := by omega
  have c4 : acc.length + 1 ≤ 16777216 := by omega
  simp [sTurn, l_parted_0, c1, c2, e2, e5, c3, c4, sizeL]
theorem parted_ok (n b many : Nat) (p : List T) (hb : b ≤ 1000) (hm : many ≤ 1000) (hn : n < 2 ^ (b * many)) :
    F_parted [.d (.int (n : Int)), .d (.int (b : Int)), .d (.int (many : Int))] p = .ret (.lst ((pI n b many).map (T.d ∘ D.int))) p := by
  have hz : (n : Int) / 2 ^ (b * many) = 0 := by
    have := Nat.div_eq_of_lt hn
    have e4 : (n : Int) / 2 ^ (b * many) = ((n / 2 ^ (b * many) : Nat) : Int) := by
      rw [Int.natCast_ediv, Int.natCast_pow]; rfl
    rw [e4, this]; rfl
  have c1 : (b : Int) < 18446744073709551616 ∧ -18446744073709551616 < (b : Int) := by omega
  have c2 : (0 : Int) ≤ (b : Int) * (many : Int) := Int.mul_nonneg (by omega) (by omega)
  have e2 : ((b : Int) * (many : Int)).toNat = b * many := by rw [← Int.natCast_mul, Int.toNat_natCast]
  have hn0 : ¬ (n : Int) < 0 := by omega
  obtain ⟨u', h⟩ := loop_fold (h := hName 4) (body := l_parted_0) (fun k : Nat => D.int (((many : Int) - 1) + -1 * (k : Int))) (stP n b many p) (fun acc k => acc ++ [((part n b many k : Nat) : Int)]) (fun rem acc => (∀ k ∈ rem, k < many) ∧ acc.length + rem.length ≤ 1000) (List.range many) [] none
    ⟨fun k hk => List.mem_range.mp hk, by simp; omega⟩ (fun k r st u hi => ⟨⟨fun q hq => hi.1 q (by simp [hq]), by have := hi.2; simp at this ⊢; omega⟩, turnP n b many p hb hm k st (by have := hi.2; simp at this; omega) (hi.1 k (by simp)) u⟩)
  rw [foldl_snoc, List.nil_append] at h
  have hi : iRm (sBin gSub (sRd 2) (sC (.int 1))) (sUn gNeg (sC (.int 1))) (stP n b many p [] none) = .ok ((List.range many).map fun k : Nat => D.int (((many : Int) - 1) + -1 * (k : Int))) (stP n b many p [] none) := by
    rw [← stepsFrom_map]
    have c3 : -4611686018427387904 ≤ (many : Int) - 1 ∧ (many : Int) - 1 < 4611686018427387904 := by omega
    have e : ((many : Int) - 1 + 1).toNat = many := by omega
    simp [c3, e]
  simp only [stP, List.map_nil, Int.neg_mul, Int.one_mul] at hi h
  simp [F_parted, b_parted, c1, c2, e2, hz, hn0, -iRm_eq, hi, h, pI, -List.map_map]
theorem parted_no (n : Int) (b many : Nat) (p : List T) (hb : b ≤ 1000) (hm : many ≤ 1000) (hn : n < 0 ∨ 2 ^ (b * many) ≤ n) :
    F_parted [.d (.int n), .d (.int (b : Int)), .d (.int (many : Int))] p = .exc ⟨"TooGreat", []⟩ p := by
  have c1 : (b : Int) < 18446744073709551616 ∧ -18446744073709551616 < (b : Int) := by omega
  have c2 : (0 : Int) ≤ (b : Int) * (many : Int) := Int.mul_nonneg (by omega) (by omega)
  have e2 : ((b : Int) * (many : Int)).toNat = b * many := by rw [← Int.natCast_mul, Int.toNat_natCast]
  by_cases h0 : n < 0
  · simp [F_parted, b_parted, h0]
  · have h1 : (2 : Int) ^ (b * many) ≤ n := hn.resolve_left h0
    have hz : 0 < n / 2 ^ (b * many) := by
      have hp : (0 : Int) < 2 ^ (b * many) := Int.pow_pos (by decide)
      exact (Int.le_ediv_iff_mul_le hp).mpr (by simpa using h1)
    simp [F_parted, b_parted, h0, c1, c2, e2, hz]
theorem tog_parts (b : Nat) : ∀ (many n : Nat), n < 2 ^ (b * many) → tog b (parts n b many) = n
  | 0, n, h => by
    rw [Nat.mul_zero, Nat.pow_zero] at h
    have : n = 0 := by omega
    subst this
    rfl
  | many + 1, n, h => by
    have e := parts_app (n / 2 ^ b) (n % 2 ^ b) b 1 many (by rw [Nat.mul_one]; exact Nat.mod_lt _ (Nat.two_pow_pos _))
    rw [Nat.mul_one, Nat.mul_comm, Nat.div_add_mod] at e
    have e1 : parts (n % 2 ^ b) b 1 = [n % 2 ^ b] := by
      simp [parts, BT.part]
    rw [e, e1, tog_app, tog_parts b many (n / 2 ^ b) (by
      rw [Nat.mul_succ, Nat.pow_add] at h
      exact Nat.div_lt_of_lt_mul (by rw [Nat.mul_comm]; exact h))]
    show _ * 2 ^ (b * 1) + (0 * 2 ^ b + n % 2 ^ b) = n
    rw [Nat.mul_one, Nat.zero_mul, Nat.zero_add, Nat.mul_comm, Nat.div_add_mod]
theorem part_lt (n b many k : Nat) : part n b many k < 2 ^ b := Nat.mod_lt _ (Nat.two_pow_pos _)
theorem parts_tog (b : Nat) : ∀ (ds : List Nat), (∀ d ∈ ds, d < 2 ^ b) → parts (tog b ds) b ds.length = ds
  | [], _ => rfl
  | d :: ds, h => by
    have hr : ∀ q ∈ ds, q < 2 ^ b := fun q hq => h q (by simp [hq])
    have e1 : tog b (d :: ds) = d * 2 ^ (b * ds.length) + tog b ds := by
      have := tog_app b [d] ds
      simpa [tog] using this
    have e2 := parts_app d (tog b ds) b ds.length 1 (tog_lt b ds hr)
    rw [e1, List.length_cons, Nat.add_comm ds.length 1, e2, parts_tog b ds hr]
    have : d % 2 ^ b = d := Nat.mod_eq_of_lt (h d (by simp))
    simp [parts, BT.part, this]
abbrev stT (A : T) (b : Nat) (p : List T) (n : Nat) (u : Option T) : S := ⟨[some A, some (.d (.int (b : Int))), some (.d (.int (n : Int))), u], p⟩
theorem turnT (A : T) (b : Nat) (p : List T) (hb : b ≤ 100) (n d m : Nat) (hn : n < 2 ^ m) (hm : m ≤ 1000000) (hd : d < 2 ^ b) (u : Option T) :
    ∃ u', sTurn (hName 3) l_together_0 (.int (d : Int)) (stT A b p n u) = .next (stT A b p (n * 2 ^ b + d) u') := by
  refine ⟨some (.d (.int (d : Int))), ?_⟩
  have hz := div_small hd
  have hn0 : ¬ (d : Int) < 0 := by omega
  have hi := bits_lt (x := (n : Int)) (m := m) (by simpa using hn)
  have c1 : (Builtin.Int.intBits (n : Int) : Int) + (b : Int) ≤ 134217728 := by omega
  have e5 : Builtin.bitOr ((n : Int) * 2 ^ b) (d : Int) = ((n * 2 ^ b + d : Nat) : Int) := by
    rw [← or_low hd, Int.natCast_mul, Int.natCast_pow]; rfl
  simp [sTurn, l_together_0, hz, hn0, c1, e5]
theorem together_ok (ds : List Nat) (b : Nat) (p : List T) (hb : b ≤ 100) (hl : ds.length ≤ 1000) (hd : ∀ d ∈ ds, d < 2 ^ b) :
    F_together [.d (.lst ((ic ds).map D.int)), .d (.int (b : Int))] p = .ret (.d (.int ((tog b ds : Nat) : Int))) p := by
  obtain ⟨u', h⟩ := loop_fold (h := hName 3) (body := l_together_0) (fun d : Nat => D.int (d : Int)) (stT (.d (.lst ((ic ds).map D.int))) b p) (fun n d => n * 2 ^ b + d) (fun rem n => n < 2 ^ (b * (ds.length - rem.length)) ∧ rem.length ≤ ds.length ∧ ∀ d ∈ rem, d < 2 ^ b) ds 0 none
    ⟨by simp, Nat.le_refl _, hd⟩ (fun d r n u ⟨i1, i2, i3⟩ => by
      rw [List.length_cons] at i1 i2
      have hd' := i3 d (by simp)
      have hm : b * (ds.length - (r.length + 1)) ≤ 100 * 1000 := Nat.mul_le_mul hb (by omega)
      refine ⟨⟨?_, by omega, fun q hq => i3 q (by simp [hq])⟩, turnT _ b p hb n d _ i1 (by omega) hd' u⟩
      have e : b * (ds.length - r.length) = b * (ds.length - (r.length + 1)) + b := by
        rw [← Nat.mul_succ]
        congr 1
        omega
      rw [e, Nat.pow_add]
      have := Nat.mul_le_mul_right (2 ^ b) (Nat.succ_le_of_lt i1)
      rw [Nat.succ_mul] at this
      omega)
  rw [← ic_int] at h
  simp only [stT, Int.natCast_zero] at h
  simp [F_together, b_together, h, tog]
theorem together_loop_no (A : T) (b : Nat) (hb : b ≤ 100) : ∀ (xs : List Int) (n m : Nat) (u : Option T), n < 2 ^ m → m + b * xs.length ≤ 1000000 → (∃ d ∈ xs, d < 0 ∨ (2 : Int) ^ b ≤ d) →
    ∃ r, ∀ p, sLoop (hName 3) l_together_0 (xs.map D.int) (stT A b p n u) = .exc ⟨"TooGreat", []⟩ ⟨r, p⟩
  | [], _, _, _, _, _, h => by obtain ⟨_, h, _⟩ := h; cases h
  | x :: xs, n, m, u, hn, hm, h => by
    rw [List.length_cons, Nat.mul_succ] at hm
    by_cases hx : x < 0 ∨ (2 : Int) ^ b ≤ x
    · refine ⟨[some A, some (.d (.int (b : Int))), some (.d (.int (n : Int))), some (.d (.int x))], fun p => ?_⟩
      rw [List.map_cons, sLoop_cons]
      by_cases h0 : x < 0
      · simp [l_together_0, h0]
      · have h1 := hx.resolve_left h0
        have hz : 0 < x / 2 ^ b := (Int.le_ediv_iff_mul_le (pow_pos' b)).mpr (by simpa using h1)
        simp [l_together_0, h0, hz]
    · obtain ⟨d, rfl⟩ : ∃ d : Nat, x = d := ⟨x.toNat, by omega⟩
      have hd : d < 2 ^ b := by
        have : ¬ (2 : Int) ^ b ≤ d := fun z => hx (.inr z)
        rw [← pow_cast] at this; omega
      have hn2 : n * 2 ^ b + d < 2 ^ (m + b) := by
        rw [Nat.pow_add]
        have := Nat.mul_le_mul_right (2 ^ b) (Nat.succ_le_of_lt hn)
        rw [Nat.succ_mul] at this
        omega
      have hr : ∃ d ∈ xs, d < 0 ∨ (2 : Int) ^ b ≤ d := by
        obtain ⟨y, hy, hy2⟩ := h
        cases hy with
        | head => exact absurd hy2 hx
        | tail _ z => exact ⟨y, z, hy2⟩
      obtain ⟨r, g2⟩ := together_loop_no A b hb xs (n * 2 ^ b + d) (m + b) (some (.d (.int (d : Int)))) hn2 (by omega) hr
      refine ⟨r, fun p => ?_⟩
      rw [← g2 p, List.map_cons]
      refine turn_next ?_
      have hz := div_small hd
      have hn0 : ¬ (d : Int) < 0 := by omega
      have hi := bits_lt (x := (n : Int)) (m := m) (by simpa using hn)
      have c1 : (Builtin.Int.intBits (n : Int) : Int) + (b : Int) ≤ 134217728 := by omega
      have e5 : Builtin.bitOr ((n : Int) * 2 ^ b) (d : Int) = ((n * 2 ^ b + d : Nat) : Int) := by
        rw [← or_low hd, Int.natCast_mul, Int.natCast_pow]; rfl
      simp [sTurn, l_together_0, hz, hn0, c1, e5]
theorem together_no (xs : List Int) (b : Nat) (p : List T) (hb : b ≤ 100) (hl : xs.length ≤ 1000) (h : ∃ d ∈ xs, d < 0 ∨ (2 : Int) ^ b ≤ d) :
    F_together [.d (.lst (xs.map D.int)), .d (.int (b : Int))] p = .exc ⟨"TooGreat", []⟩ p := by
  have hm : b * xs.length ≤ 100 * 1000 := Nat.mul_le_mul hb hl
  obtain ⟨r, g2⟩ := together_loop_no (.d (.lst (xs.map D.int))) b hb xs 0 0 none (by simp) (by omega) h
  have g3 := g2 p
  simp only [stT, Int.natCast_zero] at g3
  simp [F_together, b_together, g3]
def LT : List Int := [45, 48, 49, 50, 51, 52, 53, 54, 55, 56, 57, 65, 66, 67, 68, 69, 70, 71, 72, 73, 74, 75, 76, 77, 78, 79, 80, 81, 82, 83, 84, 85, 86, 87, 88, 89, 90, 95, 97, 98, 99, 100, 101, 102, 103, 104, 105, 106, 107, 108, 109, 110, 111, 112, 113, 114, 115, 116, 117, 118, 119, 120, 121, 122]
theorem d_LT : d_LETTERS = .tup (LT.map D.int) := rfl
def letter (k : Nat) : Int := LT[k]?.getD 0
theorem at_LT {k : Nat} (h : k < 64) : atI (LT.map D.int) (k : Int) = some (.int (letter k)) := at_get (xs := LT) h
theorem atn1 {α : Type} {x : α} : atI [x] (-1) = some x := rfl
theorem atn2 {α : Type} {x y : α} : atI [x, y] (-1) = some y := rfl
theorem ixn1 : ixN 1 (-1) = some 0 := by decide
theorem ixn10 : ixN 1 0 = some 0 := by decide
theorem ixn2 : ixN 2 (-1) = some 1 := by decide
theorem digit1 (x m : Int) (hm : 0 < m) (hm2 : m < 1073741824) : F__law_digit [.al 0, .d (.int m)] [.lst [.d (.int x)]] = .ret (.d (.int (x % m))) [.lst [.d (.int (x / m))]] := by
  have m0 : ¬ m = 0 := by omega
  (simp (disch := omega) [F__law_digit, b__law_digit, cutD1, cutD0, -List.drop_one, take_ic, drop_ic, -List.map_take, -List.map_drop, -List.all_map, List.getElem?_cons_zero, List.getElem?_cons_succ, if_pos, if_neg, sizeL, gEq_eq, gNe_eq, cutI_from, cutI_to, cutI_two, cutN_from, cutN_to, cutN_two, atn1, atn2, ixn1, ixn2, m0, hm, hm2] <;> (try omega))

theorem digit2 (x y m : Int) (hm : 0 < m) (hm2 : m < 1073741824) : F__law_digit [.al 0, .d (.int m)] [.lst [.d (.int x), .d (.int y)]] = .ret (.d (.int (y % m))) [if y / m = 0 then .lst [.d (.int x)] else .lst [.d (.int x), .d (.int (y / m))]] := by
  have m0 : ¬ m = 0 := by omega
  by_cases c : y / m = 0
  · skip
    (simp (disch := omega) [F__law_digit, b__law_digit, cutD1, cutD0, -List.drop_one, take_ic, drop_ic, -List.map_take, -List.map_drop, -List.all_map, List.getElem?_cons_zero, List.getElem?_cons_succ, if_pos, if_neg, sizeL, gEq_eq, gNe_eq, cutI_from, cutI_to, cutI_two, cutN_from, cutN_to, cutN_two, atn1, atn2, ixn1, ixn2, m0, hm, hm2, c] <;> (try omega))

  · skip
    (simp (disch := omega) [F__law_digit, b__law_digit, cutD1, cutD0, -List.drop_one, take_ic, drop_ic, -List.map_take, -List.map_drop, -List.all_map, List.getElem?_cons_zero, List.getElem?_cons_succ, if_pos, if_neg, sizeL, gEq_eq, gNe_eq, cutI_from, cutI_to, cutI_two, cutN_from, cutN_to, cutN_two, atn1, atn2, ixn1, ixn2, m0, hm, hm2, c] <;> (try omega))

/-- a pot of digits -/
def Pot (t : T) : Prop := (∃ x, t = .lst [.d (.int x)]) ∨ ∃ x y, t = .lst [.d (.int x), .d (.int y)]
theorem digit_ok (t : T) (h : Pot t) (m : Int) (hm : 0 < m) (hm2 : m < 1073741824) : ∃ (k : Int) (t' : T), 0 ≤ k ∧ k < m ∧ Pot t' ∧ F__law_digit [.al 0, .d (.int m)] [t] = .ret (.d (.int k)) [t'] := by
  rcases h with ⟨x, rfl⟩ | ⟨x, y, rfl⟩
  · exact ⟨_, _, Int.emod_nonneg _ (by omega), Int.emod_lt_of_pos _ hm, .inl ⟨_, rfl⟩, digit1 x m hm hm2⟩
  · refine ⟨_, _, Int.emod_nonneg _ (by omega), Int.emod_lt_of_pos _ hm, ?_, digit2 x y m hm hm2⟩
    split
    · exact .inl ⟨_, rfl⟩
    · exact .inr ⟨_, _, rfl⟩
theorem pot_loop (N : Int) (p : List T) : ∀ (n : Nat) (k : Int) (x f : Int) (u : Option T), 0 ≤ x → x < 3000000000 → ∃ x' f' u', sLoop (hName 3) l__law_pot_0 (intsFrom k n) ⟨[some (.d (.int N)), some (.d (.int x)), some (.lst [.d (.int f)]), u], p⟩ = .next ⟨[some (.d (.int N)), some (.d (.int x')), some (.lst [.d (.int f')]), u'], p⟩
  | 0, k, x, f, u, _, _ => ⟨x, f, u, rfl⟩
  | n + 1, k, x, f, u, x0, x1 => by
    have c1 : -18446744073709551616 < x := by omega
    have c2 : x < 18446744073709551616 := by omega
    obtain ⟨x', f', u', e⟩ := pot_loop N p n (k + 1) ((x * x + 48271 * x + k) % 2147483647) (f * 2147483647 + (x * x + 48271 * x + k) % 2147483647) (some (.d (.int k))) (Int.emod_nonneg _ (by decide)) (by have := Int.emod_lt_of_pos (x * x + 48271 * x + k) (show (0:Int) < 2147483647 by decide); omega)
    refine ⟨x', f', u', ?_⟩
    have et : sTurn (hName 3) l__law_pot_0 (.int k) ⟨[some (.d (.int N)), some (.d (.int x)), some (.lst [.d (.int f)]), u], p⟩ = .next ⟨[some (.d (.int N)), some (.d (.int ((x * x + 48271 * x + k) % 2147483647))), some (.lst [.d (.int (f * 2147483647 + (x * x + 48271 * x + k) % 2147483647))]), some (.d (.int k))], p⟩ := by
      refine turn_n rfl ?_
      simp only [st_mk, List.set_cons_succ, List.set_cons_zero]
      unfold l__law_pot_0
      (simp (disch := omega) [cutD1, cutD0, -List.drop_one, take_ic, drop_ic, -List.map_take, -List.map_drop, -List.all_map, List.getElem?_cons_zero, List.getElem?_cons_succ, if_pos, if_neg, sizeL, gEq_eq, gNe_eq, cutI_from, cutI_to, cutI_two, cutN_from, cutN_to, cutN_two, c1, c2, ixn10])
    rw [BT.intsFrom, turn_next et]
    exact e
theorem pot_ok (n : Int) (p : List T) : ∃ t, Pot t ∧ F__law_pot [.d (.int n)] p = .ret t p := by
  obtain ⟨x', f', u', e⟩ := pot_loop n p 40 0 (n / 2 % 2147483629 + 7) 0 none (by omega) (by omega)
  by_cases c : n % 2 = 1
  · by_cases c2 : n / 2 = 0
    · refine ⟨_, .inl ⟨f', rfl⟩, ?_⟩
      skip
      unfold F__law_pot
      refine runX_go rfl ?_
      simp only [List.map_cons, List.map_nil, List.cons_append, List.nil_append, Nat.reduceSub, List.reduceReplicate, Nat.sub_self, List.replicate_zero, List.append_nil, Nat.add_one_sub_one]
      unfold b__law_pot

      first | with_reducible apply fo_stp | with_reducible apply sq_stp
      · (simp (disch := omega) [a__law_pot_0, a__law_pot_1, a__law_pot_2, a__law_pot_3, a__law_pot_4, cutD1, cutD0, -List.drop_one, take_ic, drop_ic, -List.map_take, -List.map_drop, -List.all_map, List.getElem?_cons_zero, List.getElem?_cons_succ, if_pos, if_neg, sizeL, gEq_eq, gNe_eq, cutI_from, cutI_to, cutI_two, cutN_from, cutN_to, cutN_two] <;> (repeat' (first | rfl | refine And.intro ?_ ?_)))

      first | with_reducible apply fo_stp | with_reducible apply sq_stp
      · (simp (disch := omega) [a__law_pot_0, a__law_pot_1, a__law_pot_2, a__law_pot_3, a__law_pot_4, cutD1, cutD0, -List.drop_one, take_ic, drop_ic, -List.map_take, -List.map_drop, -List.all_map, List.getElem?_cons_zero, List.getElem?_cons_succ, if_pos, if_neg, sizeL, gEq_eq, gNe_eq, cutI_from, cutI_to, cutI_two, cutN_from, cutN_to, cutN_two] <;> (repeat' (first | rfl | refine And.intro ?_ ?_)))

      first | with_reducible apply fo_stp | with_reducible apply sq_stp
      · apply for_go
        · (simp (disch := omega) [cutD1, cutD0, -List.drop_one, take_ic, drop_ic, -List.map_take, -List.map_drop, -List.all_map, List.getElem?_cons_zero, List.getElem?_cons_succ, if_pos, if_neg, sizeL, gEq_eq, gNe_eq, cutI_from, cutI_to, cutI_two, cutN_from, cutN_to, cutN_two] <;> (repeat' (first | rfl | refine And.intro ?_ ?_)))
        · exact e

      first | with_reducible apply fo_stp | with_reducible apply sq_stp
      · (simp (disch := omega) [a__law_pot_0, a__law_pot_1, a__law_pot_2, a__law_pot_3, a__law_pot_4, cutD1, cutD0, -List.drop_one, take_ic, drop_ic, -List.map_take, -List.map_drop, -List.all_map, List.getElem?_cons_zero, List.getElem?_cons_succ, if_pos, if_neg, sizeL, gEq_eq, gNe_eq, cutI_from, cutI_to, cutI_two, cutN_from, cutN_to, cutN_two, c, c2] <;> (repeat' (first | rfl | refine And.intro ?_ ?_)))

      (simp (disch := omega) [a__law_pot_0, a__law_pot_1, a__law_pot_2, a__law_pot_3, a__law_pot_4, cutD1, cutD0, -List.drop_one, take_ic, drop_ic, -List.map_take, -List.map_drop, -List.all_map, List.getElem?_cons_zero, List.getElem?_cons_succ, if_pos, if_neg, sizeL, gEq_eq, gNe_eq, cutI_from, cutI_to, cutI_two, cutN_from, cutN_to, cutN_two] <;> (try omega))

    · refine ⟨_, .inr ⟨f', n / 2, rfl⟩, ?_⟩
      skip
      unfold F__law_pot
      refine runX_go rfl ?_
      simp only [List.map_cons, List.map_nil, List.cons_append, List.nil_append, Nat.reduceSub, List.reduceReplicate, Nat.sub_self, List.replicate_zero, List.append_nil, Nat.add_one_sub_one]
      unfold b__law_pot

      first | with_reducible apply fo_stp | with_reducible apply sq_stp
      · (simp (disch := omega) [a__law_pot_0, a__law_pot_1, a__law_pot_2, a__law_pot_3, a__law_pot_4, cutD1, cutD0, -List.drop_one, take_ic, drop_ic, -List.map_take, -List.map_drop, -List.all_map, List.getElem?_cons_zero, List.getElem?_cons_succ, if_pos, if_neg, sizeL, gEq_eq, gNe_eq, cutI_from, cutI_to, cutI_two, cutN_from, cutN_to, cutN_two] <;> (repeat' (first | rfl | refine And.intro ?_ ?_)))

      first | with_reducible apply fo_stp | with_reducible apply sq_stp
      · (simp (disch := omega) [a__law_pot_0, a__law_pot_1, a__law_pot_2, a__law_pot_3, a__law_pot_4, cutD1, cutD0, -List.drop_one, take_ic, drop_ic, -List.map_take, -List.map_drop, -List.all_map, List.getElem?_cons_zero, List.getElem?_cons_succ, if_pos, if_neg, sizeL, gEq_eq, gNe_eq, cutI_from, cutI_to, cutI_two, cutN_from, cutN_to, cutN_two] <;> (repeat' (first | rfl | refine And.intro ?_ ?_)))

      first | with_reducible apply fo_stp | with_reducible apply sq_stp
      · apply for_go
        · (simp (disch := omega) [cutD1, cutD0, -List.drop_one, take_ic, drop_ic, -List.map_take, -List.map_drop, -List.all_map, List.getElem?_cons_zero, List.getElem?_cons_succ, if_pos, if_neg, sizeL, gEq_eq, gNe_eq, cutI_from, cutI_to, cutI_two, cutN_from, cutN_to, cutN_two] <;> (repeat' (first | rfl | refine And.intro ?_ ?_)))
        · exact e

      first | with_reducible apply fo_stp | with_reducible apply sq_stp
      · (simp (disch := omega) [a__law_pot_0, a__law_pot_1, a__law_pot_2, a__law_pot_3, a__law_pot_4, cutD1, cutD0, -List.drop_one, take_ic, drop_ic, -List.map_take, -List.map_drop, -List.all_map, List.getElem?_cons_zero, List.getElem?_cons_succ, if_pos, if_neg, sizeL, gEq_eq, gNe_eq, cutI_from, cutI_to, cutI_two, cutN_from, cutN_to, cutN_two, c, c2] <;> (repeat' (first | rfl | refine And.intro ?_ ?_)))

      (simp (disch := omega) [a__law_pot_0, a__law_pot_1, a__law_pot_2, a__law_pot_3, a__law_pot_4, cutD1, cutD0, -List.drop_one, take_ic, drop_ic, -List.map_take, -List.map_drop, -List.all_map, List.getElem?_cons_zero, List.getElem?_cons_succ, if_pos, if_neg, sizeL, gEq_eq, gNe_eq, cutI_from, cutI_to, cutI_two, cutN_from, cutN_to, cutN_two] <;> (try omega))

  · refine ⟨_, .inl ⟨f', rfl⟩, ?_⟩
    skip
    unfold F__law_pot
    refine runX_go rfl ?_
    simp only [List.map_cons, List.map_nil, List.cons_append, List.nil_append, Nat.reduceSub, List.reduceReplicate, Nat.sub_self, List.replicate_zero, List.append_nil, Nat.add_one_sub_one]
    unfold b__law_pot

    first | with_reducible apply fo_stp | with_reducible apply sq_stp
    · (simp (disch := omega) [a__law_pot_0, a__law_pot_1, a__law_pot_2, a__law_pot_3, a__law_pot_4, cutD1, cutD0, -List.drop_one, take_ic, drop_ic, -List.map_take, -List.map_drop, -List.all_map, List.getElem?_cons_zero, List.getElem?_cons_succ, if_pos, if_neg, sizeL, gEq_eq, gNe_eq, cutI_from, cutI_to, cutI_two, cutN_from, cutN_to, cutN_two] <;> (repeat' (first | rfl | refine And.intro ?_ ?_)))

    first | with_reducible apply fo_stp | with_reducible apply sq_stp
    · (simp (disch := omega) [a__law_pot_0, a__law_pot_1, a__law_pot_2, a__law_pot_3, a__law_pot_4, cutD1, cutD0, -List.drop_one, take_ic, drop_ic, -List.map_take, -List.map_drop, -List.all_map, List.getElem?_cons_zero, List.getElem?_cons_succ, if_pos, if_neg, sizeL, gEq_eq, gNe_eq, cutI_from, cutI_to, cutI_two, cutN_from, cutN_to, cutN_two] <;> (repeat' (first | rfl | refine And.intro ?_ ?_)))

    first | with_reducible apply fo_stp | with_reducible apply sq_stp
    · apply for_go
      · (simp (disch := omega) [cutD1, cutD0, -List.drop_one, take_ic, drop_ic, -List.map_take, -List.map_drop, -List.all_map, List.getElem?_cons_zero, List.getElem?_cons_succ, if_pos, if_neg, sizeL, gEq_eq, gNe_eq, cutI_from, cutI_to, cutI_two, cutN_from, cutN_to, cutN_two] <;> (repeat' (first | rfl | refine And.intro ?_ ?_)))
      · exact e

    first | with_reducible apply fo_stp | with_reducible apply sq_stp
    · (simp (disch := omega) [a__law_pot_0, a__law_pot_1, a__law_pot_2, a__law_pot_3, a__law_pot_4, cutD1, cutD0, -List.drop_one, take_ic, drop_ic, -List.map_take, -List.map_drop, -List.all_map, List.getElem?_cons_zero, List.getElem?_cons_succ, if_pos, if_neg, sizeL, gEq_eq, gNe_eq, cutI_from, cutI_to, cutI_two, cutN_from, cutN_to, cutN_two, c] <;> (repeat' (first | rfl | refine And.intro ?_ ?_)))

    (simp (disch := omega) [a__law_pot_0, a__law_pot_1, a__law_pot_2, a__law_pot_3, a__law_pot_4, cutD1, cutD0, -List.drop_one, take_ic, drop_ic, -List.map_take, -List.map_drop, -List.all_map, List.getElem?_cons_zero, List.getElem?_cons_succ, if_pos, if_neg, sizeL, gEq_eq, gNe_eq, cutI_from, cutI_to, cutI_two, cutN_from, cutN_to, cutN_two] <;> (try omega))

/-- a comprehension with an invariant of the state -/
theorem lcL_inv {h : D → S → Option S} {c : SemT} {f : Sem} {vs : List Nat} (I : S → Prop) (Q : T → Prop) (hI : ∀ s, I s → s.wipe vs = s) (hs : ∀ d s, I s → ∃ t s', lcS h c f vs d s = .ok (some t) s' ∧ Q t ∧ I s') : ∀ (ds : List D) (s : S) (acc : List T), I s → acc.length + ds.length ≤ sizeLine → ∃ ts s', sLcLoop h c f vs ds s acc = .ok (acc ++ ts) s' ∧ ts.length = ds.length ∧ (∀ t ∈ ts, Q t) ∧ I s'
  | [], s, acc, hi, _ => ⟨[], s, by rw [List.append_nil]; rfl, rfl, by simp, hi⟩
  | d :: ds, s, acc, hi, hl => by
    obtain ⟨t, s', e, hq, hi'⟩ := hs d s hi
    obtain ⟨s1, s2, s3, e1, e2, e3, e4⟩ := lcS_some e
    rw [List.length_cons] at hl
    obtain ⟨ts, s'', e5, e6, e7, e8⟩ := lcL_inv I Q hI hs ds s' (acc ++ [t]) hi' (by rw [List.length_append, List.length_singleton]; omega)
    refine ⟨t :: ts, s'', ?_, by rw [List.length_cons, List.length_cons, e6], ?_, e8⟩
    · unfold sLcLoop
      simp only [hI s hi, e1, e2, e3, if_pos (show acc.length < sizeLine by omega), e4, e5]
      simp
    · intro x hx
      rcases List.mem_cons.mp hx with rfl | hx
      · exact hq
      · exact e7 x hx
theorem all_nat (m : Nat) : ∀ (ts : List T), (∀ t ∈ ts, ∃ x : Nat, x < m ∧ t = .d (.int (x : Int))) → ∃ xs : List Nat, (∀ x ∈ xs, x < m) ∧ xs.length = ts.length ∧ ts = (ic xs).map (T.d ∘ D.int)
  | [], _ => ⟨[], by simp, rfl, rfl⟩
  | t :: ts, h => by
    obtain ⟨x, hx, e⟩ := h t (by simp)
    obtain ⟨xs, h1, h2, h3⟩ := all_nat m ts (fun t ht => h t (by simp [ht]))
    exact ⟨x :: xs, by
      intro y hy
      rcases List.mem_cons.mp hy with rfl | hy
      · exact hx
      · exact h1 y hy, by simp [h2], by rw [ic_cons, List.map_cons, ← h3, e]; rfl⟩
abbrev stDg (c : Int) (m top : Nat) (t : T) (u : Option T) : S := ⟨[some (.d (.int c)), some (.d (.int (m : Int))), some (.d (.int (top : Int))), some t, u], []⟩
theorem with1 (c : Int) (m top : Nat) (hm : 0 < m) (hm2 : m < 1073741824) (t : T) (h : Pot t) (u : Option D) : ∃ (k : Nat) (t' : T), k < m ∧ Pot t' ∧ e__law_digits_0 (stDg c m top t (u.map T.d)) = .ok (.d (.int (k : Int))) (stDg c m top t' (u.map T.d)) := by
  obtain ⟨k, t', k0, k1, ht, e⟩ := digit_ok t h (m : Int) (by omega) (by omega)
  obtain ⟨n, rfl⟩ : ∃ n : Nat, k = (n : Int) := ⟨k.toNat, by omega⟩
  refine ⟨n, t', by omega, ht, ?_⟩
  unfold e__law_digits_0
  rcases h with ⟨x, rfl⟩ | ⟨x, y, rfl⟩ <;> rcases ht with ⟨x', rfl⟩ | ⟨x', y', rfl⟩ <;> cases u <;> simp [e, stDg, S.unl, T.alb, T.albL, albO]
theorem with2 (c : Int) (m top : Nat) (hm : top < 1073741823) (t : T) (h : Pot t) : ∃ (k : Nat) (t' : T), k ≤ top ∧ Pot t' ∧ sWith 3 (sCallR F__law_digit [] (sAc (sFz 3) (sAc (sBin gAdd (sRd 2) (sC (.int 1))) (sAn)))) (stDg c m top t none) = .ok (.d (.int (k : Int))) (stDg c m top t' none) := by
  obtain ⟨k, t', k0, k1, ht, e⟩ := digit_ok t h ((top : Int) + 1) (by omega) (by omega)
  obtain ⟨n, rfl⟩ : ∃ n : Nat, k = (n : Int) := ⟨k.toNat, by omega⟩
  refine ⟨n, t', by omega, ht, ?_⟩
  rcases h with ⟨x, rfl⟩ | ⟨x, y, rfl⟩ <;> rcases ht with ⟨x', rfl⟩ | ⟨x', y', rfl⟩ <;> simp [e, stDg, S.unl, T.alb, T.albL, albO]
theorem digits_ok (c : Int) (m top : Nat) (hm : 0 < m) (hm2 : m < 1073741824) (ht : top ≤ 10000) : ∃ xs : List Nat, (∀ x ∈ xs, x < m) ∧ xs.length ≤ top ∧ F__law_digits [.d (.int c), .d (.int (m : Int)), .d (.int (top : Int))] [] = .ret (.lst ((ic xs).map (T.d ∘ D.int))) [] := by
  obtain ⟨t, hp, e0⟩ := pot_ok c []
  obtain ⟨k, t1, hk, hp1, e1⟩ := with2 c m top (by omega) t hp
  obtain ⟨ts, s', e2, l2, q2, i2⟩ := lcL_inv (h := hName 4) (c := tYesS) (f := e__law_digits_0) (vs := [4]) (fun s => ∃ t, Pot t ∧ s = stDg c m top t none) (fun t => ∃ x : Nat, x < m ∧ t = .d (.int (x : Int))) (by rintro s ⟨t, _, rfl⟩; rfl) (by
    rintro d s ⟨t, h, rfl⟩
    obtain ⟨k, t', h1, h2, h3⟩ := with1 c m top hm hm2 t h (some d)
    refine ⟨_, stDg c m top t' none, ?_, ⟨k, h1, rfl⟩, ⟨t', h2, rfl⟩⟩
    unfold lcS
    rw [show hName 4 d (stDg c m top t none) = some (stDg c m top t ((some d).map T.d)) from rfl]
    simp only [show tYesS (stDg c m top t ((some d).map T.d)) = .ok true (stDg c m top t ((some d).map T.d)) from rfl, bind_ok, if_pos, h3]
    rfl) (intsFrom 0 k) (stDg c m top t1 none) [] ⟨t1, hp1, rfl⟩ (by rw [intsFrom_map]; simp [sizeL]; omega)
  obtain ⟨xs, x1, x2, x3⟩ := all_nat m ts q2
  refine ⟨xs, x1, by rw [x2, l2, intsFrom_map]; simp; omega, ?_⟩
  obtain ⟨t', _, rfl⟩ := i2
  rw [List.nil_append, x3] at e2
  have r1 : (k : Int) < 4611686018427387904 := by omega
  have r2 : -4611686018427387904 ≤ (k : Int) := by omega
  have e3 : c__law_digits_0 (stDg c m top t none) = .ok (.lst ((ic xs).map (T.d ∘ D.int))) (stDg c m top t' none) := by
    unfold c__law_digits_0
    rw [sLc_eq, iR1W_eq, e1, bind_ok, r1W_int r2 r1, bind_ok, Int.toNat_natCast, e2, bind_ok]
    rfl
  unfold stDg at e3
  have hi : t.ind = true := by rcases hp with ⟨x, rfl⟩ | ⟨x, y, rfl⟩ <;> rfl
  unfold F__law_digits
  refine runX_go rfl ?_
  simp only [List.map_cons, List.map_nil, List.cons_append, List.nil_append, Nat.reduceSub, List.reduceReplicate, Nat.sub_self, List.replicate_zero, List.append_nil, Nat.add_one_sub_one]
  unfold b__law_digits

  first | with_reducible apply fo_stp | with_reducible apply sq_stp
  · (simp (disch := omega) [cutD1, cutD0, -List.drop_one, take_ic, drop_ic, -List.map_take, -List.map_drop, -List.all_map, List.getElem?_cons_zero, List.getElem?_cons_succ, if_pos, if_neg, sizeL, gEq_eq, gNe_eq, cutI_from, cutI_to, cutI_two, cutN_from, cutN_to, cutN_two, e0, hi] <;> (repeat' (first | rfl | refine And.intro ?_ ?_)))

  first | with_reducible apply fo_sqr | with_reducible apply sq_ret | with_reducible apply fo_rt
  · (simp (disch := omega) [cutD1, cutD0, -List.drop_one, take_ic, drop_ic, -List.map_take, -List.map_drop, -List.all_map, List.getElem?_cons_zero, List.getElem?_cons_succ, if_pos, if_neg, sizeL, gEq_eq, gNe_eq, cutI_from, cutI_to, cutI_two, cutN_from, cutN_to, cutN_two, e3] <;> (repeat' (first | rfl | refine And.intro ?_ ?_)))
  try rfl

/-- the order of two rows -/
def ord : List Int → List Int → Int
  | [], [] => 0
  | [], _ :: _ => -1
  | _ :: _, [] => 1
  | a :: x, b :: y => if a = b then ord x y else if a < b then -1 else 1
theorem ord_cons {a b : Int} {x y : List Int} : ord (a :: x) (b :: y) = if a = b then ord x y else if a < b then -1 else 1 := rfl
theorem ord_zero : ∀ x y : List Int, ord x y = 0 ↔ x = y
  | [], [] => by simp [ord]
  | [], _ :: _ => by simp [ord]
  | _ :: _, [] => by simp [ord]
  | a :: x, b :: y => by
    rw [ord_cons, List.cons.injEq]
    by_cases h : a = b
    · rw [if_pos h, ord_zero x y]; simp [h]
    · rw [if_neg h]
      by_cases h2 : a < b
      · rw [if_pos h2]; simp [h]
      · rw [if_neg h2]; simp [h]
theorem ord_map {S : Int → Prop} {f : Int → Int} (hf : ∀ i j, S i → S j → (f i < f j ↔ i < j) ∧ (f i = f j ↔ i = j)) : ∀ x y : List Int, (∀ i ∈ x, S i) → (∀ i ∈ y, S i) → ord (x.map f) (y.map f) = ord x y
  | [], [], _, _ => rfl
  | [], _ :: _, _, _ => rfl
  | _ :: _, [], _, _ => rfl
  | a :: x, b :: y, hx, hy => by
    obtain ⟨h1, h2⟩ := hf a b (hx a (by simp)) (hy b (by simp))
    rw [List.map_cons, List.map_cons, ord_cons, ord_cons, ord_map hf x y (fun i h => hx i (by simp [h])) (fun i h => hy i (by simp [h]))]
    simp only [h1, h2]
/-- the sixes of a row -/
def six : List Int → List Int
  | a :: b :: c :: r => a / 4 :: (a % 4 * 16 + b / 16) :: (b % 16 * 4 + c / 64) :: c % 64 :: six r
  | [a, b] => [a / 4, a % 4 * 16 + b / 16, b % 16 * 4]
  | [a] => [a / 4, a % 4 * 16]
  | [] => []
def By (x : List Int) : Prop := ∀ d ∈ x, 0 ≤ d ∧ d < 256
theorem six_lt : ∀ x : List Int, By x → ∀ k ∈ six x, 0 ≤ k ∧ k < 64
  | a :: b :: c :: r, h, k, hk => by
    have ha := h a (by simp)
    have hb := h b (by simp)
    have hc := h c (by simp)
    simp only [six, List.mem_cons] at hk
    rcases hk with rfl | rfl | rfl | rfl | hk
    · omega
    · omega
    · omega
    · omega
    · exact six_lt r (fun d hd => h d (by simp [hd])) k hk
  | [a, b], h, k, hk => by
    have ha := h a (by simp)
    have hb := h b (by simp)
    simp only [six, List.mem_cons, List.not_mem_nil, or_false] at hk
    rcases hk with rfl | rfl | rfl <;> omega
  | [a], h, k, hk => by
    have ha := h a (by simp)
    simp only [six, List.mem_cons, List.not_mem_nil, or_false] at hk
    rcases hk with rfl | rfl <;> omega
  | [], h, k, hk => by simp [six] at hk
theorem six_ord : ∀ (x y : List Int), By x → By y → ord (six x) (six y) = ord x y
  | a :: b :: c :: r, a' :: b' :: c' :: r', h, h' => by
    have ha := h a (by simp)
    have hb := h b (by simp)
    have hc := h c (by simp)
    have ha' := h' a' (by simp)
    have hb' := h' b' (by simp)
    have hc' := h' c' (by simp)
    have ih := six_ord r r' (fun d hd => h d (by simp [hd])) (fun d hd => h' d (by simp [hd]))
    simp only [six, ord_cons, ih]
    generalize ord r r' = z
    clear ih h h'
    by_cases e1 : a = a'
    · subst e1
      by_cases e2 : b = b'
      · subst e2
        by_cases e3 : c = c'
        · subst e3; simp
        · simp only [if_true, e3, if_false]
          by_cases e4 : c < c' <;> simp only [e4, if_true, if_false] <;> (repeat' split) <;> omega
      · simp only [if_true, e2, if_false]
        by_cases e4 : b < b' <;> simp only [e4, if_true, if_false] <;> (repeat' split) <;> omega
    · simp only [e1, if_false]
      by_cases e4 : a < a' <;> simp only [e4, if_true, if_false] <;> (repeat' split) <;> omega
  | a :: b :: c :: r, [a', b'], h, h' => by
    have ha := h a (by simp)
    have hb := h b (by simp)
    have hc := h c (by simp)
    have ha' := h' a' (by simp)
    have hb' := h' b' (by simp)
    simp only [six, ord_cons, ord]
    (repeat' split) <;> omega
  | a :: b :: c :: r, [a'], h, h' => by
    have ha := h a (by simp)
    have hb := h b (by simp)
    have ha' := h' a' (by simp)
    simp only [six, ord_cons, ord]
    (repeat' split) <;> omega
  | a :: b :: c :: r, [], h, h' => by simp only [six, ord]
  | [a, b], a' :: b' :: c' :: r', h, h' => by
    have ha := h a (by simp)
    have hb := h b (by simp)
    have ha' := h' a' (by simp)
    have hb' := h' b' (by simp)
    have hc' := h' c' (by simp)
    simp only [six, ord_cons, ord]
    (repeat' split) <;> omega
  | [a, b], [a', b'], h, h' => by
    have ha := h a (by simp)
    have hb := h b (by simp)
    have ha' := h' a' (by simp)
    have hb' := h' b' (by simp)
    simp only [six, ord_cons, ord]
    (repeat' split) <;> omega
  | [a, b], [a'], h, h' => by
    have ha := h a (by simp)
    have hb := h b (by simp)
    have ha' := h' a' (by simp)
    simp only [six, ord_cons, ord]
    (repeat' split) <;> omega
  | [a, b], [], h, h' => by simp only [six, ord]
  | [a], a' :: b' :: c' :: r', h, h' => by
    have ha := h a (by simp)
    have ha' := h' a' (by simp)
    have hb' := h' b' (by simp)
    simp only [six, ord_cons, ord]
    (repeat' split) <;> omega
  | [a], [a', b'], h, h' => by
    have ha := h a (by simp)
    have ha' := h' a' (by simp)
    have hb' := h' b' (by simp)
    simp only [six, ord_cons, ord]
    (repeat' split) <;> omega
  | [a], [a'], h, h' => by
    have ha := h a (by simp)
    have ha' := h' a' (by simp)
    simp only [six, ord_cons, ord]
    (repeat' split) <;> omega
  | [a], [], h, h' => by simp only [six, ord]
  | [], a' :: b' :: c' :: r', h, h' => by simp only [six, ord]
  | [], [a', b'], h, h' => by simp only [six, ord]
  | [], [a'], h, h' => by simp only [six, ord]
  | [], [], h, h' => by simp only [six, ord]
theorem ord_lt : ∀ k : Nat, k < 64 → ∀ j : Nat, j < 64 → (letter k < letter j ↔ k < j) ∧ (letter k = letter j ↔ k = j) := by decide
end K54
end
noncomputable section
namespace K54
open PySem PySem.Spec PyProof.Rows L2 BT
theorem slL_ok (A B C E : Option T) (ks : List Nat) (lacks : Nat) (hl : lacks ≤ 4) (hk : ∀ k ∈ ks, k < 64) (hks : ks.length ≤ 1000) (u : Option T) (p : List T) :
    c_lettered_0 ⟨[A, B, C, E, some (.d (.int (lacks : Int))), some (.lst (ks.map fun k : Nat => T.d (.int (k : Int)))), none], p⟩ = .ok (.lst ((ks.take (4 - lacks)).map fun k => T.d (.int (letter k)))) ⟨[A, B, C, E, some (.d (.int (lacks : Int))), some (.lst (ks.map fun k : Nat => T.d (.int (k : Int)))), none], p⟩ := by
  have hc : cut (ks.map fun k : Nat => D.int (k : Int)) none (some (4 - (lacks : Int))) = (ks.take (4 - lacks)).map fun k : Nat => D.int (k : Int) := by
    rw [cut_to (by omega), List.map_take]
    congr 1
    omega
  unfold c_lettered_0 e_lettered_0
  refine sLc_mp (s1 := ⟨[A, B, C, E, some (.d (.int (lacks : Int))), some (.lst (ks.map fun k : Nat => T.d (.int (k : Int)))), none], p⟩) (s0 := ⟨[A, B, C, E, some (.d (.int (lacks : Int))), some (.lst (ks.map fun k : Nat => T.d (.int (k : Int)))), none], p⟩) (fun k : Nat => D.int (k : Int)) (fun k => .d (.int (letter k))) ?_ rfl rfl ?_ ?_
  · have hs : ((ks.take (4 - lacks)).map fun k : Nat => D.int (k : Int)).all D.sc = true := by
      rw [List.all_map, List.all_eq_true]
      intro k _
      rfl
    simp [hc, -List.map_take, -cut_map]
  · rw [List.length_take, sizeL]
    omega
  · intro k hk'
    have := hk k (List.mem_of_mem_take hk')
    simp [lcS, d_LT, at_LT this]
theorem parted6 (n : Nat) (p : List T) (hn : n < 16777216) : F_parted [.d (.int (n : Int)), .d (.int 6), .d (.int 4)] p = .ret (.lst ((parts n 6 4).map fun k : Nat => T.d (.int (k : Int)))) p := by
  have h := parted_ok n 6 4 p (by decide) (by decide) (by simpa using hn)
  rw [pI_eq, List.map_map] at h
  exact h
theorem tog3 (a b c : Nat) (p : List T) (ha : a < 256) (hb : b < 256) (hc : c < 256) : F_together [.d (.lst [.int (a : Int), .int (b : Int), .int (c : Int)]), .d (.int 8)] p = .ret (.d (.int ((tog 8 [a, b, c] : Nat) : Int))) p :=
  together_ok [a, b, c] 8 p (by decide) (by simp) (by intro d hd; simp at hd; rcases hd with h | h | h <;> (subst h; simpa using by assumption))
theorem tog3_lt (a b c : Nat) (ha : a < 256) (hb : b < 256) (hc : c < 256) : tog 8 [a, b, c] < 16777216 := by
  have := tog_lt 8 [a, b, c] (by intro d hd; simp at hd; rcases hd with h | h | h <;> (subst h; simpa using by assumption))
  simpa using this
theorem parts_len (n : Nat) : (parts n 6 4).length = 4 := by simp [parts]
theorem parts_64 (n : Nat) : ∀ k ∈ parts n 6 4, k < 64 := by
  intro k hk
  obtain ⟨i, _, rfl⟩ := List.mem_map.mp hk
  exact part_lt _ _ _ _
abbrev dn (g : List Nat) : List D := g.map fun d : Nat => D.int (d : Int)
abbrev stL (row : List Nat) (p : List T) (acc : List Int) (u : Option T × Option T × Option T × Option T) : S := ⟨[some (.d (.lst (dn row))), some (.lst (acc.map (T.d ∘ D.int))), u.1, u.2.1, u.2.2.1, u.2.2.2, none], p⟩
theorem turnLt3 (row : List Nat) (p : List T) (acc : List Int) (ha : acc.length ≤ 10000) (u : Option T × Option T × Option T × Option T) (k : Nat) (a b c : Nat) (h1 : a < 256) (h2 : b < 256) (h3 : c < 256)
    (hc : cut (dn row) (some (3 * (k : Int))) (some (3 * (k : Int) + 3)) = [.int (a : Int), .int (b : Int), .int (c : Int)]) :
    ∃ u', sTurn (hName 2) l_lettered_0 (.int (3 * (k : Int))) (stL row p acc u) = .next (stL row p (acc ++ (grp6 [a, b, c]).map letter) u') := by
  have hT := fun q => tog3 a b c q h1 h2 h3
  have hl := tog3_lt a b c h1 h2 h3
  have hP := fun q => parted6 (tog 8 [a, b, c]) q hl
  have hL := slL_ok (some (.d (.lst (dn row)))) (some (.lst (acc.map (T.d ∘ D.int)))) (some (.d (.int (3 * (k : Int))))) (some (.lst [.d (.int (a : Int)), .d (.int (b : Int)), .d (.int (c : Int))])) (parts (tog 8 [a, b, c]) 6 4) 0 (by omega) (parts_64 _) (by rw [parts_len]; decide) none p
  simp only [Int.natCast_zero] at hL
  refine ⟨(some (.d (.int (3 * (k : Int)))), some (.lst [.d (.int (a : Int)), .d (.int (b : Int)), .d (.int (c : Int))]), some (.d (.int 0)), some (.lst ((parts (tog 8 [a, b, c]) 6 4).map fun k : Nat => T.d (.int (k : Int))))), ?_⟩
  have e : ((parts (tog 8 [a, b, c]) 6 4).take 4).length = 4 := by rw [List.length_take, parts_len]; rfl
  have e2 : acc.length + 4 ≤ 16777216 := by omega
  simp [sTurn, l_lettered_0, hc, hT, hP, hL, sizeL, grp6, parts_len, -List.map_take, e2]
theorem turnLt2 (row : List Nat) (p : List T) (acc : List Int) (ha : acc.length ≤ 10000) (u : Option T × Option T × Option T × Option T) (k : Nat) (a b : Nat) (h1 : a < 256) (h2 : b < 256)
    (hc : cut (dn row) (some (3 * (k : Int))) (some (3 * (k : Int) + 3)) = [.int (a : Int), .int (b : Int)]) :
    ∃ u', sTurn (hName 2) l_lettered_0 (.int (3 * (k : Int))) (stL row p acc u) = .next (stL row p (acc ++ (grp6 [a, b]).map letter) u') := by
  have hT := fun q => tog3 a b 0 q h1 h2 (by decide)
  have hl := tog3_lt a b 0 h1 h2 (by decide)
  have hP := fun q => parted6 (tog 8 [a, b, 0]) q hl
  have hL := slL_ok (some (.d (.lst (dn row)))) (some (.lst (acc.map (T.d ∘ D.int)))) (some (.d (.int (3 * (k : Int))))) (some (.lst [.d (.int (a : Int)), .d (.int (b : Int))])) (parts (tog 8 [a, b, 0]) 6 4) 1 (by omega) (parts_64 _) (by rw [parts_len]; decide) none p
  simp only [Int.natCast_one] at hL
  simp only [Int.natCast_zero] at hT
  refine ⟨(some (.d (.int (3 * (k : Int)))), some (.lst [.d (.int (a : Int)), .d (.int (b : Int))]), some (.d (.int 1)), some (.lst ((parts (tog 8 [a, b, 0]) 6 4).map fun k : Nat => T.d (.int (k : Int))))), ?_⟩
  have e : ((parts (tog 8 [a, b, 0]) 6 4).take 3).length = 3 := by rw [List.length_take, parts_len]; rfl
  have e2 : acc.length + 3 ≤ 16777216 := by omega
  simp [sTurn, l_lettered_0, hc, hT, hP, hL, sizeL, grp6, parts_len, -List.map_take, e2]
theorem turnLt1 (row : List Nat) (p : List T) (acc : List Int) (ha : acc.length ≤ 10000) (u : Option T × Option T × Option T × Option T) (k : Nat) (a : Nat) (h1 : a < 256)
    (hc : cut (dn row) (some (3 * (k : Int))) (some (3 * (k : Int) + 3)) = [.int (a : Int)]) :
    ∃ u', sTurn (hName 2) l_lettered_0 (.int (3 * (k : Int))) (stL row p acc u) = .next (stL row p (acc ++ (grp6 [a]).map letter) u') := by
  have hT := fun q => tog3 a 0 0 q h1 (by decide) (by decide)
  have hl := tog3_lt a 0 0 h1 (by decide) (by decide)
  have hP := fun q => parted6 (tog 8 [a, 0, 0]) q hl
  have hL := slL_ok (some (.d (.lst (dn row)))) (some (.lst (acc.map (T.d ∘ D.int)))) (some (.d (.int (3 * (k : Int))))) (some (.lst [.d (.int (a : Int))])) (parts (tog 8 [a, 0, 0]) 6 4) 2 (by omega) (parts_64 _) (by rw [parts_len]; decide) none p
  simp only [show ((2 : Nat) : Int) = 2 from rfl] at hL
  simp only [Int.natCast_zero] at hT
  refine ⟨(some (.d (.int (3 * (k : Int)))), some (.lst [.d (.int (a : Int))]), some (.d (.int 2)), some (.lst ((parts (tog 8 [a, 0, 0]) 6 4).map fun k : Nat => T.d (.int (k : Int))))), ?_⟩
  have e : ((parts (tog 8 [a, 0, 0]) 6 4).take 2).length = 2 := by rw [List.length_take, parts_len]; rfl
  have e2 : acc.length + 2 ≤ 16777216 := by omega
  simp [sTurn, l_lettered_0, hc, hT, hP, hL, sizeL, grp6, parts_len, -List.map_take, e2]
theorem foldl_app {α β : Type} (f : α → List β) : ∀ (l : List α) (st : List β), l.foldl (fun acc a => acc ++ f a) st = st ++ (l.map f).flatten
  | [], st => by simp
  | a :: l, st => by rw [List.foldl_cons, foldl_app f l]; simp
theorem grp_len (g : List Nat) : (grp6 g).length ≤ 4 := by
  unfold grp6
  rw [List.length_take, parts_len]
  omega
theorem turnLt (row : List Nat) (hr : ∀ d ∈ row, d < 256) (p : List T) (acc : List Int) (ha : acc.length ≤ 10000) (u : Option T × Option T × Option T × Option T) (k : Nat) (hk : 3 * k < row.length) :
    ∃ u', sTurn (hName 2) l_lettered_0 (.int (3 * (k : Int))) (stL row p acc u) = .next (stL row p (acc ++ (grp6 ((row.drop (3 * k)).take 3)).map letter) u') := by
  have hc : cut (dn row) (some (3 * (k : Int))) (some (3 * (k : Int) + 3)) = dn ((row.drop (3 * k)).take 3) := by
    rw [cut_map, cut_two (by omega) (by omega)]
    have e1 : (3 * (k : Int)).toNat = 3 * k := by omega
    have e2 : (3 * (k : Int) + 3).toNat - (3 * (k : Int)).toNat = 3 := by omega
    rw [e2, e1]
  have hl : 1 ≤ ((row.drop (3 * k)).take 3).length ∧ ((row.drop (3 * k)).take 3).length ≤ 3 := by
    rw [List.length_take, List.length_drop]
    omega
  have hm : ∀ d ∈ (row.drop (3 * k)).take 3, d < 256 := fun d hd => hr d (List.mem_of_mem_drop (List.mem_of_mem_take hd))
  generalize (row.drop (3 * k)).take 3 = g at *
  match g, hl, hm, hc with
  | [a], _, hm, hc => exact turnLt1 row p acc ha u k a (hm a (by simp)) hc
  | [a, b], _, hm, hc => exact turnLt2 row p acc ha u k a b (hm a (by simp)) (hm b (by simp)) hc
  | [a, b, c], _, hm, hc => exact turnLt3 row p acc ha u k a b c (hm a (by simp)) (hm b (by simp)) (hm c (by simp)) hc
theorem lettered_ok (row : List Nat) (hr : ∀ d ∈ row, d < 256) (hl : row.length ≤ 5000) (p : List T) : F_lettered [.d (.lst (dn row))] p = .ret (.lst (((due6 row).map letter).map (T.d ∘ D.int))) p := by
  obtain ⟨u', h⟩ := loop_fold (h := hName 2) (body := l_lettered_0) (fun k : Nat => D.int (3 * (k : Int))) (stL row p) (fun acc k => acc ++ (grp6 ((row.drop (3 * k)).take 3)).map letter) (fun rem acc => (∀ k ∈ rem, 3 * k < row.length) ∧ acc.length + 4 * rem.length ≤ 8000) (List.range ((row.length + 2) / 3)) [] (none, none, none, none)
    ⟨fun k hk => by have := List.mem_range.mp hk; omega, by simp; omega⟩ (fun k r st u hi => ⟨⟨fun q hq => hi.1 q (by simp [hq]), by
      have := hi.2
      have g := grp_len ((row.drop (3 * k)).take 3)
      rw [List.length_cons] at this
      rw [List.length_append, List.length_map]
      omega⟩, turnLt row hr p st (by have := hi.2; omega) u k (hi.1 k (by simp))⟩)
  rw [foldl_app, List.nil_append] at h
  have e : ((List.range ((row.length + 2) / 3)).map fun k => (grp6 ((row.drop (3 * k)).take 3)).map letter).flatten = (due6 row).map letter := by
    rw [← grps6_due row hr, grps6, List.map_flatten, List.map_map]
    rfl
  rw [e] at h
  have hi : iR3 (sC (.int 0)) (sCB gLen (sAc (sRd 0) (sAn))) (sC (.int 3)) (stL row p [] (none, none, none, none)) = .ok ((List.range ((row.length + 2) / 3)).map fun k : Nat => D.int (3 * (k : Int))) (stL row p [] (none, none, none, none)) := by
    have c3 : -4611686018427387904 ≤ (row.length : Int) ∧ (row.length : Int) < 4611686018427387904 := by omega
    have e : (((row.length : Int) + 3 - 1) / 3).toNat = (row.length + 2) / 3 := by omega
    simp [c3, e, stepsFrom_map]
  simp only [stL, List.map_nil] at h hi
  simp [F_lettered, b_lettered, -iR3_eq, hi, h]
theorem by_ic {x : List Nat} (h : ∀ d ∈ x, d < 256) : By (ic x) := fun d hd => by
  obtain ⟨n, hn, rfl⟩ := List.mem_map.mp hd
  have := h n hn
  omega
theorem grp3 (a b c : Nat) (ha : a < 256) (hb : b < 256) (hc : c < 256) : ic (grp6 [a, b, c]) = [(a : Int) / 4, (a : Int) % 4 * 16 + (b : Int) / 16, (b : Int) % 16 * 4 + (c : Int) / 64, (c : Int) % 64] := by
  simp [grp6, parts, BT.part, tog, List.range_succ, ic]
  omega
theorem grp2 (a b : Nat) (ha : a < 256) (hb : b < 256) : ic (grp6 [a, b]) = [(a : Int) / 4, (a : Int) % 4 * 16 + (b : Int) / 16, (b : Int) % 16 * 4] := by
  simp [grp6, parts, BT.part, tog, List.range_succ, ic]
  omega
theorem grp1 (a : Nat) (ha : a < 256) : ic (grp6 [a]) = [(a : Int) / 4, (a : Int) % 4 * 16] := by
  simp [grp6, parts, BT.part, tog, List.range_succ, ic]
  omega
theorem six_due : ∀ x : List Nat, (∀ d ∈ x, d < 256) → ic (due6 x) = six (ic x)
  | a :: b :: c :: r, h => by
    rw [due6_cons a b c r (fun d hd => h d (by simp [hd])), ic_app, grp3 a b c (h a (by simp)) (h b (by simp)) (h c (by simp)), six_due r (fun d hd => h d (by simp [hd]))]
    rfl
  | [a, b], h => by
    rw [due6_two, grp2 a b (h a (by simp)) (h b (by simp))]
    rfl
  | [a], h => by
    rw [due6_one, grp1 a (h a (by simp))]
    rfl
  | [], _ => rfl
def ltI (i : Int) : Int := letter i.toNat
theorem ord_due (x y : List Nat) (hx : ∀ d ∈ x, d < 256) (hy : ∀ d ∈ y, d < 256) : ord ((due6 x).map letter) ((due6 y).map letter) = ord (ic x) (ic y) := by
  have e : ∀ z : List Nat, (due6 z).map letter = (ic (due6 z)).map ltI := fun z => by
    rw [ic, List.map_map]
    rfl
  rw [e, e, six_due x hx, six_due y hy, ord_map (S := fun i => 0 ≤ i ∧ i < 64) (f := ltI) _ _ _ (six_lt _ (by_ic hx)) (six_lt _ (by_ic hy)), six_ord _ _ (by_ic hx) (by_ic hy)]
  intro i j hi hj
  have := ord_lt i.toNat (by omega) j.toNat (by omega)
  unfold ltI
  rw [this.1, this.2]
  omega
end K54
end
noncomputable section
namespace K54
open PySem PySem.Spec PyProof.Rows L2 BT

theorem ord_drop {x y : List Int} {k : Nat} {a b : Int} (ha : x[k]? = some a) (hb : y[k]? = some b) : ord (x.drop k) (y.drop k) = if a = b then ord (x.drop (k + 1)) (y.drop (k + 1)) else if a < b then -1 else 1 := by
  obtain ⟨h1, rfl⟩ := List.getElem?_eq_some_iff.mp ha
  obtain ⟨h2, rfl⟩ := List.getElem?_eq_some_iff.mp hb
  rw [List.drop_eq_getElem_cons h1, List.drop_eq_getElem_cons h2, ord_cons]
theorem order_loop (x y : List Int) (p : List T) : ∀ (m k : Nat) (u : Option T), k + m = min x.length y.length →
    (∃ s', sLoop (hName 2) l__law_order_0 (intsFrom (k : Int) m) ⟨[some (.d (.lst (x.map D.int))), some (.d (.lst (y.map D.int))), u], p⟩ = .ret (.d (.int (ord (x.drop k) (y.drop k)))) s' ∧ s'.p = p) ∨
    (∃ u', sLoop (hName 2) l__law_order_0 (intsFrom (k : Int) m) ⟨[some (.d (.lst (x.map D.int))), some (.d (.lst (y.map D.int))), u], p⟩ = .next ⟨[some (.d (.lst (x.map D.int))), some (.d (.lst (y.map D.int))), u'], p⟩ ∧ ord (x.drop k) (y.drop k) = ord (x.drop (k + m)) (y.drop (k + m)))
  | 0, k, u, h => .inr ⟨u, rfl, rfl⟩
  | m + 1, k, u, h => by
    have h1 : k < x.length := by omega
    have h2 : k < y.length := by omega
    have ha : x[k]? = some x[k] := List.getElem?_eq_getElem h1
    have hb : y[k]? = some y[k] := List.getElem?_eq_getElem h2
    generalize x[k] = a at *
    generalize y[k] = b at *
    have i1 : atI ((x.map D.int).map T.d) (k : Int) = some (.d (.int a)) := atI_nat (by rw [List.getElem?_map, List.getElem?_map, ha]; rfl)
    have i2 : atI ((y.map D.int).map T.d) (k : Int) = some (.d (.int b)) := atI_nat (by rw [List.getElem?_map, List.getElem?_map, hb]; rfl)
    have ed := ord_drop ha hb
    by_cases c : a = b
    · rw [if_pos c] at ed
      subst c
      have et : sTurn (hName 2) l__law_order_0 (.int (k : Int)) ⟨[some (.d (.lst (x.map D.int))), some (.d (.lst (y.map D.int))), u], p⟩ = .next ⟨[some (.d (.lst (x.map D.int))), some (.d (.lst (y.map D.int))), some (.d (.int (k : Int)))], p⟩ := by
        refine turn_n rfl ?_
        simp only [st_mk, List.set_cons_succ, List.set_cons_zero]
        unfold l__law_order_0
        (simp (disch := omega) [cutD1, cutD0, -List.drop_one, take_ic, drop_ic, -List.map_take, -List.map_drop, -List.all_map, List.getElem?_cons_zero, List.getElem?_cons_succ, if_pos, if_neg, sizeL, gEq_eq, gNe_eq, cutI_from, cutI_to, cutI_two, cutN_from, cutN_to, cutN_two, i1, i2, -List.map_map])
      rw [BT.intsFrom, turn_next et, show (k : Int) + 1 = ((k + 1 : Nat) : Int) by omega, ed]
      rcases order_loop x y p m (k + 1) (some (.d (.int (k : Int)))) (by omega) with h | h
      · exact .inl h
      · rw [show k + (m + 1) = k + 1 + m by omega]
        exact .inr h
    · rw [if_neg c] at ed
      refine .inl ⟨⟨[some (.d (.lst (x.map D.int))), some (.d (.lst (y.map D.int))), some (.d (.int (k : Int)))], p⟩, ?_, rfl⟩
      rw [BT.intsFrom, ed]
      refine turn_ret (turn_r rfl ?_)
      simp only [st_mk, List.set_cons_succ, List.set_cons_zero]
      unfold l__law_order_0
      by_cases c2 : a < b
      · rw [if_pos c2]
        (simp (disch := omega) [cutD1, cutD0, -List.drop_one, take_ic, drop_ic, -List.map_take, -List.map_drop, -List.all_map, List.getElem?_cons_zero, List.getElem?_cons_succ, if_pos, if_neg, sizeL, gEq_eq, gNe_eq, cutI_from, cutI_to, cutI_two, cutN_from, cutN_to, cutN_two, i1, i2, c, c2, -List.map_map])
      · rw [if_neg c2]
        (simp (disch := omega) [cutD1, cutD0, -List.drop_one, take_ic, drop_ic, -List.map_take, -List.map_drop, -List.all_map, List.getElem?_cons_zero, List.getElem?_cons_succ, if_pos, if_neg, sizeL, gEq_eq, gNe_eq, cutI_from, cutI_to, cutI_two, cutN_from, cutN_to, cutN_two, i1, i2, c, c2, -List.map_map])
theorem order_ok (x y : List Int) (hx : x.length ≤ 1000000) (hy : y.length ≤ 1000000) (p : List T) : F__law_order [.d (.lst (x.map D.int)), .d (.lst (y.map D.int))] p = .ret (.d (.int (ord x y))) p := by
  have hm : (if (y.length : Int) < (x.length : Int) then (y.length : Int) else (x.length : Int)) = ((min x.length y.length : Nat) : Int) := by
    split <;> omega
  have hb : ((min x.length y.length : Nat) : Int) < 4611686018427387904 ∧ -4611686018427387904 ≤ ((min x.length y.length : Nat) : Int) := by omega
  have hi : ∀ u, iR1 (sCB gMin2 (sAc (sCB gLen (sAc (sRd 0) (sAn))) (sAc (sCB gLen (sAc (sRd 1) (sAn))) (sAn)))) ⟨[some (.d (.lst (x.map D.int))), some (.d (.lst (y.map D.int))), u], p⟩ = .ok (intsFrom ((0 : Nat) : Int) (min x.length y.length)) ⟨[some (.d (.lst (x.map D.int))), some (.d (.lst (y.map D.int))), u], p⟩ := fun u => by
    have hm2 : (if (y.length : Nat) < x.length then (y.length : Int) else (x.length : Int)) = ((min x.length y.length : Nat) : Int) := by
      split <;> omega
    generalize min x.length y.length = M at *
    (simp (disch := omega) [cutD1, cutD0, -List.drop_one, take_ic, drop_ic, -List.map_take, -List.map_drop, -List.all_map, List.getElem?_cons_zero, List.getElem?_cons_succ, if_pos, if_neg, sizeL, gEq_eq, gNe_eq, cutI_from, cutI_to, cutI_two, cutN_from, cutN_to, cutN_two, hm, hm2, hb])
  have hl := order_loop x y p (min x.length y.length) 0 none (by omega)
  rw [List.drop_zero, List.drop_zero, Nat.zero_add] at hl
  have he : ord (x.drop (min x.length y.length)) (y.drop (min x.length y.length)) = (if (x.length : Int) > (y.length : Int) then 1 else 0) - (if (x.length : Int) < (y.length : Int) then 1 else 0) := by
    by_cases c : x.length ≤ y.length
    · rw [Nat.min_eq_left c, List.drop_length]
      by_cases c2 : x.length = y.length
      · rw [c2, List.drop_length]
        simp [ord]
      · obtain ⟨a, l, e⟩ : ∃ a l, y.drop x.length = a :: l := by
          cases hd : y.drop x.length with
          | nil => have := congrArg List.length hd; simp at this; omega
          | cons a l => exact ⟨a, l, rfl⟩
        rw [e, if_neg (by omega), if_pos (by omega)]
        rfl
    · rw [Nat.min_eq_right (by omega), List.drop_length]
      obtain ⟨a, l, e⟩ : ∃ a l, x.drop y.length = a :: l := by
        cases hd : x.drop y.length with
        | nil => have := congrArg List.length hd; simp at this; omega
        | cons a l => exact ⟨a, l, rfl⟩
      rw [e, if_pos (by omega), if_neg (by omega)]
      rfl
  unfold F__law_order
  refine runX_go rfl ?_
  simp only [List.map_cons, List.map_nil, List.cons_append, List.nil_append, Nat.reduceSub, List.reduceReplicate, Nat.sub_self, List.replicate_zero, List.append_nil, Nat.add_one_sub_one]
  unfold b__law_order

  rcases hl with ⟨s', e, ep⟩ | ⟨u', e, ed⟩
  · rw [sq_ret (for_go (hi none) e)]
    show Fo.ret _ _ = _
    rw [ep]
  · refine fo_stp (for_go (hi none) e) ?_
    rw [ed, he]
    by_cases c1 : (x.length : Int) > (y.length : Int)
    · have c2 : ¬ (x.length : Int) < (y.length : Int) := by omega
      have c3 : (y.length : Int) < (x.length : Int) := by omega
      (simp (disch := omega) [cutD1, cutD0, -List.drop_one, take_ic, drop_ic, -List.map_take, -List.map_drop, -List.all_map, List.getElem?_cons_zero, List.getElem?_cons_succ, if_pos, if_neg, sizeL, gEq_eq, gNe_eq, cutI_from, cutI_to, cutI_two, cutN_from, cutN_to, cutN_two, c1, c2, c3])
    · by_cases c2 : (x.length : Int) < (y.length : Int)
      · have c3 : ¬ (y.length : Int) < (x.length : Int) := by omega
        (simp (disch := omega) [cutD1, cutD0, -List.drop_one, take_ic, drop_ic, -List.map_take, -List.map_drop, -List.all_map, List.getElem?_cons_zero, List.getElem?_cons_succ, if_pos, if_neg, sizeL, gEq_eq, gNe_eq, cutI_from, cutI_to, cutI_two, cutN_from, cutN_to, cutN_two, c1, c2, c3])
      · have c3 : ¬ (y.length : Int) < (x.length : Int) := by omega
        (simp (disch := omega) [cutD1, cutD0, -List.drop_one, take_ic, drop_ic, -List.map_take, -List.map_drop, -List.all_map, List.getElem?_cons_zero, List.getElem?_cons_succ, if_pos, if_neg, sizeL, gEq_eq, gNe_eq, cutI_from, cutI_to, cutI_two, cutN_from, cutN_to, cutN_two, c1, c2, c3])
end K54
end
noncomputable section
namespace K54
open PySem PySem.Spec PyProof.Rows L2 BT
theorem same_ok (x y : List Nat) (hx : ∀ d ∈ x, d < 256) (hy : ∀ d ∈ y, d < 256) (lx : x.length ≤ 5000) (ly : y.length ≤ 5000) (p : List T) : F__law_same [.d (.lst ((ic x).map D.int)), .d (.lst ((ic y).map D.int))] p = .ret (.d (.bl true)) p := by
  have o1 := fun q => order_ok (ic x) (ic y) (by simp; omega) (by simp; omega) q
  have e1 := fun q => lettered_ok x hx lx q
  have e2 := fun q => lettered_ok y hy ly q
  simp only [dn] at e1 e2
  rw [← ic_int] at e1 e2
  have hd : ∀ z : List Nat, z.length ≤ 5000 → ((due6 z).map letter).length ≤ 1000000 := fun z hz => by
    rw [List.length_map]; simp [due6, parts, many6]; omega
  have o2 := fun q => order_ok ((due6 x).map letter) ((due6 y).map letter) (hd x lx) (hd y ly) q
  rw [ord_due x y hx hy] at o2
  have hz := ord_zero ((due6 x).map letter) ((due6 y).map letter)
  rw [ord_due x y hx hy] at hz
  have c1 : x.length ≤ 16777216 := by omega
  have c2 : y.length ≤ 16777216 := by omega
  generalize ord (ic x) (ic y) = z at *
  generalize (due6 x).map letter = L1 at *
  generalize (due6 y).map letter = L2 at *
  by_cases c : L1 = L2
  · subst c
    have hz0 : z = 0 := hz.mpr rfl
    subst hz0
    (simp (disch := omega) [F__law_same, b__law_same, cutD1, cutD0, -List.drop_one, take_ic, drop_ic, -List.map_take, -List.map_drop, -List.all_map, List.getElem?_cons_zero, List.getElem?_cons_succ, if_pos, if_neg, sizeL, gEq_eq, gNe_eq, cutI_from, cutI_to, cutI_two, cutN_from, cutN_to, cutN_two, o1, o2, e1, e2, c1, c2] <;> (try omega))

  · have hz0 : ¬ z = 0 := fun q => c (hz.mp q)
    have d1 : (L1 == L2) = false := by simpa using c
    have d2 : (z == 0) = false := by simpa using hz0
    (simp (disch := omega) [F__law_same, b__law_same, cutD1, cutD0, -List.drop_one, take_ic, drop_ic, -List.map_take, -List.map_drop, -List.all_map, List.getElem?_cons_zero, List.getElem?_cons_succ, if_pos, if_neg, sizeL, gEq_eq, gNe_eq, cutI_from, cutI_to, cutI_two, cutN_from, cutN_to, cutN_two, o1, o2, e1, e2, c1, c2, d1, d2] <;> (try omega))


theorem fr_loop (A : Option T) (p : List T) : ∀ (cs : List Int) (acc : List Nat) (u : Option T), (∀ d ∈ acc, d < 256) → acc.length + 24 * cs.length ≤ 2000 → ∃ (acc' : List Nat) (u' : Option T), sLoop (hName 2) l__law_free_row_0 (cs.map D.int) ⟨[A, some (.lst ((ic acc).map (T.d ∘ D.int))), u], p⟩ = .next ⟨[A, some (.lst ((ic acc').map (T.d ∘ D.int))), u'], p⟩ ∧ (∀ d ∈ acc', d < 256) ∧ acc'.length ≤ 2000
  | [], acc, u, h, hl => ⟨acc, u, rfl, h, by simpa using hl⟩
  | c :: cs, acc, u, h, hl => by
    rw [List.length_cons] at hl
    obtain ⟨xs, hx, xl, ex⟩ := digits_ok c 256 24 (by decide) (by decide) (by decide)
    simp only [show ((256 : Nat) : Int) = 256 from rfl, show ((24 : Nat) : Int) = 24 from rfl] at ex
    obtain ⟨acc', u', e, h1, h2⟩ := fr_loop A p cs (acc ++ xs) (some (.d (.int c))) (fun d hd => (List.mem_append.mp hd).elim (h d) (hx d)) (by rw [List.length_append]; omega)
    refine ⟨acc', u', ?_, h1, h2⟩
    have hz : acc.length + xs.length ≤ 16777216 := by omega
    rw [List.map_cons, turn_next (s' := ⟨[A, some (.lst ((ic (acc ++ xs)).map (T.d ∘ D.int))), some (.d (.int c))], p⟩)]
    · exact e
    refine turn_n rfl ?_
    simp only [st_mk, List.set_cons_succ, List.set_cons_zero]
    unfold l__law_free_row_0
    (simp (disch := omega) [cutD1, cutD0, -List.drop_one, take_ic, drop_ic, -List.map_take, -List.map_drop, -List.all_map, List.getElem?_cons_zero, List.getElem?_cons_succ, if_pos, if_neg, sizeL, gEq_eq, gNe_eq, cutI_from, cutI_to, cutI_two, cutN_from, cutN_to, cutN_two, ex, hz, gAdd_l, cat_ic, ic_app])
theorem free_ok (cs : List Int) (p : List T) : ∃ row : List Nat, F__law_free_row [.d (.lst (cs.map D.int))] p = .ret (.lst ((ic row).map (T.d ∘ D.int))) p ∧ (∀ d ∈ row, d < 256) ∧ row.length ≤ 2000 := by
  have hc : (cut cs none (some 30)).length ≤ 30 := by
    rw [cut_to (by decide), List.length_take]
    exact Nat.min_le_left _ _
  obtain ⟨row, u, e, h1, h2⟩ := fr_loop (some (.d (.lst (cs.map D.int)))) p (cut cs none (some 30)) [] none (fun d hd => by cases hd) (by simp; omega)
  refine ⟨row, ?_, h1, h2⟩
  have e' : cut cs none (some 30) = cs.take 30 := by rw [cut_to (by decide)]; rfl
  rw [e'] at e
  unfold F__law_free_row
  refine runX_go rfl ?_
  simp only [List.map_cons, List.map_nil, List.cons_append, List.nil_append, Nat.reduceSub, List.reduceReplicate, Nat.sub_self, List.replicate_zero, List.append_nil, Nat.add_one_sub_one]
  unfold b__law_free_row

  first | with_reducible apply fo_stp | with_reducible apply sq_stp
  · (simp (disch := omega) [cutD1, cutD0, -List.drop_one, take_ic, drop_ic, -List.map_take, -List.map_drop, -List.all_map, List.getElem?_cons_zero, List.getElem?_cons_succ, if_pos, if_neg, sizeL, gEq_eq, gNe_eq, cutI_from, cutI_to, cutI_two, cutN_from, cutN_to, cutN_two] <;> (repeat' (first | rfl | refine And.intro ?_ ?_)))

  first | with_reducible apply fo_stp | with_reducible apply sq_stp
  · apply for_go
    · (simp (disch := omega) [cutD1, cutD0, -List.drop_one, take_ic, drop_ic, -List.map_take, -List.map_drop, -List.all_map, List.getElem?_cons_zero, List.getElem?_cons_succ, if_pos, if_neg, sizeL, gEq_eq, gNe_eq, cutI_from, cutI_to, cutI_two, cutN_from, cutN_to, cutN_two] <;> (repeat' (first | rfl | refine And.intro ?_ ?_)))
    · exact e

  (simp (disch := omega) [cutD1, cutD0, -List.drop_one, take_ic, drop_ic, -List.map_take, -List.map_drop, -List.all_map, List.getElem?_cons_zero, List.getElem?_cons_succ, if_pos, if_neg, sizeL, gEq_eq, gNe_eq, cutI_from, cutI_to, cutI_two, cutN_from, cutN_to, cutN_two] <;> (try omega))

theorem same_loop (A B C E F G : Option T) (R O : List Nat) (hR : ∀ d ∈ R, d < 256) (hO : ∀ d ∈ O, d < 256) (lR : R.length ≤ 5000) (lO : O.length ≤ 5000) (rows : List (List Nat)) (hl : ∀ r ∈ rows, r.length ≤ 5000 ∧ ∀ d ∈ r, d < 256) : ∃ v, sLoop (hName 7) l_law_0 (rows.map fun r => D.lst ((ic r).map D.int)) ⟨[A, some (.d (.lst ((ic R).map D.int))), B, C, E, some (.d (.lst ((ic O).map D.int))), F, none], []⟩ = .next ⟨[A, some (.d (.lst ((ic R).map D.int))), B, C, E, some (.d (.lst ((ic O).map D.int))), F, v], []⟩ :=
  loop_same (h := hName 7) (body := l_law_0) (fun r : List Nat => D.lst ((ic r).map D.int)) (fun v : Option T => (⟨[A, some (.d (.lst ((ic R).map D.int))), B, C, E, some (.d (.lst ((ic O).map D.int))), F, v], []⟩ : S)) rows none (fun r hr v => by
    have h1 := fun q => same_ok r R (hl r hr).2 hR (hl r hr).1 lR q
    have h2 := fun q => same_ok O r hO (hl r hr).2 lO (hl r hr).1 q
    refine ⟨some (.d (.lst ((ic r).map D.int))), ?_⟩
    refine turn_n rfl ?_
    simp only [st_mk, List.set_cons_succ, List.set_cons_zero]
    unfold l_law_0
    (simp (disch := omega) [cutD1, cutD0, -List.drop_one, take_ic, drop_ic, -List.map_take, -List.map_drop, -List.all_map, List.getElem?_cons_zero, List.getElem?_cons_succ, if_pos, if_neg, sizeL, gEq_eq, gNe_eq, cutI_from, cutI_to, cutI_two, cutN_from, cutN_to, cutN_two, h1, h2]))
end K54
end
noncomputable section
namespace K54
open PySem PySem.Spec PyProof.Rows L2 BT
theorem byl_app {a b : List Nat} (h : ∀ d ∈ a, d < 256) (h2 : ∀ d ∈ b, d < 256) : ∀ d ∈ a ++ b, d < 256 := fun d hd => (List.mem_append.mp hd).elim (h d) (h2 d)
theorem byl_take {a : List Nat} (h : ∀ d ∈ a, d < 256) (k : Nat) : ∀ d ∈ a.take k, d < 256 := fun d hd => h d (List.mem_of_mem_take hd)
theorem byl_drop {a : List Nat} (h : ∀ d ∈ a, d < 256) (k : Nat) : ∀ d ∈ a.drop k, d < 256 := fun d hd => h d (List.mem_of_mem_drop hd)
theorem byl_cut {a : List Nat} (h : ∀ d ∈ a, d < 256) (lo hi : Option Int) : ∀ d ∈ cut a lo hi, d < 256 := fun d hd => by
  unfold cut at hd
  exact h d (List.mem_of_mem_drop (List.mem_of_mem_take hd))
theorem row_lc (ns : List Int) (cs : List Int) (hc : cut ns (some 3) (some 303) = cs) (hl : cs.length ≤ 1000) : c_law_0 ⟨[some (.d (.lst (ns.map D.int))), none, none, none, none, none, none, none], []⟩ = .ok (.lst ((ic (cs.map fun c => (c % 256).toNat)).map (T.d ∘ D.int))) ⟨[some (.d (.lst (ns.map D.int))), none, none, none, none, none, none, none], []⟩ := by
  unfold c_law_0 e_law_0
  have h2 : cs.map (fun c : Int => T.d (.int (c % 256))) = (ic (cs.map fun c => (c % 256).toNat)).map (T.d ∘ D.int) := by
    simp only [ic, List.map_map]
    refine List.map_congr_left fun c _ => ?_
    simp only [Function.comp]
    rw [Int.toNat_of_nonneg (by omega)]
  have := sLc_mp (fi := iL (sCut (sRd 0) (some (sC (.int 3))) (some (sC (.int 303))))) (h := hName 2) (c := tYesS) (f := sBin gMod (sRd 2) (sC (.int 256))) (vs := [2]) (s := ⟨[some (.d (.lst (ns.map D.int))), none, none, none, none, none, none, none], []⟩) (s1 := ⟨[some (.d (.lst (ns.map D.int))), none, none, none, none, none, none, none], []⟩) (s0 := ⟨[some (.d (.lst (ns.map D.int))), none, none, none, none, none, none, none], []⟩) (l := cs) D.int (fun c => T.d (.int (c % 256))) (by simp [hc]) rfl rfl (by rw [sizeL]; omega) (fun a _ => by simp [lcS])
  rw [this, h2]
  rfl

/-- what the law does with its two rows -/
theorem law_end (ns : List Int) (R O : List Nat) (hR : ∀ d ∈ R, d < 256) (hO : ∀ d ∈ O, d < 256) (lR : R.length ≤ 4000) (lO : O.length ≤ 4000) (at' byte : Nat) : (sSeq a_law_6 (sSeq a_law_7 a_law_8) ⟨[some (.d (.lst (ns.map D.int))), some (.d (.lst ((ic R).map D.int))), none, some (.d (.int (at' : Int))), some (.d (.int (byte : Int))), some (.d (.lst ((ic O).map D.int))), none, none], []⟩).fo = .ret (.d (.bl true)) [] := by
  obtain ⟨hf, ea⟩ : ∃ h : Nat, (at' : Int) / 2 = (h : Int) := ⟨at' / 2, by omega⟩
  obtain ⟨v, e⟩ := same_loop (some (.d (.lst (ns.map D.int)))) none (some (.d (.int (at' : Int)))) (some (.d (.int (byte : Int)))) (some (.d (.lst ([R, O, R.take at', R.take hf, cut O none (some (-1)), O ++ [0], R ++ [255]].map fun r => D.lst ((ic r).map D.int))))) none R O hR hO (by omega) (by omega) [R, O, R.take at', R.take hf, cut O none (some (-1)), O ++ [0], R ++ [255]] (by
    intro r hr
    simp only [List.mem_cons, List.not_mem_nil, or_false] at hr
    rcases hr with rfl | rfl | rfl | rfl | rfl | rfl | rfl
    · exact ⟨by omega, hR⟩
    · exact ⟨by omega, hO⟩
    · exact ⟨by rw [List.length_take]; omega, byl_take hR _⟩
    · exact ⟨by rw [List.length_take]; omega, byl_take hR _⟩
    · exact ⟨Nat.le_trans len_cut_le (by omega), byl_cut hO _ _⟩
    · exact ⟨by simp; omega, byl_app hO (by decide)⟩
    · exact ⟨by simp; omega, byl_app hR (by decide)⟩)
  have k1 : R.length + 1 ≤ 16777216 := by omega
  have k2 : O.length + 1 ≤ 16777216 := by omega
  simp only [ic_app, ic_cons, ic_nil, List.map_append, List.map_cons, List.map_nil, show ((255 : Nat) : Int) = 255 from rfl, show ((0 : Nat) : Int) = 0 from rfl] at e
  first | with_reducible apply fo_stp | with_reducible apply sq_stp
  · (simp (disch := omega) [a_law_0, a_law_1, a_law_2, a_law_3, a_law_4, a_law_5, a_law_6, a_law_7, a_law_8, cutD1, cutD0, -List.drop_one, take_ic, drop_ic, -List.map_take, -List.map_drop, -List.all_map, List.getElem?_cons_zero, List.getElem?_cons_succ, if_pos, if_neg, sizeL, gEq_eq, gNe_eq, cutI_from, cutI_to, cutI_two, cutN_from, cutN_to, cutN_two, ea, k1, k2, cat_ic] <;> (repeat' (first | rfl | refine And.intro ?_ ?_)))

  first | with_reducible apply fo_stp | with_reducible apply sq_stp
  · apply for_go
    · (simp (disch := omega) [cutD1, cutD0, -List.drop_one, take_ic, drop_ic, -List.map_take, -List.map_drop, -List.all_map, List.getElem?_cons_zero, List.getElem?_cons_succ, if_pos, if_neg, sizeL, gEq_eq, gNe_eq, cutI_from, cutI_to, cutI_two, cutN_from, cutN_to, cutN_two] <;> (repeat' (first | rfl | refine And.intro ?_ ?_)))
    · exact e

  (simp (disch := omega) [a_law_0, a_law_1, a_law_2, a_law_3, a_law_4, a_law_5, a_law_6, a_law_7, a_law_8, cutD1, cutD0, -List.drop_one, take_ic, drop_ic, -List.map_take, -List.map_drop, -List.all_map, List.getElem?_cons_zero, List.getElem?_cons_succ, if_pos, if_neg, sizeL, gEq_eq, gNe_eq, cutI_from, cutI_to, cutI_two, cutN_from, cutN_to, cutN_two] <;> (try omega))

theorem law_mid (ns : List Int) (hl : ns.length ≤ 63) (R O : List Nat) (hR : ∀ d ∈ R, d < 256) (hO : ∀ d ∈ O, d < 256) (lR : R.length ≤ 4000) (lO : O.length ≤ 4000) (at' byte : Nat) : (sSeq a_law_5 (sSeq a_law_6 (sSeq a_law_7 a_law_8)) ⟨[some (.d (.lst (ns.map D.int))), some (.d (.lst ((ic R).map D.int))), none, some (.d (.int (at' : Int))), some (.d (.int (byte : Int))), some (.d (.lst ((ic O).map D.int))), none, none], []⟩).fo = .ret (.d (.bl true)) [] := by
  have hp2 := fun q => pick_ok ns 2 q
  simp only [show ((2 : Nat) : Int) = 2 from rfl] at hp2
  obtain ⟨R2, e1, b1, l1⟩ := free_ok (ev2 (ns.drop 3)) []
  obtain ⟨O2, e2, b2, l2⟩ := free_ok (ev2 (ns.drop 4)) []
  by_cases c : pick ns 2 / 4 % 2 = 1
  · refine fo_stp (s1 := ⟨[some (.d (.lst (ns.map D.int))), some (.d (.lst ((ic R2).map D.int))), none, some (.d (.int (at' : Int))), some (.d (.int (byte : Int))), some (.d (.lst ((ic O2).map D.int))), none, none], []⟩) ?_ (law_end ns R2 O2 b1 b2 (by omega) (by omega) at' byte)
    have m1 : ev2 ((ns.map D.int).drop 3) = (ev2 (ns.drop 3)).map D.int := by rw [← List.map_drop, ev2_map]
    have m2 : ev2 ((ns.map D.int).drop 4) = (ev2 (ns.drop 4)).map D.int := by rw [← List.map_drop, ev2_map]
    (simp (disch := omega) [a_law_0, a_law_1, a_law_2, a_law_3, a_law_4, a_law_5, a_law_6, a_law_7, a_law_8, cutD1, cutD0, -List.drop_one, take_ic, drop_ic, -List.map_take, -List.map_drop, -List.all_map, List.getElem?_cons_zero, List.getElem?_cons_succ, if_pos, if_neg, sizeL, gEq_eq, gNe_eq, cutI_from, cutI_to, cutI_two, cutN_from, cutN_to, cutN_two, hp2, c, e1, e2, m1, m2])
  · refine fo_stp (s1 := ⟨[some (.d (.lst (ns.map D.int))), some (.d (.lst ((ic R).map D.int))), none, some (.d (.int (at' : Int))), some (.d (.int (byte : Int))), some (.d (.lst ((ic O).map D.int))), none, none], []⟩) ?_ (law_end ns R O hR hO lR lO at' byte)
    (simp (disch := omega) [a_law_0, a_law_1, a_law_2, a_law_3, a_law_4, a_law_5, a_law_6, a_law_7, a_law_8, cutD1, cutD0, -List.drop_one, take_ic, drop_ic, -List.map_take, -List.map_drop, -List.all_map, List.getElem?_cons_zero, List.getElem?_cons_succ, if_pos, if_neg, sizeL, gEq_eq, gNe_eq, cutI_from, cutI_to, cutI_two, cutN_from, cutN_to, cutN_two, hp2, c])
theorem truth (ns : List Int) (hl : ns.length ≤ 63) (hb : ∀ k ∈ ns, Builtin.Int.intBits k ≤ 1048576) : ∃ p, F_law [scr ns] [] = .ret (.d (.bl true)) p := by
  have hp0 := fun q => pick_ok ns 0 q
  have hp1 := fun q => pick_ok ns 1 q
  have hp2 := fun q => pick_ok ns 2 q
  simp only [show ((0 : Nat) : Int) = 0 from rfl] at hp0
  simp only [show ((1 : Nat) : Int) = 1 from rfl] at hp1
  simp only [show ((2 : Nat) : Int) = 2 from rfl] at hp2
  have hcs : (cut ns (some 3) (some 303)).length ≤ 63 := Nat.le_trans len_cut_le hl
  generalize hc : cut ns (some 3) (some 303) = cs at *
  have er := row_lc ns cs hc (by omega)
  obtain ⟨row, hrow⟩ : ∃ row : List Nat, row = cs.map fun c => (c % 256).toNat := ⟨_, rfl⟩
  rw [← hrow] at er
  have hr : ∀ b ∈ row, b < 256 := by
    rw [hrow]; intro b hb
    obtain ⟨c, _, rfl⟩ := List.mem_map.mp hb
    omega
  have hrl : row.length ≤ 63 := by rw [hrow, List.length_map]; exact hcs
  obtain ⟨at', ha, ha2⟩ : ∃ z : Nat, pick ns 0 % ((row.length : Int) + 1) = (z : Int) ∧ z ≤ row.length := ⟨(pick ns 0 % ((row.length : Int) + 1)).toNat, by
    have := Int.emod_nonneg (pick ns 0) (show ((row.length : Int) + 1) ≠ 0 by omega)
    omega, by
    have := Int.emod_lt_of_pos (pick ns 0) (show 0 < ((row.length : Int) + 1) by omega)
    omega⟩
  obtain ⟨z, hz, hz2⟩ : ∃ z : Nat, pick ns 1 % 256 = (z : Int) ∧ z < 256 := ⟨(pick ns 1 % 256).toNat, by omega, by omega⟩
  obtain ⟨hf, ea⟩ : ∃ h : Nat, (at' : Int) / 2 = (h : Int) := ⟨at' / 2, by omega⟩
  have hic : (ic row).length = row.length := ic_len
  have hz3 : ∀ d ∈ [z], d < 256 := fun d hd => by rw [List.mem_singleton.mp hd]; exact hz2
  have lt : ∀ k, (row.take k).length ≤ 63 := fun k => by rw [List.length_take]; omega
  have ld : ∀ k, (row.drop k).length ≤ 63 := fun k => by rw [List.length_drop]; omega
  obtain ⟨hn, ea1⟩ : ∃ h : Nat, (at' : Int) + 1 = (h : Int) := ⟨at' + 1, by omega⟩
  obtain ⟨O0, q0⟩ : ∃ O, O = row.take at' := ⟨_, rfl⟩
  obtain ⟨O1, q1⟩ : ∃ O, O = row.take at' ++ [z] := ⟨_, rfl⟩
  obtain ⟨O2, q2⟩ : ∃ O, O = row.take at' ++ [z] ++ row.drop hf := ⟨_, rfl⟩
  obtain ⟨O3, q3⟩ : ∃ O, O = row.take at' ++ row.drop hn := ⟨_, rfl⟩
  have w0 := lt at'
  have w2 := ld hf
  have w3 := ld hn
  have b0 : (∀ d ∈ O0, d < 256) ∧ O0.length ≤ 4000 := by rw [q0]; exact ⟨byl_take hr _, by omega⟩
  have b1 : (∀ d ∈ O1, d < 256) ∧ O1.length ≤ 4000 := by rw [q1]; exact ⟨byl_app (byl_take hr _) hz3, by rw [List.length_append, List.length_singleton]; omega⟩
  have b2 : (∀ d ∈ O2, d < 256) ∧ O2.length ≤ 4000 := by rw [q2]; exact ⟨byl_app (byl_app (byl_take hr _) hz3) (byl_drop hr _), by rw [List.length_append, List.length_append, List.length_singleton]; omega⟩
  have b3 : (∀ d ∈ O3, d < 256) ∧ O3.length ≤ 4000 := by rw [q3]; exact ⟨byl_app (byl_take hr _) (byl_drop hr _), by rw [List.length_append]; omega⟩
  have h3 : a_law_3 ⟨[some (.d (.lst (ns.map D.int))), some (.d (.lst ((ic row).map D.int))), none, some (.d (.int (at' : Int))), some (.d (.int (z : Int))), none, none, none], []⟩ = .next ⟨[some (.d (.lst (ns.map D.int))), some (.d (.lst ((ic row).map D.int))), none, some (.d (.int (at' : Int))), some (.d (.int (z : Int))), some (.d (.lst [.lst ((ic O0).map D.int), .lst ((ic O1).map D.int), .lst ((ic O2).map D.int), .lst ((ic O3).map D.int)])), none, none], []⟩ := by
    rw [q0, q1, q2, q3]
    have m1 : (row.take at').length + 1 ≤ 16777216 := by omega
    have m2 : (row.take at').length + 1 + (row.drop hf).length ≤ 16777216 := by omega
    have m3 : (row.take at').length + (row.drop hn).length ≤ 16777216 := by omega
    unfold a_law_3
    (simp (disch := omega) [a_law_0, a_law_1, a_law_2, a_law_3, a_law_4, a_law_5, a_law_6, a_law_7, a_law_8, cutD1, cutD0, -List.drop_one, take_ic, drop_ic, -List.map_take, -List.map_drop, -List.all_map, List.getElem?_cons_zero, List.getElem?_cons_succ, if_pos, if_neg, sizeL, gEq_eq, gNe_eq, cutI_from, cutI_to, cutI_two, cutN_from, cutN_to, cutN_two, ea, ea1, m1, m2, m3, cat_ic, ic_app, ic_cons, hic])
  have h4 : ∃ O, (∀ d ∈ O, d < 256) ∧ O.length ≤ 4000 ∧ a_law_4 ⟨[some (.d (.lst (ns.map D.int))), some (.d (.lst ((ic row).map D.int))), none, some (.d (.int (at' : Int))), some (.d (.int (z : Int))), some (.d (.lst [.lst ((ic O0).map D.int), .lst ((ic O1).map D.int), .lst ((ic O2).map D.int), .lst ((ic O3).map D.int)])), none, none], []⟩ = .next ⟨[some (.d (.lst (ns.map D.int))), some (.d (.lst ((ic row).map D.int))), none, some (.d (.int (at' : Int))), some (.d (.int (z : Int))), some (.d (.lst ((ic O).map D.int))), none, none], []⟩ := by
    clear q0 q1 q2 q3 h3
    have hk : pick ns 2 % 4 = 0 ∨ pick ns 2 % 4 = 1 ∨ pick ns 2 % 4 = 2 ∨ pick ns 2 % 4 = 3 := by omega
    unfold a_law_4
    rcases hk with k | k | k | k
    · exact ⟨O0, b0.1, b0.2, by (simp (disch := omega) [a_law_0, a_law_1, a_law_2, a_law_3, a_law_4, a_law_5, a_law_6, a_law_7, a_law_8, cutD1, cutD0, -List.drop_one, take_ic, drop_ic, -List.map_take, -List.map_drop, -List.all_map, List.getElem?_cons_zero, List.getElem?_cons_succ, if_pos, if_neg, sizeL, gEq_eq, gNe_eq, cutI_from, cutI_to, cutI_two, cutN_from, cutN_to, cutN_two, hp2, k])⟩
    · exact ⟨O1, b1.1, b1.2, by (simp (disch := omega) [a_law_0, a_law_1, a_law_2, a_law_3, a_law_4, a_law_5, a_law_6, a_law_7, a_law_8, cutD1, cutD0, -List.drop_one, take_ic, drop_ic, -List.map_take, -List.map_drop, -List.all_map, List.getElem?_cons_zero, List.getElem?_cons_succ, if_pos, if_neg, sizeL, gEq_eq, gNe_eq, cutI_from, cutI_to, cutI_two, cutN_from, cutN_to, cutN_two, hp2, k])⟩
    · exact ⟨O2, b2.1, b2.2, by (simp (disch := omega) [a_law_0, a_law_1, a_law_2, a_law_3, a_law_4, a_law_5, a_law_6, a_law_7, a_law_8, cutD1, cutD0, -List.drop_one, take_ic, drop_ic, -List.map_take, -List.map_drop, -List.all_map, List.getElem?_cons_zero, List.getElem?_cons_succ, if_pos, if_neg, sizeL, gEq_eq, gNe_eq, cutI_from, cutI_to, cutI_two, cutN_from, cutN_to, cutN_two, hp2, k])⟩
    · exact ⟨O3, b3.1, b3.2, by (simp (disch := omega) [a_law_0, a_law_1, a_law_2, a_law_3, a_law_4, a_law_5, a_law_6, a_law_7, a_law_8, cutD1, cutD0, -List.drop_one, take_ic, drop_ic, -List.map_take, -List.map_drop, -List.all_map, List.getElem?_cons_zero, List.getElem?_cons_succ, if_pos, if_neg, sizeL, gEq_eq, gNe_eq, cutI_from, cutI_to, cutI_two, cutN_from, cutN_to, cutN_two, hp2, k])⟩
  obtain ⟨O, c1, c2, h4⟩ := h4
  refine ⟨[], ?_⟩
  unfold scr
  unfold F_law
  refine runX_go rfl ?_
  simp only [List.map_cons, List.map_nil, List.cons_append, List.nil_append, Nat.reduceSub, List.reduceReplicate, Nat.sub_self, List.replicate_zero, List.append_nil, Nat.add_one_sub_one]
  unfold b_law

  refine fo_stp (s1 := ⟨[some (.d (.lst (ns.map D.int))), some (.d (.lst ((ic row).map D.int))), none, none, none, none, none, none], []⟩) (by unfold a_law_0; rw [sAsg_eq, sZ_eq, er]; (simp (disch := omega) [a_law_0, a_law_1, a_law_2, a_law_3, a_law_4, a_law_5, a_law_6, a_law_7, a_law_8, cutD1, cutD0, -List.drop_one, take_ic, drop_ic, -List.map_take, -List.map_drop, -List.all_map, List.getElem?_cons_zero, List.getElem?_cons_succ, if_pos, if_neg, sizeL, gEq_eq, gNe_eq, cutI_from, cutI_to, cutI_two, cutN_from, cutN_to, cutN_two])) ?_
  first | with_reducible apply fo_stp | with_reducible apply sq_stp
  · (simp (disch := omega) [a_law_0, a_law_1, a_law_2, a_law_3, a_law_4, a_law_5, a_law_6, a_law_7, a_law_8, cutD1, cutD0, -List.drop_one, take_ic, drop_ic, -List.map_take, -List.map_drop, -List.all_map, List.getElem?_cons_zero, List.getElem?_cons_succ, if_pos, if_neg, sizeL, gEq_eq, gNe_eq, cutI_from, cutI_to, cutI_two, cutN_from, cutN_to, cutN_two, hp0, hic, ha] <;> (repeat' (first | rfl | refine And.intro ?_ ?_)))

  first | with_reducible apply fo_stp | with_reducible apply sq_stp
  · (simp (disch := omega) [a_law_0, a_law_1, a_law_2, a_law_3, a_law_4, a_law_5, a_law_6, a_law_7, a_law_8, cutD1, cutD0, -List.drop_one, take_ic, drop_ic, -List.map_take, -List.map_drop, -List.all_map, List.getElem?_cons_zero, List.getElem?_cons_succ, if_pos, if_neg, sizeL, gEq_eq, gNe_eq, cutI_from, cutI_to, cutI_two, cutN_from, cutN_to, cutN_two, hp1, hz] <;> (repeat' (first | rfl | refine And.intro ?_ ?_)))

  refine fo_stp h3 ?_
  refine fo_stp h4 ?_
  exact law_mid ns hl row O hr c1 (by omega) c2 at' z
end K54
end
open PySem PySem.W PyProof.Rows
set_option maxHeartbeats 0 in
theorem PySem.Challenge.cw_bytetongue_k54_whole_order_of_letters_holds : PySem.Challenge.rw_bytetongue_k54_whole_order_of_letters.Holds := by
  w_on; o_law; k_head; (case hw => w_witness2)
  k_fill
  refine BT.walk_bitsN (l := PySem.Challenge.rw_bytetongue_k54_whole_order_of_letters) (n := 63) (k := 4) (x := "_law_script") (Φ := K54.F_law) rfl (by decide) rfl ⟨rfl, by decide, by decide⟩ (fun w h Y => PySem.W.kIn_of Y) ?F K54.truth
  case F =>
    intro w mg fa h KX G hmg
    refine' K54.all_mk KX G hmg ?n_TongueError ?n_TooGreat ?gg ?c_TongueError ?f_TongueError ?c_TooGreat ?f_TooGreat ?x1_TooGreat ?y1_TooGreat ?qa_LETTERS ?ql_LETTERS ?qi_LETTERS ?z_int ?z_len ?z_list ?z_min ?z_range ?a__law_pick ?l__law_pick ?c__law_pick ?k__law_pick ?a__law_pot ?l__law_pot ?c__law_pot ?k__law_pot ?a__law_digit ?l__law_digit ?c__law_digit ?k__law_digit ?a__law_digits ?l__law_digits ?c__law_digits ?k__law_digits ?a__law_free_row ?l__law_free_row ?c__law_free_row ?k__law_free_row ?a_parted ?l_parted ?c_parted ?k_parted ?a_together ?l_together ?c_together ?k_together ?a_lettered ?l_lettered ?c_lettered ?k_lettered ?a__law_order ?l__law_order ?c__law_order ?k__law_order ?a__law_same ?l__law_same ?c__law_same ?k__law_same ?a_law ?l_law ?c_law ?k_law
    (case n_TongueError => k_is)
    (case n_TooGreat => k_is)
    (case gg => rfl)
    (case c_TongueError => rfl)
    (case f_TongueError => rfl)
    (case c_TooGreat => rfl)
    (case f_TooGreat => rfl)
    (case x1_TooGreat => k_exc)
    (case y1_TooGreat => rfl)
    (case qa_LETTERS => k_is)
    (case ql_LETTERS => k_is)
    (case qi_LETTERS => first | rfl | decide +kernel)
    (case z_int => k_is)
    (case z_len => k_is)
    (case z_list => k_is)
    (case z_min => k_is)
    (case z_range => k_is)
    (case a__law_pick => k_is)
    (case l__law_pick => k_is)
    (case c__law_pick => k_is)
    (case k__law_pick => k_is)
    (case a__law_pot => k_is)
    (case l__law_pot => k_is)
    (case c__law_pot => k_is)
    (case k__law_pot => k_is)
    (case a__law_digit => k_is)
    (case l__law_digit => k_is)
    (case c__law_digit => k_is)
    (case k__law_digit => k_is)
    (case a__law_digits => k_is)
    (case l__law_digits => k_is)
    (case c__law_digits => k_is)
    (case k__law_digits => k_is)
    (case a__law_free_row => k_is)
    (case l__law_free_row => k_is)
    (case c__law_free_row => k_is)
    (case k__law_free_row => k_is)
    (case a_parted => k_is)
    (case l_parted => k_is)
    (case c_parted => k_is)
    (case k_parted => k_is)
    (case a_together => k_is)
    (case l_together => k_is)
    (case c_together => k_is)
    (case k_together => k_is)
    (case a_lettered => k_is)
    (case l_lettered => k_is)
    (case c_lettered => k_is)
    (case k_lettered => k_is)
    (case a__law_order => k_is)
    (case l__law_order => k_is)
    (case c__law_order => k_is)
    (case k__law_order => k_is)
    (case a__law_same => k_is)
    (case l__law_same => k_is)
    (case c__law_same => k_is)
    (case k__law_same => k_is)
    (case a_law => k_is)
    (case l_law => k_is)
    (case c_law => k_is)
    (case k_law => k_is)
