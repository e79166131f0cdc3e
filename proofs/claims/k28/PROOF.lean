import PyProof.Rows.All
import Wide.All
import OpenK.AllK
import Wide.FinOn
import HandS.ForMost
import HandS.Wide
import HandS.Walk
import HandS.TupAny
import HandS.TupMul
import HandS.Deep
import HandS.WideBits
import HandS.Style
import HandS.TryOnly
import HandS.ForExc
import HandS.IsInst
import HandS.SetFor
import HandS.Strs
import PyProof.Rows.SortShellAny
import HandS.Text
import HandS.FStr
import PyProof.StrLawsTight
import HandS.Iter
import HandS.Zip
import HandS.Dict
import HandS.More
import HandS.WordsDict
import HandS.RaiseMore
import PyProof.ReprRoads
import HandS.AnyAll
import HandS.Comp
import HandS.ListEq
import PyProof.StrLawsRepr
import PyProof.FitsInt
import PySem.Challenge.RW_surepieces_k28_texts_of_books_counts_and
set_option Elab.async false
set_option linter.all false
section
/-! Dl1: plain data D over the hand layer: what a value stands for (Rp), the ground B, the things that may still change (MO), how a state stands for plain data. -/
namespace Dl
open PySem L2
abbrev Fr := PySem.W.Frag
/-- plain data; texts are lists of code points; scr is the script -/
inductive D where
  | non
  | bl (b : Bool)
  | int (i : Int)
  | str (s : List Nat)
  | tup (l : List D)
  | lst (l : List D)
  | dic (l : List (D × D))
  | scr (l : List Int)
deriving Inhabited
def keyD : Key → D
  | .inl i => .int i
  | .inr x => .str x.cps.toList
mutual
inductive Rp (K : Fr) (B : Hp) : V → D → Prop
  | non : Rp K B .non .non
  | bl (b : Bool) : Rp K B (.bl b) (.bl b)
  | int (i : Int) : Rp K B (.int i) (.int i)
  | str (x : Str) : Rp K B (.str x) (.str x.cps.toList)
  | tup {a : Addr} {xs : List V} {ds : List D} : SqT K B a xs → RpL K B xs ds → Rp K B (.ref a) (.tup ds)
  | lst {a : Addr} {xs : List V} {ds : List D} : B a = some (.lst xs) → RpL K B xs ds → Rp K B (.ref a) (.lst ds)
  | dic {a : Addr} {ks : List (Key × V)} {ds : List (D × D)} : B a = some (.dK ks) → RpK K B ks ds → Rp K B (.ref a) (.dic ds)
  | scr {a : Addr} {ns : List Int} : SqL K B a (ns.map V.int) → Rp K B (.ref a) (.scr ns)
inductive RpL (K : Fr) (B : Hp) : List V → List D → Prop
  | nil : RpL K B [] []
  | cons {v : V} {d : D} {vs : List V} {ds : List D} : Rp K B v d → RpL K B vs ds → RpL K B (v :: vs) (d :: ds)
inductive RpK (K : Fr) (B : Hp) : List (Key × V) → List (D × D) → Prop
  | nil : RpK K B [] []
  | cons {k : Key} {v : V} {d : D} {vs : List (Key × V)} {ds : List (D × D)} : Rp K B v d → RpK K B vs ds → RpK K B ((k, v) :: vs) ((keyD k, d) :: ds)
end
/-- B is kept in B' -/
abbrev Ex (B B' : Hp) : Prop := ∀ a o, B a = some o → B' a = some o
theorem Ex.ie {B : Hp} : Ex B B := fun _ _ h => h
theorem Ex.tr {B B1 B2 : Hp} (h : Ex B B1) (k : Ex B1 B2) : Ex B B2 := fun a o e => k a o (h a o e)
theorem Ex.new {B : Hp} {p : Addr} {o : HO} (h : B p = none) : Ex B (upd B p o) := fun a u e => by
  rw [upd_ne (ne_of_none e h)]
  exact e
theorem Ex.rd {B B' : Hp} (e : Ex B B') {a : Addr} {u : HO} (h : Rd B a u) : Rd B' a u := by
  rcases h with h | ⟨o, h⟩
  · exact .inl (e _ _ h)
  · exact .inr ⟨o, e _ _ h⟩
theorem Ex.sqt {K : Fr} {B B' : Hp} (e : Ex B B') {a : Addr} {xs : List V} (h : SqT K B a xs) : SqT K B' a xs := by
  rcases h with h | h
  · exact .inl (e.rd h)
  · exact .inr h
theorem Ex.sql {K : Fr} {B B' : Hp} (e : Ex B B') {a : Addr} {xs : List V} (h : SqL K B a xs) : SqL K B' a xs := by
  rcases h with h | h
  · exact .inl (e.rd h)
  · exact .inr h
mutual
theorem Rp.up {K : Fr} {B B' : Hp} (e : Ex B B') : ∀ {v : V} {d : D}, Rp K B v d → Rp K B' v d
  | _, _, .non => .non
  | _, _, .bl b => .bl b
  | _, _, .int i => .int i
  | _, _, .str x => .str x
  | _, _, .tup h l => .tup (e.sqt h) (RpL.up e l)
  | _, _, .lst h l => .lst (e _ _ h) (RpL.up e l)
  | _, _, .dic h l => .dic (e _ _ h) (RpK.up e l)
  | _, _, .scr h => .scr (e.sql h)
theorem RpL.up {K : Fr} {B B' : Hp} (e : Ex B B') : ∀ {v : List V} {d : List D}, RpL K B v d → RpL K B' v d
  | _, _, .nil => .nil
  | _, _, .cons h l => .cons (Rp.up e h) (RpL.up e l)
theorem RpK.up {K : Fr} {B B' : Hp} (e : Ex B B') : ∀ {v : List (Key × V)} {d : List (D × D)}, RpK K B v d → RpK K B' v d
  | _, _, .nil => .nil
  | _, _, .cons h l => .cons (Rp.up e h) (RpK.up e l)
end
/-- what B knows stands in H; a dict may be locked there -/
def Le (B H : Hp) : Prop := ∀ a o, B a = some o → H a = some o ∨ ∃ ob, Mut (some o) ∧ (∀ xs, o ≠ .lst xs) ∧ H a = some (.frz ob o)
theorem Le.ie {B : Hp} : Le B B := fun _ _ h => .inl h
theorem Le.lst {B H : Hp} (e : Le B H) {a : Addr} {xs : List V} (h : B a = some (.lst xs)) : H a = some (.lst xs) := by
  rcases e _ _ h with h | ⟨_, _, n, _⟩
  · exact h
  · exact absurd (Eq.refl _) (n xs)
theorem Le.nomut {B H : Hp} (e : Le B H) {a : Addr} {o : HO} (h : B a = some o) (m : ¬ Mut (some o)) : H a = some o := by
  rcases e _ _ h with h | ⟨_, n, _⟩
  · exact h
  · exact absurd n m
theorem Le.rdT {B H : Hp} (e : Le B H) {a : Addr} {xs : List V} (h : Rd B a (.tup xs)) : Rd H a (.tup xs) := by
  rcases h with h | ⟨o, h⟩
  · exact .inl (e.nomut h id)
  · exact .inr ⟨o, e.nomut h id⟩
theorem Le.rdL {B H : Hp} (e : Le B H) {a : Addr} {xs : List V} (h : Rd B a (.lst xs)) : Rd H a (.lst xs) := by
  rcases h with h | ⟨o, h⟩
  · exact .inl (e.lst h)
  · exact .inr ⟨o, e.nomut h id⟩
theorem Le.rd {B H : Hp} (e : Le B H) {a : Addr} {o : HO} (h : B a = some o) : Rd H a o := by
  rcases e _ _ h with h | ⟨ob, _, _, h⟩
  · exact .inl h
  · exact .inr ⟨ob, h⟩
theorem Le.sqt {K : Fr} {B H : Hp} (e : Le B H) {a : Addr} {xs : List V} (h : SqT K B a xs) : SqT K H a xs := by
  rcases h with h | h
  · exact .inl (e.rdT h)
  · exact .inr h
theorem Le.sql {K : Fr} {B H : Hp} (e : Le B H) {a : Addr} {xs : List V} (h : SqL K B a xs) : SqL K H a xs := by
  rcases h with h | h
  · exact .inl (e.rdL h)
  · exact .inr h
/-- the ground and the heap grow together: p new in the heap, put into both -/
theorem Le.new {B H : Hp} (e : Le B H) {p : Addr} {o : HO} (h : H p = none) : Le (upd B p o) (upd H p o) := fun a u q => by
  by_cases z : a = p
  · subst z
    rw [upd_same] at q ⊢
    exact .inl q
  · rw [upd_ne z] at q ⊢
    exact e a u q
/-- p new in the heap alone -/
theorem Le.newR {B H : Hp} (e : Le B H) {p : Addr} {o : HO} (h : B p = none) : Le B (upd H p o) := fun a u q => by
  rw [upd_ne (ne_of_none q h)]
  exact e a u q
/-- what is new in the heap is new on the ground -/
theorem Le.free {B H : Hp} (e : Le B H) {p : Addr} (h : H p = none) : B p = none := by
  cases q : B p with
  | none => rfl
  | some o =>
    rcases e p o q with z | ⟨_, _, _, z⟩ <;> rw [h] at z <;> cases z
/-- what stands in a slot: plain data, or the i-th thing that may change -/
inductive SV where
  | d (x : D)
  | o (i : Nat)
/-- a thing that may still change: a list, a dict; with such things within; an instance; none any more -/
inductive MO where
  | lst (l : List D)
  | dic (l : List (D × D))
  | lsS (l : List SV)
  | diS (l : List (D × SV))
  | ins (C : Addr) (fs : List (Str × SV))
  | dead
abbrev Rho := List (Option SV)
abbrev Mu := List MO
def RpS (K : Fr) (B : Hp) (A : List Addr) (v : V) : SV → Prop
  | .d x => Rp K B v x
  | .o i => ∃ a, v = .ref a ∧ A[i]? = some a
inductive All2 {α β : Type} (R : α → β → Prop) : List α → List β → Prop
  | nil : All2 R [] []
  | cons {a : α} {b : β} {as : List α} {bs : List β} : R a b → All2 R as bs → All2 R (a :: as) (b :: bs)
theorem All2.mono {α β : Type} {R S : α → β → Prop} (h : ∀ a b, R a b → S a b) : ∀ {as : List α} {bs : List β}, All2 R as bs → All2 S as bs
  | _, _, .nil => .nil
  | _, _, .cons r t => .cons (h _ _ r) (All2.mono h t)
def RpM (K : Fr) (B H : Hp) (A : List Addr) (a : Addr) : MO → Prop
  | .lst l => ∃ xs, H a = some (.lst xs) ∧ RpL K B xs l
  | .dic l => ∃ ks, H a = some (.dK ks) ∧ RpK K B ks l
  | .lsS l => ∃ xs, H a = some (.lst xs) ∧ All2 (RpS K B A) xs l
  | .diS l => ∃ ks : List (Key × V), H a = some (.dK ks) ∧ All2 (fun (p : Key × V) (q : D × SV) => keyD p.1 = q.1 ∧ RpS K B A p.2 q.2) ks l
  | .ins C fs => ∃ dx xs, H a = some (.ins C dx xs) ∧ All2 (fun (p : Str × V) (q : Str × SV) => p.1 = q.1 ∧ RpS K B A p.2 q.2) xs fs
  | .dead => True
def live : Option MO → Bool
  | some .dead => false
  | some _ => true
  | none => false
structure Wr (K : Fr) (B H : Hp) (A : List Addr) (m : Mu) : Prop where
  le : Le B H
  len : A.length = m.length
  ob : ∀ (i : Nat) (a : Addr) (o : MO), A[i]? = some a → m[i]? = some o → live (some o) = true → B a = none ∧ RpM K B H A a o
  nd : ∀ (i j : Nat) (a : Addr), A[i]? = some a → A[j]? = some a → live m[i]? = true → live m[j]? = true → i = j
  dm : ∀ (a : Addr), a ∈ A → H a ≠ none
/-- slots -/
structure Sl (K : Fr) (B : Hp) (A : List Addr) (σ : St) (ρ : Rho) : Prop where
  len : σ.length = ρ.length
  at_ : ∀ (i : Nat) (s : SV), ρ[i]? = some (some s) → ∃ v, σ[i]? = some (some v) ∧ RpS K B A v s
/-- from (B, H, A) one came to (B', H', A'): what is not ours stands as it stood, and is still not ours -/
structure Xt (B H : Hp) (A : List Addr) (B' H' : Hp) (A' : List Addr) : Prop where
  b : Ex B B'
  a : ∃ t, A' = A ++ t
  h : ∀ p o, H p = some o → p ∉ A → H' p = some o
  n : ∀ p, B p = none → H p ≠ none → p ∉ A → B' p = none
  f : ∀ p, p ∈ A' → p ∉ A → H p = none
  d : ∀ p, H' p = none → H p = none
theorem Xt.ie {B H : Hp} {A : List Addr} : Xt B H A B H A := ⟨Ex.ie, ⟨[], by rw [List.append_nil]⟩, fun _ _ h _ => h, fun _ h _ _ => h, fun _ h k => absurd h k, fun _ h => h⟩
theorem Xt.out {B H B' H' : Hp} {A A' : List Addr} (x : Xt B H A B' H' A') {p : Addr} {o : HO} (e : H p = some o) (k : p ∉ A) : p ∉ A' := fun h => by
  rw [x.f p h k] at e
  cases e
theorem Xt.tr {B H B1 H1 B2 H2 : Hp} {A A1 A2 : List Addr} (x : Xt B H A B1 H1 A1) (y : Xt B1 H1 A1 B2 H2 A2) : Xt B H A B2 H2 A2 where
  b := x.b.tr y.b
  a := by
    obtain ⟨t, e⟩ := x.a
    obtain ⟨u, f⟩ := y.a
    exact ⟨t ++ u, by rw [f, e, List.append_assoc]⟩
  h := fun p o e k => y.h p o (x.h p o e k) (x.out e k)
  n := fun p e f k => by
    cases g : H p with
    | none => exact absurd g f
    | some o => exact y.n p (x.n p e f k) (by rw [x.h p o g k]; intro z; cases z) (x.out g k)
  f := fun p h k => by
    cases g : H p with
    | none => rfl
    | some o =>
      have z := y.f p h (x.out g k)
      rw [x.h p o g k] at z
      cases z
  d := fun p h => x.d p (y.d p h)
theorem upd_none {H : Hp} {p q : Addr} {o : HO} (h : upd H p o q = none) : H q = none := by
  by_cases e : q = p
  · rw [e, upd_same] at h
    cases h
  · rw [upd_ne e] at h
    exact h
theorem app_get {A A' : List Addr} (h : ∃ t, A' = A ++ t) {i : Nat} {a : Addr} (e : A[i]? = some a) : A'[i]? = some a := by
  obtain ⟨t, rfl⟩ := h
  obtain ⟨hi, e'⟩ := List.getElem?_eq_some_iff.mp e
  rw [List.getElem?_append_left hi]
  exact e
theorem RpS.up {K : Fr} {B B' : Hp} {A A' : List Addr} (e : Ex B B') (h : ∃ t, A' = A ++ t) {v : V} : ∀ {s : SV}, RpS K B A v s → RpS K B' A' v s
  | .d _, r => Rp.up e r
  | .o _, ⟨a, ev, r⟩ => ⟨a, ev, app_get h r⟩
theorem Sl.up {K : Fr} {B B' : Hp} {A A' : List Addr} (e : Ex B B') (h : ∃ t, A' = A ++ t) {σ : St} {ρ : Rho} (l : Sl K B A σ ρ) : Sl K B' A' σ ρ :=
  ⟨l.len, fun i s q => let ⟨v, q1, q2⟩ := l.at_ i s q; ⟨v, q1, q2.up e h⟩⟩
theorem Sl.x {K : Fr} {B H B' H' : Hp} {A A' : List Addr} {σ : St} {ρ : Rho} (l : Sl K B A σ ρ) (x : Xt B H A B' H' A') : Sl K B' A' σ ρ := l.up x.b x.a
/-- a thing not ours that grows in the heap: a new object, on the ground, too -/
theorem Xt.laid {B H : Hp} {A : List Addr} {p : Addr} {o : HO} (h : H p = none) (hb : B p = none) : Xt B H A (upd B p o) (upd H p o) A :=
  ⟨Ex.new hb, ⟨[], by rw [List.append_nil]⟩, fun q u e _ => by rw [upd_ne (ne_of_none e h)]; exact e, fun q e f _ => by
    rw [upd_ne (fun z => f (by rw [z]; exact h))]
    exact e, fun _ h k => absurd h k, fun _ h => upd_none h⟩
/-- a new object, ours from now on -/
theorem Xt.made {B H : Hp} {A : List Addr} {p : Addr} {o : HO} (h : H p = none) : Xt B H A B (upd H p o) (A ++ [p]) :=
  ⟨Ex.ie, ⟨[p], rfl⟩, fun q u e _ => by rw [upd_ne (ne_of_none e h)]; exact e, fun q e _ _ => e, fun q hq k => by
    rcases List.mem_append.mp hq with z | z
    · exact absurd z k
    · rw [List.mem_singleton.mp z]
      exact h, fun _ h => upd_none h⟩
/-- a new object that is forgotten -/
theorem Xt.lost {B H : Hp} {A : List Addr} {p : Addr} {o : HO} (h : H p = none) : Xt B H A B (upd H p o) A :=
  ⟨Ex.ie, ⟨[], by rw [List.append_nil]⟩, fun q u e _ => by rw [upd_ne (ne_of_none e h)]; exact e, fun q e _ _ => e, fun _ h k => absurd h k, fun _ h => upd_none h⟩
/-- one of ours is changed -/
theorem Xt.wrote {B H : Hp} {A : List Addr} {p : Addr} {o : HO} (h : p ∈ A) : Xt B H A B (upd H p o) A :=
  ⟨Ex.ie, ⟨[], by rw [List.append_nil]⟩, fun q u e k => by rw [upd_ne (fun z => k (by rw [z]; exact h))]; exact e, fun q e _ _ => e, fun _ h k => absurd h k, fun _ h => upd_none h⟩
theorem RpM.up {K : Fr} {B B' H H' : Hp} {A A' : List Addr} {a : Addr} (e : Ex B B') (h : ∃ t, A' = A ++ t) (k : ∀ o, H a = some o → H' a = some o) : ∀ {m : MO}, RpM K B H A a m → RpM K B' H' A' a m
  | .lst _, ⟨xs, q, r⟩ => ⟨xs, k _ q, RpL.up e r⟩
  | .dic _, ⟨xs, q, r⟩ => ⟨xs, k _ q, RpK.up e r⟩
  | .lsS _, ⟨xs, q, r⟩ => ⟨xs, k _ q, r.mono fun _ _ z => z.up e h⟩
  | .diS _, ⟨xs, q, r⟩ => ⟨xs, k _ q, r.mono fun _ _ z => ⟨z.1, z.2.up e h⟩⟩
  | .ins _ _, ⟨dx, xs, q, r⟩ => ⟨dx, xs, k _ q, r.mono fun _ _ z => ⟨z.1, z.2.up e h⟩⟩
  | .dead, _ => True.intro
theorem RpM.there {K : Fr} {B H : Hp} {A : List Addr} {a : Addr} : ∀ {m : MO}, live (some m) = true → RpM K B H A a m → ∃ o, H a = some o
  | .lst _, _, ⟨_, q, _⟩ => ⟨_, q⟩
  | .dic _, _, ⟨_, q, _⟩ => ⟨_, q⟩
  | .lsS _, _, ⟨_, q, _⟩ => ⟨_, q⟩
  | .diS _, _, ⟨_, q, _⟩ => ⟨_, q⟩
  | .ins _ _, _, ⟨_, _, q, _⟩ => ⟨_, q⟩
  | .dead, h, _ => by cases h
/-- a new object on the ground, ours stand -/
theorem Wr.laid {K : Fr} {B H : Hp} {A : List Addr} {m : Mu} (w : Wr K B H A m) {p : Addr} {o : HO} (h : H p = none) : Wr K (upd B p o) (upd H p o) A m where
  le := w.le.new h
  len := w.len
  ob := fun i a u e f l => by
    obtain ⟨q, r⟩ := w.ob i a u e f l
    obtain ⟨z, ez⟩ := r.there l
    have ne : a ≠ p := ne_of_none ez h
    exact ⟨by rw [upd_ne ne]; exact q, r.up (Ex.new (w.le.free h)) ⟨[], by rw [List.append_nil]⟩ fun o' e' => by rw [upd_ne ne]; exact e'⟩
  nd := w.nd
  dm := fun a h q => w.dm a h (upd_none q)
theorem Wr.lost {K : Fr} {B H : Hp} {A : List Addr} {m : Mu} (w : Wr K B H A m) {p : Addr} {o : HO} (h : H p = none) : Wr K B (upd H p o) A m where
  le := w.le.newR (w.le.free h)
  len := w.len
  ob := fun i a u e f l => by
    obtain ⟨q, r⟩ := w.ob i a u e f l
    obtain ⟨z, ez⟩ := r.there l
    exact ⟨q, r.up Ex.ie ⟨[], by rw [List.append_nil]⟩ fun o' e' => by rw [upd_ne (ne_of_none ez h)]; exact e'⟩
  nd := w.nd
  dm := fun a h q => w.dm a h (upd_none q)
theorem get_snoc {α : Type} {l : List α} {x y : α} {i : Nat} (h : (l ++ [x])[i]? = some y) : (i < l.length ∧ l[i]? = some y) ∨ (i = l.length ∧ y = x) := by
  by_cases k : i < l.length
  · rw [List.getElem?_append_left k] at h
    exact .inl ⟨k, h⟩
  · rw [List.getElem?_append_right (by omega)] at h
    have z : i - l.length = 0 := by
      cases e : i - l.length with
      | zero => rfl
      | succ n =>
        rw [e] at h
        cases h
    rw [z] at h
    exact .inr ⟨by omega, (Option.some.inj h).symm⟩
theorem live_lt {m : Mu} {i : Nat} (h : live m[i]? = true) : i < m.length := by
  cases e : m[i]? with
  | none =>
    rw [e] at h
    cases h
  | some o => exact (List.getElem?_eq_some_iff.mp e).1
theorem live_snoc {m : Mu} {o : MO} {i : Nat} (h : i < m.length) : live (m ++ [o])[i]? = live m[i]? := by rw [List.getElem?_append_left h]
/-- a new object, ours -/
theorem Wr.made {K : Fr} {B H : Hp} {A : List Addr} {m : Mu} (w : Wr K B H A m) {p : Addr} {o : HO} {u : MO} (h : H p = none) (r : RpM K B (upd H p o) (A ++ [p]) p u) : Wr K B (upd H p o) (A ++ [p]) (m ++ [u]) where
  le := w.le.newR (w.le.free h)
  len := by rw [List.length_append, List.length_append, w.len]; rfl
  ob := fun i a z e f l => by
    rcases get_snoc e with ⟨k1, k2⟩ | ⟨k1, k2⟩
    · have f' : m[i]? = some z := by
        rw [List.getElem?_append_left (by rw [← w.len]; exact k1)] at f
        exact f
      obtain ⟨q, r'⟩ := w.ob i a z k2 f' l
      obtain ⟨y, ey⟩ := r'.there l
      exact ⟨q, r'.up Ex.ie ⟨[p], rfl⟩ fun o' e' => by rw [upd_ne (ne_of_none ey h)]; exact e'⟩
    · subst k2
      have f' : z = u := by
        rw [k1, w.len, List.getElem?_append_right (Nat.le_refl _), Nat.sub_self] at f
        exact (Option.some.inj f).symm
      rw [f']
      exact ⟨w.le.free h, r⟩
  nd := fun i j a e f l1 l2 => by
    have old : ∀ (k : Nat), A[k]? = some p → live m[k]? = true → False := fun k e1 e2 => by
      cases q : m[k]? with
      | none =>
        rw [q] at e2
        cases e2
      | some z =>
        obtain ⟨_, r'⟩ := w.ob k p z e1 q (by rw [← q]; exact e2)
        obtain ⟨y, ey⟩ := r'.there (by rw [← q]; exact e2)
        rw [h] at ey
        cases ey
    rcases get_snoc e with ⟨k1, k2⟩ | ⟨k1, k2⟩ <;> rcases get_snoc f with ⟨k3, k4⟩ | ⟨k3, k4⟩
    · rw [live_snoc (by rw [← w.len]; exact k1)] at l1
      rw [live_snoc (by rw [← w.len]; exact k3)] at l2
      exact w.nd i j a k2 k4 l1 l2
    · rw [live_snoc (by rw [← w.len]; exact k1)] at l1
      rw [k4] at k2
      exact (old i k2 l1).elim
    · rw [live_snoc (by rw [← w.len]; exact k3)] at l2
      rw [k2] at k4
      exact (old j k4 l2).elim
    · rw [k1, k3]
  dm := fun a q e => by
    rcases List.mem_append.mp q with z | z
    · exact w.dm a z (upd_none e)
    · rw [List.mem_singleton.mp z, upd_same] at e
      cases e
theorem set_get {α : Type} {l : List α} {i j : Nat} {x y : α} (h : (l.set i x)[j]? = some y) : (i = j ∧ y = x ∧ i < l.length) ∨ (i ≠ j ∧ l[j]? = some y) := by
  by_cases k : i = j
  · subst k
    by_cases z : i < l.length
    · rw [List.getElem?_set_self z] at h
      exact .inl ⟨rfl, (Option.some.inj h).symm, z⟩
    · rw [List.getElem?_eq_none (by rw [List.length_set]; omega)] at h
      cases h
  · rw [List.getElem?_set_ne k] at h
    exact .inr ⟨k, h⟩
theorem live_set {m : Mu} {i j : Nat} {u : MO} (h : live m[i]? = true) (l : live (m.set i u)[j]? = true) : live m[j]? = true := by
  cases e : (m.set i u)[j]? with
  | none =>
    rw [e] at l
    cases l
  | some z =>
    rcases set_get e with ⟨k1, _, _⟩ | ⟨_, k2⟩
    · rw [← k1]
      exact h
    · rw [k2, ← e]
      exact l
/-- one of ours is changed -/
theorem Wr.wrote {K : Fr} {B H : Hp} {A : List Addr} {m : Mu} (w : Wr K B H A m) {p : Addr} {o : HO} {u : MO} {i : Nat} (e : A[i]? = some p) (l : live m[i]? = true) (r : RpM K B (upd H p o) A p u) : Wr K B (upd H p o) A (m.set i u) where
  le := w.le.newR (by
    cases q : m[i]? with
    | none =>
      rw [q] at l
      cases l
    | some z => exact (w.ob i p z e q (by rw [← q]; exact l)).1)
  len := by rw [List.length_set]; exact w.len
  ob := fun j a z e1 e2 l1 => by
    rcases set_get e2 with ⟨k1, k2, _⟩ | ⟨k1, k2⟩
    · subst k1
      rw [e] at e1
      cases e1
      rw [k2]
      refine ⟨?_, r⟩
      cases q : m[i]? with
      | none =>
        rw [q] at l
        cases l
      | some y => exact (w.ob i p y e q (by rw [← q]; exact l)).1
    · obtain ⟨q, r'⟩ := w.ob j a z e1 k2 l1
      have ne : a ≠ p := fun y => k1 (w.nd i j a (by rw [y]; exact e) e1 l (by rw [k2]; exact l1))
      exact ⟨q, r'.up Ex.ie ⟨[], by rw [List.append_nil]⟩ fun o' e' => by rw [upd_ne ne]; exact e'⟩
  nd := fun j k a e1 e2 l1 l2 => w.nd j k a e1 e2 (live_set l l1) (live_set l l2)
  dm := fun a q e => w.dm a q (upd_none e)
/-- one of ours comes to the ground, as it stands -/
theorem Wr.froze {K : Fr} {B H : Hp} {A : List Addr} {m : Mu} (w : Wr K B H A m) {p : Addr} {o : HO} {i : Nat} (e : A[i]? = some p) (l : live m[i]? = true) (q : H p = some o) : Wr K (upd B p o) H A (m.set i .dead) where
  le := fun a u z => by
    by_cases h : a = p
    · subst h
      rw [upd_same] at z
      cases z
      exact .inl q
    · rw [upd_ne h] at z
      exact w.le a u z
  len := by rw [List.length_set]; exact w.len
  ob := fun j a z e1 e2 l1 => by
    rcases set_get e2 with ⟨k1, k2, _⟩ | ⟨k1, k2⟩
    · rw [k2] at l1
      cases l1
    · obtain ⟨q', r'⟩ := w.ob j a z e1 k2 l1
      have ne : a ≠ p := fun y => k1 (w.nd i j a (by rw [y]; exact e) e1 l (by rw [k2]; exact l1))
      have hb : B p = none := by
        cases q1 : m[i]? with
        | none =>
          rw [q1] at l
          cases l
        | some y => exact (w.ob i p y e q1 (by rw [← q1]; exact l)).1
      exact ⟨by rw [upd_ne ne]; exact q', r'.up (Ex.new hb) ⟨[], by rw [List.append_nil]⟩ fun o' e' => e'⟩
  nd := fun j k a e1 e2 l1 l2 => w.nd j k a e1 e2 (live_set l l1) (live_set l l2)
  dm := w.dm
theorem Wr.notin {K : Fr} {B H : Hp} {A : List Addr} {m : Mu} (w : Wr K B H A m) {p : Addr} (h : H p = none) : p ∉ A := fun q => w.dm p q h
theorem Xt.froze {B H : Hp} {A : List Addr} {p : Addr} {o : HO} (h : p ∈ A) (hb : B p = none) : Xt B H A (upd B p o) H A :=
  ⟨Ex.new hb, ⟨[], by rw [List.append_nil]⟩, fun q u e k => e, fun q e _ k => by rw [upd_ne (fun z => k (by rw [z]; exact h))]; exact e, fun _ h k => absurd h k, fun _ h => h⟩
theorem Wr.gone {K : Fr} {B H : Hp} {A : List Addr} {m : Mu} (w : Wr K B H A m) {i : Nat} {p : Addr} (e : A[i]? = some p) (l : live m[i]? = true) : B p = none := by
  cases q1 : m[i]? with
  | none =>
    rw [q1] at l
    cases l
  | some y => exact (w.ob i p y e q1 (by rw [← q1]; exact l)).1
end Dl
end

section
/-! Dl2: readings on plain data (ED, TD, AD), how a reading of the hand layer follows them (SimE ..). -/
namespace Dl
open PySem L2
abbrev ER := Addr → D → Mu → Prop
abbrev ED := ER → Rho → Mu → (SV → Mu → Prop) → Prop
abbrev TD := ER → Rho → Mu → (Bool → Mu → Prop) → Prop
abbrev AD := ER → Rho → Mu → (List SV → Mu → Prop) → Prop
abbrev FD := ER → Rho → Mu → (List D → Mu → Prop) → Prop
abbrev GD := ER → Rho → Mu → (List (D × D) → Mu → Prop) → Prop
abbrev noR : ER := fun _ _ _ => False
/-- what is wished of an exception -/
def Erk (K : Fr) (E : XK) (R : ER) (B H : Hp) (A : List Addr) : Prop :=
  ∀ C d m' B' H' A' dd v, Xt B H A B' H' A' → Wr K B' H' A' m' → H' dd = some (.xd [(("value" : Str), v)]) → Rp K B' v d → R C d m' → E (.ref C) (some dd) H'
theorem Erk.x {K : Fr} {E : XK} {R : ER} {B H B1 H1 : Hp} {A A1 : List Addr} (e : Erk K E R B H A) (x : Xt B H A B1 H1 A1) : Erk K E R B1 H1 A1 :=
  fun C d m' B' H' A' dd v y w h r q => e C d m' B' H' A' dd v (x.tr y) w h r q
theorem Erk.no {K : Fr} {E : XK} {B H : Hp} {A : List Addr} : Erk K E noR B H A := fun _ _ _ _ _ _ _ _ _ _ _ _ q => q.elim
def SimE (K : Fr) (E : XK) (t : TE) (e : ED) : Prop := ∀ {B H A m σ ρ P R} {Q : VK}, Wr K B H A m → Sl K B A σ ρ → Erk K E R B H A → e R ρ m P →
  (∀ v s m' B' H' A', Xt B H A B' H' A' → Wr K B' H' A' m' → RpS K B' A' v s → P s m' → Q v H') → t σ H Q
def SimT (K : Fr) (E : XK) (t : TT) (e : TD) : Prop := ∀ {B H A m σ ρ P R} {Q : Bool → Hp → Prop}, Wr K B H A m → Sl K B A σ ρ → Erk K E R B H A → e R ρ m P →
  (∀ b m' B' H' A', Xt B H A B' H' A' → Wr K B' H' A' m' → P b m' → Q b H') → t σ H Q
def SimA (K : Fr) (E : XK) (t : TA) (e : AD) : Prop := ∀ {B H A m σ ρ P R} {Q : List V → Hp → Prop}, Wr K B H A m → Sl K B A σ ρ → Erk K E R B H A → e R ρ m P →
  (∀ vs ss m' B' H' A', Xt B H A B' H' A' → Wr K B' H' A' m' → All2 (RpS K B' A') vs ss → P ss m' → Q vs H') → t σ H Q
/-- a new list -/
def SimF (K : Fr) (E : XK) (t : TE) (e : FD) : Prop := ∀ {B H A m σ ρ P R} {Q : VK}, Wr K B H A m → Sl K B A σ ρ → Erk K E R B H A → e R ρ m P →
  (∀ p xs l m' B' H' A', Xt B H A B' H' A' → Wr K B' H' A' m' → H p = none → B' p = none → p ∉ A' → H' p = some (.lst xs) → RpL K B' xs l → P l m' → Q (.ref p) H') → t σ H Q
/-- a new dict -/
def SimG (K : Fr) (E : XK) (t : TE) (e : GD) : Prop := ∀ {B H A m σ ρ P R} {Q : VK}, Wr K B H A m → Sl K B A σ ρ → Erk K E R B H A → e R ρ m P →
  (∀ p xs l m' B' H' A', Xt B H A B' H' A' → Wr K B' H' A' m' → H p = none → B' p = none → p ∉ A' → H' p = some (.dK xs) → RpK K B' xs l → P l m' → Q (.ref p) H') → t σ H Q
structure PD (X : Cx) (E : XK) (e : Expr) (t : TE) (ed : ED) : Prop where
  pe : PE X e t
  sim : SimE X.K E t ed
structure PDT (X : Cx) (E : XK) (e : Expr) (t : TT) (ed : TD) : Prop where
  pt : PT X e t
  sim : SimT X.K E t ed
structure PDW (X : Cx) (E : XK) (e : Expr) (t : TT) (ed : TD) : Prop where
  pw : PW X e t
  sim : SimT X.K E t ed
structure PDA (X : Cx) (E : XK) (e : List Expr) (t : TA) (ed : AD) : Prop where
  pa : PA X e t
  sim : SimA X.K E t ed
structure PDF (X : Cx) (E : XK) (e : Expr) (t : TE) (ed : FD) : Prop where
  pe : PE X e t
  sim : SimF X.K E t ed
structure PDG (X : Cx) (E : XK) (e : Expr) (t : TE) (ed : GD) : Prop where
  pe : PE X e t
  sim : SimG X.K E t ed
/-- a new list, put to the ground | ours -/
def dZ (f : FD) : ED := fun R ρ m P => f R ρ m fun l m' => P (.d (.lst l)) m'
def dO (f : FD) : ED := fun R ρ m P => f R ρ m fun l m' => P (.o m'.length) (m' ++ [.lst l])
def dZg (f : GD) : ED := fun R ρ m P => f R ρ m fun l m' => P (.d (.dic l)) m'
def dOg (f : GD) : ED := fun R ρ m P => f R ρ m fun l m' => P (.o m'.length) (m' ++ [.dic l])
section
variable {K : Fr} {E : XK} {t : TE}
/-- a new object that nobody holds comes to the ground -/
theorem Xt.ground {B H B' H' : Hp} {A A' : List Addr} (x : Xt B H A B' H' A') {p : Addr} {o : HO} (h : H p = none) (hb : B' p = none) : Xt B H A (upd B' p o) H' A' :=
  ⟨x.b.tr (Ex.new hb), x.a, x.h, fun q e f k => by rw [upd_ne (fun z => f (by rw [z]; exact h))]; exact x.n q e f k, x.f, x.d⟩
theorem Wr.ground {B H : Hp} {A : List Addr} {m : Mu} (w : Wr K B H A m) {p : Addr} {o : HO} (hb : B p = none) (h : H p = some o) (k : p ∉ A) : Wr K (upd B p o) H A m where
  le := fun a u z => by
    by_cases e : a = p
    · subst e
      rw [upd_same] at z
      cases z
      exact .inl h
    · rw [upd_ne e] at z
      exact w.le a u z
  len := w.len
  ob := fun i a u e f l => by
    obtain ⟨q, r⟩ := w.ob i a u e f l
    have ne : a ≠ p := fun z => k (by rw [← z]; exact List.mem_of_getElem? e)
    exact ⟨by rw [upd_ne ne]; exact q, r.up (Ex.new hb) ⟨[], by rw [List.append_nil]⟩ fun _ e' => e'⟩
  nd := w.nd
  dm := w.dm
/-- a new object that nobody holds becomes ours -/
theorem Xt.own {B H B' H' : Hp} {A A' : List Addr} (x : Xt B H A B' H' A') {p : Addr} (h : H p = none) : Xt B H A B' H' (A' ++ [p]) :=
  ⟨x.b, by
    obtain ⟨t, e⟩ := x.a
    exact ⟨t ++ [p], by rw [e, List.append_assoc]⟩, x.h, x.n, fun q hq k => by
    rcases List.mem_append.mp hq with z | z
    · exact x.f q z k
    · rw [List.mem_singleton.mp z]
      exact h, x.d⟩
theorem Wr.own {B H : Hp} {A : List Addr} {m : Mu} (w : Wr K B H A m) {p : Addr} {u : MO} (hp : H p ≠ .none) (hb : B p = none) (k : p ∉ A) (r : RpM K B H (A ++ [p]) p u) : Wr K B H (A ++ [p]) (m ++ [u]) where
  le := w.le
  len := by rw [List.length_append, List.length_append, w.len]; rfl
  ob := fun i a z e f l => by
    rcases get_snoc e with ⟨k1, k2⟩ | ⟨k1, k2⟩
    · have f' : m[i]? = some z := by
        rw [List.getElem?_append_left (by rw [← w.len]; exact k1)] at f
        exact f
      obtain ⟨q, r'⟩ := w.ob i a z k2 f' l
      exact ⟨q, r'.up Ex.ie ⟨[p], rfl⟩ fun _ e' => e'⟩
    · subst k2
      have f' : z = u := by
        rw [k1, w.len, List.getElem?_append_right (Nat.le_refl _), Nat.sub_self] at f
        exact (Option.some.inj f).symm
      rw [f']
      exact ⟨hb, r⟩
  nd := fun i j a e f l1 l2 => by
    have old : ∀ (k : Nat), A[k]? = some p → False := fun _ e1 => k (List.mem_of_getElem? e1)
    rcases get_snoc e with ⟨k1, k2⟩ | ⟨k1, k2⟩ <;> rcases get_snoc f with ⟨k3, k4⟩ | ⟨k3, k4⟩
    · rw [live_snoc (by rw [← w.len]; exact k1)] at l1
      rw [live_snoc (by rw [← w.len]; exact k3)] at l2
      exact w.nd i j a k2 k4 l1 l2
    · rw [k4] at k2
      exact (old i k2).elim
    · rw [k2] at k4
      exact (old j k4).elim
    · rw [k1, k3]
  dm := fun a q => by
    rcases List.mem_append.mp q with z | z
    · exact w.dm a z
    · rw [List.mem_singleton.mp z]
      exact hp
theorem snoc_get {α : Type} {l : List α} {x : α} : (l ++ [x])[l.length]? = some x := by
  rw [List.getElem?_append_right (Nat.le_refl _), Nat.sub_self]
  rfl
theorem sim_Z {f : FD} (h : SimF K E t f) : SimE K E t (dZ f) := fun w l e q k => h w l e q fun p xs l' m' B' H' A' x w' h0 hb ha hp r pl =>
  k (.ref p) (.d (.lst l')) m' (upd B' p (.lst xs)) H' A' (x.ground h0 hb) (w'.ground hb hp ha) (Rp.lst upd_same (RpL.up (Ex.new hb) r)) pl
theorem sim_O {f : FD} (h : SimF K E t f) : SimE K E t (dO f) := fun w l e q k => h w l e q fun p xs l' m' B' H' A' x w' h0 hb ha hp r pl =>
  k (.ref p) (.o m'.length) _ B' H' (A' ++ [p]) (x.own h0) (w'.own (by rw [hp]; intro z; cases z) hb ha (show RpM K B' H' (A' ++ [p]) p (.lst l') from ⟨xs, hp, r⟩)) ⟨p, rfl, by rw [← w'.len]; exact snoc_get⟩ pl
theorem sim_Zg {f : GD} (h : SimG K E t f) : SimE K E t (dZg f) := fun w l e q k => h w l e q fun p xs l' m' B' H' A' x w' h0 hb ha hp r pl =>
  k (.ref p) (.d (.dic l')) m' (upd B' p (.dK xs)) H' A' (x.ground h0 hb) (w'.ground hb hp ha) (Rp.dic upd_same (RpK.up (Ex.new hb) r)) pl
theorem sim_Og {f : GD} (h : SimG K E t f) : SimE K E t (dOg f) := fun w l e q k => h w l e q fun p xs l' m' B' H' A' x w' h0 hb ha hp r pl =>
  k (.ref p) (.o m'.length) _ B' H' (A' ++ [p]) (x.own h0) (w'.own (by rw [hp]; intro z; cases z) hb ha (show RpM K B' H' (A' ++ [p]) p (.dic l') from ⟨xs, hp, r⟩)) ⟨p, rfl, by rw [← w'.len]; exact snoc_get⟩ pl
/-- a part of ours, moved to the ground: the i-th thing, a list or a dict of plain data -/
def dMv (e : ED) : ED := fun R ρ m P => e R ρ m fun s m' => match s with
  | .d x => P (.d x) m'
  | .o i => match m'[i]? with
    | some (.lst l) => P (.d (.lst l)) (m'.set i .dead)
    | some (.dic l) => P (.d (.dic l)) (m'.set i .dead)
    | _ => False
theorem sim_Mv {ed : ED} (h : SimE K E t ed) : SimE K E t (dMv ed) := fun w l e q k => h w l e q fun v s m' B' H' A' x w' r z => by
  cases s with
  | d y => exact k v _ m' B' H' A' x w' r z
  | o i =>
    obtain ⟨a, ev, ea⟩ := r
    have z' : match m'[i]? with
      | some (.lst l) => _
      | some (.dic l) => _
      | _ => False := z
    split at z'
    · rename_i l2 em
      obtain ⟨hb, xs, hp, rl⟩ := w'.ob i a _ ea em rfl
      have lv : live m'[i]? = true := by rw [em]; rfl
      exact k v _ _ _ _ _ (x.tr (Xt.froze (List.mem_of_getElem? ea) hb)) (w'.froze ea lv hp) (by rw [ev]; exact Rp.lst upd_same (RpL.up (Ex.new hb) rl)) z'
    · rename_i l2 em
      obtain ⟨hb, xs, hp, rl⟩ := w'.ob i a _ ea em rfl
      have lv : live m'[i]? = true := by rw [em]; rfl
      exact k v _ _ _ _ _ (x.tr (Xt.froze (List.mem_of_getElem? ea) hb)) (w'.froze ea lv hp) (by rw [ev]; exact Rp.dic upd_same (RpK.up (Ex.new hb) rl)) z'
    · exact z'.elim
/-! ### names, constants -/
def dVar (i : Nat) : ED := fun _ ρ m P => match ρ[i]? with
  | some (some s) => P s m
  | _ => False
theorem sim_var {i : Nat} : SimE K E (tVar i) (dVar i) := fun {B H A m σ ρ P R Q} w l e q k => by
  have q' : match ρ[i]? with
    | some (some s) => P s m
    | _ => False := q
  split at q'
  · rename_i s es
    obtain ⟨v, ev, r⟩ := l.at_ i s es
    exact ⟨v, ev, k v s m B H A Xt.ie w r q'⟩
  · exact q'.elim
def dC (x : D) : ED := fun _ _ m P => P (.d x) m
theorem sim_c {v : V} {x : D} (h : ∀ B, Rp K B v x) : SimE K E (tC v) (dC x) := fun {B H A m σ ρ P R Q} w l e q k => k v (.d x) m B H A Xt.ie w (h B) q
/-! ### values told by the heap at the top, by the ground within -/
def view (m : Mu) : SV → Option D
  | .d x => some x
  | .o i => match m[i]? with
    | some (.lst l) => some (.lst l)
    | some (.dic l) => some (.dic l)
    | _ => none
def RpH (K : Fr) (B H : Hp) (v : V) : D → Prop
  | .non => v = .non
  | .bl b => v = .bl b
  | .int i => v = .int i
  | .str s => ∃ x : Str, v = .str x ∧ x.cps.toList = s
  | .tup l => ∃ a xs, v = .ref a ∧ SqT K B a xs ∧ RpL K B xs l
  | .lst l => ∃ a xs, v = .ref a ∧ H a = some (.lst xs) ∧ RpL K B xs l
  | .dic l => ∃ a ks, v = .ref a ∧ Rd H a (.dK ks) ∧ RpK K B ks l
  | .scr ns => ∃ a, v = .ref a ∧ SqL K B a (ns.map V.int)
theorem Rp.h {B H : Hp} {v : V} {d : D} (r : Rp K B v d) (e : Le B H) : RpH K B H v d := by
  cases r with
  | non => rfl
  | bl b => rfl
  | int i => rfl
  | str x => exact ⟨x, rfl, rfl⟩
  | tup h l => exact ⟨_, _, rfl, h, l⟩
  | lst h l => exact ⟨_, _, rfl, e.lst h, l⟩
  | dic h l => exact ⟨_, _, rfl, e.rd h, l⟩
  | scr h => exact ⟨_, rfl, h⟩
theorem view_h {B H : Hp} {A : List Addr} {m : Mu} (w : Wr K B H A m) {v : V} : ∀ {s : SV} {d : D}, RpS K B A v s → view m s = some d → RpH K B H v d
  | .d x, d, r, e => by
    cases e
    exact Rp.h r w.le
  | .o i, d, ⟨a, ev, ea⟩, e => by
    have e' : (match m[i]? with
      | some (.lst l) => some (.lst l)
      | some (.dic l) => some (.dic l)
      | _ => none) = some d := e
    split at e'
    · rename_i l em
      cases e'
      obtain ⟨_, xs, h, r⟩ := w.ob i a _ ea em rfl
      exact ⟨a, xs, ev, h, r⟩
    · rename_i l em
      cases e'
      obtain ⟨_, ks, h, r⟩ := w.ob i a _ ea em rfl
      exact ⟨a, ks, ev, .inl h, r⟩
    · cases e'
/-- a step that only adds -/
structure Gr (B H B' H' : Hp) : Prop where
  b : Ex B B'
  h : Ex H H'
  n : ∀ p, B p = none → H p ≠ none → B' p = none
  le : Le B' H'
theorem Gr.d {B H B' H' : Hp} (g : Gr B H B' H') (p : Addr) (h : H' p = none) : H p = none := by
  cases e : H p with
  | none => rfl
  | some o =>
    rw [g.h p o e] at h
    cases h
theorem Gr.ie {B H : Hp} (e : Le B H) : Gr B H B H := ⟨Ex.ie, Ex.ie, fun _ h _ => h, e⟩
theorem Gr.laid {B H : Hp} (e : Le B H) {p : Addr} {o : HO} (h : H p = none) : Gr B H (upd B p o) (upd H p o) :=
  ⟨Ex.new (e.free h), Ex.new h, fun q z f => by rw [upd_ne (fun y => f (by rw [y]; exact h))]; exact z, e.new h⟩
theorem Gr.lost {B H : Hp} (e : Le B H) {p : Addr} {o : HO} (h : H p = none) : Gr B H B (upd H p o) :=
  ⟨Ex.ie, Ex.new h, fun q z f => z, e.newR (e.free h)⟩
theorem Gr.xt {B H B' H' : Hp} {A : List Addr} (g : Gr B H B' H') : Xt B H A B' H' A :=
  ⟨g.b, ⟨[], by rw [List.append_nil]⟩, fun p o e _ => g.h p o e, fun p e f _ => g.n p e f, fun _ h k => absurd h k, fun p h => g.d p h⟩
theorem Wr.gr {B H B' H' : Hp} {A : List Addr} {m : Mu} (w : Wr K B H A m) (g : Gr B H B' H') : Wr K B' H' A m where
  le := g.le
  len := w.len
  ob := fun i a u e f l => by
    obtain ⟨q, r⟩ := w.ob i a u e f l
    obtain ⟨z, ez⟩ := r.there l
    exact ⟨g.n a q (by rw [ez]; intro y; cases y), r.up g.b ⟨[], by rw [List.append_nil]⟩ fun o' e' => g.h a o' e'⟩
  nd := w.nd
  dm := fun a h q => w.dm a h (g.d a q)
/-! ### operators by values -/
abbrev O2 := D → D → (D → Prop) → Prop
abbrev O1 := D → (D → Prop) → Prop
abbrev OL := List D → (D → Prop) → Prop
def Sim2 (K : Fr) (r : R2) (op : O2) : Prop := ∀ {B H x y dx dy P} {Q : VK}, Le B H → RpH K B H x dx → RpH K B H y dy → op dx dy P → (∀ v d B' H', Gr B H B' H' → Rp K B' v d → P d → Q v H') → r x y H Q
def Sim1 (K : Fr) (r : V → Hp → VK → Prop) (op : O1) : Prop := ∀ {B H x dx P} {Q : VK}, Le B H → RpH K B H x dx → op dx P → (∀ v d B' H', Gr B H B' H' → Rp K B' v d → P d → Q v H') → r x H Q
def SimL (K : Fr) (r : List V → Hp → VK → Prop) (op : OL) : Prop := ∀ {B H xs ds P} {Q : VK}, Le B H → All2 (RpH K B H) xs ds → op ds P → (∀ v d B' H', Gr B H B' H' → Rp K B' v d → P d → Q v H') → r xs H Q
def SimM (K : Fr) (r : V → List V → Hp → VK → Prop) (op : D → OL) : Prop := ∀ {B H x xs dx ds P} {Q : VK}, Le B H → RpH K B H x dx → All2 (RpH K B H) xs ds → op dx ds P → (∀ v d B' H', Gr B H B' H' → Rp K B' v d → P d → Q v H') → r x xs H Q
/-- .. that give a new list -/
def SimLF (K : Fr) (r : List V → Hp → VK → Prop) (op : List D → (List D → Prop) → Prop) : Prop := ∀ {B H xs ds P} {Q : VK}, Le B H → All2 (RpH K B H) xs ds → op ds P → (∀ p ys l, H p = none → RpL K B ys l → P l → Q (.ref p) (upd H p (.lst ys))) → r xs H Q
def Sim2F (K : Fr) (r : R2) (op : D → D → (List D → Prop) → Prop) : Prop := ∀ {B H x y dx dy P} {Q : VK}, Le B H → RpH K B H x dx → RpH K B H y dy → op dx dy P → (∀ p ys l, H p = none → RpL K B ys l → P l → Q (.ref p) (upd H p (.lst ys))) → r x y H Q
def bnd {α : Type} (o : Option α) (k : α → Prop) : Prop := match o with
  | some a => k a
  | none => False
theorem bnd_at {α : Type} {o : Option α} {k : α → Prop} (h : bnd o k) : ∃ a, o = some a ∧ k a := by
  cases o with
  | none => exact h.elim
  | some a => exact ⟨a, rfl, h⟩
def dBin (op : O2) (ea eb : ED) : ED := fun R ρ m P => ea R ρ m fun x m1 => eb R ρ m1 fun y m2 => bnd (view m2 x) fun dx => bnd (view m2 y) fun dy => op dx dy fun z => P (.d z) m2
theorem sim_bin {r : R2} {op : O2} {ta tb : TE} {ea eb : ED} (ho : Sim2 K r op) (ha : SimE K E ta ea) (hb : SimE K E tb eb) : SimE K E (tOp r ta tb) (dBin op ea eb) := fun w l e q k =>
  ha w l e q fun x sx m1 B1 H1 A1 x1 w1 r1 q1 => hb w1 (l.x x1) (e.x x1) q1 fun y sy m2 B2 H2 A2 x2 w2 r2 q2 => by
    obtain ⟨dx, e1, q3⟩ := bnd_at q2
    obtain ⟨dy, e2, q4⟩ := bnd_at q3
    exact ho w2.le (view_h w2 (r1.up x2.b x2.a) e1) (view_h w2 r2 e2) q4 fun v d B' H' g r p => k v (.d d) m2 B' H' A2 ((x1.tr x2).tr g.xt) (w2.gr g) r p
def dBinF (op : D → D → (List D → Prop) → Prop) (ea eb : ED) : FD := fun R ρ m P => ea R ρ m fun x m1 => eb R ρ m1 fun y m2 => bnd (view m2 x) fun dx => bnd (view m2 y) fun dy => op dx dy fun z => P z m2
theorem sim_binF {r : R2} {op : D → D → (List D → Prop) → Prop} {ta tb : TE} {ea eb : ED} (ho : Sim2F K r op) (ha : SimE K E ta ea) (hb : SimE K E tb eb) : SimF K E (tOp r ta tb) (dBinF op ea eb) := fun w l e q k =>
  ha w l e q fun x sx m1 B1 H1 A1 x1 w1 r1 q1 => hb w1 (l.x x1) (e.x x1) q1 fun y sy m2 B2 H2 A2 x2 w2 r2 q2 => by
    obtain ⟨dx, e1, q3⟩ := bnd_at q2
    obtain ⟨dy, e2, q4⟩ := bnd_at q3
    exact ho w2.le (view_h w2 (r1.up x2.b x2.a) e1) (view_h w2 r2 e2) q4 fun p ys l hp r pl =>
      k p ys l m2 B2 (upd H2 p (.lst ys)) A2 ((x1.tr x2).tr (Xt.lost hp)) (w2.lost hp) ((x1.tr x2).d p hp) (w2.le.free hp) (w2.notin hp) upd_same r pl
end
end Dl
end

section
/-! Dl3: operators of two values on plain data. -/
namespace Dl
open PySem L2 PyProof.Rows
theorem lim_eq : sizeLine = 16777216 := sizeLine_eq
def txt (l : List Nat) : Str := ⟨l.toArray⟩
theorem txt_list (l : List Nat) : (txt l).cps.toList = l := rfl
theorem txt_of {x : Str} {l : List Nat} (h : x.cps.toList = l) : x = txt l := by
  cases x with
  | mk c =>
    have e : c.toList = l := h
    rw [← e]
    rfl
theorem txt_len (l : List Nat) : (txt l).length = l.length := by
  show l.toArray.size = l.length
  exact List.size_toArray
theorem app_txt (a b : List Nat) : txt a ++ txt b = txt (a ++ b) := txt_of (by
  show ((txt a).cps ++ (txt b).cps).toList = a ++ b
  rw [Array.toList_append]
  rfl)
section
variable {K : Fr} {B H : Hp}
theorem rp_str (l : List Nat) : Rp K B (.str (txt l)) (.str l) := Rp.str (txt l)
theorem RpH.txt {v : V} {l : List Nat} (r : RpH K B H v (.str l)) : v = .str (txt l) := by
  obtain ⟨x, e, h⟩ := r
  rw [e, txt_of h]
theorem RpL.len : ∀ {xs : List V} {l : List D}, RpL K B xs l → xs.length = l.length
  | _, _, .nil => rfl
  | _, _, .cons _ t => by rw [List.length_cons, List.length_cons, RpL.len t]
theorem RpL.app : ∀ {xs ys : List V} {l k : List D}, RpL K B xs l → RpL K B ys k → RpL K B (xs ++ ys) (l ++ k)
  | _, _, _, _, .nil, s => s
  | _, _, _, _, .cons r t, s => .cons r (RpL.app t s)
theorem RpL.nil_iff {xs : List V} {l : List D} (r : RpL K B xs l) : xs = [] ↔ l = [] := by
  cases r with
  | nil => exact ⟨fun _ => rfl, fun _ => rfl⟩
  | cons _ _ => exact ⟨fun h => (by cases h), fun h => (by cases h)⟩
theorem RpL.rep {xs : List V} {l : List D} (r : RpL K B xs l) : ∀ n : Nat, RpL K B (List.replicate n xs).flatten (List.replicate n l).flatten
  | 0 => .nil
  | n + 1 => by
    rw [List.replicate_succ, List.replicate_succ, List.flatten_cons, List.flatten_cons]
    exact RpL.app r (RpL.rep r n)
theorem RpL.get : ∀ {xs : List V} {l : List D} {i : Nat} {d : D}, RpL K B xs l → l[i]? = some d → ∃ v, xs[i]? = some v ∧ Rp K B v d
  | _, _, _, _, .nil, e => by cases e
  | _, _, 0, d, .cons r _, e => by
    cases e
    exact ⟨_, rfl, r⟩
  | _, _, i + 1, d, .cons _ t, e => RpL.get (i := i) t e
theorem RpL.take : ∀ {xs : List V} {l : List D} (n : Nat), RpL K B xs l → RpL K B (xs.take n) (l.take n)
  | _, _, 0, _ => .nil
  | _, _, _ + 1, .nil => .nil
  | _, _, n + 1, .cons r t => .cons r (RpL.take n t)
theorem RpL.drop : ∀ {xs : List V} {l : List D} (n : Nat), RpL K B xs l → RpL K B (xs.drop n) (l.drop n)
  | _, _, 0, r => r
  | _, _, _ + 1, .nil => .nil
  | _, _, n + 1, .cons _ t => RpL.drop n t
/-! ### + -/
def oAdd : O2
  | .int a, .int b => fun P => P (.int (a + b))
  | .int a, .bl b => fun P => P (.int (a + b2i b))
  | .str a, .str b => fun P => a.length + b.length ≤ 16777216 ∧ P (.str (a ++ b))
  | .lst a, .lst b => fun P => a.length + b.length ≤ 16777216 ∧ P (.lst (a ++ b))
  | .tup a, .tup b => fun P => a.length + b.length ≤ 16777216 ∧ P (.tup (a ++ b))
  | _, _ => fun _ => False
def rAddS : R2 := fun x y H Q => ∃ i j, x = .str i ∧ y = .str j ∧ i.length + j.length ≤ sizeLine ∧ Q (.str (i ++ j)) H
def rAddB : R2 := fun x y H Q => ∃ i k, x = .int i ∧ y = .bl k ∧ Q (.int (i + b2i k)) H
def rAddAny (K : Fr) : R2 := fun x y H Q => rI0 (fun i j => .int (i + j)) x y H Q ∨ rAddB x y H Q ∨ rAddS x y H Q ∨ rCat x y H Q ∨ rCatA K x y H Q
theorem x_add {X : Cx} : OpR X (binaryOp .Add) (rAddAny X.K) := op_add.or (OpR.or op_add_ib (OpR.or op_add_str (OpR.or op_cat op_catA)))
theorem cat_tup {x y : V} {a b : List D} {Q : VK} (le : Le B H) (hx : RpH K B H x (.tup a)) (hy : RpH K B H y (.tup b)) (hl : a.length + b.length ≤ 16777216)
    (k : ∀ v B' H', Gr B H B' H' → Rp K B' v (.tup (a ++ b)) → Q v H') : rCatA K x y H Q := by
  obtain ⟨p, xs, rfl, h1, l1⟩ := hx
  obtain ⟨q, ys, rfl, h2, l2⟩ := hy
  refine ⟨p, q, xs, ys, rfl, rfl, le.sqt h1, le.sqt h2, by rw [lim_eq, l1.len, l2.len]; exact hl, fun e => ?_, fun e1 e2 => ?_, fun e1 e2 n hn => ?_⟩
  · have ea : a = [] := l1.nil_iff.mp e
    subst ea
    exact k _ B H (Gr.ie le) (.tup h2 l2)
  · have ea : b = [] := l2.nil_iff.mp e2
    subst ea
    refine k _ B H (Gr.ie le) (.tup h1 ?_)
    rw [List.append_nil]
    exact l1
  · exact k _ _ _ (Gr.laid le hn) (.tup (.inl (.inl upd_same)) (RpL.up (Ex.new (le.free hn)) (RpL.app l1 l2)))
theorem s_add : Sim2 K (rAddAny K) oAdd := fun {B H x y dx dy P Q} le hx hy q k => by
  cases dx with
  | int a =>
    cases dy with
    | int b => exact .inl ⟨a, b, hx, hy, k _ _ B H (Gr.ie le) (.int _) q⟩
    | bl b => exact .inr (.inl ⟨a, b, hx, hy, k _ _ B H (Gr.ie le) (.int _) q⟩)
    | _ => exact q.elim
  | str a =>
    cases dy with
    | str b =>
      refine .inr (.inr (.inl ⟨txt a, txt b, hx.txt, hy.txt, by rw [txt_len, txt_len, lim_eq]; exact q.1, ?_⟩))
      rw [app_txt]
      exact k _ _ B H (Gr.ie le) (rp_str _) q.2
    | _ => exact q.elim
  | lst a =>
    cases dy with
    | lst b =>
      obtain ⟨p, xs, rfl, h1, l1⟩ := hx
      obtain ⟨r, ys, rfl, h2, l2⟩ := hy
      exact .inr (.inr (.inr (.inl ⟨p, r, xs, ys, rfl, rfl, h1, h2, by rw [lim_eq, l1.len, l2.len]; exact q.1, fun n hn =>
        k _ _ _ _ (Gr.laid le hn) (.lst upd_same (RpL.up (Ex.new (le.free hn)) (RpL.app l1 l2))) q.2⟩)))
    | _ => exact q.elim
  | tup a =>
    cases dy with
    | tup b => exact .inr (.inr (.inr (.inr (cat_tup le hx hy q.1 fun v B' H' g r => k v _ B' H' g r q.2))))
    | _ => exact q.elim
  | _ => exact q.elim
/-! ### ints -/
def oInt (C : Int → Int → Prop) (g : Int → Int → Int) : O2
  | .int a, .int b => fun P => C a b ∧ P (.int (g a b))
  | _, _ => fun _ => False
theorem s_int {C : Int → Int → Prop} {g : Int → Int → Int} : Sim2 K (rI C fun i j => .int (g i j)) (oInt C g) := fun {B H x y dx dy P Q} le hx hy q k => by
  cases dx with
  | int a =>
    cases dy with
    | int b => exact ⟨a, b, hx, hy, q.1, k _ _ B H (Gr.ie le) (.int _) q.2⟩
    | _ => exact q.elim
  | _ => exact q.elim
def oInt0 (g : Int → Int → Int) : O2
  | .int a, .int b => fun P => P (.int (g a b))
  | _, _ => fun _ => False
theorem s_int0 {g : Int → Int → Int} : Sim2 K (rI0 fun i j => .int (g i j)) (oInt0 g) := fun {B H x y dx dy P Q} le hx hy q k => by
  cases dx with
  | int a =>
    cases dy with
    | int b => exact ⟨a, b, hx, hy, k _ _ B H (Gr.ie le) (.int _) q⟩
    | _ => exact q.elim
  | _ => exact q.elim
def oSub : O2 := oInt0 fun a b => a - b
/-- a factor below 2 ^ 64, or both of together less than a million bits -/
def MulOk (i j : Int) : Prop := CMul i j ∨ CMulW i j
def oMul : O2
  | .int a, .int b => fun P => MulOk a b ∧ P (.int (a * b))
  | .str a, .int n => fun P => -(2 ^ 63) ≤ n ∧ n < 2 ^ 63 ∧ a.length * n.toNat ≤ 16777216 ∧ P (.str (List.replicate n.toNat a).flatten)
  | .lst a, .int n => fun P => -(2 ^ 63) ≤ n ∧ n < 2 ^ 63 ∧ a.length * n.toNat ≤ 16777216 ∧ P (.lst (List.replicate n.toNat a).flatten)
  | .tup a, .int n => fun P => 2 ≤ n ∧ n ≤ 1000 ∧ a ≠ [] ∧ a.length ≤ 1000 ∧ P (.tup (List.replicate n.toNat a).flatten)
  | _, _ => fun _ => False
def rMulS : R2 := fun x y H Q => ∃ (z : Str) (n : Int), x = .str z ∧ y = .int n ∧ -(2 ^ 63) ≤ n ∧ n < 2 ^ 63 ∧ z.length * n.toNat ≤ 16777216 ∧ Q (.str (txt (List.replicate n.toNat z.cps.toList).flatten)) H
theorem fold_rep (a : Array Nat) : ∀ (n : Nat) (b : Array Nat), ((List.replicate n a).foldl (· ++ ·) b).toList = b.toList ++ (List.replicate n a.toList).flatten
  | 0, b => by
    show b.toList = b.toList ++ []
    rw [List.append_nil]
  | n + 1, b => by
    rw [List.replicate_succ, List.foldl_cons, fold_rep a n, Array.toList_append, List.replicate_succ, List.flatten_cons, List.append_assoc]
theorem x_mulS {X : Cx} : OpR X (binaryOp .Mult) rMulS := by
  intro pins s σ H x y v u Q I rx ry h
  obtain ⟨z, n, rfl, rfl, h1, h2, h3, q⟩ := h
  obtain ⟨t, rfl⟩ := rx
  obtain ⟨t', rfl⟩ := ry
  refine PySem.P.mul_str (by rw [decide_eq_false (by omega), decide_eq_false (by omega)] <;> rfl) (fun a1 a2 a3 => ?_) (fun a1 a2 => ?_) ?_
  · have e1 : 1 ≤ n := by omega
    have e2 : (z.length : Int) * n ≤ 16777216 := by
      have := h3
      have e3 : (n.toNat : Int) = n := by omega
      calc (z.length : Int) * n = ((z.length * n.toNat : Nat) : Int) := by rw [Int.natCast_mul, e3]
        _ ≤ 16777216 := by omega
    have e4 : (z.length : Int) ≤ (2 ^ 63 - 1) / n := by
      rw [Int.le_ediv_iff_mul_le (by omega)]
      omega
    omega
  · unfold Builtin.Str.tooLong
    exact decide_eq_false (by rw [lim_eq]; omega)
  · by_cases c : n < 1
    · rw [if_pos c]
      have e0 : n.toNat = 0 := by omega
      rw [e0] at q
      exact ⟨by decide, ⟨.str _, H, I.tok _, ⟨_, rfl⟩, q⟩⟩
    · rw [if_neg c]
      by_cases c2 : (n == 1 || z.length == 0) = true
      · rw [if_pos c2]
        have e0 : txt (List.replicate n.toNat z.cps.toList).flatten = z := by
          rcases Bool.or_eq_true_iff.mp c2 with c3 | c3
          · have : n = 1 := by simpa using c3
            subst this
            show txt (z.cps.toList ++ []) = z
            rw [List.append_nil]
            exact (txt_of rfl).symm
          · have : z.cps.toList = [] := by
              have e : z.length = 0 := beq_iff_eq.mp c3
              exact List.eq_nil_of_length_eq_zero (by rw [Array.length_toList]; exact e)
            rw [this]
            refine (txt_of (x := z) ?_).symm
            rw [this]
            induction n.toNat with
            | zero => rfl
            | succ m ih => rw [List.replicate_succ, List.flatten_cons, ← ih]; rfl
        rw [e0] at q
        exact ⟨.str z, H, I, ⟨_, rfl⟩, q⟩
      · rw [if_neg c2]
        have e0 : (⟨(List.replicate n.toNat z.cps).foldl (· ++ ·) #[]⟩ : Str) = txt (List.replicate n.toNat z.cps.toList).flatten := txt_of (by
          show ((List.replicate n.toNat z.cps).foldl (· ++ ·) #[]).toList = _
          rw [fold_rep]
          rfl)
        rw [e0]
        refine ⟨?_, ⟨.str _, H, I.tok _, ⟨_, rfl⟩, q⟩⟩
        rw [txt_len, lim_eq]
        have e5 : (List.replicate n.toNat z.cps.toList).flatten.length = n.toNat * z.length := by
          rw [List.length_flatten, List.map_replicate, List.sum_replicate_nat, Array.length_toList]
          rfl
        rw [e5, Nat.mul_comm]
        exact h3
def rMulAny (K : Fr) : R2 := fun x y H Q => rI CMul (fun i j => .int (i * j)) x y H Q ∨ rI CMulW (fun i j => .int (i * j)) x y H Q ∨ rMulS x y H Q ∨ rRep x y H Q ∨ rRepT K x y H Q
theorem x_mul {X : Cx} : OpR X (binaryOp .Mult) (rMulAny X.K) := op_mul.or (OpR.or op_mulW (OpR.or x_mulS (OpR.or op_rep op_repT)))
theorem s_mul : Sim2 K (rMulAny K) oMul := fun {B H x y dx dy P Q} le hx hy q k => by
  cases dx with
  | int a =>
    cases dy with
    | int b =>
      rcases q.1 with c | c
      · exact .inl ⟨a, b, hx, hy, c, k _ _ B H (Gr.ie le) (.int _) q.2⟩
      · exact .inr (.inl ⟨a, b, hx, hy, c, k _ _ B H (Gr.ie le) (.int _) q.2⟩)
    | _ => exact q.elim
  | str a =>
    cases dy with
    | int n =>
      obtain ⟨h1, h2, h3, p⟩ := q
      exact .inr (.inr (.inl ⟨txt a, n, hx.txt, hy, h1, h2, by rw [txt_len]; exact h3, k _ _ B H (Gr.ie le) (rp_str _) p⟩))
    | _ => exact q.elim
  | lst a =>
    cases dy with
    | int n =>
      obtain ⟨h1, h2, h3, p⟩ := q
      obtain ⟨a', xs, rfl, h4, l1⟩ := hx
      exact .inr (.inr (.inr (.inl ⟨a', n, xs, rfl, hy, h4, h1, h2, by rw [lim_eq, l1.len]; exact h3, fun p' hn => k _ _ _ _ (Gr.laid le hn) (.lst upd_same (RpL.up (Ex.new (le.free hn)) (l1.rep _))) p⟩)))
    | _ => exact q.elim
  | tup a =>
    cases dy with
    | int n =>
      obtain ⟨h1, h2, h3, h5, p⟩ := q
      obtain ⟨a', xs, rfl, h4, l1⟩ := hx
      exact .inr (.inr (.inr (.inr ⟨a', n, xs, rfl, hy, le.sqt h4, fun e => h3 (l1.nil_iff.mp e), h1, h2, by rw [l1.len]; exact h5, fun p' hn => k _ _ _ _ (Gr.laid le hn) (.tup (.inl (.inl upd_same)) (RpL.up (Ex.new (le.free hn)) (l1.rep _))) p⟩)))
    | _ => exact q.elim
  | _ => exact q.elim
/-- // by a divisor from 1 on, below 2 ^ 9000 -/
def oDiv : O2 := oInt CDivW fun a b => a / b
def oMod : O2 := oInt (fun _ b => 0 < b) fun a b => a % b
def CPowW (i j : Int) : Prop := 0 ≤ j ∧ (Builtin.Int.intBits i : Int) * j ≤ 2 ^ 27
theorem x_pow {X : Cx} : OpR X (binaryOp .Pow) (rI CPowW fun i j => .int (i ^ j.toNat)) := opI fun _ _ _ _ _ _ _ hc q => pow_int hc.1 hc.2 q
def oPow : O2 := oInt CPowW fun a b => a ^ b.toNat
theorem bits_of {i : Int} {n : Nat} (h : i.natAbs < 2 ^ n) : Builtin.Int.intBits i ≤ n := by
  unfold Builtin.Int.intBits
  split
  · omega
  · rename_i h0
    have h1 : i.natAbs ≠ 0 := fun z => h0 (by simpa using z)
    have := (Nat.log2_lt h1).mpr h
    omega
theorem pow_ok {i j : Int} {n : Nat} (h : i.natAbs < 2 ^ n) (h0 : 0 ≤ j) (h1 : (n : Int) * j ≤ 2 ^ 27) : CPowW i j := by
  refine ⟨h0, ?_⟩
  have a1 := bits_of h
  have a2 : (Builtin.Int.intBits i : Int) * j ≤ (n : Int) * j := Int.mul_le_mul_of_nonneg_right (by omega) h0
  omega
/-! ### order -/
def oOrd (f : Int → Int → Bool) (g : List Nat → List Nat → Bool) : O2
  | .int a, .int b => fun P => P (.bl (f a b))
  | .str a, .str b => fun P => P (.bl (g a b))
  | _, _ => fun _ => False
def rOrd (f : Int → Int → Bool) (g : List Nat → List Nat → Bool) : R2 := fun x y H Q => rI0 (fun i j => .bl (f i j)) x y H Q ∨ ∃ i j, x = .str i ∧ y = .str j ∧ Q (.bl (g i.cps.toList j.cps.toList)) H
theorem s_ord {f : Int → Int → Bool} {g : List Nat → List Nat → Bool} : Sim2 K (rOrd f g) (oOrd f g) := fun {B H x y dx dy P Q} le hx hy q k => by
  cases dx with
  | int a =>
    cases dy with
    | int b => exact .inl ⟨a, b, hx, hy, k _ _ B H (Gr.ie le) (.bl _) q⟩
    | _ => exact q.elim
  | str a =>
    cases dy with
    | str b => exact .inr ⟨txt a, txt b, hx.txt, hy.txt, k _ _ B H (Gr.ie le) (.bl _) q⟩
    | _ => exact q.elim
  | _ => exact q.elim
def oLt : O2 := oOrd (fun a b => decide (a < b)) (fun a b => decide (a < b))
def oLe : O2 := oOrd (fun a b => decide (a ≤ b)) (fun a b => !decide (b < a))
def oGt : O2 := oOrd (fun a b => decide (b < a)) (fun a b => decide (b < a))
def oGe : O2 := oOrd (fun a b => decide (b ≤ a)) (fun a b => !decide (a < b))
theorem x_lt {X : Cx} : OpR X (compareOp .Lt) (rOrd (fun a b => decide (a < b)) (fun a b => decide (a < b))) := op_lt.or op_lt_str
theorem x_le {X : Cx} : OpR X (compareOp .LtE) (rOrd (fun a b => decide (a ≤ b)) (fun a b => !decide (b < a))) := op_le.or op_le_str
theorem x_gt {X : Cx} : OpR X (compareOp .Gt) (rOrd (fun a b => decide (b < a)) (fun a b => decide (b < a))) := op_gt.or op_gt_str
theorem x_ge {X : Cx} : OpR X (compareOp .GtE) (rOrd (fun a b => decide (b ≤ a)) (fun a b => !decide (a < b))) := op_ge.or op_ge_str
/-! ### -a, not -/
def oNeg : O1
  | .int a => fun P => P (.int (-a))
  | _ => fun _ => False
theorem s_neg : Sim1 K (rU fun i => .int (-i)) oNeg := fun {B H x dx P Q} le hx q k => by
  cases dx with
  | int a => exact ⟨a, hx, k _ _ B H (Gr.ie le) (.int _) q⟩
  | _ => exact q.elim
end
end Dl
end

section
/-! Dl4: ==, !=, in, not in, is None on plain data. -/
namespace Dl
open PySem L2 PyProof.Rows
mutual
def toPy : D → PyData
  | .non => .none
  | .bl b => .bool b
  | .int i => .int i
  | .str s => .str (txt s)
  | .tup l => .tuple (toPyL l)
  | .lst l => .list (toPyL l)
  | .dic _ => .dict []
  | .scr l => .list (l.map PyData.int)
def toPyL : List D → List PyData
  | [] => []
  | d :: l => toPy d :: toPyL l
end
mutual
/-- no dict, code points as they must be, not too deep -/
def okD : Nat → D → Bool
  | _, .non => true
  | _, .bl _ => true
  | _, .int _ => true
  | _, .str s => s.all (· < 1114112)
  | 0, .tup _ => false
  | 0, .lst _ => false
  | n + 1, .tup l => okL n l
  | n + 1, .lst l => okL n l
  | _, .dic _ => false
  | _, .scr _ => false
def okL : Nat → List D → Bool
  | _, [] => true
  | n, d :: l => okD n d && okL n l
end
mutual
def eqv : D → D → Bool
  | .non, .non => true
  | .bl a, .bl b => a == b
  | .bl a, .int j => (if a then 1 else 0) == j
  | .int i, .bl b => i == (if b then 1 else 0)
  | .int i, .int j => i == j
  | .str x, .str y => x == y
  | .lst xs, .lst ys => eqvL xs ys
  | .tup xs, .tup ys => eqvL xs ys
  | _, _ => false
def eqvL : List D → List D → Bool
  | [], [] => true
  | x :: xs, y :: ys => eqv x y && eqvL xs ys
  | _, _ => false
end
theorem txt_inj {a b : List Nat} : txt a = txt b ↔ a = b := by
  constructor
  · intro h
    have := congrArg (fun z : Str => z.cps.toList) h
    exact this
  · intro h
    rw [h]
mutual
theorem eqv_py : ∀ (n m : Nat) (x y : D), okD n x = true → okD m y = true → PyData.eqv (toPy x) (toPy y) = eqv x y := by
  intro n m x y hx hy
  cases x with
  | non => cases y <;> simp [toPy, PyData.eqv, eqv, okD] at *
  | bl a => cases y <;> simp [toPy, PyData.eqv, eqv, okD] at *
  | int a => cases y <;> simp [toPy, PyData.eqv, eqv, okD] at *
  | str a =>
    cases y with
    | str b =>
      simp only [toPy, PyData.eqv, eqv]
      by_cases h : a = b
      · rw [h, beq_self_eq_true, beq_self_eq_true]
      · rw [beq_eq_false_iff_ne.mpr h, beq_eq_false_iff_ne.mpr (fun z => h (txt_inj.mp z))]
    | _ => simp [toPy, PyData.eqv, eqv, okD] at *
  | tup a =>
    cases n with
    | zero => simp [okD] at hx
    | succ n =>
      cases y with
      | tup b =>
        cases m with
        | zero => simp [okD] at hy
        | succ m =>
          simp only [toPy, PyData.eqv, eqv]
          exact eqvL_py n m a b (by simpa [okD] using hx) (by simpa [okD] using hy)
      | _ => simp [toPy, PyData.eqv, eqv, okD] at *
  | lst a =>
    cases n with
    | zero => simp [okD] at hx
    | succ n =>
      cases y with
      | lst b =>
        cases m with
        | zero => simp [okD] at hy
        | succ m =>
          simp only [toPy, PyData.eqv, eqv]
          exact eqvL_py n m a b (by simpa [okD] using hx) (by simpa [okD] using hy)
      | _ => simp [toPy, PyData.eqv, eqv, okD] at *
  | dic a => simp [okD] at hx
  | scr a => simp [okD] at hx
theorem eqvL_py : ∀ (n m : Nat) (x y : List D), okL n x = true → okL m y = true → PyData.eqvAll (toPyL x) (toPyL y) = eqvL x y := by
  intro n m x y hx hy
  cases x with
  | nil => cases y <;> simp [toPyL, PyData.eqvAll, eqvL]
  | cons a x =>
    cases y with
    | nil => simp [toPyL, PyData.eqvAll, eqvL]
    | cons b y =>
      simp only [okL, Bool.and_eq_true] at hx hy
      simp only [toPyL, PyData.eqvAll, eqvL]
      rw [eqv_py n m a b hx.1 hy.1, eqvL_py n m x y hx.2 hy.2]
end
mutual
theorem lay_py : ∀ (n : Nat) (x : D), okD n x = true → (toPy x).canLay0 = true ∧ (toPy x).depth ≤ n := by
  intro n x hx
  cases x with
  | non => simp [toPy, PyData.canLay0, PyData.depth]
  | bl a => simp [toPy, PyData.canLay0, PyData.depth]
  | int a => simp [toPy, PyData.canLay0, PyData.depth]
  | str a =>
    refine ⟨?_, by simp [toPy, PyData.depth]⟩
    simp only [toPy, PyData.canLay0]
    show (txt a).cps.all (· < 0x110000) = true
    simp only [okD] at hx
    simpa [txt] using hx
  | tup a =>
    cases n with
    | zero => simp [okD] at hx
    | succ n =>
      have := layL_py n a (by simpa [okD] using hx)
      simp only [toPy, PyData.canLay0, PyData.depth]
      exact ⟨this.1, by omega⟩
  | lst a =>
    cases n with
    | zero => simp [okD] at hx
    | succ n =>
      have := layL_py n a (by simpa [okD] using hx)
      simp only [toPy, PyData.canLay0, PyData.depth]
      exact ⟨this.1, by omega⟩
  | dic a => simp [okD] at hx
  | scr a => simp [okD] at hx
theorem layL_py : ∀ (n : Nat) (x : List D), okL n x = true → PyData.canLayAll0 (toPyL x) = true ∧ PyData.depthAll (toPyL x) ≤ n := by
  intro n x hx
  cases x with
  | nil => simp [toPyL, PyData.canLayAll0, PyData.depthAll]
  | cons a x =>
    simp only [okL, Bool.and_eq_true] at hx
    have h1 := lay_py n a hx.1
    have h2 := layL_py n x hx.2
    simp only [toPyL, PyData.canLayAll0, PyData.depthAll, h1.1, h2.1]
    refine ⟨rfl, ?_⟩
    omega
end
theorem shaped_py {x : D} (h : okD 64 x = true) : SeqAt.shaped (toPy x) = true := by
  have := lay_py 64 x h
  unfold SeqAt.shaped
  rw [this.1, decide_eq_true this.2]
  rfl
section
variable {K : Fr} {B H : Hp}
mutual
theorem Rp.dp (le : Le B H) : ∀ {n : Nat} {v : V} {d : D}, Rp K B v d → okD n d = true → Dp K H v (toPy d)
  | _, _, _, .non, _ => by simp only [toPy]; exact .non
  | _, _, _, .bl b, _ => by simp only [toPy]; exact .bl b
  | _, _, _, .int i, _ => by simp only [toPy]; exact .int i
  | _, _, _, .str x, _ => by
    simp only [toPy]
    rw [← txt_of (x := x) rfl]
    exact .str x
  | 0, _, _, .tup h l, q => by simp [okD] at q
  | n + 1, _, _, .tup h l, q => by
    simp only [toPy]
    exact .tup (le.sqt h) (RpL.dp le (n := n) l (by simpa [okD] using q))
  | 0, _, _, .lst h l, q => by simp [okD] at q
  | n + 1, _, _, .lst h l, q => by
    simp only [toPy]
    exact .lst (.inl (.inl (le.lst h))) (RpL.dp le (n := n) l (by simpa [okD] using q))
  | _, _, _, .dic h l, q => by simp [okD] at q
  | _, _, _, .scr h, q => by simp [okD] at q
theorem RpL.dp (le : Le B H) : ∀ {n : Nat} {v : List V} {d : List D}, RpL K B v d → okL n d = true → DpAll K H v (toPyL d)
  | _, _, _, .nil, _ => .nil
  | n, _, _, .cons h l, q => by
    simp only [okL, Bool.and_eq_true] at q
    exact .cons (Rp.dp le h q.1) (RpL.dp le l q.2)
end
theorem RpH.dp (le : Le B H) {n : Nat} {v : V} {d : D} (r : RpH K B H v d) (q : okD n d = true) : Dp K H v (toPy d) := by
  cases d with
  | non =>
    cases (show v = .non from r)
    exact .non
  | bl b =>
    cases (show v = .bl b from r)
    exact .bl b
  | int b =>
    cases (show v = .int b from r)
    exact .int b
  | str s =>
    cases r.txt
    exact .str _
  | tup l =>
    obtain ⟨a, xs, rfl, h, rl⟩ := r
    exact Rp.dp le (.tup h rl) q
  | lst l =>
    obtain ⟨a, xs, rfl, h, rl⟩ := r
    cases n with
    | zero => simp [okD] at q
    | succ n =>
      simp only [toPy]
      exact .lst (.inl (.inl h)) (RpL.dp le (n := n) rl (by simpa [okD] using q))
  | dic l => simp [okD] at q
  | scr l => simp [okD] at q
/-! ### == -/
def sc2 : D → D → Option Bool
  | .non, .non => some true
  | .non, .int _ => some false
  | .non, .bl _ => some false
  | .non, .str _ => some false
  | .int _, .non => some false
  | .bl _, .non => some false
  | .str _, .non => some false
  | .int a, .int b => some (decide (a = b))
  | .bl a, .bl b => some (decide (a = b))
  | .str a, .str b => some (decide (a = b))
  | _, _ => none
def oEq' (neg : Bool) (x y : D) (P : D → Prop) : Prop := match sc2 x y with
  | some b => P (.bl (neg ^^ b))
  | none => okD 64 x = true ∧ okD 64 y = true ∧ P (.bl (neg ^^ eqv x y))
def oEq : O2 := oEq' false
def oNe : O2 := oEq' true
def rEqA (K : Fr) : R2 := fun x y H Q => rEq x y H Q ∨ rEqD K x y H Q
def rNeA (K : Fr) : R2 := fun x y H Q => rNe x y H Q ∨ rNeD K x y H Q
theorem x_eq {X : Cx} {k : Nat} (hr : Room k X.A) : OpR X (compareOp .Eq) (rEqA X.K) := op_eq.or (op_eqD hr.units)
theorem x_ne {X : Cx} {k : Nat} (hr : Room k X.A) : OpR X (compareOp .NotEq) (rNeA X.K) := op_ne.or (op_neD hr.units)
theorem sc2_v {x y : V} {dx dy : D} {b : Bool} (hx : RpH K B H x dx) (hy : RpH K B H y dy) (h : sc2 dx dy = some b) : scal x y = true ∧ decide (x = y) = b := by
  cases dx with
  | non =>
    rw [show x = V.non from hx]
    cases dy with
    | non => rw [show y = _ from hy]; cases h; exact ⟨rfl, by simp⟩
    | int i => rw [show y = _ from hy]; cases h; exact ⟨rfl, by simp⟩
    | bl i => rw [show y = _ from hy]; cases h; exact ⟨rfl, by simp⟩
    | str i => rw [hy.txt]; cases h; exact ⟨rfl, by simp⟩
    | _ => cases h
  | int i =>
    rw [show x = V.int i from hx]
    cases dy with
    | non => rw [show y = _ from hy]; cases h; exact ⟨rfl, by simp⟩
    | int j =>
      rw [show y = _ from hy]
      have h' : decide (i = j) = b := Option.some.inj h
      exact ⟨rfl, by rw [← h']; simp⟩
    | _ => cases h
  | bl i =>
    rw [show x = V.bl i from hx]
    cases dy with
    | non => rw [show y = _ from hy]; cases h; exact ⟨rfl, by simp⟩
    | bl j =>
      rw [show y = _ from hy]
      have h' : decide (i = j) = b := Option.some.inj h
      exact ⟨rfl, by rw [← h']; simp⟩
    | _ => cases h
  | str i =>
    rw [hx.txt]
    cases dy with
    | non => rw [show y = _ from hy]; cases h; exact ⟨rfl, by simp⟩
    | str j =>
      rw [hy.txt]
      have h' : decide (i = j) = b := Option.some.inj h
      refine ⟨rfl, ?_⟩
      rw [← h']
      exact decide_eq_decide.mpr ⟨fun z => txt_inj.mp (V.str.inj z), fun z => by rw [z]⟩
    | _ => cases h
  | _ => cases h
theorem s_eq : Sim2 K (rEqA K) oEq := fun {B H x y dx dy P Q} le hx hy q k => by
  unfold oEq oEq' at q
  split at q
  · rename_i b e
    obtain ⟨h1, h2⟩ := sc2_v hx hy e
    rw [Bool.false_xor] at q
    exact .inl ⟨h1, by rw [h2]; exact k _ _ B H (Gr.ie le) (.bl _) q⟩
  · obtain ⟨h1, h2, q⟩ := q
    refine .inr ⟨_, _, hx.dp le h1, hy.dp le h2, shaped_py h1, shaped_py h2, ?_⟩
    rw [eqv_py 64 64 _ _ h1 h2]
    rw [Bool.false_xor] at q
    exact k _ _ B H (Gr.ie le) (.bl _) q
theorem s_ne : Sim2 K (rNeA K) oNe := fun {B H x y dx dy P Q} le hx hy q k => by
  unfold oNe oEq' at q
  split at q
  · rename_i b e
    obtain ⟨h1, h2⟩ := sc2_v hx hy e
    rw [Bool.true_xor] at q
    exact .inl ⟨h1, by rw [h2]; exact k _ _ B H (Gr.ie le) (.bl _) q⟩
  · obtain ⟨h1, h2, q⟩ := q
    refine .inr ⟨_, _, hx.dp le h1, hy.dp le h2, shaped_py h1, shaped_py h2, ?_⟩
    rw [eqv_py 64 64 _ _ h1 h2]
    rw [Bool.true_xor] at q
    exact k _ _ B H (Gr.ie le) (.bl _) q
/-! ### in -/
def flatD : D → Bool
  | .non => true
  | .bl _ => true
  | .int _ => true
  | .str _ => true
  | _ => false
theorem flat_v {v : V} {d : D} (r : RpH K B H v d) (f : flatD d = true) : flatV v = true := by
  cases d with
  | non => rw [show v = _ from r]; rfl
  | bl b => rw [show v = _ from r]; rfl
  | int b => rw [show v = _ from r]; rfl
  | str s => rw [r.txt]; rfl
  | _ => cases f
theorem flat_eqv {x y : V} {dx dy : D} (hx : RpH K B H x dx) (hy : RpH K B H y dy) (fx : flatD dx = true) (fy : flatD dy = true) : eqV x y = eqv dx dy := by
  cases dx <;> first
    | cases fx
    | skip
  all_goals cases dy <;> first
    | cases fy
    | skip
  all_goals first
    | (rw [hx.txt, hy.txt]; simp only [eqV, eqv]; rw [Bool.eq_iff_iff, beq_iff_eq, beq_iff_eq]; exact txt_inj)
    | (rw [hx.txt, show y = _ from hy]; simp only [eqV, eqv])
    | (rw [show x = _ from hx, hy.txt]; simp only [eqV, eqv])
    | (rw [show x = _ from hx, show y = _ from hy]; simp only [eqV, eqv])
theorem all_flat (le : Le B H) : ∀ {xs : List V} {l : List D}, RpL K B xs l → l.all flatD = true → xs.all flatV = true
  | _, _, .nil, _ => rfl
  | _, _, .cons r t, h => by
    rw [List.all_cons, Bool.and_eq_true] at h
    rw [List.all_cons, flat_v (r.h le) h.1, all_flat le t h.2]
    rfl
theorem any_flat (le : Le B H) {x : V} {dx : D} (hx : RpH K B H x dx) (fx : flatD dx = true) : ∀ {xs : List V} {l : List D}, RpL K B xs l → l.all flatD = true → inV x xs = l.any fun d => eqv d dx
  | _, _, .nil, _ => rfl
  | _, _, .cons r t, h => by
    rw [List.all_cons, Bool.and_eq_true] at h
    unfold inV
    rw [List.any_cons, List.any_cons, flat_eqv (r.h le) hx h.1 fx]
    have := any_flat le hx fx t h.2
    unfold inV at this
    rw [this]
/-- whether the one text is read in the other one -/
def inS (a b : List Nat) : Bool := !(Builtin.Str.occurrences (txt b) (txt a) 0 (txt b).length 1).isEmpty
def oIn' (neg : Bool) (x y : D) (P : D → Prop) : Prop := match x, y with
  | .str a, .str b => P (.bl (neg ^^ inS a b))
  | x, .lst l => (flatD x = true ∧ l.all flatD = true ∧ P (.bl (neg ^^ l.any fun d => eqv d x))) ∨ (okD 63 x = true ∧ okD 64 (.lst l) = true ∧ P (.bl (neg ^^ l.any fun d => eqv d x)))
  | x, .tup l => flatD x = true ∧ l.all flatD = true ∧ P (.bl (neg ^^ l.any fun d => eqv d x))
  | _, _ => False
def oIn : O2 := oIn' false
def oNotIn : O2 := oIn' true
def rInT : R2 := fun x y H Q => ∃ i j, x = .str i ∧ y = .str j ∧ Q (.bl (!(Builtin.Str.occurrences j i 0 j.length 1).isEmpty)) H
def rNotInT : R2 := fun x y H Q => ∃ i j, x = .str i ∧ y = .str j ∧ Q (.bl (!(!(Builtin.Str.occurrences j i 0 j.length 1).isEmpty))) H
def rInA (K : Fr) : R2 := fun x y H Q => rInT x y H Q ∨ rIn K false x y H Q ∨ rInD K x y H Q
def rNotInA (K : Fr) : R2 := fun x y H Q => rNotInT x y H Q ∨ rIn K true x y H Q ∨ rNotInD K x y H Q
theorem room65 {k : Nat} {A : Around} (r : Room k A) : A.units + 65 < cLine := by
  have := r.un
  omega
theorem x_in {X : Cx} {k : Nat} (hr : Room k X.A) : OpR X (compareOp .In) (rInA X.K) := OpR.or op_in_str (OpR.or op_in_seq (op_inD (room65 hr)))
theorem x_notin {X : Cx} {k : Nat} (hr : Room k X.A) : OpR X (compareOp .NotIn) (rNotInA X.K) := OpR.or op_notin_str (OpR.or op_notIn_seq (op_notInD (room65 hr)))
theorem any_py {n : Nat} {x : D} (hx : okD 63 x = true) : ∀ {l : List D}, okL n l = true → ((toPyL l).any fun z => PyData.eqv z (toPy x)) = l.any fun d => eqv d x
  | [], _ => rfl
  | d :: l, h => by
    simp only [okL, Bool.and_eq_true] at h
    simp only [toPyL, List.any_cons]
    rw [eqv_py n 63 _ _ h.1 hx, any_py hx h.2]
theorem shaped63 {x : D} (h : okD 63 x = true) : SeqAt.shaped (toPy x) = true := by
  have := lay_py 63 x h
  unfold SeqAt.shaped
  rw [this.1, decide_eq_true (by omega)]
  rfl
theorem in_cases {neg : Bool} {x y : D} {P : D → Prop} (q : oIn' neg x y P) : (∃ a b, x = .str a ∧ y = .str b ∧ P (.bl (neg ^^ inS a b))) ∨
    (∃ l, (y = .lst l ∨ y = .tup l) ∧ flatD x = true ∧ l.all flatD = true ∧ P (.bl (neg ^^ l.any fun d => eqv d x))) ∨
    (∃ l, y = .lst l ∧ okD 63 x = true ∧ okD 64 (.lst l) = true ∧ P (.bl (neg ^^ l.any fun d => eqv d x))) := by
  cases y with
  | str b =>
    cases x with
    | str a => exact .inl ⟨a, b, rfl, rfl, q⟩
    | _ => exact q.elim
  | lst l =>
    have q' : (flatD x = true ∧ l.all flatD = true ∧ P (.bl (neg ^^ l.any fun d => eqv d x))) ∨ (okD 63 x = true ∧ okD 64 (.lst l) = true ∧ P (.bl (neg ^^ l.any fun d => eqv d x))) := by
      cases x <;> exact q
    rcases q' with z | z
    · exact .inr (.inl ⟨l, .inl rfl, z⟩)
    · exact .inr (.inr ⟨l, rfl, z⟩)
  | tup l =>
    have q' : flatD x = true ∧ l.all flatD = true ∧ P (.bl (neg ^^ l.any fun d => eqv d x)) := by
      cases x <;> exact q
    exact .inr (.inl ⟨l, .inr rfl, q'⟩)
  | _ => cases x <;> exact q.elim
theorem seq_of {y : V} {l : List D} {dy : D} (le : Le B H) (hy : RpH K B H y dy) (h : dy = .lst l ∨ dy = .tup l) : ∃ p xs, y = .ref p ∧ (SqL K H p xs ∨ SqT K H p xs) ∧ RpL K B xs l := by
  rcases h with rfl | rfl
  · obtain ⟨a, xs, e, h, r⟩ := hy
    exact ⟨a, xs, e, .inl (.inl (.inl h)), r⟩
  · obtain ⟨a, xs, e, h, r⟩ := hy
    exact ⟨a, xs, e, .inr (le.sqt h), r⟩
theorem s_in : Sim2 K (rInA K) oIn := fun {B H x y dx dy P Q} le hx hy q k => by
  rcases in_cases q with ⟨a, b, rfl, rfl, p⟩ | ⟨l, e, fx, fl, p⟩ | ⟨l, rfl, ox, ol, p⟩
  · rw [Bool.false_xor] at p
    exact .inl ⟨_, _, hx.txt, hy.txt, k _ _ B H (Gr.ie le) (.bl _) p⟩
  · rw [Bool.false_xor] at p
    obtain ⟨a, xs, e1, e2, r⟩ := seq_of le hy e
    refine .inr (.inl ⟨a, xs, e1, e2, flat_v hx fx, all_flat le r fl, ?_⟩)
    show Q (.bl (inV x xs)) H
    rw [any_flat le hx fx r fl]
    exact k _ _ B H (Gr.ie le) (.bl _) p
  · rw [Bool.false_xor] at p
    have ol' : okL 63 l = true := by simpa [okD] using ol
    have d2 := hy.dp le ol
    have s2 := shaped_py ol
    simp only [toPy] at d2 s2
    refine .inr (.inr ⟨_, _, hx.dp le ox, d2, shaped63 ox, s2, ?_⟩)
    rw [any_py ox ol']
    exact k _ _ B H (Gr.ie le) (.bl _) p
theorem s_notin : Sim2 K (rNotInA K) oNotIn := fun {B H x y dx dy P Q} le hx hy q k => by
  rcases in_cases q with ⟨a, b, rfl, rfl, p⟩ | ⟨l, e, fx, fl, p⟩ | ⟨l, rfl, ox, ol, p⟩
  · rw [Bool.true_xor] at p
    exact .inl ⟨_, _, hx.txt, hy.txt, k _ _ B H (Gr.ie le) (.bl _) p⟩
  · rw [Bool.true_xor] at p
    obtain ⟨a, xs, e1, e2, r⟩ := seq_of le hy e
    refine .inr (.inl ⟨a, xs, e1, e2, flat_v hx fx, all_flat le r fl, ?_⟩)
    show Q (.bl (!inV x xs)) H
    rw [any_flat le hx fx r fl]
    exact k _ _ B H (Gr.ie le) (.bl _) p
  · rw [Bool.true_xor] at p
    have ol' : okL 63 l = true := by simpa [okD] using ol
    have d2 := hy.dp le ol
    have s2 := shaped_py ol
    simp only [toPy] at d2 s2
    refine .inr (.inr ⟨_, _, hx.dp le ox, d2, shaped63 ox, s2, ?_⟩)
    rw [any_py ox ol']
    exact k _ _ B H (Gr.ie le) (.bl _) p
/-! ### is None -/
def isN : D → Bool
  | .non => true
  | _ => false
theorem isN_v {x : V} {dx : D} (hx : RpH K B H x dx) : decide (x = .non) = isN dx := by
  cases dx with
  | non => rw [show x = _ from hx]; rfl
  | bl b => rw [show x = _ from hx]; rfl
  | int b => rw [show x = _ from hx]; rfl
  | str s => rw [hx.txt]; rfl
  | tup l =>
    obtain ⟨a, xs, rfl, _⟩ := hx
    rfl
  | lst l =>
    obtain ⟨a, xs, rfl, _⟩ := hx
    rfl
  | dic l =>
    obtain ⟨a, ks, rfl, _⟩ := hx
    rfl
  | scr l =>
    obtain ⟨a, rfl, _⟩ := hx
    rfl
def oIs : O2 := fun x y P => y = .non ∧ P (.bl (isN x))
def oIsNot : O2 := fun x y P => y = .non ∧ P (.bl (!isN x))
theorem s_is : Sim2 K (fun x y H Q => y = .non ∧ Q (.bl (decide (x = .non))) H) oIs := fun {B H x y dx dy P Q} le hx hy q k => by
  obtain ⟨rfl, q⟩ := q
  refine ⟨hy, ?_⟩
  rw [isN_v hx]
  exact k _ _ B H (Gr.ie le) (.bl _) q
theorem s_isnot : Sim2 K (fun x y H Q => y = .non ∧ Q (.bl (!decide (x = .non))) H) oIsNot := fun {B H x y dx dy P Q} le hx hy q k => by
  obtain ⟨rfl, q⟩ := q
  refine ⟨hy, ?_⟩
  rw [isN_v hx]
  exact k _ _ B H (Gr.ie le) (.bl _) q
end
end Dl
end

section
/-! Dl5: tests, and/or/not, conditional expressions, arguments, displays, indices, slices on plain data. -/
namespace Dl
open PySem L2 PyProof.Rows
section
variable {K : Fr} {E : XK} {B H : Hp}
/-! ### one operand -/
def dUn (op : O1) (ea : ED) : ED := fun R ρ m P => ea R ρ m fun x m1 => bnd (view m1 x) fun dx => op dx fun z => P (.d z) m1
theorem sim_un {r : V → Hp → VK → Prop} {op : O1} {ta : TE} {ea : ED} (ho : Sim1 K r op) (ha : SimE K E ta ea) : SimE K E (tUn r ta) (dUn op ea) := fun w l e q k =>
  ha w l e q fun x sx m1 B1 H1 A1 x1 w1 r1 q1 => by
    obtain ⟨dx, e1, q3⟩ := bnd_at q1
    exact ho w1.le (view_h w1 r1 e1) q3 fun v d B' H' g r p => k v (.d d) m1 B' H' A1 (x1.tr g.xt) (w1.gr g) r p
/-! ### tests -/
def asB : SV → (Bool → Prop) → Prop
  | .d (.bl b), P => P b
  | _, _ => False
def asI : SV → (Int → Prop) → Prop
  | .d (.int b), P => P b
  | _, _ => False
def dTest (e : ED) : TD := fun R ρ m P => e R ρ m fun s m1 => asB s fun b => P b m1
theorem bl_of {A : List Addr} {v : V} {s : SV} {P : Bool → Prop} (r : RpS K B A v s) (q : asB s P) : ∃ b, v = .bl b ∧ P b := by
  cases s with
  | o i => exact q.elim
  | d x =>
    cases x with
    | bl b =>
      cases (show Rp K B v (.bl b) from r) with
      | bl => exact ⟨b, rfl, q⟩
    | _ => exact q.elim
theorem int_of {A : List Addr} {v : V} {s : SV} {P : Int → Prop} (r : RpS K B A v s) (q : asI s P) : ∃ b, v = .int b ∧ P b := by
  cases s with
  | o i => exact q.elim
  | d x =>
    cases x with
    | int b =>
      cases (show Rp K B v (.int b) from r) with
      | int => exact ⟨b, rfl, q⟩
    | _ => exact q.elim
theorem sim_test {t : TE} {e : ED} (h : SimE K E t e) : SimT K E (tTest t) (dTest e) := fun w l er q k => h w l er q fun v s m' B' H' A' x w' r z => by
  obtain ⟨b, eb, z⟩ := bl_of r z
  exact ⟨b, eb, k b m' B' H' A' x w' z⟩
theorem sim_B {t : TE} {e : ED} (h : SimE K E t e) : SimT K E (tB t) (dTest e) := fun w l er q k => h w l er q fun v s m' B' H' A' x w' r z => by
  obtain ⟨b, eb, z⟩ := bl_of r z
  exact ⟨b, eb, k b m' B' H' A' x w' z⟩
/-- the truth of a value -/
def truD : D → (Bool → Prop) → Prop
  | .non => fun P => P false
  | .bl b => fun P => P b
  | .int i => fun P => P (i != 0)
  | .str s => fun P => s.length ≤ 16777216 ∧ P (!s.isEmpty)
  | .lst l => fun P => P (!l.isEmpty)
  | .tup l => fun P => P (!l.isEmpty)
  | _ => fun _ => False
def dTruth (e : ED) : TD := fun R ρ m P => e R ρ m fun s m1 => bnd (view m1 s) fun d => truD d fun b => P b m1
theorem isEmpty_rp {xs : List V} {l : List D} (r : RpL K B xs l) : xs.isEmpty = l.isEmpty := by
  cases r <;> rfl
theorem tru_of {v : V} {d : D} {P : Bool → Prop} (le : Le B H) (r : RpH K B H v d) (q : truD d P) : ∃ b, TruV K v H b ∧ P b := by
  cases d with
  | non => rw [show v = _ from r]; exact ⟨false, rfl, q⟩
  | bl b => rw [show v = _ from r]; exact ⟨b, rfl, q⟩
  | int b => rw [show v = _ from r]; exact ⟨_, rfl, q⟩
  | str s =>
    rw [r.txt]
    refine ⟨_, ⟨by rw [txt_len, lim_eq]; exact q.1, rfl⟩, ?_⟩
    have e : (((txt s).length : Int) != 0) = !s.isEmpty := by
      rw [txt_len]
      cases s with
      | nil => rfl
      | cons a s =>
        show (((s.length + 1 : Nat) : Int) != 0) = true
        exact bne_iff_ne.mpr (by omega)
    rw [e]
    exact q.2
  | lst l =>
    obtain ⟨a, xs, rfl, h, rl⟩ := r
    exact ⟨_, .inl ⟨xs, .inl (.inl h), rfl⟩, by rw [isEmpty_rp rl]; exact q⟩
  | tup l =>
    obtain ⟨a, xs, rfl, h, rl⟩ := r
    exact ⟨_, .inr (.inl ⟨xs, le.sqt h, rfl⟩), by rw [isEmpty_rp rl]; exact q⟩
  | _ => exact q.elim
theorem sim_truth {t : TE} {e : ED} (h : SimE K E t e) : SimT K E (fun σ H Q => t σ H fun x H' => ∃ k, TruV K x H' k ∧ Q k H') (dTruth e) := fun w l er q k => h w l er q fun v s m' B' H' A' x w' r z => by
  obtain ⟨d, e1, z⟩ := bnd_at z
  obtain ⟨b, tb, z⟩ := tru_of w'.le (view_h w' r e1) z
  exact ⟨b, tb, k b m' B' H' A' x w' z⟩
def dAnd (a b : TD) : TD := fun R ρ m P => a R ρ m fun c m1 => if c = true then b R ρ m1 P else P false m1
def dOr (a b : TD) : TD := fun R ρ m P => a R ρ m fun c m1 => if c = true then P true m1 else b R ρ m1 P
def dNot (a : TD) : TD := fun R ρ m P => a R ρ m fun c m1 => P (!c) m1
theorem sim_and {t u : TT} {a b : TD} (ha : SimT K E t a) (hb : SimT K E u b) : SimT K E (tAnd t u) (dAnd a b) := fun w l e q k => ha w l e q fun c m1 B1 H1 A1 x1 w1 q1 => by
  cases c with
  | true => exact hb w1 (l.x x1) (e.x x1) q1 fun b m2 B2 H2 A2 x2 w2 q2 => k b m2 B2 H2 A2 (x1.tr x2) w2 q2
  | false => exact k false m1 B1 H1 A1 x1 w1 q1
theorem sim_or {t u : TT} {a b : TD} (ha : SimT K E t a) (hb : SimT K E u b) : SimT K E (tOr t u) (dOr a b) := fun w l e q k => ha w l e q fun c m1 B1 H1 A1 x1 w1 q1 => by
  cases c with
  | true => exact k true m1 B1 H1 A1 x1 w1 q1
  | false => exact hb w1 (l.x x1) (e.x x1) q1 fun b m2 B2 H2 A2 x2 w2 q2 => k b m2 B2 H2 A2 (x1.tr x2) w2 q2
theorem sim_not {t : TT} {a : TD} (ha : SimT K E t a) : SimT K E (tNot t) (dNot a) := fun w l e q k => ha w l e q fun c m1 B1 H1 A1 x1 w1 q1 => k (!c) m1 B1 H1 A1 x1 w1 q1
def dAndV (a b : ED) : ED := fun R ρ m P => dTest a R ρ m fun c m1 => if c = true then b R ρ m1 P else P (.d (.bl false)) m1
def dOrV (a b : ED) : ED := fun R ρ m P => dTest a R ρ m fun c m1 => if c = true then P (.d (.bl true)) m1 else b R ρ m1 P
def dNotV (a : ED) : ED := fun R ρ m P => dTest a R ρ m fun c m1 => P (.d (.bl (!c))) m1
theorem sim_andV {t u : TE} {a b : ED} (ha : SimE K E t a) (hb : SimE K E u b) : SimE K E (tAndV t u) (dAndV a b) := fun w l e q k => ha w l e q fun v s m1 B1 H1 A1 x1 w1 r1 q1 => by
  obtain ⟨c, rfl, q1⟩ := bl_of r1 q1
  refine ⟨c, rfl, ?_⟩
  cases c with
  | true => exact hb w1 (l.x x1) (e.x x1) q1 fun v s m2 B2 H2 A2 x2 w2 r2 q2 => k v s m2 B2 H2 A2 (x1.tr x2) w2 r2 q2
  | false => exact k _ _ m1 B1 H1 A1 x1 w1 (show RpS K B1 A1 (.bl false) (.d (.bl false)) from .bl false) q1
theorem sim_orV {t u : TE} {a b : ED} (ha : SimE K E t a) (hb : SimE K E u b) : SimE K E (tOrV t u) (dOrV a b) := fun w l e q k => ha w l e q fun v s m1 B1 H1 A1 x1 w1 r1 q1 => by
  obtain ⟨c, rfl, q1⟩ := bl_of r1 q1
  refine ⟨c, rfl, ?_⟩
  cases c with
  | true => exact k _ _ m1 B1 H1 A1 x1 w1 (show RpS K B1 A1 (.bl true) (.d (.bl true)) from .bl true) q1
  | false => exact hb w1 (l.x x1) (e.x x1) q1 fun v s m2 B2 H2 A2 x2 w2 r2 q2 => k v s m2 B2 H2 A2 (x1.tr x2) w2 r2 q2
theorem sim_notV {t : TE} {a : ED} (ha : SimE K E t a) : SimE K E (tNotV t) (dNotV a) := fun w l e q k => ha w l e q fun v s m1 B1 H1 A1 x1 w1 r1 q1 => by
  obtain ⟨c, rfl, q1⟩ := bl_of r1 q1
  exact ⟨c, rfl, k _ _ m1 B1 H1 A1 x1 w1 (show RpS K B1 A1 (.bl (!c)) (.d (.bl (!c))) from .bl _) q1⟩
def dIfE (c : TD) (a b : ED) : ED := fun R ρ m P => c R ρ m fun c m1 => if c = true then a R ρ m1 P else b R ρ m1 P
theorem sim_ifE {c : TT} {t u : TE} {dc : TD} {a b : ED} (hc : SimT K E c dc) (ha : SimE K E t a) (hb : SimE K E u b) : SimE K E (tIf c t u) (dIfE dc a b) := fun w l e q k => hc w l e q fun c m1 B1 H1 A1 x1 w1 q1 => by
  cases c with
  | true => exact ha w1 (l.x x1) (e.x x1) q1 fun v s m2 B2 H2 A2 x2 w2 r2 q2 => k v s m2 B2 H2 A2 (x1.tr x2) w2 r2 q2
  | false => exact hb w1 (l.x x1) (e.x x1) q1 fun v s m2 B2 H2 A2 x2 w2 r2 q2 => k v s m2 B2 H2 A2 (x1.tr x2) w2 r2 q2
/-- a op b op' c -/
def dChain (op op' : O2) (ea eb ec : ED) : ED := fun R ρ m P => ea R ρ m fun x m1 => eb R ρ m1 fun y m2 => bnd (view m2 x) fun dx => bnd (view m2 y) fun dy => op dx dy fun z => match z with
  | .bl true => ec R ρ m2 fun w m3 => bnd (view m3 y) fun dy => bnd (view m3 w) fun dw => op' dy dw fun z => P (.d z) m3
  | .bl false => P (.d (.bl false)) m2
  | _ => False
theorem sim_chain {r r' : R2} {op op' : O2} {ta tb tc : TE} {ea eb ec : ED} (ho : Sim2 K r op) (ho' : Sim2 K r' op') (ha : SimE K E ta ea) (hb : SimE K E tb eb) (hc : SimE K E tc ec) : SimE K E (tChain r r' ta tb tc) (dChain op op' ea eb ec) := fun w l e q k =>
  ha w l e q fun x sx m1 B1 H1 A1 x1 w1 r1 q1 => hb w1 (l.x x1) (e.x x1) q1 fun y sy m2 B2 H2 A2 x2 w2 r2 q2 => by
    obtain ⟨dx, e1, q3⟩ := bnd_at q2
    obtain ⟨dy, e2, q4⟩ := bnd_at q3
    refine ho w2.le (view_h w2 (r1.up x2.b x2.a) e1) (view_h w2 r2 e2) q4 fun v d B3 H3 g r p => ?_
    cases d with
    | bl c =>
      cases r
      refine ⟨c, rfl, ?_⟩
      cases c with
      | true =>
        show tc _ H3 _
        have x3 := (x1.tr x2).tr (g.xt (A := A2))
        refine hc (w2.gr g) (l.x x3) (e.x x3) p fun z sz m4 B4 H4 A4 x4 w4 r4 q5 => ?_
        obtain ⟨dy, e3, q6⟩ := bnd_at q5
        obtain ⟨dz, e4, q7⟩ := bnd_at q6
        exact ho' w4.le (view_h w4 ((r2.up (g.xt (A := A2)).b (g.xt (A := A2)).a).up x4.b x4.a) e3) (view_h w4 r4 e4) q7 fun v d B' H' g' r p => k v (.d d) m4 B' H' A4 ((x3.tr x4).tr g'.xt) (w4.gr g') r p
      | false =>
        show _
        exact k (.bl false) (.d (.bl false)) m2 B3 H3 A2 ((x1.tr x2).tr g.xt) (w2.gr g) (show RpS K B3 A2 (.bl false) (.d (.bl false)) from .bl false) p
    | _ => exact p.elim
/-! ### arguments, displays -/
def dNil : AD := fun _ _ m P => P [] m
def dCons (a : ED) (r : AD) : AD := fun R ρ m P => a R ρ m fun x m1 => r R ρ m1 fun xs m2 => P (x :: xs) m2
theorem sim_nil : SimA K E tNil dNil := fun {B H A m σ ρ P R Q} w l e q k => k [] [] m B H A Xt.ie w .nil q
theorem sim_cons {t : TE} {u : TA} {a : ED} {r : AD} (ha : SimE K E t a) (hr : SimA K E u r) : SimA K E (tCons t u) (dCons a r) := fun w l e q k => ha w l e q fun v s m1 B1 H1 A1 x1 w1 r1 q1 =>
  hr w1 (l.x x1) (e.x x1) q1 fun vs ss m2 B2 H2 A2 x2 w2 r2 q2 => k (v :: vs) (s :: ss) m2 B2 H2 A2 (x1.tr x2) w2 (.cons (r1.up x2.b x2.a) r2) q2
/-- all of them plain -/
def allD : List SV → Option (List D)
  | [] => some []
  | .d x :: l => (allD l).map (x :: ·)
  | .o _ :: _ => none
theorem allD_rp {A : List Addr} : ∀ {vs : List V} {ss : List SV} {ds : List D}, All2 (RpS K B A) vs ss → allD ss = some ds → RpL K B vs ds
  | _, _, _, .nil, e => by
    cases e
    exact .nil
  | v :: vs, .d x :: ss, ds, .cons r t, e => by
    have e' : (allD ss).map (x :: ·) = some ds := e
    cases h : allD ss with
    | none =>
      rw [h] at e'
      cases e'
    | some l =>
      rw [h] at e'
      cases e'
      exact .cons r (allD_rp t h)
  | v :: vs, .o i :: ss, ds, .cons r t, e => by cases e
def dTup (a : AD) : ED := fun R ρ m P => a R ρ m fun ss m1 => bnd (allD ss) fun ds => ds.length ≤ 16777216 ∧ P (.d (.tup ds)) m1
theorem sim_tup {t : TA} {a : AD} (h : SimA K E t a) : SimE K E (tTup t) (dTup a) := fun w l e q k => h w l e q fun vs ss m1 B1 H1 A1 x1 w1 r1 q1 => by
  obtain ⟨ds, ed, hl, p⟩ := bnd_at q1
  have rl := allD_rp r1 ed
  exact ⟨by rw [lim_eq, rl.len]; exact hl, fun n hn => k _ (.d (.tup ds)) m1 _ _ A1 (x1.tr (Xt.laid hn (w1.le.free hn))) (w1.laid hn)
    (show RpS K _ A1 (.ref n) (.d (.tup ds)) from Rp.tup (.inl (.inl upd_same)) (RpL.up (Ex.new (w1.le.free hn)) rl)) p⟩
def dLst (a : AD) : FD := fun R ρ m P => a R ρ m fun ss m1 => bnd (allD ss) fun ds => ds.length ≤ 16777216 ∧ P ds m1
theorem sim_lst {t : TA} {a : AD} (h : SimA K E t a) : SimF K E (tLst t) (dLst a) := fun w l e q k => h w l e q fun vs ss m1 B1 H1 A1 x1 w1 r1 q1 => by
  obtain ⟨ds, ed, hl, p⟩ := bnd_at q1
  have rl := allD_rp r1 ed
  exact ⟨by rw [lim_eq, rl.len]; exact hl, fun n hn => k n vs ds m1 B1 _ A1 (x1.tr (Xt.lost hn)) (w1.lost hn) (x1.d n hn) (w1.le.free hn) (w1.notin hn) upd_same rl p⟩
/-! ### s[i] -/
def oIx : O2
  | .lst l, .int i => fun P => bnd (atI l i) P
  | .tup l, .int i => fun P => bnd (atI l i) P
  | .scr l, .int i => fun P => bnd (atI l i) fun n => P (.int n)
  | .str s, .int i => fun P => s.length ≤ 16777216 ∧ bnd (atI s i) fun c => P (.str [c])
  | _, _ => fun _ => False
theorem atI_rp {xs : List V} {l : List D} {i : Int} {d : D} (r : RpL K B xs l) (e : atI l i = some d) : ∃ v, atI xs i = some v ∧ Rp K B v d := by
  unfold atI at e ⊢
  rw [r.len]
  cases h : ixN l.length i with
  | none =>
    rw [h] at e
    cases e
  | some j =>
    rw [h] at e
    exact r.get e
theorem atI_map {α β : Type} {f : α → β} {xs : List α} {i : Int} {a : α} (e : atI xs i = some a) : atI (xs.map f) i = some (f a) := by
  unfold atI at e ⊢
  rw [List.length_map]
  cases h : ixN xs.length i with
  | none =>
    rw [h] at e
    cases e
  | some j =>
    rw [h] at e
    show (xs.map f)[j]? = some (f a)
    have e' : xs[j]? = some a := e
    rw [List.getElem?_map, e']
    rfl
theorem s_ix : Sim2 K (rIx K) oIx := fun {B H x y dx dy P Q} le hx hy q k => by
  cases dy with
  | int i =>
    cases dx with
    | lst l =>
      obtain ⟨d, e, p⟩ := bnd_at (show bnd (atI l i) P from q)
      obtain ⟨a, xs, rfl, h, r⟩ := hx
      obtain ⟨v, ev, rv⟩ := atI_rp r e
      exact .inl ⟨a, xs, i, v, rfl, hy, .inl (.inl h), ev, k v d B H (Gr.ie le) rv p⟩
    | tup l =>
      obtain ⟨d, e, p⟩ := bnd_at (show bnd (atI l i) P from q)
      obtain ⟨a, xs, rfl, h, r⟩ := hx
      obtain ⟨v, ev, rv⟩ := atI_rp r e
      exact .inr (.inl ⟨a, xs, i, v, rfl, hy, le.sqt h, ev, k v d B H (Gr.ie le) rv p⟩)
    | scr l =>
      obtain ⟨d, e, p⟩ := bnd_at (show bnd (atI l i) fun n => P (.int n) from q)
      obtain ⟨a, rfl, h⟩ := hx
      exact .inl ⟨a, _, i, .int d, rfl, hy, le.sql h, atI_map e, k _ _ B H (Gr.ie le) (.int d) p⟩
    | str s =>
      obtain ⟨h1, q⟩ := q
      obtain ⟨c, e, p⟩ := bnd_at q
      exact .inr (.inr ⟨txt s, i, c, hx.txt, hy, by rw [txt_len, lim_eq]; exact h1, e, k _ _ B H (Gr.ie le) (rp_str [c]) p⟩)
    | _ => exact q.elim
  | _ => cases dx <;> exact q.elim
/-! ### slices -/
abbrev OD := ER → Rho → Mu → (Option Int → Mu → Prop) → Prop
def SimO (K : Fr) (E : XK) (t : TO) (e : OD) : Prop := ∀ {B H A m σ ρ P R} {Q : Option Int → Hp → Prop}, Wr K B H A m → Sl K B A σ ρ → Erk K E R B H A → e R ρ m P →
  (∀ b m' B' H' A', Xt B H A B' H' A' → Wr K B' H' A' m' → P b m' → Q b H') → t σ H Q
def dNoPart : OD := fun _ _ m P => P none m
def dPart (a : ED) : OD := fun R ρ m P => a R ρ m fun s m1 => asI s fun i => P (some i) m1
theorem sim_noPart : SimO K E tNoPart dNoPart := fun {B H A m σ ρ P R Q} w l e q k => k none m B H A Xt.ie w q
theorem sim_part {t : TE} {a : ED} (h : SimE K E t a) : SimO K E (tPart t) (dPart a) := fun w l e q k => h w l e q fun v s m1 B1 H1 A1 x1 w1 r1 q1 => by
  obtain ⟨i, ei, q1⟩ := int_of r1 q1
  exact ⟨i, ei, k (some i) m1 B1 H1 A1 x1 w1 q1⟩
def cut {α : Type} (l : List α) (lo hi : Option Int) : List α := (l.drop (HT.sIx l.length 0 lo)).take (HT.sIx l.length l.length hi - HT.sIx l.length 0 lo)
theorem cut_rp {xs : List V} {l : List D} (r : RpL K B xs l) (lo hi : Option Int) : RpL K B (cutV xs lo hi) (cut l lo hi) := by
  unfold cutV cut
  rw [r.len]
  exact (r.drop _).take _
def oSl (lo hi : Option Int) : O1
  | .str s => fun P => s.length ≤ 16777216 ∧ P (.str (cut s lo hi))
  | .tup l => fun P => P (.tup (cut l lo hi))
  | .lst l => fun P => P (.lst (cut l lo hi))
  | _ => fun _ => False
def rSlAny (K : Fr) : V → Option Int → Option Int → Hp → VK → Prop := fun x lo hi H Q => rSlS x lo hi H Q ∨ rSlA K x lo hi H Q ∨ rSlL K x lo hi H Q
theorem x_sl {X : Cx} : SlR X (rSlAny X.K) := SlR.or sl_str (SlR.or sl_tupA sl_list)
theorem cutS_txt (s : List Nat) (lo hi : Option Int) : cutS (txt s) lo hi = txt (cut s lo hi) := by
  unfold cutS cut
  rw [txt_len]
  rfl
theorem cut_all {α : Type} {l : List α} {lo hi : Option Int} (h : HT.sIx l.length 0 lo = 0 ∧ HT.sIx l.length l.length hi = l.length) : cut l lo hi = l := by
  unfold cut
  rw [h.1, h.2, List.drop_zero, Nat.sub_zero, List.take_length]
theorem s_sl {lo hi : Option Int} : Sim1 K (fun x H Q => rSlAny K x lo hi H Q) (oSl lo hi) := fun {B H x dx P Q} le hx q k => by
  cases dx with
  | str s =>
    refine .inl ⟨txt s, hx.txt, by rw [txt_len, lim_eq]; exact q.1, ?_⟩
    rw [cutS_txt]
    exact k _ _ B H (Gr.ie le) (rp_str _) q.2
  | tup l =>
    obtain ⟨a, xs, rfl, h, r⟩ := hx
    refine .inr (.inl ⟨a, xs, rfl, le.sqt h, fun z => ?_, fun z n hn => ?_⟩)
    · rw [r.len] at z
      refine k _ _ B H (Gr.ie le) (.tup h ?_) q
      rw [cut_all z]
      exact r
    · exact k _ _ _ _ (Gr.laid le hn) (.tup (.inl (.inl upd_same)) (RpL.up (Ex.new (le.free hn)) (cut_rp r lo hi))) q
  | lst l =>
    obtain ⟨a, xs, rfl, h, r⟩ := hx
    exact .inr (.inr ⟨a, xs, rfl, .inl (.inl h), fun n hn => k _ _ _ _ (Gr.laid le hn) (.lst upd_same (RpL.up (Ex.new (le.free hn)) (cut_rp r lo hi))) q⟩)
  | _ => exact q.elim
def dSl (a : ED) (lo hi : OD) : ED := fun R ρ m P => a R ρ m fun x m1 => lo R ρ m1 fun l m2 => hi R ρ m2 fun h m3 => bnd (view m3 x) fun dx => oSl l h dx fun z => P (.d z) m3
theorem sim_sl {t : TE} {a : ED} {tl th : TO} {lo hi : OD} (ha : SimE K E t a) (hl : SimO K E tl lo) (hh : SimO K E th hi) : SimE K E (tSl (rSlAny K) t tl th) (dSl a lo hi) := fun w l e q k =>
  ha w l e q fun x sx m1 B1 H1 A1 x1 w1 r1 q1 => hl w1 (l.x x1) (e.x x1) q1 fun y m2 B2 H2 A2 x2 w2 q2 => hh w2 ((l.x x1).x x2) (e.x (x1.tr x2)) q2 fun z m3 B3 H3 A3 x3 w3 q3 => by
    obtain ⟨dx, e1, q4⟩ := bnd_at q3
    exact s_sl w3.le (view_h w3 ((r1.up x2.b x2.a).up x3.b x3.a) e1) q4 fun v d B' H' g r p => k v (.d d) m3 B' H' A3 (((x1.tr x2).tr x3).tr g.xt) (w3.gr g) r p
/-- a part of a list, ours -/
def dSlF (a : ED) (lo hi : OD) : FD := fun R ρ m P => a R ρ m fun x m1 => lo R ρ m1 fun l m2 => hi R ρ m2 fun h m3 => bnd (view m3 x) fun dx => match dx with
  | .lst xs => P (cut xs l h) m3
  | _ => False
theorem sim_slF {t : TE} {a : ED} {tl th : TO} {lo hi : OD} (ha : SimE K E t a) (hl : SimO K E tl lo) (hh : SimO K E th hi) : SimF K E (tSl (rSlL K) t tl th) (dSlF a lo hi) := fun w l e q k =>
  ha w l e q fun x sx m1 B1 H1 A1 x1 w1 r1 q1 => hl w1 (l.x x1) (e.x x1) q1 fun y m2 B2 H2 A2 x2 w2 q2 => hh w2 ((l.x x1).x x2) (e.x (x1.tr x2)) q2 fun z m3 B3 H3 A3 x3 w3 q3 => by
    obtain ⟨dx, e1, q4⟩ := bnd_at q3
    cases dx with
    | lst ls =>
      obtain ⟨a, xs, rfl, h, r⟩ := view_h w3 ((r1.up x2.b x2.a).up x3.b x3.a) e1
      exact ⟨a, xs, rfl, .inl (.inl h), fun n hn => k n _ _ m3 B3 _ A3 (((x1.tr x2).tr x3).tr (Xt.lost hn)) (w3.lost hn) (((x1.tr x2).tr x3).d n hn) (w3.le.free hn) (w3.notin hn) upd_same (cut_rp r y z) q4⟩
    | _ => exact q4.elim
/-- xs[::-1] of a list -/
def dRev (a : ED) : FD := fun R ρ m P => a R ρ m fun x m1 => bnd (view m1 x) fun dx => match dx with
  | .lst xs => P xs.reverse m1
  | _ => False
theorem RpL.rev : ∀ {xs : List V} {l : List D}, RpL K B xs l → RpL K B xs.reverse l.reverse
  | _, _, .nil => .nil
  | _, _, .cons r t => by
    rw [List.reverse_cons, List.reverse_cons]
    exact RpL.app (RpL.rev t) (.cons r .nil)
theorem sim_rev {t : TE} {a : ED} (ha : SimE K E t a) : SimF K E (tRevL K t) (dRev a) := fun w l e q k =>
  ha w l e q fun x sx m1 B1 H1 A1 x1 w1 r1 q1 => by
    obtain ⟨dx, e1, q4⟩ := bnd_at q1
    cases dx with
    | lst ls =>
      obtain ⟨a, xs, rfl, h, r⟩ := view_h w1 r1 e1
      exact ⟨a, xs, rfl, .inl (.inl h), fun n hn => k n _ _ m1 B1 _ A1 (x1.tr (Xt.lost hn)) (w1.lost hn) (x1.d n hn) (w1.le.free hn) (w1.notin hn) upd_same r.rev q4⟩
    | _ => exact q4.elim
/-! ### calls of what is built in, by values -/
def allV (m : Mu) : List SV → Option (List D)
  | [] => some []
  | s :: l => (view m s).bind fun d => (allV m l).map (d :: ·)
theorem allV_h {A : List Addr} {m : Mu} (w : Wr K B H A m) : ∀ {vs : List V} {ss : List SV} {ds : List D}, All2 (RpS K B A) vs ss → allV m ss = some ds → All2 (RpH K B H) vs ds
  | _, _, _, .nil, e => by
    cases e
    exact .nil
  | v :: vs, s :: ss, ds, .cons r t, e => by
    have e' : (view m s).bind (fun d => (allV m ss).map (d :: ·)) = some ds := e
    cases h : view m s with
    | none =>
      rw [h] at e'
      cases e'
    | some d =>
      rw [h] at e'
      have e2 : (allV m ss).map (d :: ·) = some ds := e'
      cases h2 : allV m ss with
      | none =>
        rw [h2] at e2
        cases e2
      | some l =>
        rw [h2] at e2
        cases e2
        exact .cons (view_h w r h) (allV_h w t h2)
def dCB (op : OL) (a : AD) : ED := fun R ρ m P => a R ρ m fun ss m1 => bnd (allV m1 ss) fun ds => op ds fun z => P (.d z) m1
theorem sim_CB {r : List V → Hp → VK → Prop} {op : OL} {t : TA} {a : AD} (ho : SimL K r op) (h : SimA K E t a) : SimE K E (tCB r t) (dCB op a) := fun w l e q k => h w l e q fun vs ss m1 B1 H1 A1 x1 w1 r1 q1 => by
  obtain ⟨ds, ed, p⟩ := bnd_at q1
  exact ho w1.le (allV_h w1 r1 ed) p fun v d B' H' g r p => k v (.d d) m1 B' H' A1 (x1.tr g.xt) (w1.gr g) r p
def dCF (op : List D → (List D → Prop) → Prop) (a : AD) : FD := fun R ρ m P => a R ρ m fun ss m1 => bnd (allV m1 ss) fun ds => op ds fun z => P z m1
theorem sim_CF {r : List V → Hp → VK → Prop} {op : List D → (List D → Prop) → Prop} {t : TA} {a : AD} (ho : SimLF K r op) (h : SimA K E t a) : SimF K E (tCB r t) (dCF op a) := fun w l e q k => h w l e q fun vs ss m1 B1 H1 A1 x1 w1 r1 q1 => by
  obtain ⟨ds, ed, p⟩ := bnd_at q1
  exact ho w1.le (allV_h w1 r1 ed) p fun n ys l hn r p => k n ys l m1 B1 _ A1 (x1.tr (Xt.lost hn)) (w1.lost hn) (x1.d n hn) (w1.le.free hn) (w1.notin hn) upd_same r p
/-- a method of a text with one argument -/
def dM1 (op : D → D → (D → Prop) → Prop) (a b : ED) : ED := fun R ρ m P => a R ρ m fun x m1 => b R ρ m1 fun y m2 => match x with
  | .d (.str s) => bnd (view m2 y) fun dy => op (.str s) dy fun z => P (.d z) m2
  | _ => False
end
end Dl
end

section
/-! Dl6: statements, targets, loops, comprehensions on plain data. -/
namespace Dl
open PySem L2
structure DEnds where
  nx : Rho → Mu → Prop
  rt : SV → Mu → Prop
  bk : Rho → Mu → Prop := fun _ _ => False
  ct : Rho → Mu → Prop := fun _ _ => False
abbrev SD := ER → DEnds → Rho → Mu → Prop
/-- the ends follow -/
structure EOk (K : Fr) (DD : DEnds) (D : Ends) (B H : Hp) (A : List Addr) : Prop where
  nx : ∀ {B' H' A' σ ρ m}, Xt B H A B' H' A' → Wr K B' H' A' m → Sl K B' A' σ ρ → DD.nx ρ m → D.nx σ H'
  rt : ∀ {B' H' A' v s m}, Xt B H A B' H' A' → Wr K B' H' A' m → RpS K B' A' v s → DD.rt s m → D.rt v H'
  bk : ∀ {B' H' A' σ ρ m}, Xt B H A B' H' A' → Wr K B' H' A' m → Sl K B' A' σ ρ → DD.bk ρ m → D.bk σ H'
  ct : ∀ {B' H' A' σ ρ m}, Xt B H A B' H' A' → Wr K B' H' A' m → Sl K B' A' σ ρ → DD.ct ρ m → D.ct σ H'
theorem EOk.x {K : Fr} {DD : DEnds} {D : Ends} {B H B1 H1 : Hp} {A A1 : List Addr} (e : EOk K DD D B H A) (x : Xt B H A B1 H1 A1) : EOk K DD D B1 H1 A1 :=
  ⟨fun y w l q => e.nx (x.tr y) w l q, fun y w l q => e.rt (x.tr y) w l q, fun y w l q => e.bk (x.tr y) w l q, fun y w l q => e.ct (x.tr y) w l q⟩
def SimS (K : Fr) (E : XK) (t : TS) (s : SD) : Prop := ∀ {B H A m σ ρ R DD D}, Wr K B H A m → Sl K B A σ ρ → Erk K E R B H A → s R DD ρ m → EOk K DD D B H A → t D σ H
structure PDS (X : Cx) (E : XK) (st : Stmt) (t : TS) (sd : SD) : Prop where
  ps : PS X st t
  sim : SimS X.K E t sd
structure PDSs (X : Cx) (E : XK) (st : List Stmt) (t : TS) (sd : SD) : Prop where
  pss : PSs X st t
  sim : SimS X.K E t sd
section
variable {K : Fr} {E : XK}
theorem Sl.set {B : Hp} {A : List Addr} {σ : St} {ρ : Rho} (l : Sl K B A σ ρ) {v : V} {s : SV} (r : RpS K B A v s) (i : Nat) : Sl K B A (σ.set i (some v)) (ρ.set i (some s)) where
  len := by rw [List.length_set, List.length_set]; exact l.len
  at_ := fun j u e => by
    rcases set_get e with ⟨h1, h2, h3⟩ | ⟨h1, h2⟩
    · subst h1
      cases h2
      exact ⟨v, by rw [List.getElem?_set_self (by rw [l.len]; exact h3)], r⟩
    · obtain ⟨v', e', r'⟩ := l.at_ j u h2
      exact ⟨v', by rw [List.getElem?_set_ne h1]; exact e', r'⟩
/-! ### targets -/
abbrev BD := SV → Rho → Mu → (Rho → Prop) → Prop
abbrev BDs := List D → Rho → Mu → (Rho → Prop) → Prop
/-- a target that stores into slots alone, those in is -/
def SimB (K : Fr) (g : TG) (b : BD) (is : List Nat) : Prop := ∀ {B H A m σ ρ v s P} {Q : St → Hp → Prop}, Wr K B H A m → Sl K B A σ ρ → RpS K B A v s → b s ρ m P →
  (∀ σ' ρ', Sl K B A σ' ρ' → (∀ vs, (∀ i ∈ is, i ∈ vs) → wipe σ' vs = wipe σ vs) → P ρ' → Q σ' H) → g v σ H Q
def SimBs (K : Fr) (g : TGs) (b : BDs) (is : List Nat) : Prop := ∀ {B H A m σ ρ vs ds P} {Q : St → Hp → Prop}, Wr K B H A m → Sl K B A σ ρ → RpL K B vs ds → b ds ρ m P →
  (∀ σ' ρ', Sl K B A σ' ρ' → (∀ us, (∀ i ∈ is, i ∈ us) → wipe σ' us = wipe σ us) → P ρ' → Q σ' H) → g vs σ H Q
theorem wipe_set {v : Option V} {i : Nat} : ∀ {vs : List Nat} {σ : St}, i ∈ vs → wipe (σ.set i v) vs = wipe σ vs
  | u :: vs, σ, h => by
    unfold wipe
    by_cases e : i ∈ vs
    · rw [wipe_set e]
    · rcases List.mem_cons.mp h with rfl | z
      · have : ∀ (us : List Nat) (τ : St), i ∉ us → wipe (τ.set i v) us = (wipe τ us).set i v := by
          intro us
          induction us with
          | nil => intro τ _; rfl
          | cons a us ih =>
            intro τ hn
            unfold wipe
            rw [ih τ (fun z => hn (List.mem_cons_of_mem _ z)), List.set_comm _ _ (fun z => hn (by rw [z]; exact List.mem_cons_self))]
        rw [this vs σ e, List.set_set]
      · exact absurd z e
theorem wipe_wipe (σ : St) (vs : List Nat) : wipe (wipe σ vs) vs = wipe σ vs := by
  have key : ∀ us : List Nat, (∀ i ∈ us, i ∈ vs) → wipe (wipe σ us) vs = wipe σ vs := by
    intro us
    induction us with
    | nil => intro _; rfl
    | cons a us ih =>
      intro h
      show wipe ((wipe σ us).set a none) vs = wipe σ vs
      rw [wipe_set (h a List.mem_cons_self)]
      exact ih fun i hi => h i (List.mem_cons_of_mem _ hi)
  exact key vs fun _ h => h
def wipeR (ρ : Rho) : List Nat → Rho
  | [] => ρ
  | v :: vs => (wipeR ρ vs).set v none
theorem Sl.wipe {B : Hp} {A : List Addr} {σ : St} {ρ : Rho} (l : Sl K B A σ ρ) : ∀ vs : List Nat, Sl K B A (wipe σ vs) (wipeR ρ vs)
  | [] => l
  | v :: vs => by
    have ih := Sl.wipe l vs
    show Sl K B A ((L2.wipe σ vs).set v none) ((wipeR ρ vs).set v none)
    refine ⟨by rw [List.length_set, List.length_set]; exact ih.len, fun j u e => ?_⟩
    rcases set_get e with ⟨h1, h2, h3⟩ | ⟨h1, h2⟩
    · cases h2
    · obtain ⟨v', e', r'⟩ := ih.at_ j u h2
      exact ⟨v', by rw [List.getElem?_set_ne h1]; exact e', r'⟩
def bName (i : Nat) : BD := fun s ρ _ P => P (ρ.set i (some s))
theorem sim_bName {i : Nat} : SimB K (gName i) (bName i) [i] := fun w l r q k => k _ _ (l.set r i) (fun vs h => wipe_set (h i List.mem_cons_self)) q
def bsNil : BDs := fun ds ρ _ P => match ds with
  | [] => P ρ
  | _ :: _ => False
def bsCons (b : BD) (bs : BDs) : BDs := fun ds ρ m P => match ds with
  | [] => False
  | d :: ds => b (.d d) ρ m fun ρ1 => bs ds ρ1 m P
theorem sim_bsNil : SimBs K gNil bsNil [] := fun {B H A m σ ρ vs ds P Q} w l r q k => by
  cases r with
  | nil => exact ⟨rfl, k σ ρ l (fun _ _ => rfl) q⟩
  | cons _ _ => exact q.elim
theorem sim_bsCons {g : TG} {gs : TGs} {b : BD} {bs : BDs} {is js : List Nat} (h : SimB K g b is) (hs : SimBs K gs bs js) : SimBs K (gCons g gs) (bsCons b bs) (is ++ js) := fun {B H A m σ ρ vs ds P Q} w l r q k => by
  cases r with
  | nil => exact q.elim
  | cons r t =>
    rename_i v d vs ds
    refine ⟨_, _, rfl, h w l (show RpS K B A v (.d d) from r) q fun σ1 ρ1 l1 w1 q1 => hs w l1 t q1 fun σ2 ρ2 l2 w2 q2 => k σ2 ρ2 l2 (fun us hu => ?_) q2⟩
    rw [w2 us fun i hi => hu i (List.mem_append_right _ hi), w1 us fun i hi => hu i (List.mem_append_left _ hi)]
/-- a tuple (or a list) taken apart -/
def bTup (n : Nat) (bs : BDs) : BD := fun s ρ m P => bnd (view m s) fun d => match d with
  | .tup ds => ds.length = n ∧ bs ds ρ m P
  | .lst ds => ds.length = n ∧ bs ds ρ m P
  | _ => False
def gTupL (K : Fr) (n : Nat) (t : TGs) : TG := fun v σ H Q => gTup K n t v σ H Q ∨ gLst K n t v σ H Q
theorem sim_bTup {gs : TGs} {bs : BDs} {n : Nat} {is : List Nat} (hs : SimBs K gs bs is) : SimB K (gTupL K n gs) (bTup n bs) is := fun {B H A m σ ρ v s P Q} w l r q k => by
  obtain ⟨d, e, q⟩ := bnd_at q
  have rh := view_h w r e
  cases d with
  | tup ds =>
    obtain ⟨a, xs, rfl, h, rl⟩ := rh
    exact .inl ⟨a, xs, rfl, w.le.sqt h, by rw [rl.len]; exact q.1, hs w l rl q.2 k⟩
  | lst ds =>
    obtain ⟨a, xs, rfl, h, rl⟩ := rh
    exact .inr ⟨a, xs, rfl, .inl (.inl h), by rw [rl.len]; exact q.1, hs w l rl q.2 k⟩
  | _ => exact q.elim
theorem pg_tupL {X : Cx} {es : List Expr} {k : Nat} {t : TGs} {n : Nat} {pos : Pos} (hc : X.calm = true) (h : PGs X es t)
    (hn : (assignEach es X.env).length = n := by rfl) (hst : (assignEach es X.env).findIdx? (·.1) = none := by rfl) : PG X (.Tuple es k pos) (gTupL X.K n t) :=
  ⟨fun pins s σ H v u Q I r q => q.elim (fun q => (pg_tup hc h hn hst).run pins s σ H v u Q I r q) (fun q => (pg_lst hc h hn hst).run pins s σ H v u Q I r q)⟩
structure PDB (X : Cx) (tg : Expr) (g : TG) (b : BD) (is : List Nat) : Prop where
  pg : PG X tg g
  sim : SimB X.K g b is
structure PDBs (X : Cx) (tg : List Expr) (g : TGs) (b : BDs) (is : List Nat) : Prop where
  pg : PGs X tg g
  sim : SimBs X.K g b is
/-! ### statements -/
def dNext : SD := fun _ DD ρ m => DD.nx ρ m
def dSeq (a b : SD) : SD := fun R DD ρ m => a R { DD with nx := b R DD } ρ m
def dBreak : SD := fun _ DD ρ m => DD.bk ρ m
def dCont : SD := fun _ DD ρ m => DD.ct ρ m
def dNever : SD := fun _ _ _ _ => False
theorem sim_next : SimS K E tNext dNext := fun w l e q k => k.nx Xt.ie w l q
theorem sim_break : SimS K E tBreak dBreak := fun w l e q k => k.bk Xt.ie w l q
theorem sim_cont : SimS K E tCont dCont := fun w l e q k => k.ct Xt.ie w l q
theorem sim_never : SimS K E tNever dNever := fun w l e q k => q
theorem sim_seq {t u : TS} {a b : SD} (ha : SimS K E t a) (hb : SimS K E u b) : SimS K E (tSeq t u) (dSeq a b) := fun w l e q k =>
  ha w l e q ⟨fun x w' l' q' => hb w' l' (e.x x) q' (k.x x), fun x w' r q' => k.rt x w' r q', fun x w' l' q' => k.bk x w' l' q', fun x w' l' q' => k.ct x w' l' q'⟩
def dDrop (a : ED) : SD := fun R DD ρ m => a R ρ m fun _ m1 => DD.nx ρ m1
theorem sim_drop {t : TE} {a : ED} (h : SimE K E t a) : SimS K E (tDrop t) (dDrop a) := fun w l e q k => h w l e q fun v s m' B' H' A' x w' r p => k.nx x w' (l.x x) p
def dRet (a : ED) : SD := fun R DD ρ m => a R ρ m DD.rt
theorem sim_ret {t : TE} {a : ED} (h : SimE K E t a) : SimS K E (tRet t) (dRet a) := fun w l e q k => h w l e q fun v s m' B' H' A' x w' r p => k.rt x w' r p
def dRetN : SD := fun _ DD _ m => DD.rt (.d .non) m
theorem sim_retN : SimS K E tRetN dRetN := fun {B H A m σ ρ R DD D} w l e q k => k.rt Xt.ie w (show RpS K B A .non (.d .non) from .non) q
def dIf (c : TD) (a b : SD) : SD := fun R DD ρ m => c R ρ m fun c m1 => if c = true then a R DD ρ m1 else b R DD ρ m1
theorem sim_if {c : TT} {t u : TS} {dc : TD} {a b : SD} (hc : SimT K E c dc) (ha : SimS K E t a) (hb : SimS K E u b) : SimS K E (tIfS c t u) (dIf dc a b) := fun w l e q k => hc w l e q fun c m1 B1 H1 A1 x1 w1 q1 => by
  cases c with
  | true => exact ha w1 (l.x x1) (e.x x1) q1 (k.x x1)
  | false => exact hb w1 (l.x x1) (e.x x1) q1 (k.x x1)
def dAsg (a : ED) (b : BD) : SD := fun R DD ρ m => a R ρ m fun s m1 => b s ρ m1 fun ρ1 => DD.nx ρ1 m1
theorem sim_asg {t : TE} {g : TG} {a : ED} {b : BD} {is : List Nat} (h : SimE K E t a) (hb : SimB K g b is) : SimS K E (tAsg t g) (dAsg a b) := fun w l e q k => h w l e q fun v s m' B' H' A' x w' r p =>
  hb w' (l.x x) r p fun σ' ρ' l' _ p' => k.nx x w' l' p'
/-- a, b = x, y -/
def dPar (i j : Nat) (a b : ED) : SD := fun R DD ρ m => a R ρ m fun x m1 => b R ρ m1 fun y m2 => DD.nx ((ρ.set i (some x)).set j (some y)) m2
theorem sim_par {i j : Nat} {ta tb : TE} {a b : ED} (ha : SimE K E ta a) (hb : SimE K E tb b) : SimS K E (tPar i j (tCons ta (tCons tb tNil))) (dPar i j a b) := fun w l e q k =>
  ha w l e q fun v s m1 B1 H1 A1 x1 w1 r1 q1 => hb w1 (l.x x1) (e.x x1) q1 fun v2 s2 m2 B2 H2 A2 x2 w2 r2 q2 =>
    ⟨v, v2, rfl, k.nx (x1.tr x2) w2 (((l.x (x1.tr x2)).set (r1.up x2.b x2.a) i).set r2 j) q2⟩
/-- three at once -/
def dPar3 (i j n : Nat) (a b c : ED) : SD := fun R DD ρ m => a R ρ m fun x m1 => b R ρ m1 fun y m2 => c R ρ m2 fun z m3 => DD.nx (((ρ.set i (some x)).set j (some y)).set n (some z)) m3
theorem sim_par3 {i j n : Nat} {ta tb tc : TE} {a b c : ED} (ha : SimE K E ta a) (hb : SimE K E tb b) (hc : SimE K E tc c) : SimS K E (tPar3 i j n (tCons ta (tCons tb (tCons tc tNil)))) (dPar3 i j n a b c) := fun w l e q k =>
  ha w l e q fun v s m1 B1 H1 A1 x1 w1 r1 q1 => hb w1 (l.x x1) (e.x x1) q1 fun v2 s2 m2 B2 H2 A2 x2 w2 r2 q2 => hc w2 (l.x (x1.tr x2)) (e.x (x1.tr x2)) q2 fun v3 s3 m3 B3 H3 A3 x3 w3 r3 q3 =>
    ⟨v, v2, v3, rfl, k.nx ((x1.tr x2).tr x3) w3 ((((l.x ((x1.tr x2).tr x3)).set ((r1.up x2.b x2.a).up x3.b x3.a) i).set (r2.up x3.b x3.a) j).set r3 n) q3⟩
/-- x op= e, a name -/
def dAug (i : Nat) (op : O2) (a : ED) : SD := fun R DD ρ m => match ρ[i]? with
  | some (some s) => a R ρ m fun y m1 => bnd (view m1 s) fun dx => bnd (view m1 y) fun dy => op dx dy fun z => DD.nx (ρ.set i (some (.d z))) m1
  | _ => False
theorem sim_aug {i : Nat} {te : TE} {ti : TIp} {op : O2} {a : ED} (ho : Sim2 K ti op) (h : SimE K E te a) : SimS K E (tAug i te ti) (dAug i op a) := fun {B H A m σ ρ R DD D} w l e q k => by
  unfold dAug at q
  split at q
  · rename_i s es
    obtain ⟨v, ev, r⟩ := l.at_ i s es
    refine ⟨v, ev, h w l e q fun y sy m1 B1 H1 A1 x1 w1 r1 q1 => ?_⟩
    obtain ⟨dx, e1, q2⟩ := bnd_at q1
    obtain ⟨dy, e2, q3⟩ := bnd_at q2
    exact ho w1.le (view_h w1 (r.up x1.b x1.a) e1) (view_h w1 r1 e2) q3 fun z dz B' H' g rz p =>
      k.nx (x1.tr g.xt) (w1.gr g) (((l.x (x1.tr g.xt))).set (show RpS K B' A1 z (.d dz) from rz) i) p
  · exact q.elim
/-! ### a list of ours is changed -/
/-- the things of ours that a value is -/
def asO (m : Mu) : SV → (Nat → MO → Prop) → Prop
  | .o i, P => bnd m[i]? fun o => P i o
  | .d _, _ => False
theorem asO_at {B H : Hp} {A : List Addr} {m : Mu} (w : Wr K B H A m) {v : V} {s : SV} {P : Nat → MO → Prop} (r : RpS K B A v s) (q : asO m s P) : ∃ i a o, v = .ref a ∧ A[i]? = some a ∧ m[i]? = some o ∧ P i o := by
  cases s with
  | d x => exact q.elim
  | o i =>
    obtain ⟨o, e, p⟩ := bnd_at q
    obtain ⟨a, ev, ea⟩ := r
    exact ⟨i, a, o, ev, ea, e, p⟩
def plain : SV → Option D
  | .d x => some x
  | .o _ => none
theorem plain_rp {B : Hp} {A : List Addr} {v : V} {s : SV} {d : D} (r : RpS K B A v s) (e : plain s = some d) : Rp K B v d := by
  cases s with
  | d x =>
    cases e
    exact r
  | o i => cases e
def asL : MO → (List D → Prop) → Prop
  | .lst l, P => P l
  | _, _ => False
/-- x.append(e) -/
def dApp (a b : ED) : ED := fun R ρ m P => a R ρ m fun x m1 => asO m1 x fun _ o1 => asL o1 fun _ => b R ρ m1 fun y m2 => asO m2 x fun i o => bnd (plain y) fun d => asL o fun l => l.length < 16777216 ∧ P (.d .non) (m2.set i (.lst (l ++ [d])))
theorem asL_at {o : MO} {P : List D → Prop} (q : asL o P) : ∃ l, o = .lst l ∧ P l := by
  cases o with
  | lst l => exact ⟨l, rfl, q⟩
  | _ => exact q.elim
theorem isl {H : Hp} {a : Addr} {xs : List V} (h : H a = some (.lst xs)) : tyV K "list" (.ref a) H := .inl ⟨rfl, xs, .inl (.inl h)⟩
theorem lv {m : Mu} {i : Nat} {o : MO} (e : m[i]? = some o) (h : live (some o) = true) : live m[i]? = true := by
  rw [e]
  exact h
/-- a list of ours is written -/
theorem Wr.lst {B H : Hp} {A : List Addr} {m : Mu} (w : Wr K B H A m) {i : Nat} {a : Addr} {l k : List D} {ys : List V} (ea : A[i]? = some a) (em : m[i]? = some (.lst l)) (r : RpL K B ys k) : Wr K B (upd H a (.lst ys)) A (m.set i (.lst k)) :=
  w.wrote ea (lv em rfl) ⟨ys, upd_same, r⟩
theorem sim_app {ta tb : TE} {a b : ED} (ha : SimE K E ta a) (hb : SimE K E tb b) : SimE K E (tBM K "list" rAppend ta (tCons tb tNil)) (dApp a b) := fun w l e q k =>
  ha w l e q fun x sx m1 B1 H1 A1 x1 w1 r1 q1 => by
    obtain ⟨i0, p, o, rfl, ap, m0, q1⟩ := asO_at w1 r1 q1
    obtain ⟨l0, rfl, q1⟩ := asL_at q1
    obtain ⟨_, xs0, h0, _⟩ := w1.ob i0 p _ ap m0 rfl
    refine ⟨isl h0, hb w1 (l.x x1) (e.x x1) q1 fun y sy m2 B2 H2 A2 x2 w2 r2 q2 => ?_⟩
    obtain ⟨i, a, o, ev, ea, eo, q3⟩ := asO_at w2 (r1.up x2.b x2.a) q2
    obtain ⟨d, ed, q4⟩ := bnd_at q3
    obtain ⟨ls, rfl, q4⟩ := asL_at q4
    cases ev
    obtain ⟨hb', xs, h, r⟩ := w2.ob i p _ ea eo rfl
    exact ⟨p, xs, y, rfl, rfl, h, by rw [lim_eq, r.len]; exact q4.1,
      k .non (.d .non) _ B2 _ A2 ((x1.tr x2).tr (Xt.wrote (List.mem_of_getElem? ea))) (w2.lst ea eo (r.app (.cons (plain_rp r2 ed) .nil))) (show RpS K B2 A2 .non (.d .non) from .non) q4.2⟩
end
end Dl
end

section
/-! Dl7: lists of ours changed by methods and stores; for, while, comprehensions on plain data. -/
namespace Dl
open PySem L2
section
variable {K : Fr} {E : XK}
/-- x.extend(e), e a list that stands (a new one, or one on the ground) -/
def dExt (a b : ED) : ED := fun R ρ m P => a R ρ m fun x m1 => asO m1 x fun _ o1 => asL o1 fun _ => b R ρ m1 fun y m2 => asO m2 x fun i o => asL o fun l => bnd (view m2 y) fun d => match d with
  | .lst k => l.length + k.length ≤ 16777216 ∧ P (.d .non) (m2.set i (.lst (l ++ k)))
  | _ => False
theorem sim_ext {ta tb : TE} {a b : ED} (ha : SimE K E ta a) (hb : SimE K E tb b) : SimE K E (tBM K "list" rExtend ta (tCons tb tNil)) (dExt a b) := fun w l e q k =>
  ha w l e q fun x sx m1 B1 H1 A1 x1 w1 r1 q1 => by
    obtain ⟨i0, p, o, rfl, ap, m0, q1⟩ := asO_at w1 r1 q1
    obtain ⟨l0, rfl, q1⟩ := asL_at q1
    obtain ⟨_, xs0, h0, _⟩ := w1.ob i0 p _ ap m0 rfl
    refine ⟨isl h0, hb w1 (l.x x1) (e.x x1) q1 fun y sy m2 B2 H2 A2 x2 w2 r2 q2 => ?_⟩
    obtain ⟨i, a, o, ev, ea, eo, q3⟩ := asO_at w2 (r1.up x2.b x2.a) q2
    obtain ⟨ls, rfl, q4⟩ := asL_at q3
    obtain ⟨d, ed, q5⟩ := bnd_at q4
    cases ev
    obtain ⟨hb', xs, h, r⟩ := w2.ob i p _ ea eo rfl
    cases d with
    | lst ks =>
      obtain ⟨a2, ys, rfl, h2, rk⟩ := view_h w2 r2 ed
      exact ⟨p, a2, xs, ys, rfl, rfl, h, h2, by rw [lim_eq, r.len, rk.len]; exact q5.1,
        k .non (.d .non) _ B2 _ A2 ((x1.tr x2).tr (Xt.wrote (List.mem_of_getElem? ea))) (w2.lst ea eo (r.app rk)) (show RpS K B2 A2 .non (.d .non) from .non) q5.2⟩
    | _ => exact q5.elim
/-- x.pop() -/
def dPop (a : ED) : ED := fun R ρ m P => a R ρ m fun x m1 => asO m1 x fun i o => asL o fun l => bnd l.getLast? fun d => P (.d d) (m1.set i (.lst l.dropLast))
theorem RpL.last {B : Hp} {xs : List V} {l : List D} {d : D} (r : RpL K B xs l) (e : l.getLast? = some d) : ∃ v, xs[xs.length - 1]? = some v ∧ Rp K B v d := by
  rw [List.getLast?_eq_getElem?] at e
  rw [r.len]
  exact r.get e
theorem RpL.dropLast {B : Hp} : ∀ {xs : List V} {l : List D}, RpL K B xs l → RpL K B xs.dropLast l.dropLast
  | _, _, .nil => .nil
  | _, _, .cons r .nil => .nil
  | _, _, .cons r (.cons r2 t) => by
    rw [List.dropLast_cons_cons, List.dropLast_cons_cons]
    exact .cons r (RpL.dropLast (.cons r2 t))
theorem sim_pop {ta : TE} {a : ED} (ha : SimE K E ta a) : SimE K E (tBM0 K "list" rPop ta) (dPop a) := fun w l e q k =>
  ha w l e q fun x sx m1 B1 H1 A1 x1 w1 r1 q1 => by
    obtain ⟨i, p, o, rfl, ea, eo, q1⟩ := asO_at w1 r1 q1
    obtain ⟨ls, rfl, q1⟩ := asL_at q1
    obtain ⟨d, ed, q1⟩ := bnd_at q1
    obtain ⟨_, xs, h, r⟩ := w1.ob i p _ ea eo rfl
    obtain ⟨v, ev, rv⟩ := r.last ed
    exact ⟨isl h, p, xs, v, rfl, rfl, h, ev, k v (.d d) _ B1 _ A1 (x1.tr (Xt.wrote (List.mem_of_getElem? ea))) (w1.lst ea eo r.dropLast) (show RpS K B1 A1 v (.d d) from rv) q1⟩
/-- x.pop(i), i from 0 on -/
def dPopAt (a b : ED) : ED := fun R ρ m P => a R ρ m fun x m1 => asO m1 x fun _ o1 => asL o1 fun _ => b R ρ m1 fun y m2 => asI y fun n => asO m2 x fun i o => asL o fun l => 0 ≤ n ∧ n < 16777216 ∧ bnd l[n.toNat]? fun d => P (.d d) (m2.set i (.lst (l.eraseIdx n.toNat)))
theorem RpL.erase {B : Hp} : ∀ {xs : List V} {l : List D} (n : Nat), RpL K B xs l → RpL K B (xs.eraseIdx n) (l.eraseIdx n)
  | _, _, _, .nil => .nil
  | _, _, 0, .cons r t => t
  | _, _, n + 1, .cons r t => .cons r (RpL.erase n t)
theorem sim_popAt {ta tb : TE} {a b : ED} (ha : SimE K E ta a) (hb : SimE K E tb b) : SimE K E (tBM K "list" rPopAt ta (tCons tb tNil)) (dPopAt a b) := fun w l e q k =>
  ha w l e q fun x sx m1 B1 H1 A1 x1 w1 r1 q1 => by
    obtain ⟨i0, p, o, rfl, ap, m0, q1⟩ := asO_at w1 r1 q1
    obtain ⟨l0, rfl, q1⟩ := asL_at q1
    obtain ⟨_, xs0, h0, _⟩ := w1.ob i0 p _ ap m0 rfl
    refine ⟨isl h0, hb w1 (l.x x1) (e.x x1) q1 fun y sy m2 B2 H2 A2 x2 w2 r2 q2 => ?_⟩
    obtain ⟨n, rfl, q2⟩ := int_of r2 q2
    obtain ⟨i, a, o, ev, ea, eo, q3⟩ := asO_at w2 (r1.up x2.b x2.a) q2
    obtain ⟨ls, rfl, h1, h2, q4⟩ := asL_at q3
    obtain ⟨d, ed, q5⟩ := bnd_at q4
    cases ev
    obtain ⟨hb', xs, h, r⟩ := w2.ob i p _ ea eo rfl
    obtain ⟨v, ev, rv⟩ := r.get ed
    have hlt := (List.getElem?_eq_some_iff.mp ev).1
    have hs : seqIndex? n xs.length = some n.toNat := by
      unfold seqIndex?
      have e1 : ¬ n < 0 := by omega
      have e2 : n < (xs.length : Int) := by omega
      simp [e1, e2, h1]
    exact ⟨p, xs, n, n.toNat, v, rfl, rfl, h, by omega, by omega, hs, ev, k v (.d d) _ B2 _ A2 ((x1.tr x2).tr (Xt.wrote (List.mem_of_getElem? ea))) (w2.lst ea eo (r.erase n.toNat)) (show RpS K B2 A2 v (.d d) from rv) q5⟩
/-- x[i] = e, x a list of ours -/
def dStL (e a b : ED) : SD := fun R DD ρ m => e R ρ m fun v m1 => a R ρ m1 fun x m2 => b R ρ m2 fun y m3 => asI y fun n => asO m3 x fun i o => asL o fun l => bnd (plain v) fun d => bnd (ixN l.length n) fun j => DD.nx ρ (m3.set i (.lst (l.set j d)))
theorem RpL.set {B : Hp} {v : V} {d : D} (h : Rp K B v d) : ∀ {xs : List V} {l : List D} (n : Nat), RpL K B xs l → RpL K B (xs.set n v) (l.set n d)
  | _, _, _, .nil => .nil
  | _, _, 0, .cons r t => .cons h t
  | _, _, n + 1, .cons r t => .cons r (RpL.set h n t)
theorem sim_stL {te ta tb : TE} {e a b : ED} (he : SimE K E te e) (ha : SimE K E ta a) (hb : SimE K E tb b) : SimS K E (tAsg te (gSub ta tb rSetL)) (dStL e a b) := fun w l er q k =>
  he w l er q fun v sv m1 B1 H1 A1 x1 w1 r1 q1 => ha w1 (l.x x1) (er.x x1) q1 fun x sx m2 B2 H2 A2 x2 w2 r2 q2 => hb w2 (l.x (x1.tr x2)) (er.x (x1.tr x2)) q2 fun y sy m3 B3 H3 A3 x3 w3 r3 q3 => by
    obtain ⟨n, rfl, q3⟩ := int_of r3 q3
    obtain ⟨i, p, o, rfl, ea, eo, q3⟩ := asO_at w3 (r2.up x3.b x3.a) q3
    obtain ⟨ls, rfl, q3⟩ := asL_at q3
    obtain ⟨d, ed, q3⟩ := bnd_at q3
    obtain ⟨j, ej, q3⟩ := bnd_at q3
    obtain ⟨hb', xs, h, r⟩ := w3.ob i p _ ea eo rfl
    exact ⟨p, xs, n, j, rfl, rfl, h, by rw [r.len]; exact ej, k.nx (((x1.tr x2).tr x3).tr (Xt.wrote (List.mem_of_getElem? ea)))
      (w3.lst ea eo (r.set (plain_rp ((r1.up x2.b x2.a).up x3.b x3.a) ed) j)) (l.x ((x1.tr x2).tr x3)) q3⟩
/-! ### what a for walks -/
/-- it gives the items, and what must stand while they are walked -/
abbrev ID := ER → Rho → Mu → (List D → (Mu → Prop) → Mu → Prop) → Prop
structure ItOk (K : Fr) (J : It) (l : List D) (chk : Mu → Prop) (B H : Hp) (A : List Addr) : Prop where
  run : ∀ {B2 H2 A2 m2}, Xt B H A B2 H2 A2 → Wr K B2 H2 A2 m2 → chk m2 →
    (∀ i, i < l.length → J.go i H2) ∧ J.stop l.length H2 ∧ ∀ i d x H3, l[i]? = some d → J.yld i H2 x H3 → ∃ B3, Gr B2 H2 B3 H3 ∧ Rp K B3 x d
def SimI (K : Fr) (E : XK) (wi : TI) (it : ID) : Prop := ∀ {B H A m σ ρ P R} {Rr : It → Hp → Prop}, Wr K B H A m → Sl K B A σ ρ → Erk K E R B H A → it R ρ m P →
  (∀ J l chk m' B' H' A', Xt B H A B' H' A' → Wr K B' H' A' m' → P l chk m' → ItOk K J l chk B' H' A' → Rr J H') → wi σ H Rr
structure PDI (X : Cx) (E : XK) (tg iter : Expr) (wi : TI) (it : ID) : Prop where
  pi : PI X tg iter wi
  sim : SimI X.K E wi it
/-! ### for -/
def forGo (R : ER) (chk : Mu → Prop) (b : BD) (body : SD) (DD : DEnds) : List D → Rho → Mu → Prop
  | [], ρ, m => chk m ∧ DD.nx ρ m
  | d :: l, ρ, m => chk m ∧ b (.d d) ρ m fun ρ1 => body R { DD with nx := forGo R chk b body DD l, ct := forGo R chk b body DD l, bk := DD.nx } ρ1 m
def dFor (it : ID) (b : BD) (body : SD) : SD := fun R DD ρ m => it R ρ m fun l chk m1 => forGo R chk b body DD l ρ m1
theorem sim_for {wi : TI} {g : TG} {tb : TS} {it : ID} {b : BD} {body : SD} {is : List Nat} (hi : SimI K E wi it) (hb : SimB K g b is) (ht : SimS K E tb body) : SimS K E (tFor wi g tb) (dFor it b body) := fun {B H A m σ ρ R DD D} w l e q k =>
  hi w l e q fun J ls chk m1 B1 H1 A1 x1 w1 q1 ok => by
    refine ⟨fun i n σ' H' => ∃ B' A' ρ' m', n = ls.length - i ∧ i ≤ ls.length ∧ Xt B1 H1 A1 B' H' A' ∧ Wr K B' H' A' m' ∧ Sl K B' A' σ' ρ' ∧ forGo R chk b body DD (ls.drop i) ρ' m',
      ⟨ls.length, B1, A1, ρ, m1, by rw [Nat.sub_zero], Nat.zero_le _, Xt.ie, w1, l.x x1, by rw [List.drop_zero]; exact q1⟩, ?_⟩
    rintro i n σ' H' ⟨B', A', ρ', m', en, hi, x2, w2, l2, go⟩
    by_cases hlt : i < ls.length
    · have ed : ls.drop i = ls[i] :: ls.drop (i + 1) := List.drop_eq_getElem_cons hlt
      rw [ed] at go
      obtain ⟨hc, go⟩ := go
      obtain ⟨o1, o2, o3⟩ := ok.run x2 w2 hc
      refine .inr ⟨o1 i hlt, fun σ3 H3 => ∃ B3 A3 ρ3 m3, Xt B1 H1 A1 B3 H3 A3 ∧ Wr K B3 H3 A3 m3 ∧ Sl K B3 A3 σ3 ρ3 ∧ forGo R chk b body DD (ls.drop (i + 1)) ρ3 m3,
        fun σ3 H3 ⟨B3, A3, ρ3, m3, x3, w3, l3, g3⟩ => ⟨ls.length - (i + 1), by omega, B3, A3, ρ3, m3, rfl, hlt, x3, w3, l3, g3⟩, fun x H3 y => ?_⟩
      obtain ⟨B3, gr, rx⟩ := o3 i _ x H3 (List.getElem?_eq_getElem hlt) y
      refine hb (w2.gr gr) (l2.x gr.xt) (show RpS K B3 A' x (.d ls[i]) from rx) go fun σ4 ρ4 l4 _ q4 => ?_
      have xx := x2.tr (gr.xt (A := A'))
      refine ht (w2.gr gr) l4 (e.x (x1.tr xx)) q4 ⟨fun x5 w5 l5 q5 => ⟨_, _, _, _, xx.tr x5, w5, l5, q5⟩, fun x5 w5 r5 q5 => k.rt ((x1.tr xx).tr x5) w5 r5 q5, fun x5 w5 l5 q5 => k.nx ((x1.tr xx).tr x5) w5 l5 q5, fun x5 w5 l5 q5 => ⟨_, _, _, _, xx.tr x5, w5, l5, q5⟩⟩
    · have ei : i = ls.length := by omega
      subst ei
      rw [List.drop_length] at go
      exact .inl ⟨(ok.run x2 w2 go.1).2.1, k.nx (x1.tr x2) w2 l2 go.2⟩
/-! ### while -/
def dWhile (c : TD) (body : SD) : SD := fun R DD ρ m => ∃ W : Nat → Rho → Mu → Prop, (∃ n, W n ρ m) ∧ ∀ n ρ m, W n ρ m → c R ρ m fun b m1 =>
  if b = true then ∃ N : Rho → Mu → Prop, (∀ ρ' m', N ρ' m' → ∃ n', n' < n ∧ W n' ρ' m') ∧ body R { DD with nx := N, ct := N, bk := DD.nx } ρ m1 else DD.nx ρ m1
theorem sim_while {c : TT} {tb : TS} {dc : TD} {body : SD} (hc : SimT K E c dc) (ht : SimS K E tb body) : SimS K E (tWhile c tb) (dWhile dc body) := fun {B H A m σ ρ R DD D} w l e q k => by
  obtain ⟨W, ⟨n0, h0⟩, q⟩ := q
  refine ⟨fun n σ' H' => ∃ B' A' ρ' m', Xt B H A B' H' A' ∧ Wr K B' H' A' m' ∧ Sl K B' A' σ' ρ' ∧ W n ρ' m', ⟨n0, B, A, ρ, m, Xt.ie, w, l, h0⟩, ?_⟩
  rintro n σ' H' ⟨B', A', ρ', m', x1, w1, l1, hW⟩
  refine hc w1 l1 (e.x x1) (q n ρ' m' hW) fun b m2 B2 H2 A2 x2 w2 q2 => ?_
  cases b with
  | true =>
    obtain ⟨N, hN, qb⟩ := (show ∃ N : Rho → Mu → Prop, _ from q2)
    refine ⟨fun σ3 H3 => ∃ B3 A3 ρ3 m3, Xt B H A B3 H3 A3 ∧ Wr K B3 H3 A3 m3 ∧ Sl K B3 A3 σ3 ρ3 ∧ N ρ3 m3, fun σ3 H3 ⟨B3, A3, ρ3, m3, x3, w3, l3, n3⟩ => ?_, ?_⟩
    · obtain ⟨n', hn, hW'⟩ := hN ρ3 m3 n3
      exact ⟨n', hn, B3, A3, ρ3, m3, x3, w3, l3, hW'⟩
    · have xx := x1.tr x2
      exact ht w2 (l1.x x2) (e.x xx) qb ⟨fun x5 w5 l5 q5 => ⟨_, _, _, _, xx.tr x5, w5, l5, q5⟩, fun x5 w5 r5 q5 => k.rt (xx.tr x5) w5 r5 q5, fun x5 w5 l5 q5 => k.nx (xx.tr x5) w5 l5 q5, fun x5 w5 l5 q5 => ⟨_, _, _, _, xx.tr x5, w5, l5, q5⟩⟩
  | false => exact k.nx (x1.tr x2) w2 (l1.x x2) q2
/-! ### [e for x in it if t] -/
def lcGo (chk : Mu → Prop) (b : BD) (t : TD) (e : ED) (ρ : Rho) (P : List D → Mu → Prop) : List D → List D → Mu → Prop
  | [], acc, m => chk m ∧ P acc m
  | d :: l, acc, m => chk m ∧ b (.d d) ρ m fun ρ1 => t noR ρ1 m fun c m1 => if c = true then e noR ρ1 m1 fun s m2 => bnd (plain s) fun y => acc.length < 16777216 ∧ lcGo chk b t e ρ P l (acc ++ [y]) m2 else lcGo chk b t e ρ P l acc m1
def dLc (it : ID) (b : BD) (t : TD) (e : ED) (vs : List Nat) : FD := fun R ρ m P => it R ρ m fun l chk m1 => lcGo chk b t e (wipeR ρ vs) P l [] m1
def dYes : TD := fun _ _ m P => P true m
theorem sim_yes : SimT K E tYes dYes := fun {B H A m σ ρ P R Q} w l e q k => k true m B H A Xt.ie w q
def hideH (H : Hp) (p : Addr) : Hp := fun q => if q = p then none else H q
theorem hide_ne {H : Hp} {p q : Addr} (h : q ≠ p) : hideH H p q = H q := by
  unfold hideH
  rw [if_neg h]
theorem hide_same {H : Hp} {p : Addr} : hideH H p p = none := by
  unfold hideH
  rw [if_pos rfl]
theorem sim_lc {wi : TI} {g : TG} {tt : TT} {te : TE} {it : ID} {b : BD} {t : TD} {e : ED} {is vs : List Nat} (hi : SimI K E wi it) (hb : SimB K g b is) (hs : ∀ i ∈ is, i ∈ vs) (ht : SimT K E0 tt t) (he : SimE K E0 te e) :
    SimF K E (tLc wi g tt te vs) (dLc it b t e vs) := fun {B H A m σ ρ P R Q} w l er q k =>
  hi w l er q fun J ls chk m1 B1 H1 A1 x1 w1 q1 ok => by
    intro Dp hD
    -- the new list is one of ours, the last, while it grows
    refine ⟨fun i n H' => ∃ B' A' m' acc xs, n = ls.length - i ∧ i ≤ ls.length ∧ Xt B1 H1 A1 B' H' A' ∧ Wr K B' H' A' m' ∧ B' Dp = none ∧ Dp ∉ A' ∧ H' Dp = some (.lst xs) ∧ RpL K B' xs acc ∧ lcGo chk b t e (wipeR ρ vs) P (ls.drop i) acc m',
      ⟨ls.length, B1, A1, m1, [], [], by rw [Nat.sub_zero], Nat.zero_le _, Xt.lost hD, w1.lost hD, w1.le.free hD, w1.notin hD, upd_same, .nil, by rw [List.drop_zero]; exact q1⟩, ?_⟩
    rintro i n H' ⟨B', A', m', acc, xs, en, hi, x2, w2, bD, aD, hx, rl, go⟩
    by_cases hlt : i < ls.length
    · have ed : ls.drop i = ls[i] :: ls.drop (i + 1) := List.drop_eq_getElem_cons hlt
      rw [ed] at go
      obtain ⟨hc, go⟩ := go
      obtain ⟨o1, o2, o3⟩ := ok.run x2 w2 hc
      refine .inr ⟨o1 i hlt, fun H3 => ∃ B3 A3 m3 acc xs, Xt B1 H1 A1 B3 H3 A3 ∧ Wr K B3 H3 A3 m3 ∧ B3 Dp = none ∧ Dp ∉ A3 ∧ H3 Dp = some (.lst xs) ∧ RpL K B3 xs acc ∧ lcGo chk b t e (wipeR ρ vs) P (ls.drop (i + 1)) acc m3,
        fun H3 ⟨B3, A3, m3, acc3, xs3, x3, w3, b3, a3, h3, r3, g3⟩ => ⟨ls.length - (i + 1), by omega, B3, A3, m3, acc3, xs3, rfl, hlt, x3, w3, b3, a3, h3, r3, g3⟩, fun x H3 y => ?_⟩
      obtain ⟨B3, gr, rx⟩ := o3 i _ x H3 (List.getElem?_eq_getElem hlt) y
      have xx := x2.tr (gr.xt (A := A'))
      refine hb (w2.gr gr) (((l.x x1).x xx).wipe vs) (show RpS K B3 A' x (.d ls[i]) from rx) go fun σ4 ρ4 l4 hw q4 => ⟨by rw [hw vs hs, wipe_wipe], ?_⟩
      have b3 : B3 Dp = none := gr.n Dp bD (by rw [hx]; intro z; cases z)
      have h3 : H3 Dp = some (.lst xs) := gr.h _ _ hx
      refine ht (w2.gr gr) l4 Erk.no q4 fun c m5 B5 H5 A5 x5 w5 q5 => ?_
      have h5 := x5.h Dp _ h3 aD
      have b5 := x5.n Dp b3 (by rw [h3]; intro z; cases z) aD
      have a5 := x5.out h3 aD
      cases c with
      | true =>
        show te σ4 H5 _
        refine he w5 (l4.x x5) Erk.no q5 fun v s m6 B6 H6 A6 x6 w6 r6 q6 => ?_
        obtain ⟨yd, ey, hlen, q7⟩ := bnd_at q6
        have h6 := x6.h Dp _ h5 a5
        have b6 := x6.n Dp b5 (by rw [h5]; intro z; cases z) a5
        have a6 := x6.out h5 a5
        have rl6 := RpL.up x6.b (RpL.up x5.b (RpL.up gr.b rl))
        have hD1 : ∀ p o, H1 p = some o → p ≠ Dp := fun p o z1 z2 => by
          rw [z2, hD] at z1
          cases z1
        have x16 := (xx.tr x5).tr x6
        refine ⟨xs, h6, by rw [lim_eq, rl.len]; exact hlen, B6, A6, m6, acc ++ [yd], xs ++ [v], ⟨x16.b, x16.a, fun p o z1 z2 => ?_, x16.n, x16.f, fun p z => x16.d p (upd_none z)⟩, ?_, b6, a6, upd_same, rl6.app (.cons (plain_rp r6 ey) .nil), q7⟩
        · rw [upd_ne (hD1 p o z1)]
          exact x16.h p o z1 z2
        · refine ⟨w6.le.newR b6, w6.len, fun j a o z1 z2 z3 => ?_, w6.nd, fun a z1 z2 => w6.dm a z1 (upd_none z2)⟩
          obtain ⟨c1, c2⟩ := w6.ob j a o z1 z2 z3
          have ne : a ≠ Dp := fun z => a6 (by rw [← z]; exact List.mem_of_getElem? z1)
          exact ⟨c1, c2.up Ex.ie ⟨[], by rw [List.append_nil]⟩ fun o' e' => by rw [upd_ne ne]; exact e'⟩
      | false => exact ⟨B5, A5, m5, acc, xs, xx.tr x5, w5, b5, a5, h5, RpL.up x5.b (RpL.up gr.b rl), q5⟩
    · have ei : i = ls.length := by omega
      subst ei
      rw [List.drop_length] at go
      refine .inl ⟨(ok.run x2 w2 go.1).2.1, k Dp xs acc m' B' H' A' (x1.tr x2) w2 (x1.d Dp hD) bD aD hx rl go.2⟩
end
end Dl
end

section
/-! Dl8: what is walked: lists, tuples, texts, the script; ranges. -/
namespace Dl
open PySem L2
/-- a list, a tuple or a text, walked -/
def iSeq (K : Fr) (tl : TE) : TI := fun σ H R => tl σ H fun x H1 => (∃ a xs, x = .ref a ∧ SqL K H1 a xs ∧ R (Itl K a) H1) ∨ (∃ a xs, x = .ref a ∧ SqT K H1 a xs ∧ R (Itt K a) H1) ∨ ∃ z, x = .str z ∧ R (Its z) H1
theorem pi_seq {X : Cx} {tg l : Expr} {tl : TE} (hl : PE X l tl) : PI X tg l (iSeq X.K tl) := by
  refine ⟨fun pins s σ H R I h => thn (hl.run pins s σ H _ I h) fun v s1 hv => ?_⟩
  obtain ⟨x, H1, I1, rx, ⟨a, xs, ex, hq, q⟩ | ⟨a, xs, ex, hq, q⟩ | ⟨z, ex, q⟩⟩ := hv
  · subst ex
    cases rx
    obtain ⟨its, _, p, _⟩ := I1.list hq
    exact wpAny_pyIter_list p.isList (pi_one (tk := s1.toks) I1 _ (turn_list a _) ⟨_, Heap.get?_push_size _ rfl, rfl, rfl⟩ q)
  · subst ex
    cases rx
    obtain ⟨its, _, p, _⟩ := I1.tuple hq
    exact wpAny_pyIter_tuple (show s1.heap.IsTuple a its.toArray from p) (pi_one (tk := s1.toks) I1 _ (turn_tuple a _) ⟨_, Heap.get?_push_size _ rfl, rfl, rfl⟩ q)
  · subst ex
    obtain ⟨t, rfl⟩ := rx
    cases hb : z.cps.all (· < 128) with
    | false => exact wpAny_pyIter_wide hb (pi_one (tk := s1.toks) I1 _ (turn_str _ z t "str_iterator" (.inr rfl)) ⟨_, Heap.get?_push_size _ rfl, rfl, rfl⟩ q)
    | true => exact wpAny_pyIter_ascii hb (pi_one (tk := s1.toks) I1 _ (turn_str _ z t "str_ascii_iterator" (.inl rfl)) ⟨_, Heap.get?_push_size _ rfl, rfl, rfl⟩ q)
section
variable {K : Fr} {E : XK}
/-- the items of a value that is walked, and what must stand -/
def items (m : Mu) : SV → (List D → (Mu → Prop) → Prop) → Prop
  | .d (.lst l), P => P l fun _ => True
  | .d (.tup l), P => P l fun _ => True
  | .d (.scr l), P => P (l.map D.int) fun _ => True
  | .d (.str s), P => P (s.map fun c => D.str [c]) fun _ => True
  | .o i, P => bnd m[i]? fun o => match o with
    | .lst l => P l fun m' => m'[i]? = some (.lst l)
    | _ => False
  | _, _ => False
def dSeqI (e : ED) : ID := fun R ρ m P => e R ρ m fun s m1 => items m1 s fun l chk => P l chk m1
theorem itL {B H : Hp} {A : List Addr} {a : Addr} {l : List D} {chk : Mu → Prop} (h : ∀ {B2 H2 A2 m2}, Xt B H A B2 H2 A2 → Wr K B2 H2 A2 m2 → chk m2 → ∃ xs, SqL K H2 a xs ∧ RpL K B2 xs l) : ItOk K (Itl K a) l chk B H A := ⟨fun x w c => by
  obtain ⟨xs, hs, r⟩ := h x w c
  refine ⟨fun i hi => ⟨xs, xs[i]'(by rw [r.len]; exact hi), hs, List.getElem?_eq_getElem _⟩, ⟨xs, hs, by rw [r.len]; exact Nat.le_refl _⟩, fun i d v H3 e y => ?_⟩
  obtain ⟨rfl, y2⟩ := y
  obtain ⟨v', ev, rv⟩ := r.get e
  have := y2 xs hs
  rw [ev] at this
  cases this
  exact ⟨_, Gr.ie w.le, rv⟩⟩
theorem itT {B H : Hp} {A : List Addr} {a : Addr} {xs : List V} {l : List D} {chk : Mu → Prop} (r : RpL K B xs l) (h : SqT K B a xs) : ItOk K (Itt K a) l chk B H A := ⟨fun x w c => by
  have hs := w.le.sqt (x.b.sqt h)
  refine ⟨fun i hi => ⟨xs, xs[i]'(by rw [r.len]; exact hi), hs, List.getElem?_eq_getElem _⟩, ⟨xs, hs, by rw [r.len]; exact Nat.le_refl _⟩, fun i d v H3 e y => ?_⟩
  obtain ⟨rfl, y2⟩ := y
  obtain ⟨v', ev, rv⟩ := r.get e
  have := y2 xs hs
  rw [ev] at this
  cases this
  exact ⟨_, Gr.ie w.le, rv.up x.b⟩⟩
theorem itS {B H : Hp} {A : List Addr} {s : List Nat} {chk : Mu → Prop} : ItOk K (Its (txt s)) (s.map fun c => D.str [c]) chk B H A := ⟨fun x w c => by
  have hl : (txt s).cps.size = s.length := txt_len s
  refine ⟨fun i hi => by
    rw [List.length_map] at hi
    show i < (txt s).cps.size
    omega, by
    rw [List.length_map]
    show (txt s).cps.size ≤ s.length
    omega, fun i d v H3 e y => ?_⟩
  obtain ⟨rfl, cc, ec, rfl⟩ := y
  have e2 : s[i]? = some cc := by
    rw [← ec]
    show s[i]? = s.toArray[i]?
    rw [List.getElem?_toArray]
  rw [List.getElem?_map, e2] at e
  cases e
  exact ⟨_, Gr.ie w.le, rp_str [cc]⟩⟩
theorem rpL_ints : ∀ ns : List Int, ∀ B, RpL K B (ns.map V.int) (ns.map D.int)
  | [], _ => .nil
  | n :: ns, B => .cons (.int n) (rpL_ints ns B)
theorem sim_seqI {t : TE} {e : ED} (h : SimE K E t e) : SimI K E (iSeq K t) (dSeqI e) := fun w l er q k => h w l er q fun v s m1 B1 H1 A1 x1 w1 r1 q1 => by
  cases s with
  | o i =>
    obtain ⟨o, eo, q1⟩ := bnd_at q1
    cases o with
    | lst ls =>
      obtain ⟨a, rfl, ea⟩ := r1
      obtain ⟨_, xs, hx, rl⟩ := w1.ob i a _ ea eo rfl
      refine .inl ⟨a, xs, rfl, .inl (.inl hx), k _ _ _ _ _ _ _ x1 w1 q1 (itL fun {B2 H2 A2 m2} x2 w2 c => ?_)⟩
      obtain ⟨_, ys, hy, rl2⟩ := w2.ob i a _ (app_get x2.a ea) c rfl
      exact ⟨ys, .inl (.inl hy), rl2⟩
    | _ => exact q1.elim
  | d x =>
    cases x with
    | lst ls =>
      cases (show Rp K B1 v (.lst ls) from r1) with
      | lst hx rl => exact .inl ⟨_, _, rfl, .inl (.inl (w1.le.lst hx)), k _ _ _ _ _ _ _ x1 w1 q1 (itL fun x2 w2 _ => ⟨_, .inl (.inl (w2.le.lst (x2.b _ _ hx))), RpL.up x2.b rl⟩)⟩
    | scr ns =>
      cases (show Rp K B1 v (.scr ns) from r1) with
      | scr hx => exact .inl ⟨_, _, rfl, w1.le.sql hx, k _ _ _ _ _ _ _ x1 w1 q1 (itL fun x2 w2 _ => ⟨_, w2.le.sql (x2.b.sql hx), rpL_ints ns _⟩)⟩
    | tup ls =>
      cases (show Rp K B1 v (.tup ls) from r1) with
      | tup hx rl => exact .inr (.inl ⟨_, _, rfl, w1.le.sqt hx, k _ _ _ _ _ _ _ x1 w1 q1 (itT rl hx)⟩)
    | str s =>
      cases (Rp.h (show Rp K B1 v (.str s) from r1) w1.le).txt
      exact .inr (.inr ⟨txt s, rfl, k _ _ _ _ _ _ _ x1 w1 q1 itS⟩)
    | _ => exact q1.elim
/-! ### ranges -/
def intsOf (lo : Int) (n : Nat) : List D := (List.range n).map fun (i : Nat) => D.int (lo + (i : Int))
theorem itR {B H : Hp} {A : List Addr} {lo : Int} {n : Nat} : ItOk K (Itr lo n) (intsOf lo n) (fun _ => True) B H A := ⟨fun x w c => by
  refine ⟨fun i hi => by
    have : i < n := by simpa [intsOf] using hi
    exact this, by simp [intsOf, Itr], fun i d v H3 e y => ?_⟩
  obtain ⟨rfl, rfl⟩ := y
  unfold intsOf at e
  rw [List.getElem?_map] at e
  cases hr : (List.range n)[i]? with
  | none =>
    rw [hr] at e
    cases e
  | some j =>
    rw [hr] at e
    cases e
    have : j = i := by
      obtain ⟨h1, h2⟩ := List.getElem?_eq_some_iff.mp hr
      rw [List.getElem_range] at h2
      exact h2.symm
    subst this
    exact ⟨_, Gr.ie w.le, .int _⟩⟩
def dRng1 (a : ED) : ID := fun R ρ m P => a R ρ m fun s m1 => asI s fun j => -(2 ^ 62) ≤ j ∧ j < 2 ^ 62 ∧ P (intsOf 0 j.toNat) (fun _ => True) m1
theorem sim_rng1 {t : TE} {a : ED} (h : SimE K E t a) : SimI K E (iRng1 (tCons t tNil)) (dRng1 a) := fun w l er q k => h w l er q fun v s m1 B1 H1 A1 x1 w1 r1 q1 => by
  obtain ⟨j, rfl, h1, h2, q1⟩ := int_of r1 q1
  exact ⟨j, rfl, h1, h2, k _ _ _ _ _ _ _ x1 w1 q1 itR⟩
def dRng2 (a b : ED) : ID := fun R ρ m P => a R ρ m fun s m1 => b R ρ m1 fun u m2 => asI s fun i => asI u fun j => -(2 ^ 62) ≤ i ∧ i < 2 ^ 62 ∧ -(2 ^ 62) ≤ j ∧ j < 2 ^ 62 ∧ P (intsOf i (j - i).toNat) (fun _ => True) m2
theorem sim_rng2 {t u : TE} {a b : ED} (h : SimE K E t a) (h' : SimE K E u b) : SimI K E (iRng2 (tCons t (tCons u tNil))) (dRng2 a b) := fun w l er q k =>
  h w l er q fun v s m1 B1 H1 A1 x1 w1 r1 q1 => h' w1 (l.x x1) (er.x x1) q1 fun v2 s2 m2 B2 H2 A2 x2 w2 r2 q2 => by
    obtain ⟨i, rfl, q2⟩ := int_of r1 q2
    obtain ⟨j, rfl, h1, h2, h3, h4, q2⟩ := int_of r2 q2
    exact ⟨i, j, rfl, ⟨h1, h2, h3, h4⟩, k _ _ _ _ _ _ _ (x1.tr x2) w2 q2 itR⟩
end
end Dl
end

section
/-! Dl9: what a def promises on plain data; a def is kept by its body, called by its promise (no repr under way). -/
namespace Dl
open PySem L2
open PyProof.Rows hiding St
abbrev SpD := ER → List SV → Mu → (SV → Mu → Prop) → Prop
def spD (K : Fr) (f : SpD) : Sp := fun vs H Q E => ∃ B A m ss P R, Wr K B H A m ∧ All2 (RpS K B A) vs ss ∧ f R ss m P ∧ Erk K E R B H A ∧
  ∀ v s m' B' H' A', Xt B H A B' H' A' → Wr K B' H' A' m' → RpS K B' A' v s → P s m' → Q v H'
/-- the promise kept where no repr is under way -/
structure FnG (P : Program) (w : World) (K : Fr) (mg : Str → Option Value) (base : Heap) (k : Nat) (f : Addr) (fd : FuncData) (ps : List Str) (sp : Sp) : Prop where
  len : ∀ vs H Q E, sp vs H Q E → vs.length = ps.length
  run : ∀ {A : Around} {outer : List Env} {s : Shared} {H : Hp} {args : Args} {us : List Value} {vs : List V} {Q : VK} {E : XK}, Room k A → A.guards = some [] → Env0 P w K mg base A outer s H → BindsTo s fd args (ps.zip us) →
    Vals vs us → sp vs H Q E → codeAny (model P w) A (.call (.ref f) args) (CR (L2.CX P w) outer P w H s Q E) s
section
variable {P : Program} {w : World} {K : Fr} {mg : Str → Option Value} {base : Heap}
theorem FnG.imp {k : Nat} {f : Addr} {fd : FuncData} {ps : List Str} {sp sp' : Sp} (F : FnG P w K mg base k f fd ps sp) (h : ∀ vs H Q E, sp' vs H Q E → sp vs H Q E) : FnG P w K mg base k f fd ps sp' :=
  ⟨fun vs H Q E q => F.len vs H Q E (h _ _ _ _ q), fun hr hg e0 hb rv q => F.run hr hg e0 hb rv (h _ _ _ _ q)⟩
theorem FnG.mono {k j : Nat} {f : Addr} {fd : FuncData} {ps : List Str} {sp : Sp} (F : FnG P w K mg base k f fd ps sp) (h : k ≤ j) : FnG P w K mg base j f fd ps sp :=
  ⟨F.len, fun hr hg e0 hb rv q => F.run (hr.mono h) hg e0 hb rv q⟩
/-- a def by its body -/
theorem gfn {k : Nat} {x qual : Str} {st : Stmt} {f : Addr} {fd : FuncData} {N ps : List Str} {sp : Sp} (F : Fun K x qual st f fd) (S : FnScope N ps (defScope st)) (len : ∀ vs H Q E, sp vs H Q E → vs.length = ps.length)
    (body : ∀ (cdv : Value) (A : Around) (outer : List Env) (s : Shared) (H : Hp) (vs : List V) (Q : VK) (E : XK), Room k (A.deeper (envOfC qual (defScope st) s.heap.objs.size f cdv)) → A.guards = some [] → sp vs H Q E →
      ∃ t, PSs (cxOf (L2.CX P w) P w K mg base N qual (defScope st) f cdv A outer s H E) (defBody st) t ∧ t { nx := fun _ H' => Q .non H', rt := Q } (L2.start N vs) H) : FnG P w K mg base (k + 1) f fd ps sp := by
  obtain ⟨oc, od, kV, doc, pm, an, cdv, ct, osl, rfl, lk, hcd⟩ := F.ex
  refine ⟨len, fun {A outer s H args us vs Q E} hr hg e0 hb rv hq => ?_⟩
  have hKs : K.In s.heap := e0.mod.kin.keeps fun b o e => (e0.bs b o e).1
  have hNl : s.heap.NoLimit := e0.mod.nolimit.keeps fun b o e => (e0.bs b o e).1
  have kinds : ∀ y ∈ ps.zip us, (defScope st).names.lookup y.1 = some .local ∨ ((defScope st).names.lookup y.1 = some .cell ∧ ((cellsFrom (s.heap.objs.size + 1) (defScope st).names []).lookup y.1).isSome = true) := by
    rintro ⟨n, v⟩ hy
    exact (S.par n (List.of_mem_zip hy).1).imp id fun q => ⟨q, PySem.W.cellsFrom_some _ _ _ (.inl q)⟩
  refine codeAny_call_function hr.depth (hKs _ _ lk) rfl S.co S.gen rfl (PySem.W.codeRec_of hKs hcd) (hb _ _ _ _ ?_)
  refine wpAny_newFunctionEnv_cells S.kind kinds fun env he s1 ic => ?_
  subst he
  refine ⟨hNl.keeps ic.toInCall.keep, codeAny_func ?_⟩
  obtain ⟨t, ht, hgo⟩ := body cdv A outer s H vs Q E (hr.deeper _) hg hq
  have I := inv_start (CX := L2.CX P w) (E := E) S hr.hd e0 (len _ _ _ _ hq) rv ic
  refine wpAny_mono (ht.run [] s1 (L2.start N vs) H _ I hgo) (fun fl s' hs => ?_) fun e s' hs => hs
  cases fl with
  | ret u =>
    obtain ⟨v, σ', H', J, r, q⟩ := hs
    exact ⟨v, H', J.os, J.bare, J.base, J.hok, r, q⟩
  | next =>
    obtain ⟨σ', H', J, q⟩ := hs
    exact ⟨V.non, H', J.os, J.bare, J.base, J.hok, rfl, q⟩
  | brk =>
    obtain ⟨_, _, _, q⟩ := hs
    exact q.elim
  | cont =>
    obtain ⟨_, _, _, q⟩ := hs
    exact q.elim
end
/-! ### calls -/
section
variable {X : Cx} {k : Nat} {f : Addr} {fd : FuncData} {ps : List Str} {sp : Sp} {E : XK}
abbrev PassG (X : Cx) (E : XK) : Prop := Passes (L2.CX X.prog X.w) X E
/-- how a call binds: positional values us, keywords' values ws (names ks) -/
structure BindG (K : Fr) (fd : FuncData) (ps ks : List Str) (n : Nat) (g : {α : Type} → List α → List α → List α) : Prop where
  to : ∀ (s : Shared) (us ws : List Value), K.In s.heap → us.length = n → ws.length = ks.length → BindsTo s fd ⟨us, ks.zip ws⟩ (ps.zip (g us ws))
  rel : ∀ {vs : List V} {us : List Value} {zs : List V} {ws : List Value}, Vals vs us → Vals zs ws → Vals (g vs zs) (g us ws)
theorem call_g {pins : List (Addr × Obj)} {σ : St} {H : Hp} {s : Shared} {Q : VK} {args : Args} {us : List Value} {vs : List V} (F : FnG X.prog X.w X.K X.mg X.base k f fd ps sp) (hr : Room k X.A) (hg : X.A.guards = some [])
    (hx : PassG X E) (I : Inv X pins σ H s) (hb : BindsTo s fd args (ps.zip us)) (r : Vals vs us) (h : sp vs H Q E) : codeAny (model X.prog X.w) X.A (.call (.ref f) args) (fun r s' => match r with
      | .ok (.ret u) => EP X pins σ Q u s'
      | .ok _ => False
      | .error e => X.xe e s') s := by
  refine codeAny_mono (F.run hr hg I.env0 hb r h) fun r s' hq => ?_
  cases r with
  | error e => exact hx pins σ H s e s' I hq
  | ok fl =>
    cases fl with
    | ret u => exact I.after hq
    | next => exact False.elim hq
    | brk => exact False.elim hq
    | cont => exact False.elim hq
theorem wp_g {pins : List (Addr × Obj)} {σ : St} {H : Hp} {s : Shared} {Q : VK} {pos : List Value} {kw : List (Str × Value)} {us : List Value} {vs : List V} (F : FnG X.prog X.w X.K X.mg X.base k f fd ps sp) (hr : Room k X.A) (hg : X.A.guards = some [])
    (hx : PassG X E) (I : Inv X pins σ H s) (hb : BindsTo s fd ⟨pos, kw⟩ (ps.zip us)) (r : Vals vs us) (h : sp vs H Q E) : wpAny (model X.prog X.w) X.A (call (.ref f) pos kw) (EP X pins σ Q) X.xe s := by
  refine wpAny_call (codeAny_mono (call_g F hr hg hx I hb r h) fun r s' hq => ?_)
  cases r with
  | error e => exact hq
  | ok fl =>
    cases fl with
    | ret u => exact hq
    | next => exact False.elim hq
    | brk => exact False.elim hq
    | cont => exact False.elim hq
def tCallG (sp : Sp) (E : XK) (t : TA) : TE := fun σ H Q => t σ H fun vs H1 => sp vs H1 Q E
/-- a def of the program, ready to be called by its name -/
structure Own (P : Program) (w : World) (K : Fr) (mg : Str → Option Value) (base : Heap) (k : Nat) (x : Str) (st : Stmt) (ps : List Str) (f : SpD) : Prop where
  ex : ∃ fa fd, mg x = some (.ref fa) ∧ L2.Fun K x x st fa fd ∧ Binds K fd ps [] ∧ FnG P w K mg base k fa fd ps (spD K f)
theorem Own.mk' {P : Program} {w : World} {K : Fr} {mg : Str → Option Value} {base : Heap} {k : Nat} {x : Str} {st : Stmt} {ps : List Str} {f : SpD} {fa : Addr} {fd : FuncData} (hm : mg x = some (.ref fa)) (F : L2.Fun K x x st fa fd) (hb : Binds K fd ps [])
    (h : FnG P w K mg base k fa fd ps (spD K f)) : Own P w K mg base k x st ps f := ⟨fa, fd, hm, F, hb, h⟩
variable {st : Stmt}
variable {x : Str} {p pos : Pos} {e : Expr} {es : List Expr} {t : TA} {F : SpD}
theorem pe_own (o : Own X.prog X.w X.K X.mg X.base k x st ps F) (hr : Room k X.A) (hg : X.A.guards = some []) (hx : PassG X E) (hn : Gl X x) (ha : PA X (e :: es) t)
    (hdb : (x == ("__debug__" : Str)) = false := by decide) (he : starEach (e :: es) X.env = (false, eval e X.env) :: starEach es X.env := by rfl) (hpl : (backTo pos (starEach es X.env)).any (·.1) = false := by rfl) :
    PE X (.Call (.Name x p) (e :: es) [] pos) (tCallG (spD X.K F) E t) := by
  obtain ⟨fa, fd, hm, FF, hb, FG⟩ := o.ex
  have hk := FF.kp
  refine ⟨fun pins s σ H Q I h => wpAny_Call_Name_kw (ld_glob I hn hm ?_ hdb)⟩
  refine PySem.W.callWith_K (h₀ := X.base) I.ok.mod.kin hk (thn (ha.run pos pins s σ H _ I h) fun us s1 hv => ?_) he hpl
  obtain ⟨vs, H1, I1, rv, q⟩ := hv
  have hl : (us ++ ([] : List Value)).length = ps.length := by
    rw [List.append_nil, ← rv.length]
    exact FG.len _ _ _ _ q
  have b := hb s1 us I1.kIn hl
  rw [List.append_nil] at b
  exact ⟨I1.kIn, wp_g FG hr hg hx I1 b rv q⟩
theorem pe_own0 (o : Own X.prog X.w X.K X.mg X.base k x st ps F) (hr : Room k X.A) (hg : X.A.guards = some []) (hx : PassG X E) (hn : Gl X x) (hdb : (x == ("__debug__" : Str)) = false := by decide) :
    PE X (.Call (.Name x p) [] [] pos) (tCallG (spD X.K F) E tNil) := by
  obtain ⟨fa, fd, hm, FF, hb, FG⟩ := o.ex
  have hk := FF.kp
  refine ⟨fun pins s σ H Q I h => wpAny_Call_Name_kw (ld_glob I hn hm ?_ hdb)⟩
  have hl : (([] : List Value) ++ ([] : List Value)).length = ps.length := FG.len [] _ _ _ h
  have b := hb s [] I.kIn hl
  exact PySem.W.callWith_K0 I.kIn hk (wp_g FG hr hg hx I b .nil h)
end
section
variable {K : Fr} {E : XK}
def dCall (f : SpD) (a : AD) : ED := fun R ρ m P => a R ρ m fun ss m1 => f R ss m1 P
theorem sim_call {t : TA} {a : AD} {f : SpD} (ha : SimA K E t a) : SimE K E (tCallG (spD K f) E t) (dCall f a) := fun w l e q k => ha w l e q fun vs ss m1 B1 H1 A1 x1 w1 r1 q1 =>
  ⟨B1, A1, m1, ss, _, _, w1, r1, q1, e.x x1, fun v s m' B' H' A' x w' r p => k v s m' B' H' A' (x1.tr x) w' r p⟩
/-! ### a def's promise from its body's reading -/
def startR (n : Nat) (ss : List SV) : Rho := ss.map some ++ List.replicate (n - ss.length) none
theorem All2.len {α β : Type} {R : α → β → Prop} : ∀ {as : List α} {bs : List β}, All2 R as bs → as.length = bs.length
  | _, _, .nil => rfl
  | _, _, .cons _ t => by rw [List.length_cons, List.length_cons, All2.len t]
theorem All2.get {α β : Type} {R : α → β → Prop} : ∀ {as : List α} {bs : List β} {i : Nat} {b : β}, All2 R as bs → bs[i]? = some b → ∃ a, as[i]? = some a ∧ R a b
  | _, _, _, _, .nil, e => by cases e
  | _, _, 0, _, .cons r _, e => by
    cases e
    exact ⟨_, rfl, r⟩
  | _, _, i + 1, _, .cons _ t, e => All2.get (i := i) t e
theorem sl_start {B : Hp} {A : List Addr} {vs : List V} {ss : List SV} (r : All2 (RpS K B A) vs ss) (N : List Str) : Sl K B A (L2.start N vs) (startR N.length ss) where
  len := by
    unfold L2.start startR
    rw [List.length_append, List.length_append, List.length_map, List.length_map, List.length_replicate, List.length_replicate, r.len]
  at_ := fun i s e => by
    unfold startR at e
    by_cases h : i < ss.length
    · rw [List.getElem?_append_left (by rw [List.length_map]; exact h), List.getElem?_map] at e
      cases q : ss[i]? with
      | none =>
        rw [q] at e
        cases e
      | some s' =>
        rw [q] at e
        cases e
        obtain ⟨v, ev, rv⟩ := r.get q
        refine ⟨v, ?_, rv⟩
        unfold L2.start
        rw [List.getElem?_append_left (by rw [List.length_map, r.len]; exact h), List.getElem?_map, ev]
        rfl
    · rw [List.getElem?_append_right (by rw [List.length_map]; omega), List.getElem?_replicate] at e
      split at e <;> cases e
/-- the body's reading at the promise's arguments -/
theorem run_body {B H : Hp} {A : List Addr} {m : Mu} {vs : List V} {ss : List SV} {N : List Str} {t : TS} {sd : SD} {P : SV → Mu → Prop} {R : ER} {Q : VK} (hs : SimS K E t sd) (w : Wr K B H A m) (r : All2 (RpS K B A) vs ss) (er : Erk K E R B H A)
    (q : sd R { nx := fun _ m' => P (.d .non) m', rt := P } (startR N.length ss) m)
    (k : ∀ v s m' B' H' A', Xt B H A B' H' A' → Wr K B' H' A' m' → RpS K B' A' v s → P s m' → Q v H') : t { nx := fun _ H' => Q .non H', rt := Q } (L2.start N vs) H :=
  hs w (sl_start r N) er q ⟨fun x w' l p => k .non (.d .non) _ _ _ _ x w' (show RpS K _ _ .non (.d .non) from .non) p, fun x w' r p => k _ _ _ _ _ _ x w' r p, fun _ _ _ p => p.elim, fun _ _ _ p => p.elim⟩
/-! ### promises over plain data alone: nothing of the caller's changes -/
abbrev RD := Addr → D → Prop
abbrev GF := RD → List D → (D → Prop) → Prop
/-- what is handed back, as plain data (a list or a dict of the def's own comes to the ground) -/
def frz (m : Mu) : SV → Option D
  | .d x => some x
  | .o i => match m[i]? with
    | some (.lst l) => some (.lst l)
    | some (.dic l) => some (.dic l)
    | _ => none
def fn0 (g : GF) : SpD := fun R ss m P => bnd (allD ss) fun ds => g (fun C d => R C d m) ds fun d => P (.d d) m
theorem all2_d {B : Hp} {A : List Addr} : ∀ {vs : List V} {ds : List D}, RpL K B vs ds → All2 (RpS K B A) vs (ds.map SV.d)
  | _, _, .nil => .nil
  | _, _, .cons r t => .cons r (all2_d t)
theorem rpl_all {B : Hp} {A A' : List Addr} {vs : List V} {ss : List SV} {ds : List D} (r : All2 (RpS K B A) vs ss) (e : allD ss = some ds) : All2 (RpS K B A') vs (ds.map SV.d) := all2_d (allD_rp r e)
/-- what a frame without things of its own leaves to one with A -/
theorem Xt.frame0 {B H B' H' : Hp} {A A' : List Addr} {m m' : Mu} (w : Wr K B H A m) (x : Xt B H [] B' H' A') (w' : Wr K B' H' A' m') : Xt B H A B' H' A ∧ Wr K B' H' A m := by
  have old : ∀ a, a ∈ A → ∃ o, H a = some o := fun a h => by
    cases e : H a with
    | none => exact absurd e (w.dm a h)
    | some o => exact ⟨o, rfl⟩
  refine ⟨⟨x.b, ⟨[], by rw [List.append_nil]⟩, fun p o e _ => x.h p o e List.not_mem_nil, fun p e f _ => x.n p e f List.not_mem_nil, fun _ h k => absurd h k, x.d⟩, ⟨w'.le, w.len, fun i a o e f l => ?_, w.nd, fun a h q => ?_⟩⟩
  · obtain ⟨b, r⟩ := w.ob i a o e f l
    obtain ⟨z, ez⟩ := r.there l
    exact ⟨x.n a b (by rw [ez]; intro y; cases y) List.not_mem_nil, r.up x.b ⟨[], by rw [List.append_nil]⟩ fun o' e' => x.h a o' e' List.not_mem_nil⟩
  · obtain ⟨o, eo⟩ := old a h
    rw [x.h a o eo List.not_mem_nil] at q
    cases q
theorem Wr.nil {B H : Hp} (e : Le B H) : Wr K B H [] [] where
  le := e
  len := rfl
  ob := fun i a o h => by
    rw [List.getElem?_nil] at h
    cases h
  nd := fun i j a h => by
    rw [List.getElem?_nil] at h
    cases h
  dm := fun a h => absurd h List.not_mem_nil
/-- a value that is handed back: it comes to the ground -/
theorem frz_at {B H : Hp} {A : List Addr} {m : Mu} (w : Wr K B H A m) {v : V} {s : SV} {d : D} (r : RpS K B A v s) (e : frz m s = some d) : ∃ B' m', Xt B H A B' H A ∧ Wr K B' H A m' ∧ Rp K B' v d := by
  cases s with
  | d x =>
    cases e
    exact ⟨B, m, Xt.ie, w, r⟩
  | o i =>
    obtain ⟨a, rfl, ea⟩ := r
    have e' : (match m[i]? with
      | some (.lst l) => some (D.lst l)
      | some (.dic l) => some (D.dic l)
      | _ => none) = some d := e
    split at e'
    · rename_i l em
      cases e'
      obtain ⟨hb, xs, hp, rl⟩ := w.ob i a _ ea em rfl
      exact ⟨_, _, Xt.froze (List.mem_of_getElem? ea) hb, w.froze ea (lv em rfl) hp, Rp.lst upd_same (RpL.up (Ex.new hb) rl)⟩
    · rename_i l em
      cases e'
      obtain ⟨hb, xs, hp, rl⟩ := w.ob i a _ ea em rfl
      exact ⟨_, _, Xt.froze (List.mem_of_getElem? ea) hb, w.froze ea (lv em rfl) hp, Rp.dic upd_same (RpK.up (Ex.new hb) rl)⟩
    · cases e'
def ends0 (P : D → Prop) : DEnds := { nx := fun _ _ => P .non, rt := fun s m => bnd (frz m s) P }
theorem body0 {g : GF} {vs : List V} {H : Hp} {Q : VK} {N : List Str} {t : TS} {sd : SD} (h : spD K (fn0 g) vs H Q E) (hs : SimS K E t sd)
    (hb : ∀ (R : RD) (ds : List D) (P : D → Prop), g R ds P → sd (fun C d _ => R C d) (ends0 P) (startR N.length (ds.map SV.d)) []) : t { nx := fun _ H' => Q .non H', rt := Q } (L2.start N vs) H := by
  obtain ⟨B, A, m, ss, P, R, w, r, q, er, k⟩ := h
  obtain ⟨ds, ed, q⟩ := bnd_at q
  refine run_body (P := fun s m' => bnd (frz m' s) fun d => P (.d d) m) (R := fun C d _ => R C d m) hs (Wr.nil w.le) (rpl_all r ed) (fun C d m' B' H' A' dd v x w' e1 e2 e3 => ?_) (hb _ ds _ q) fun v s m' B' H' A' x w' rv p => ?_
  · obtain ⟨x2, w2⟩ := Xt.frame0 w x w'
    exact er C d m B' H' A dd v x2 w2 e1 e2 e3
  · obtain ⟨d, e, p⟩ := bnd_at p
    obtain ⟨B2, m2, x2, w2, r2⟩ := frz_at w' rv e
    obtain ⟨x3, w3⟩ := Xt.frame0 w (x.tr x2) w2
    exact k v (.d d) m B2 H' A x3 w3 r2 p
end
end Dl
end

section
/-! Dl10: promises of defs that change one thing of the caller's (the first argument). -/
namespace Dl
open PySem L2
open PyProof.Rows hiding St
section
variable {K : Fr} {E : XK}
abbrev G1 := (Addr → D → MO → Prop) → MO → List D → (D → MO → Prop) → Prop
def pureM : MO → Bool
  | .lst _ => true
  | .dic _ => true
  | _ => false
def fn1 (g : G1) : SpD := fun R ss m P => match ss with
  | .o j :: rest => bnd m[j]? fun o => pureM o = true ∧ bnd (allD rest) fun ds => g (fun C d o' => R C d (m.set j o')) o ds fun d o' => P (.d d) (m.set j o')
  | _ => False
theorem RpM.pure {B H : Hp} {A A' : List Addr} {a : Addr} {o : MO} (h : pureM o = true) (r : RpM K B H A a o) : RpM K B H A' a o := by
  cases o with
  | lst l => exact r
  | dic l => exact r
  | _ => cases h
theorem pure_live {o : MO} (h : pureM o = true) : live (some o) = true := by
  cases o <;> first | rfl | cases h
theorem one_get {α : Type} {a b : α} {i : Nat} (h : [a][i]? = some b) : i = 0 ∧ b = a := by
  cases i with
  | zero =>
    cases h
    exact ⟨rfl, rfl⟩
  | succ n => cases h
theorem Wr.one {B H : Hp} {A : List Addr} {m : Mu} (w : Wr K B H A m) {j : Nat} {a : Addr} {o : MO} (ea : A[j]? = some a) (eo : m[j]? = some o) (p : pureM o = true) : Wr K B H [a] [o] where
  le := w.le
  len := rfl
  ob := fun i b u e1 e2 l => by
    obtain ⟨rfl, rfl⟩ := one_get e1
    cases e2
    obtain ⟨q, r⟩ := w.ob j b _ ea eo l
    exact ⟨q, r.pure p⟩
  nd := fun i k b e1 e2 _ _ => by rw [(one_get e1).1, (one_get e2).1]
  dm := fun b hb => by
    rw [List.mem_singleton.mp hb]
    exact w.dm a (List.mem_of_getElem? ea)
/-- what a frame with one thing of the caller's leaves -/
theorem Xt.frame1 {B H B' H' : Hp} {A A' : List Addr} {m m' : Mu} {j : Nat} {a : Addr} {o o' : MO} (w : Wr K B H A m) (ea : A[j]? = some a) (eo : m[j]? = some o) (p : pureM o = true)
    (x : Xt B H [a] B' H' A') (w' : Wr K B' H' A' m') (eo' : m'[0]? = some o') (p' : pureM o' = true) : Xt B H A B' H' A ∧ Wr K B' H' A (m.set j o') := by
  have aA : a ∈ A := List.mem_of_getElem? ea
  have out : ∀ b, b ∉ A → b ∉ [a] := fun b h z => h (by rw [List.mem_singleton.mp z]; exact aA)
  have ea' : A'[0]? = some a := app_get x.a rfl
  have live_j : live m[j]? = true := by rw [eo]; exact pure_live p
  obtain ⟨b1, r1⟩ := w'.ob 0 a o' ea' eo' (pure_live p')
  have keep : ∀ i b u, A[i]? = some b → m[i]? = some u → live (some u) = true → i ≠ j → b ≠ a := fun i b u e1 e2 l ne z => ne (w.nd i j a (by rw [← z]; exact e1) ea (by rw [e2]; exact l) live_j)
  refine ⟨⟨x.b, ⟨[], by rw [List.append_nil]⟩, fun q u e k => x.h q u e (out q k), fun q e f k => x.n q e f (out q k), fun _ h k => absurd h k, x.d⟩, ⟨w'.le, by rw [List.length_set]; exact w.len, fun i b u e1 e2 l => ?_, fun i k b e1 e2 l1 l2 => w.nd i k b e1 e2 (live_set live_j l1) (live_set live_j l2), fun b h q => ?_⟩⟩
  · rcases set_get e2 with ⟨h1, h2, _⟩ | ⟨h1, h2⟩
    · subst h1
      rw [ea] at e1
      cases e1
      rw [h2]
      exact ⟨b1, r1.pure p'⟩
    · obtain ⟨q, r⟩ := w.ob i b u e1 h2 l
      obtain ⟨z, ez⟩ := r.there l
      have ne : b ∉ [a] := fun y => keep i b u e1 h2 l (fun t => h1 t.symm) (List.mem_singleton.mp y)
      exact ⟨x.n b q (by rw [ez]; intro y; cases y) ne, r.up x.b ⟨[], by rw [List.append_nil]⟩ fun o2 e' => x.h b o2 e' ne⟩
  · by_cases ne : b ∈ [a]
    · rw [List.mem_singleton.mp ne] at q
      obtain ⟨z, ez⟩ := r1.there (pure_live p')
      rw [ez] at q
      cases q
    · cases e : H b with
      | none => exact w.dm b h e
      | some u =>
        rw [x.h b u e ne] at q
        cases q
/-- as frz, but the caller's thing stays the caller's -/
def frz1 (m : Mu) : SV → Option D
  | .o 0 => none
  | s => frz m s
def ends1 (P : D → MO → Prop) : DEnds := { nx := fun _ m => bnd m[0]? fun o => pureM o = true ∧ P .non o, rt := fun s m => bnd (frz1 m s) fun d => bnd m[0]? fun o => pureM o = true ∧ P d o }
theorem body1 {g : G1} {vs : List V} {H : Hp} {Q : VK} {N : List Str} {t : TS} {sd : SD} (h : spD K (fn1 g) vs H Q E) (hs : SimS K E t sd)
    (hb : ∀ (R : Addr → D → MO → Prop) (o : MO) (ds : List D) (P : D → MO → Prop), g R o ds P → sd (fun C d m' => bnd m'[0]? fun o' => pureM o' = true ∧ R C d o') (ends1 P) (startR N.length (.o 0 :: ds.map SV.d)) [o]) : t { nx := fun _ H' => Q .non H', rt := Q } (L2.start N vs) H := by
  obtain ⟨B, A, m, ss, P, R, w, r, q, er, k⟩ := h
  cases r with
  | nil => exact q.elim
  | cons r rs =>
    rename_i v s vs ss
    cases s with
    | d x => exact q.elim
    | o j =>
      obtain ⟨o, eo, hp, q⟩ := bnd_at (show bnd m[j]? _ from q)
      obtain ⟨ds, ed, q⟩ := bnd_at q
      obtain ⟨a, ev, ea⟩ := r
      have rr : All2 (RpS K B [a]) (v :: vs) (.o 0 :: ds.map SV.d) := .cons ⟨a, ev, rfl⟩ (rpl_all rs ed)
      have q' := hb _ _ _ _ q
      have lenN : (SV.o 0 :: ds.map SV.d).length = (SV.o 0 :: ds.map SV.d).length := rfl
      refine hs (w.one ea eo hp) (sl_start rr N) (fun C d m' B' H' A' dd v' x w' e1 e2 e3 => ?_) q' ⟨fun {B' H' A' σ ρ m'} x w' l p => ?_, fun {B' H' A' v' s m'} x w' rv p => ?_, fun _ _ _ p => p.elim, fun _ _ _ p => p.elim⟩
      · obtain ⟨o', eo', po, e3⟩ := bnd_at e3
        obtain ⟨x2, w2⟩ := Xt.frame1 w ea eo hp x w' eo' po
        exact er C d (m.set j o') B' H' A dd v' x2 w2 e1 e2 e3
      · obtain ⟨o', eo', po, p⟩ := bnd_at p
        obtain ⟨x2, w2⟩ := Xt.frame1 w ea eo hp x w' eo' po
        exact k .non (.d .non) _ B' H' A x2 w2 (show RpS K B' A .non (.d .non) from .non) p
      · obtain ⟨d, e, p⟩ := bnd_at p
        obtain ⟨o', eo', po, p⟩ := bnd_at p
        obtain ⟨B2, m2, x2, w2, r2, e2⟩ : ∃ B2 m2, Xt B' H' A' B2 H' A' ∧ Wr K B2 H' A' m2 ∧ Rp K B2 v' d ∧ m2[0]? = some o' := by
          cases s with
          | d y =>
            cases e
            exact ⟨B', m', Xt.ie, w', rv, eo'⟩
          | o i =>
            obtain ⟨b, rfl, eb⟩ := rv
            have hi : i ≠ 0 := fun z => by
              subst z
              cases e
            have e : frz m' (.o i) = some d := by
              cases i with
              | zero => exact absurd rfl hi
              | succ n => exact e
            have e' : (match m'[i]? with
              | some (.lst l) => some (D.lst l)
              | some (.dic l) => some (D.dic l)
              | _ => none) = some d := e
            split at e'
            · rename_i l em
              cases e'
              obtain ⟨hb, xs, hpp, rl⟩ := w'.ob i b _ eb em rfl
              exact ⟨_, _, Xt.froze (List.mem_of_getElem? eb) hb, w'.froze eb (lv em rfl) hpp, Rp.lst upd_same (RpL.up (Ex.new hb) rl), by rw [List.getElem?_set_ne hi]; exact eo'⟩
            · rename_i l em
              cases e'
              obtain ⟨hb, xs, hpp, rl⟩ := w'.ob i b _ eb em rfl
              exact ⟨_, _, Xt.froze (List.mem_of_getElem? eb) hb, w'.froze eb (lv em rfl) hpp, Rp.dic upd_same (RpK.up (Ex.new hb) rl), by rw [List.getElem?_set_ne hi]; exact eo'⟩
            · cases e'
        obtain ⟨x3, w3⟩ := Xt.frame1 w ea eo hp (x.tr x2) w2 e2 po
        exact k v' (.d d) _ B2 H' A x3 w3 (show RpS K B2 A v' (.d d) from r2) p
end
end Dl
end

section
/-! Dl11: the law's call behind the top, from the law's promise on plain data. -/
namespace Dl
open PySem L2
open PyProof.Rows hiding St
section
variable {P : Program} {w : World} {K : Fr} {mg mb : Str → Option Value} {base : Heap}
/-- from an abstract heap G that tracks the script at most -/
theorem law_core {k : Nat} {fa a : Addr} {fd : FuncData} {x : Str} {F : SpD} {s : Shared} {vs : List Value} {ns : List Int} {G : Hp}
    (kin : K.In s.heap) (gns : s.heap.Ns mainGlobals mg) (bns : s.heap.Ns builtinsNs mb) (bt : ∀ y : Str, y ≠ "__name__" → mb y = bootBuiltins y) (nl : s.heap.NoLimit) (gen : s.gens = #[])
    (ob : s.heap.get? a = some { cls := .type "list", data := .seq vs.toArray }) (hr : Room k callerA)
    (fn : ∀ base : Heap, K.In base → base.Ns mainGlobals mg → FnG P w K mg base k fa fd [x] (spD K F)) (bind : ∀ (s : Shared) (u : Value), BindsTo s fd ⟨[u], []⟩ [(x, u)])
    (only : ∀ b, G b = none ∨ ∃ o xs, G b = some (.frz o (.lst xs))) (scr : SqL K G a (ns.map V.int)) (hok : HOk P w G s.heap) (ga : ∀ b, G b ≠ none → b = a) (gk : G a ≠ none → K.lookup a = none)
    (hF : F noR [.d (.scr ns)] [] fun s _ => s = .d (.bl true)) :
    codeAny (model P w) callerA (.call (.ref fa) ⟨[.ref a], []⟩) (fun r s' => r = .ok (.ret (.bool true)) ∧ OldK s.heap s'.heap ∧ s'.os = s.os ∧ AllBare s'.gens) s := by
  have nodict : ∀ {b : Addr} {o : Obj} {es : Array DictEntry} {ep : Nat}, s.heap.get? b = some o → o.data = .dict es ep → G b = none := by
    intro b o es ep e d
    cases q : G b with
    | none => rfl
    | some u =>
      have eb := ga b (by rw [q]; intro z; cases z)
      rw [eb, ob] at e
      cases e
      cases (show Data.seq vs.toArray _ = Data.dict es ep from d)
  have ns_up : ∀ {b : Addr} {m : Str → Option Value}, s.heap.Ns b m → (hidT s.heap G).Ns b m := by
    rintro b m ⟨o, es, ep, e, d, r⟩
    exact ⟨o, es, ep, hidT_get e (nodict e d), d, r⟩
  have kb : K.In (hidT s.heap G) := by
    intro b o e
    refine hidT_get (kin b o e) ?_
    cases q : G b with
    | none => rfl
    | some u =>
      have eb := ga b (by rw [q]; intro z; cases z)
      rw [eb] at e q
      rw [gk (by rw [q]; intro z; cases z)] at e
      cases e
  have md : Mod K mg (hidT s.heap G) := by
    obtain ⟨mc, h1, h2⟩ := nl
    exact ⟨kb, ns_up gns, ⟨mb, ns_up bns, bt⟩, ⟨mc, ns_up h1, h2⟩⟩
  have e0 : Env0 P w K mg (hidT s.heap G) callerA [] s G :=
    { frames := rfl, mod := md, bs := fun b o e => of_hidT e, bsz := Nat.le_of_eq (hidT_size _ _), funs := trivial, frf := fun b hb => (List.not_mem_nil hb).elim, hok := hok, bare := .of_eq gen }
  have rp : All2 (RpS K G []) [V.ref a] [SV.d (.scr ns)] := .cons (show Rp K G (.ref a) (.scr ns) from .scr scr) .nil
  have sp : spD K F [.ref a] G (fun v _ => v = .bl true) (fun _ _ _ => False) :=
    ⟨G, [], [], _, _, noR, Wr.nil Le.ie, rp, hF, Erk.no, fun v s m' B' H' A' x w' r p => by
      subst p
      cases (show Rp K B' v (.bl true) from r)
      rfl⟩
  refine codeAny_mono ((fn _ kb (ns_up gns)).run (us := [.ref a]) (vs := [.ref a]) hr rfl e0 (bind s (.ref a)) (.cons (show RelV (.ref a) (.ref a) from rfl) .nil) sp) fun r s' h => ?_
  cases r with
  | error e =>
    obtain ⟨_, _, _, _, _, _, _, _, _, _, _, _, z⟩ := h
    exact z.elim
  | ok fl =>
    cases fl with
    | next => exact h.elim
    | brk => exact h.elim
    | cont => exact h.elim
    | ret u =>
      obtain ⟨v, H', os, bare, un, hok', rv, rfl⟩ := h
      cases rv
      refine ⟨rfl, OldK.of_keep fun b o e => ?_, os, bare⟩
      rcases only b with z | ⟨o', xs, z⟩
      · exact un.keep b o e z List.not_mem_nil List.not_mem_nil
      · obtain ⟨e1, _⟩ := hok b _ z
        obtain ⟨e2, _⟩ := hok' b _ (un.frzs b o' _ z)
        rw [e] at e1
        cases e1
        exact e2
theorem law_run {k : Nat} {fa a : Addr} {fd : FuncData} {x : Str} {F : SpD} {s : Shared} {vs : List Value} {ns : List Int}
    (kin : K.In s.heap) (gns : s.heap.Ns mainGlobals mg) (bns : s.heap.Ns builtinsNs mb) (bt : ∀ y : Str, y ≠ "__name__" → mb y = bootBuiltins y) (nl : s.heap.NoLimit) (gen : s.gens = #[])
    (ob : s.heap.get? a = some { cls := .type "list", data := .seq vs.toArray }) (hin : IntsAre vs ns) (sz : ns.length ≤ sizeLine) (hr : Room k callerA)
    (fn : ∀ base : Heap, K.In base → base.Ns mainGlobals mg → FnG P w K mg base k fa fd [x] (spD K F)) (bind : ∀ (s : Shared) (u : Value), BindsTo s fd ⟨[u], []⟩ [(x, u)])
    (hF : F noR [.d (.scr ns)] [] fun s _ => s = .d (.bl true)) :
    codeAny (model P w) callerA (.call (.ref fa) ⟨[.ref a], []⟩) (fun r s' => r = .ok (.ret (.bool true)) ∧ OldK s.heap s'.heap ∧ s'.os = s.os ∧ AllBare s'.gens) s := by
  have rv := vals_ints hin
  cases hk : K.lookup a with
  | some o =>
    have e := kin a o hk
    rw [ob] at e
    cases e
    refine law_core (G := fun _ => none) kin gns bns bt nl gen ob hr fn bind (fun _ => .inl rfl) (.inr ⟨_, vs.toArray, _, hk, rfl, rfl, rfl, ?_, by simpa using rv⟩) (fun b u z => (by cases z)) (fun b z => absurd rfl z) (fun z => absurd rfl z) hF
    rw [List.size_toArray, hin.length]
    exact sz
  | none =>
    have at_a : upd (fun _ => none) a (.frz { cls := .type "list", data := .seq vs.toArray } (.lst (ns.map V.int))) a = some (HO.frz { cls := .type "list", data := .seq vs.toArray } (.lst (ns.map V.int))) := upd_same
    refine law_core (G := upd (fun _ => none) a (.frz { cls := .type "list", data := .seq vs.toArray } (.lst (ns.map V.int)))) kin gns bns bt nl gen ob hr fn bind (fun b => ?_) (.inl (.inr ⟨_, at_a⟩)) (fun b u z => ?_) (fun b z => ?_) (fun _ => hk) hF
    · by_cases e : b = a
      · rw [e, at_a]
        exact .inr ⟨_, _, rfl⟩
      · exact .inl (upd_ne e)
    · by_cases e : b = a
      · rw [e, at_a] at z
        cases z
        rw [e]
        refine ⟨ob, ?_, vs, _, rv, ob⟩
        rw [List.length_map]
        exact sz
      · rw [upd_ne e] at z
        cases z
    · by_cases e : b = a
      · exact e
      · exact absurd (upd_ne e) z
/-- the goal behind the head, from the law's promise -/
theorem walkG {l : PySem.W.OpenLaw} {n k : Nat} {q : Program} {loose : List Str} {XP : (Str → Option Value) → Heap → Prop} {YP : World → Heap → Prop} {d : DefRec} {K : Params → Fr} {F : SpD} {x : Str}
    (hn : l.most = some n) (hn2 : n ≤ sizeLine) (hdf : d.params.defaults = []) (hr : Room k callerA) (hY : ∀ (w : World) (h : Heap), YP w h → (K w.params).In h)
    (fn : ∀ (w : World) (mg : Str → Option Value) (fa : Addr) (h : Heap), (K w.params).In h → h.Ns mainGlobals mg → mg d.name = some (.ref fa) →
      ∃ fd : FuncData, (∀ (s : Shared) (u : Value), BindsTo s fd ⟨[u], []⟩ [(x, u)]) ∧
        ∀ base : Heap, (K w.params).In base → base.Ns mainGlobals mg → FnG l.prog w (K w.params) mg base k fa fd [x] (spD (K w.params) F))
    (hF : ∀ ns : List Int, ns.length ≤ n → F noR [.d (.scr ns)] [] fun s _ => s = .d (.bl true)) :
    PySem.W.WalkO q loose XP YP l.row.toRowW d [] (fun f vs => PySem.call f vs) := by
  refine Att.attach_call hn hdf fun w s₀ s₁ mg mb fa o pm cd doc a vs ns G Y ho hd hcd hmg hobj hints hlen hg => ?_
  obtain ⟨fd, hb, hf⟩ := fn w mg fa _ (hY w _ Y) G.T.g hmg
  exact law_run (hY w _ Y) G.T.g G.T.b G.T.builtins G.T.nolimit hg hobj hints (Nat.le_trans hlen hn2) hr hf hb (hF ns hlen)
end
end Dl
end

section
/-! Dl12: what is built in, by values, on plain data. -/
namespace Dl
open PySem L2
open PyProof.Rows hiding St
section
variable {K : Fr} {E : XK} {B H : Hp}
/-! ### all2 of one, two -/
theorem a1 {xs : List V} {x : D} (r : All2 (RpH K B H) xs [x]) : ∃ v, xs = [v] ∧ RpH K B H v x := by
  cases r with
  | cons r t => cases t with
    | nil => exact ⟨_, rfl, r⟩
theorem a2 {xs : List V} {x y : D} (r : All2 (RpH K B H) xs [x, y]) : ∃ v u, xs = [v, u] ∧ RpH K B H v x ∧ RpH K B H u y := by
  cases r with
  | cons r t =>
    obtain ⟨u, rfl, q⟩ := a1 t
    exact ⟨_, u, rfl, r, q⟩
/-- a one-place function -/
def on1 (f : O1) : OL := fun ds P => match ds with
  | [x] => f x P
  | _ => False
def on2 (f : O2) : OL := fun ds P => match ds with
  | [x, y] => f x y P
  | _ => False
theorem on1_at {f : O1} {ds : List D} {P : D → Prop} (q : on1 f ds P) : ∃ x, ds = [x] ∧ f x P := by
  match ds, q with
  | [x], q => exact ⟨x, rfl, q⟩
theorem on2_at {f : O2} {ds : List D} {P : D → Prop} (q : on2 f ds P) : ∃ x y, ds = [x, y] ∧ f x y P := by
  match ds, q with
  | [x, y], q => exact ⟨x, y, rfl, q⟩
/-! ### len -/
def oLen : O1
  | .str s => fun P => s.length ≤ 16777216 ∧ P (.int s.length)
  | .lst l => fun P => P (.int l.length)
  | .tup l => fun P => P (.int l.length)
  | .scr l => fun P => P (.int l.length)
  | .dic l => fun P => P (.int l.length)
  | _ => fun _ => False
theorem s_len : SimL K (fun xs H Q => ∃ x n, xs = [x] ∧ LenV K x H n ∧ Q (.int (n : Nat)) H) (on1 fun x P => match x with
  | .dic _ => False
  | x => oLen x P) := fun {B H xs ds P Q} le r q k => by
  obtain ⟨x, rfl, q⟩ := on1_at q
  obtain ⟨v, rfl, rv⟩ := a1 r
  cases x with
  | str s => exact ⟨v, _, rfl, by rw [rv.txt]; exact ⟨by rw [txt_len, lim_eq]; exact q.1, rfl⟩, by rw [txt_len]; exact k _ _ B H (Gr.ie le) (.int _) q.2⟩
  | lst l =>
    obtain ⟨a, ys, rfl, h, rl⟩ := rv
    exact ⟨_, _, rfl, .inl ⟨ys, .inl (.inl h), rfl⟩, by rw [rl.len]; exact k _ _ B H (Gr.ie le) (.int _) q⟩
  | tup l =>
    obtain ⟨a, ys, rfl, h, rl⟩ := rv
    exact ⟨_, _, rfl, .inr ⟨ys, le.sqt h, rfl⟩, by rw [rl.len]; exact k _ _ B H (Gr.ie le) (.int _) q⟩
  | scr l =>
    obtain ⟨a, rfl, h⟩ := rv
    exact ⟨_, _, rfl, .inl ⟨_, le.sql h, rfl⟩, by rw [List.length_map]; exact k _ _ B H (Gr.ie le) (.int _) q⟩
  | _ => exact q.elim
/-! ### ints -/
def oInt1 : O1
  | .int i => fun P => P (.int i)
  | .bl b => fun P => P (.int (if b then 1 else 0))
  | _ => fun _ => False
theorem s_int1 : SimL K (fun xs H Q => (∃ i, xs = [.int i] ∧ Q (.int i) H) ∨ ∃ k, xs = [.bl k] ∧ Q (.int (if k then 1 else 0)) H) (on1 oInt1) := fun {B H xs ds P Q} le r q k => by
  obtain ⟨x, rfl, q⟩ := on1_at q
  obtain ⟨v, rfl, rv⟩ := a1 r
  cases x with
  | int i => exact .inl ⟨i, by rw [show v = _ from rv], k _ _ B H (Gr.ie le) (.int _) q⟩
  | bl i => exact .inr ⟨i, by rw [show v = _ from rv], k _ _ B H (Gr.ie le) (.int _) q⟩
  | _ => exact q.elim
def oAbs : O1
  | .int i => fun P => P (.int (if i < 0 then -i else i))
  | _ => fun _ => False
theorem s_abs : SimL K (fun xs H Q => ∃ i, xs = [.int i] ∧ Q (.int (if i < 0 then -i else i)) H) (on1 oAbs) := fun {B H xs ds P Q} le r q k => by
  obtain ⟨x, rfl, q⟩ := on1_at q
  obtain ⟨v, rfl, rv⟩ := a1 r
  cases x with
  | int i => exact ⟨i, by rw [show v = _ from rv], k _ _ B H (Gr.ie le) (.int _) q⟩
  | _ => exact q.elim
def oMax2 : O2 := oInt0 fun i j => if j > i then j else i
def oMin2 : O2 := oInt0 fun i j => if j < i then j else i
theorem s_2 {f : Int → Int → Int} : SimL K (fun xs H Q => ∃ i j, xs = [.int i, .int j] ∧ Q (.int (f i j)) H) (on2 (oInt0 f)) := fun {B H xs ds P Q} le r q k => by
  obtain ⟨x, y, rfl, q⟩ := on2_at q
  obtain ⟨v, u, rfl, rv, ru⟩ := a2 r
  cases x with
  | int i =>
    cases y with
    | int j => exact ⟨i, j, by rw [show v = _ from rv, show u = _ from ru], k _ _ B H (Gr.ie le) (.int _) q⟩
    | _ => exact q.elim
  | _ => exact q.elim
/-- str of an int -/
def numT (i : Int) : List Nat := (Str.ofString (toString i)).cps.toList
def oStr : O1
  | .int i => fun P => i.natAbs.log2 < 1920 ∧ P (.str (numT i))
  | .str s => fun P => P (.str s)
  | _ => fun _ => False
theorem s_str : SimL K (fun xs H Q => ∃ i, xs = [.int i] ∧ i.natAbs.log2 < 1920 ∧ Q (.str (toString i)) H) (on1 fun x P => match x with
  | .int i => i.natAbs.log2 < 1920 ∧ P (.str (numT i))
  | _ => False) := fun {B H xs ds P Q} le r q k => by
  obtain ⟨x, rfl, q⟩ := on1_at q
  obtain ⟨v, rfl, rv⟩ := a1 r
  cases x with
  | int i => exact ⟨i, by rw [show v = _ from rv], q.1, k _ _ B H (Gr.ie le) (.str _) q.2⟩
  | _ => exact q.elim
/-! ### sums, all, any -/
def allInt : List D → Option (List Int)
  | [] => some []
  | .int i :: l => (allInt l).map (i :: ·)
  | _ => none
def allBl : List D → Option (List Bool)
  | [] => some []
  | .bl i :: l => (allBl l).map (i :: ·)
  | _ => none
def allStr : List D → Option (List (List Nat))
  | [] => some []
  | .str i :: l => (allStr l).map (i :: ·)
  | _ => none
theorem map_at {α β : Type} {f : α → β} {o : Option α} {b : β} (h : o.map f = some b) : ∃ a, o = some a ∧ b = f a := by
  cases o with
  | none => cases h
  | some a =>
    cases h
    exact ⟨a, rfl, rfl⟩
theorem allInt_v : ∀ {xs : List V} {l : List D} {ns : List Int}, RpL K B xs l → allInt l = some ns → xs = ns.map V.int
  | _, _, _, .nil, e => by
    cases e
    rfl
  | v :: vs, d :: ds, ns, .cons r t, e => by
    cases d with
    | int i =>
      obtain ⟨ms, e1, rfl⟩ := map_at (show (allInt ds).map (i :: ·) = some ns from e)
      cases r
      rw [allInt_v t e1]
      rfl
    | _ => cases e
theorem allBl_v : ∀ {xs : List V} {l : List D} {ns : List Bool}, RpL K B xs l → allBl l = some ns → xs = ns.map V.bl
  | _, _, _, .nil, e => by
    cases e
    rfl
  | v :: vs, d :: ds, ns, .cons r t, e => by
    cases d with
    | bl i =>
      obtain ⟨ms, e1, rfl⟩ := map_at (show (allBl ds).map (i :: ·) = some ns from e)
      cases r
      rw [allBl_v t e1]
      rfl
    | _ => cases e
theorem allStr_v : ∀ {xs : List V} {l : List D} {ns : List (List Nat)}, RpL K B xs l → allStr l = some ns → xs = (ns.map txt).map V.str
  | _, _, _, .nil, e => by
    cases e
    rfl
  | v :: vs, d :: ds, ns, .cons r t, e => by
    cases d with
    | str i =>
      obtain ⟨ms, e1, rfl⟩ := map_at (show (allStr ds).map (i :: ·) = some ns from e)
      cases (Rp.h r (Le.ie (B := B))).txt
      rw [allStr_v t e1]
      rfl
    | _ => cases e
theorem rp_strs {B : Hp} : ∀ ss : List (List Nat), RpL K B ((ss.map txt).map V.str) (ss.map D.str)
  | [] => .nil
  | s :: ss => .cons (rp_str s) (rp_strs ss)
theorem rp_ints {B : Hp} : ∀ ss : List Int, RpL K B (ss.map V.int) (ss.map D.int)
  | [] => .nil
  | s :: ss => .cons (.int s) (rp_ints ss)
def lst1 (f : List D → (D → Prop) → Prop) : O1
  | .lst l => f l
  | _ => fun _ => False
def oSum : O1 := lst1 fun l P => bnd (allInt l) fun ns => P (.int ns.sum)
def oAll : O1 := lst1 fun l P => bnd (allBl l) fun ns => P (.bl (ns.all id))
def oAny : O1 := lst1 fun l P => bnd (allBl l) fun ns => P (.bl (ns.any id))
theorem lst1_at {f : List D → (D → Prop) → Prop} {x : D} {P : D → Prop} (q : lst1 f x P) : ∃ l, x = .lst l ∧ f l P := by
  cases x with
  | lst l => exact ⟨l, rfl, q⟩
  | _ => exact q.elim
theorem s_sum : SimL K (rSum K) (on1 oSum) := fun {B H xs ds P Q} le r q k => by
  obtain ⟨x, rfl, q⟩ := on1_at q
  obtain ⟨v, rfl, rv⟩ := a1 r
  obtain ⟨l, rfl, q⟩ := lst1_at q
  obtain ⟨ns, e, q⟩ := bnd_at q
  obtain ⟨a, ys, rfl, h, rl⟩ := rv
  rw [allInt_v rl e] at h
  exact ⟨a, ns, rfl, .inl (.inl h), k _ _ B H (Gr.ie le) (.int _) q⟩
theorem s_all : SimL K (rAll K) (on1 oAll) := fun {B H xs ds P Q} le r q k => by
  obtain ⟨x, rfl, q⟩ := on1_at q
  obtain ⟨v, rfl, rv⟩ := a1 r
  obtain ⟨l, rfl, q⟩ := lst1_at q
  obtain ⟨ns, e, q⟩ := bnd_at q
  obtain ⟨a, ys, rfl, h, rl⟩ := rv
  rw [allBl_v rl e] at h
  exact ⟨a, ns, rfl, .inl (.inl h), k _ _ B H (Gr.ie le) (.bl _) q⟩
theorem s_any : SimL K (rAny K) (on1 oAny) := fun {B H xs ds P Q} le r q k => by
  obtain ⟨x, rfl, q⟩ := on1_at q
  obtain ⟨v, rfl, rv⟩ := a1 r
  obtain ⟨l, rfl, q⟩ := lst1_at q
  obtain ⟨ns, e, q⟩ := bnd_at q
  obtain ⟨a, ys, rfl, h, rl⟩ := rv
  rw [allBl_v rl e] at h
  exact ⟨a, ns, rfl, .inl (.inl h), k _ _ B H (Gr.ie le) (.bl _) q⟩
/-! ### sorted texts, fewer than 64 -/
/-- the sorted permutation, by code points -/
def leS (a b : List Nat) : Bool := !decide (b < a)
def insS (x : List Nat) : List (List Nat) → List (List Nat)
  | [] => [x]
  | y :: l => if leS x y then x :: y :: l else y :: insS x l
def sortS : List (List Nat) → List (List Nat)
  | [] => []
  | x :: l => insS x (sortS l)
/-! ### list(..), tuple(..) -/
def oTupOf : O1
  | .lst l => fun P => P (.tup l)
  | .tup l => fun P => P (.tup l)
  | _ => fun _ => False
theorem s_tupOf : SimL K (fun xs H Q => ∃ p ys, xs = [.ref p] ∧ ((SqL K H p ys ∧ ∀ l, H l = none → Q (.ref l) (upd H l (.tup ys))) ∨ (SqT K H p ys ∧ Q (.ref p) H))) (on1 oTupOf) := fun {B H xs ds P Q} le r q k => by
  obtain ⟨x, rfl, q⟩ := on1_at q
  obtain ⟨v, rfl, rv⟩ := a1 r
  cases x with
  | lst l =>
    obtain ⟨a, ys, rfl, h, rl⟩ := rv
    exact ⟨a, ys, rfl, .inl ⟨.inl (.inl h), fun p hp => k _ _ _ _ (Gr.laid le hp) (.tup (.inl (.inl upd_same)) (RpL.up (Ex.new (le.free hp)) rl)) q⟩⟩
  | tup l =>
    obtain ⟨a, ys, rfl, h, rl⟩ := rv
    exact ⟨a, ys, rfl, .inr ⟨le.sqt h, k _ _ B H (Gr.ie le) (.tup h rl) q⟩⟩
  | _ => exact q.elim
def oLstOf : List D → (List D → Prop) → Prop
  | [.lst l], P => P l
  | [.tup l], P => P l
  | _, _ => False
theorem s_lstOf : SimLF K (fun xs H Q => ∃ p ys, xs = [.ref p] ∧ (SqL K H p ys ∨ SqT K H p ys) ∧ ∀ l, H l = none → Q (.ref l) (upd H l (.lst ys))) oLstOf := fun {B H xs ds P Q} le r q k => by
  match ds, q, r with
  | [.lst l], q, r =>
    obtain ⟨v, rfl, a, ys, rfl, h, rl⟩ := a1 r
    exact ⟨a, ys, rfl, .inl (.inl (.inl h)), fun p hp => k p ys l hp rl q⟩
  | [.tup l], q, r =>
    obtain ⟨v, rfl, a, ys, rfl, h, rl⟩ := a1 r
    exact ⟨a, ys, rfl, .inr (le.sqt h), fun p hp => k p ys l hp rl q⟩
/-! ### isinstance, a built-in class -/
def tyD : D → String
  | .non => "NoneType"
  | .bl _ => "bool"
  | .int _ => "int"
  | .str _ => "str"
  | .tup _ => "tuple"
  | .lst _ => "list"
  | .dic _ => "dict"
  | .scr _ => "list"
theorem ty_x {v : V} {d : D} (le : Le B H) (nd : ∀ l, d ≠ .dic l) (r : RpH K B H v d) : TyX K H v (.type (tyD d)) := by
  cases d with
  | non => rw [show v = _ from r]; exact .base .non
  | bl b => rw [show v = _ from r]; exact .base (.bl b)
  | int b => rw [show v = _ from r]; exact .base (.int b)
  | str s => rw [r.txt]; exact .base (.str _)
  | tup l =>
    obtain ⟨a, xs, rfl, h, _⟩ := r
    rcases le.sqt h with (h | ⟨o, h⟩) | ⟨o, its, n, h1, h2, _⟩
    · exact .base (.tup h)
    · exact .fTuple h
    · exact .kTuple h1 h2
  | lst l =>
    obtain ⟨a, xs, rfl, h, _⟩ := r
    exact .base (.lst h)
  | dic l => exact absurd rfl (nd l)
  | scr l =>
    obtain ⟨a, rfl, h⟩ := r
    rcases le.sql h with (h | ⟨o, h⟩) | ⟨o, its, n, h1, h2, _⟩
    · exact .base (.lst h)
    · exact .base (.frz h)
    · exact .kList h1 h2
inductive TyN where
  | int | bool | str | tuple | list
def TyN.nm : TyN → String
  | .int => "int"
  | .bool => "bool"
  | .str => "str"
  | .tuple => "tuple"
  | .list => "list"
/-- whether plain data is of a built-in class -/
def isT : TyN → D → Bool
  | .int, .int _ => true
  | .int, .bl _ => true
  | .bool, .bl _ => true
  | .str, .str _ => true
  | .tuple, .tup _ => true
  | .list, .lst _ => true
  | .list, .scr _ => true
  | _, _ => false
inductive TyG where
  | non | bl | int | str | tup | lst
def TyG.nm : TyG → String
  | .non => "NoneType"
  | .bl => "bool"
  | .int => "int"
  | .str => "str"
  | .tup => "tuple"
  | .lst => "list"
def isG : TyN → TyG → Bool
  | .int, .int => true
  | .int, .bl => true
  | .bool, .bl => true
  | .str, .str => true
  | .tuple, .tup => true
  | .list, .lst => true
  | _, _ => false
theorem kit_all : ∀ (n : TyN) (g : TyG), kitB g.nm n.nm = some (isG n g) := by
  intro n g
  cases n <;> cases g <;> decide +kernel
theorem isT_kit (n : TyN) (d : D) (nd : ∀ l, d ≠ .dic l) : kitB (tyD d) n.nm = some (isT n d) := by
  cases d with
  | dic l => exact absurd rfl (nd l)
  | non => exact (kit_all n .non).trans (by cases n <;> rfl)
  | bl b => exact (kit_all n .bl).trans (by cases n <;> rfl)
  | int b => exact (kit_all n .int).trans (by cases n <;> rfl)
  | str b => exact (kit_all n .str).trans (by cases n <;> rfl)
  | tup b => exact (kit_all n .tup).trans (by cases n <;> rfl)
  | lst b => exact (kit_all n .lst).trans (by cases n <;> rfl)
  | scr b => exact (kit_all n .lst).trans (by cases n <;> rfl)
def oIsi (n : TyN) : O1
  | .dic _ => fun _ => False
  | d => fun P => P (.bl (isT n d))
theorem RpH.lost {v : V} {d : D} {p : Addr} {o : HO} (hp : H p = none) (r : RpH K B H v d) : RpH K B (upd H p o) v d := by
  have ne : ∀ {a : Addr} {z : HO}, H a = some z → upd H p o a = some z := fun {a z} e => Ex.new hp _ _ e
  cases d with
  | lst l =>
    obtain ⟨a, ys, rfl, h, rl⟩ := r
    exact ⟨a, ys, rfl, ne h, rl⟩
  | dic l =>
    obtain ⟨a, ks, rfl, h, q⟩ := r
    exact ⟨a, ks, rfl, Ex.rd (fun _ _ e => ne e) h, q⟩
  | _ => exact r
/-- isinstance(e, T) -/
def rIsiN (K : Fr) (n : String) : V → Hp → VK → Prop := fun x H Q => rIsi K [x, .ty n] H Q
theorem s_isi {n : TyN} : Sim1 K (rIsiN K n.nm) (oIsi n) := fun {B H x dx P Q} le hx q k => by
  have nd : ∀ l, dx ≠ .dic l := fun l z => by
    subst z
    exact q.elim
  have q' : P (.bl (isT n dx)) := by
    cases dx <;> first
      | exact q
      | exact q.elim
  exact ⟨_, _, _, _, _, rfl, .ty _, ty_x le nd hx, kit_ty (isT_kit n dx nd), k _ _ B H (Gr.ie le) (.bl _) q'⟩
/-- isinstance(e, (T, ..)) -/
def rIsi2 (K : Fr) (ns : List String) : V → Hp → VK → Prop := fun x H Q => (ns.map V.ty).length ≤ sizeLine ∧ ∀ p, H p = none → rIsiT K [x, .ref p] (upd H p (.tup (ns.map V.ty))) Q
def oIsi2 (ns : List TyN) : O1
  | .dic _ => fun _ => False
  | d => fun P => P (.bl (ns.any fun n => isT n d))
theorem kitAny_of {K : Fr} {t : Value} {f : TyN → Bool} (h : ∀ n, PySem.W.kitOne K t (.type n.nm) = some (f n)) : ∀ ns : List TyN, PySem.W.kitAny K t (ns.map fun n => Value.type n.nm) = some (ns.any f)
  | [] => rfl
  | n :: ns => by
    refine kitAny_cons (h n) (fun e => ?_) fun e => ?_
    · rw [kitAny_of h ns, List.any_cons, e]
      rfl
    · rw [List.any_cons, e]
      rfl
theorem paired_ty : ∀ ns : List TyN, Paired ClsV ((ns.map TyN.nm).map V.ty) (ns.map fun n => Value.type n.nm)
  | [] => .nil
  | n :: ns => .cons (.ty _) (paired_ty ns)
theorem s_isi2 {ns : List TyN} (hl : ns.length ≤ 99) : Sim1 K (rIsi2 K (ns.map TyN.nm)) (oIsi2 ns) := fun {B H x dx P Q} le hx q k => by
  have nd : ∀ l, dx ≠ .dic l := fun l z => by
    subst z
    exact q.elim
  have q' : P (.bl (ns.any fun n => isT n dx)) := by
    cases dx <;> first
      | exact q
      | exact q.elim
  refine ⟨by rw [List.length_map, List.length_map, sizeLine_eq]; omega, fun p hp => ?_⟩
  exact ⟨_, _, _, _, _, _, rfl, upd_same, paired_ty ns, ty_x (B := B) (le.newR (le.free hp)) nd (hx.lost hp), kitAny_of (fun n => kit_ty (isT_kit n dx nd)) ns, k _ _ B _ (Gr.lost le hp) (.bl _) q'⟩
end
section
variable {X : Cx} {e : Expr} {te : TE} {p p1 pos tpos : Pos} {kk : Nat}
theorem boot_ty (n : TyN) : bootBuiltins (Str.ofString n.nm) = some (.type n.nm) := by
  cases n <;> decide +kernel
theorem pe_isiN (n : TyN) (hg : Gl X "isinstance") (hm : X.mg "isinstance" = none) (hgn : Gl X (Str.ofString n.nm)) (hmn : X.mg (Str.ofString n.nm) = none) (he : PE X e te)
    (h1 : starEach [e, .Name (Str.ofString n.nm) p1] X.env = (false, eval e X.env) :: starEach [.Name (Str.ofString n.nm) p1] X.env := by rfl)
    (h2 : starEach [.Name (Str.ofString n.nm) p1] X.env = (false, eval (.Name (Str.ofString n.nm) p1) X.env) :: starEach [] X.env := by rfl)
    (h3 : (backTo pos (starEach [.Name (Str.ofString n.nm) p1] X.env)).any (·.1) = false := by rfl) :
    PE X (.Call (.Name "isinstance" p) [e, .Name (Str.ofString n.nm) p1] [] pos) (tUn (rIsiN X.K n.nm) te) := by
  have hn : Str.ofString n.nm ≠ "__name__" := by cases n <;> decide +kernel
  have hd : (Str.ofString n.nm == ("__debug__" : Str)) = false := by cases n <;> decide +kernel
  have hs : bootBuiltins "isinstance" = some (.builtin "isinstance") := by decide +kernel
  exact pe_callB (pos := pos) (p := p) call_isi hg hm hs (pa_cons he (pa_cons (pe_bltn (pos := p1) (v := .ty n.nm) hgn hmn (boot_ty n) rfl hn hd) pa_nil h2) h1) (by decide) (by decide) h1 h3
end
end Dl
end

section
set_option maxRecDepth 100000
set_option maxHeartbeats 4000000
/-! Dl13: set(texts): made, put in order, measured, compared. -/
namespace Dl
open PySem PySem.Spec L2
open PyProof.Rows hiding St
/-- an entry of a table of texts -/
def TxE (w : World) (e : Int × Value) : Prop := ∃ x u, e.2 = Value.str x u ∧ e.1 = hashStr w x
def txO (e : Int × Value) : Str := match e.2 with
  | .str x _ => x
  | _ => default
/-- the texts' set at a, its members L -/
def TxS (w : World) (h : Heap) (a : Addr) (L : List Str) : Prop := ∃ o es ep t, h.get? a = some o ∧ o.ExactSet ∧ o.data = .set es ep t ∧ (∀ e ∈ es.toList, TxE w e) ∧ (es.toList.map txO).Perm L ∧ L.Nodup ∧
  L.length < scanBound ∧ t.fits es.size = true ∧ Ris t.place.toList ∧ (w.params.followText "set-order" = true ∨ t.led = true)
section
variable {P : Program} {w : World} {A : Around} {E : Value → Shared → Prop} {s : Shared} {a : Addr} {L : List Str}
theorem TxS.up {h h' : Heap} (r : TxS w h a L) (k : ∀ o, h.get? a = some o → h'.get? a = some o) : TxS w h' a L := by
  obtain ⟨o, es, ep, t, ho, r⟩ := r
  exact ⟨o, es, ep, t, k o ho, r⟩
theorem tx_is {e : Int × Value} (g : TxE w e) (x : Str) : (PySem.strKind P w).is x e.2 = true ↔ txO e = x := by
  obtain ⟨y, u, h1, _⟩ := g
  unfold txO
  rw [h1]
  show ((y == x) = true) ↔ y = x
  exact beq_iff_eq
theorem tx_el {l : List (Int × Value)} (g : ∀ e ∈ l, TxE w e) : ElemsOf (PySem.strKind P w) l := fun e he => by
  obtain ⟨y, u, h1, h2⟩ := g e he
  exact ⟨⟨y, by rw [h1]; exact strKind_is P w y u, h2⟩, by rw [h1]; rfl⟩
theorem tx_mem {l : List (Int × Value)} (g : ∀ e ∈ l, TxE w e) (x : Str) : x ∈ l.map txO ↔ ∃ e ∈ l, (PySem.strKind P w).is x e.2 = true :=
  List.mem_map.trans ⟨fun ⟨e, he, q⟩ => ⟨e, he, (tx_is (g e he) x).2 q⟩, fun ⟨e, he, q⟩ => ⟨e, he, (tx_is (g e he) x).1 q⟩⟩
theorem es_size {es : Array (Int × Value)} (h : (es.toList.map txO).Perm L) : es.size = L.length := by
  rw [← h.length_eq, List.length_map, Array.length_toList]
/-- the end of an add: the table is stored, and laid anew if it is too full -/
theorem tx_tail {g : Bool → Sem Unit} (hg : ∀ (b : Bool) (s₁ : Shared) (Q' : Unit → Shared → Prop), Q' () s₁ → wpAny (model P w) A (g b) Q' E s₁) {o : Obj} {es e1 : Array (Int × Value)} {ep : Nat} {t t2 : SetTable}
    (ho : s.heap.get? a = some o) (hx : o.ExactSet) (hd : o.data = .set es ep t) (g1 : ∀ e ∈ e1.toList, TxE w e) (p1 : (e1.toList.map txO).Perm L) (n1 : L.Nodup) (b1 : L.length < scanBound)
    (f2 : t2.fits e1.size = true) (r2 : Ris t2.place.toList) (l2 : w.params.followText "set-order" = true ∨ t2.led = true) {dm : Bool} {R : Option Bool → Shared → Prop}
    (hR : ∀ h', Heap.SameBut a s.heap h' → TxS w h' a L → R (some true) { s with heap := h' }) :
    wpAny (model P w) A (do
      storeSet a e1 t2
      if (!dm && t2.tooFull) = true then do
          g (relayAll t2 e1 (SetTable.grown e1.size)).2.2
          storeSet a (relayAll t2 e1 (SetTable.grown e1.size)).1 (relayAll t2 e1 (SetTable.grown e1.size)).2.1
          pure (some true)
        else pure (some true)) R E s := by
  have sz : e1.size < scanBound := by rw [es_size p1]; exact b1
  refine wpAny_bind (wpAny_storeSet_of ho hd ?_ (fits_of_scanBound sz))
  have k1 := store_at (es' := e1) (t' := t2) ho hd
  have same := Heap.SameBut.update s.heap a (Obj.putSet e1 t2)
  split
  · have q1 := relayAll_perm t2 e1 (SetTable.grown e1.size); have q2 := relayAll_fits t2 e1 (SetTable.grown e1.size)
    have q3 := relayAll_ris t2 e1 (SetTable.grown e1.size); have q4 := relayAll_led t2 e1 (SetTable.grown e1.size)
    generalize relayAll t2 e1 (SetTable.grown e1.size) = Y at q1 q2 q3 q4 ⊢
    obtain ⟨e2, t3, gv⟩ := Y
    dsimp only at q1 q2 q3 q4 ⊢
    have p2 : (e2.toList.map txO).Perm L := (q1.map txO).trans p1
    have sz2 : e2.size < scanBound := by rw [es_size p2]; exact b1
    refine wpAny_bind (hg _ _ _ (wpAny_bind (wpAny_storeSet_of k1 rfl ?_ (fits_of_scanBound sz2))))
    have k2 := store_at (es' := e2) (t' := t3) k1 rfl
    exact wpAny_pure (hR _ (same.trans (Heap.SameBut.update _ a _)) ⟨_, e2, _, t3, k2, hx, rfl, fun e he => g1 e (q1.mem_iff.mp he), p2, n1, b1, q2, q3, l2.imp id fun z => by rw [q4]; exact z⟩)
  · exact wpAny_pure (hR _ same ⟨_, e1, _, t2, k1, hx, rfl, g1, p1, n1, b1, f2, r2, l2⟩)
theorem tx_add {x : Str} {u : Tok} {Q : Bool → Shared → Prop} (r : TxS w s.heap a L) (room : L.length + 1 < scanBound)
    (hQ : ∀ h' b, Heap.SameBut a s.heap h' → TxS w h' a (if x ∈ L then L else L ++ [x]) → Q b { s with heap := h' }) :
    wpAny (model P w) A (setAddHashed a (.str x u) ((PySem.strKind P w).hash x)) Q E s := by
  obtain ⟨o, es, ep, t, ho, hx, hd, g, pm, nd, hb, hf, hr, hl⟩ := r
  have isx : (PySem.strKind P w).is x (.str x u) = true := strKind_is P w x u
  have scn : (Value.str x u).scannable = true := rfl
  have el : ElemsOf (PySem.strKind P w) es.toList := tx_el g
  have szb : es.size < scanBound := by rw [es_size pm]; exact hb
  unfold setAddHashed setAddHashedIn
  refine wpAny_holding (wpAny_bind (wpAny_setState_of ho hd hf ?_))
  dsimp only
  rw [byScan_of scn szb el]
  simp only [↓reduceIte]
  unfold setAddByScan
  refine wpAny_bind (wpAny_bind (wpAny_rule (wpAny_bind (wpAny_setScan_of isx ho hd hf el ?_))))
  cases fnd : List.findIdx? (fun e => (PySem.strKind P w).is x e.2) es.toList with
  | some j =>
    dsimp only
    obtain ⟨hj, pj, _⟩ := List.findIdx?_eq_some_iff_getElem.mp fnd
    have inL : x ∈ L := pm.mem_iff.mp ((tx_mem (P := P) g x).2 ⟨es.toList[j], List.getElem_mem hj, pj⟩)
    have q := hQ s.heap false (Heap.SameBut.refl a s.heap) (by rw [if_pos inL]; exact ⟨o, es, ep, t, ho, hx, hd, g, pm, nd, hb, hf, hr, hl⟩)
    exact wpAny_pure (wpAny_pure q)
  | none =>
    dsimp only
    have outL : x ∉ L := fun z => by
      obtain ⟨e, he, q⟩ := (tx_mem (P := P) g x).1 (pm.mem_iff.mpr z)
      have c := List.findIdx?_eq_none_iff.mp fnd e he
      rw [q] at c
      cases c
    rw [if_neg outL] at hQ
    have gw : ∀ (b : Bool) {s₁ : Shared} {Q' : Unit → Shared → Prop}, Q' () s₁ → wpAny (model P w) A (match b with | true => rule "set.scan.the-table-gave-way" | false => pure ()) Q' E s₁ := fun b s₁ Q' q => by
      cases b
      · exact wpAny_pure q
      · exact wpAny_rule q
    have q1 := layNew_perm t es ((PySem.strKind P w).hash x) (.str x u); have q2 := layNew_fits t es ((PySem.strKind P w).hash x) (.str x u)
    have q3 := layNew_ris t es ((PySem.strKind P w).hash x) (.str x u) hr; have q4 := layNew_led t es ((PySem.strKind P w).hash x) (.str x u)
    generalize layNew t es ((PySem.strKind P w).hash x) (.str x u) = Y at q1 q2 q3 q4 ⊢
    obtain ⟨e1, t1, dm, gv⟩ := Y
    dsimp only at q1 q2 q3 q4 ⊢
    rw [Array.toList_push] at q1
    have g1 : ∀ e ∈ e1.toList, TxE w e := fun e he => (List.mem_append.mp (q1.mem_iff.mp he)).elim (g e) fun z => by
      rw [List.mem_singleton.mp z]
      exact ⟨x, u, rfl, rfl⟩
    have p1 : (e1.toList.map txO).Perm (L ++ [x]) := by
      have z := q1.map txO
      rw [List.map_append] at z
      exact z.trans (pm.append_right _)
    have n1 : (L ++ [x]).Nodup := by
      rw [List.nodup_append]
      exact ⟨nd, List.nodup_cons.mpr ⟨List.not_mem_nil, List.nodup_nil⟩, fun y hy z hz => by
        rw [List.mem_singleton.mp hz]
        exact fun c => outL (c ▸ hy)⟩
    have b1 : (L ++ [x]).length < scanBound := by rw [List.length_append]; exact room
    have led : w.params.followText "set-order" = true ∨ t1.led = true := hl.imp id fun z => by rw [q4]; exact z
    have fin : ∀ h', Heap.SameBut a s.heap h' → TxS w h' a (L ++ [x]) → Q true { s with heap := h' } := fun h' sb r => hQ h' true sb r
    refine wpAny_bind (gw _ ?_)
    split
    · refine wpAny_bind ?_
      rw [hashByValue_scannable 8 scn]
      refine wpAny_pure (tx_tail (fun b s₁ Q' q => by cases b <;> first | exact wpAny_pure q | exact wpAny_rule q) ho hx hd g1 p1 n1 b1 ?_ ?_ ?_ fun h' sb r => ?_)
      · first
          | (split <;> first | exact q2 | exact SetTable.fits_plain_off q2)
          | exact q2
      · first | (split <;> exact q3) | exact q3
      · first | (split <;> exact led) | exact led
      · dsimp only
        exact wpAny_pure (fin h' sb r)
    · refine wpAny_bind (wpAny_pure ?_)
      simp only [↓reduceIte]
      refine tx_tail (fun b s₁ Q' q => by cases b <;> first | exact wpAny_pure q | exact wpAny_rule q) ho hx hd g1 p1 n1 b1 q2 q3 led fun h' sb r => ?_
      dsimp only
      exact wpAny_pure (fin h' sb r)
end

/-! ### set(xs) -/
def dd1 (L : List Str) (x : Str) : List Str := if x ∈ L then L else L ++ [x]
def ddp (xs : List Str) : List Str := xs.foldl dd1 []
theorem ddp_snoc (xs : List Str) (x : Str) : ddp (xs ++ [x]) = dd1 (ddp xs) x := by
  unfold ddp
  rw [List.foldl_append]
  rfl
theorem ddp_len (xs : List Str) : (ddp xs).length ≤ xs.length := by
  have key : ∀ (xs L : List Str), (xs.foldl dd1 L).length ≤ L.length + xs.length := by
    intro xs
    induction xs with
    | nil => intro L; exact Nat.le_refl _
    | cons x xs ih =>
      intro L
      have h := ih (dd1 L x)
      have h2 : (dd1 L x).length ≤ L.length + 1 := by
        unfold dd1
        split
        · omega
        · rw [List.length_append]
          exact Nat.le_refl _
      rw [List.foldl_cons, List.length_cons]
      omega
  have h := key xs []
  rw [List.length_nil, Nat.zero_add] at h
  exact h
section
variable {P : Program} {w : World} {A : Around} {E : Value → Shared → Prop} {s : Shared}
abbrev newSetO (w : World) : Obj := { cls := .type "set", dict := none, data := .set #[] 0 (.fresh 0 0 (!w.params.followText "set-order")) }
theorem tx_new {h : Heap} {a : Addr} (ho : h.get? a = some (newSetO w)) : TxS w h a [] :=
  ⟨_, #[], 0, _, ho, ⟨rfl, rfl, rfl⟩, rfl, (fun e he => by simp at he), List.Perm.refl _, List.nodup_nil, by decide, by rfl, List.Pairwise.nil, by
    show _ ∨ (!w.params.followText "set-order") = true
    cases w.params.followText "set-order"
    · exact .inr rfl
    · exact .inl rfl⟩
theorem tx_loop {I : Addr} {fp wr : List Addr} {G : Array GenState → Array GenState → Prop} {n : Nat} {Pv : Nat → Value → Prop} {St : Nat → Shared → Prop} {R : Result → Shared → Prop}
    (W : WalksS P w A.in1 I fp wr G n Pv St) (S : Addr) (out : S ∉ fp) (xs : List Str) (hn : n = xs.length) (few : xs.length + 1 < scanBound) (val : ∀ i v, Pv i v → ∃ x u, xs[i]? = some x ∧ v = .str x u) :
    ∀ (k i : Nat) (s : Shared), n - i = k → i ≤ n → St i s → TxS w s.heap S (ddp (xs.take i)) →
      (∀ s', Moved (S :: wr) G s s' → TxS w s'.heap S (ddp xs) → R (.ok (.ret .none)) s') → codeAny (model P w) A (.builtin "set.update.loop" ⟨[.ref S, .ref I], []⟩) R s := by
  have outw : S ∉ wr := fun h => out (W.sub _ h)
  have sub : ∀ b ∈ wr, b ∈ S :: wr := fun b hb => List.mem_cons_of_mem _ hb
  intro k
  induction k with
  | zero =>
    intro i s ek hi st hS hR
    have ein : i = n := by omega
    subst ein
    refine codeAny_builtin F.entry_set_update_loop ?_
    rw [Around.under_plainId F.plain_set_update_loop _]
    show wpAny _ A.in1 (pyNext (.ref I) >>= _) _ _ s
    refine wpAny_bind (W.done s _ _ st fun s' hm => ?_)
    show wpAny _ A.in1 (ret Value.none) _ _ s'
    rw [List.take_of_length_le (by omega)] at hS
    exact wpAny_pure (hR s' (hm.mono sub) (hS.up fun o e => hm.heap S o outw e))
  | succ k ih =>
    intro i s ek hi st hS hR
    have lt : i < n := by omega
    refine codeAny_builtin F.entry_set_update_loop ?_
    rw [Around.under_plainId F.plain_set_update_loop _]
    show wpAny _ A.in1 (pyNext (.ref I) >>= _) _ _ s
    refine wpAny_bind (W.item i s _ _ lt st fun v s' hP st' hm => ?_)
    obtain ⟨x, u, ex, rfl⟩ := val i v hP
    have hS' : TxS w s'.heap S (ddp (xs.take i)) := hS.up fun o e => hm.heap S o outw e
    show wpAny _ A.in1 (holding [Value.str x u] (setAdd S (.str x u)) >>= _) _ _ s'
    refine wpAny_bind (wpAny_holding ?_)
    unfold setAdd
    refine wpAny_holding (wpAny_bind ((PySem.strKind P w).pyHash (k := x) (strKind_is _ _ _ _) ?_))
    have room : (ddp (xs.take i)).length + 1 < scanBound := by
      have h1 := ddp_len (xs.take i)
      rw [List.length_take] at h1
      omega
    refine tx_add (s := { s' with toks := s'.toks + 1 }) hS' room fun h' b hsb hS2 => ?_
    have hS3 : TxS w h' S (ddp (xs.take (i + 1))) := by
      rw [List.take_add_one, ex]
      show TxS w h' S (ddp (xs.take i ++ [x]))
      rw [ddp_snoc]
      exact hS2
    refine wpAny_pure ⟨plainId_quiet F.plain_set_update_loop _, ih (i + 1) _ (by omega) lt (W.frame _ s' _ _ st' (Nat.le_succ _) fun b hb o e => ?_) hS3 fun s'' hm'' hS'' => hR s'' (Moved.trans W.gtrans ((hm.mono sub).then_heap (Nat.le_succ _) fun b o hb e => ?_) hm'') hS''⟩
    · rw [hsb.2 b (fun h : b = S => out (h ▸ hb))]
      exact e
    · rw [hsb.2 b (fun h : b = S => hb (by rw [h]; exact List.mem_cons_self))]
      exact e
theorem strs_at : ∀ {vs : List Value} {xs : List Str}, StrsAre vs xs → ∀ (i : Nat) (v : Value), vs[i]? = some v → ∃ x u, xs[i]? = some x ∧ v = .str x u
  | _, _, .nil, i, v, h => by simp at h
  | _, _, .cons x u t, 0, v, h => by
    cases h
    exact ⟨x, u, rfl, rfl⟩
  | _, _, .cons x u t, i + 1, v, h => strs_at t i v h
set_option maxHeartbeats 6400000 in
theorem tx_call {l : Addr} {items : Array Value} (xs : List Str) {Q : Value → Shared → Prop} (hh : A.handled = none) (hl : s.heap.IsTuple l items ∨ s.heap.IsList l items) (hit : StrsAre items.toList xs) (few : xs.length + 1 < scanBound)
    (h : ∀ (h' : Heap) (tk : Nat), TxS w h' s.heap.objs.size (ddp xs) → (∀ b o, s.heap.get? b = some o → h'.get? b = some o) → Q (.ref s.heap.objs.size) { s with heap := h', toks := tk }) :
    wpAny (model P w) A (call (.type "set") [.ref l]) Q E s := by
  have many : items.size = xs.length := by
    have q := StrsAre.length hit
    rw [Array.length_toList] at q
    exact q
  obtain ⟨c, tl, hmro⟩ := F.called_set.mro
  have hmade := F.called_set.made; have hsub := F.called_set.sub
  refine wpAny_call (codeAny_of_tree ?_)
  show wpAny _ _ (callAny (.type "set") _) _ _ _
  refine wpAny_pure ⟨Code.quiet_builtin _ (by decide +kernel), codeAny_builtin F.entry_type_call ?_⟩
  rw [Around.under_plain (weight_type_call_type "set" [.ref l] []) rfl]
  have h1 := F.called_set.notType; have h2 := F.called_set.canCreate; have hct := F.typeCall_set_1 (.ref l)
  repeat (any_goals (first | assumption | wp_step))
  refine codeAny_mono (code_set_led1 (.ref l) (E := E) (Q₁ := fun obj s₁ => obj = .ref s.heap.objs.size ∧ s₁ = { s with heap := s.heap.push (newSetO w) }) ⟨rfl, rfl⟩) fun r s₁ hr => ?_
  match r, hr with
  | .ok (.ret obj), hr =>
    obtain ⟨rfl, rfl⟩ := hr
    have hS : (s.heap.push (newSetO w)).get? s.heap.objs.size = some (newSetO w) := Heap.get?_push_size _ rfl
    have hT : Shared.TypeIs { s with heap := s.heap.push (newSetO w) } (.ref s.heap.objs.size) "set" := ⟨_, hS, rfl⟩
    have hli := F.called_set.init.lookup; have hbi := F.called_set.init.bind (.ref s.heap.objs.size)
    repeat (any_goals (first | assumption | wp_step))
    refine codeAny_mono (codeAny_call_builtin (R := wants (fun r s₂ => r = .none ∧ ∃ h' tk, s₂ = { s with heap := h', toks := tk } ∧ TxS w h' s.heap.objs.size (ddp xs) ∧ (∀ b o, s.heap.get? b = some o → h'.get? b = some o)) E)
      F.called_set.init.plain F.entry_set_init (check_set_init_1 hT ?_)) fun r₂ s₂ hr₂ => ?_
    · have fin : ∀ s' : Shared, s'.gens = s.gens → s'.drawn = s.drawn → s'.os = s.os → TxS w s'.heap s.heap.objs.size (ddp xs) → (∀ b o, s.heap.get? b = some o → s'.heap.get? b = some o) →
          (Value.none = Value.none ∧ ∃ h' tk, s' = { s with heap := h', toks := tk } ∧ TxS w h' s.heap.objs.size (ddp xs) ∧ (∀ b o, s.heap.get? b = some o → h'.get? b = some o)) := fun s' e1 e2 e3 hS' hk => by
        obtain ⟨h', g', d', t', o'⟩ := s'
        cases e1
        cases e2
        cases e3
        exact ⟨rfl, h', t', rfl, hS', hk⟩
      have ltl : l < s.heap.objs.size := by
        rcases hl with hl | hl
        · obtain ⟨o, ho, _⟩ := hl
          exact Heap.lt_size ho
        · obtain ⟨o, ho, _⟩ := hl
          exact Heap.lt_size ho
      have szS : (s.heap.push (newSetO w)).objs.size = s.heap.objs.size + 1 := Heap.size_push ..
      have neI : l ≠ (s.heap.push (newSetO w)).objs.size := by
        rw [szS]
        exact Nat.ne_of_lt (Nat.lt_succ_of_lt ltl)
      have nin : s.heap.objs.size ∉ [(s.heap.push (newSetO w)).objs.size, l] := fun z => by
        rcases List.mem_cons.mp z with z | z
        · rw [szS] at z
          exact Nat.ne_of_lt (Nat.lt_succ_self _) z
        · exact Nat.ne_of_gt ltl (List.mem_singleton.mp z)
      have val : ∀ (i : Nat) (v : Value), items[i]? = some v → ∃ x u, xs[i]? = some x ∧ v = .str x u := fun i v hv => by
        rw [← Array.getElem?_toList] at hv
        exact strs_at hit i v hv
      have apart : ∀ b o, s.heap.get? b = some o → b ∉ s.heap.objs.size :: [(s.heap.push (newSetO w)).objs.size] := fun b o e z => by
        have h0 := Heap.lt_size e
        rcases List.mem_cons.mp z with z | z
        · exact Nat.ne_of_lt h0 z
        · have z2 := List.mem_singleton.mp z
          rw [szS] at z2
          exact Nat.ne_of_lt (Nat.lt_succ_of_lt h0) z2
      rcases hl with hl | hl
      all_goals
        obtain ⟨⟨ocls, odict, odata, oslots⟩, hol, hcl, nl, hdl⟩ := hl
        simp only at hcl hdl
        subst hcl hdl
        have hol' := Heap.get?_push_of_some (newSetO w) hol
      · have c1 := F.sub_tuple_set; have c2 := F.sub_tuple_frozenset
        have hne : (Value.type "tuple" == Value.type "dict") = false := by decide
        have here : (s.heap.push (newSetO w)).IsTuple l items := ⟨_, hol', rfl, nl, rfl⟩
        unfold Builtin.«set.__init__» noKeywords Builtin.Frozenset.updateFrom
        generalize hPI : pyIter = PI
        wp_walk
        subst hPI
        refine wpAny_pyIter_tuple here (wpAny_bind (wpAny_runValue ?_))
        have idle : A.in1.in1.in1.handled = none := by simp [hh]
        refine tx_loop ((Walks.tuple idle _ l neI items).toS) s.heap.objs.size nin xs many few val (items.size - 0) 0 _ (by omega) (Nat.zero_le _) ⟨⟨_, Heap.get?_push_size _ rfl, rfl, rfl⟩, here.push _⟩ (tx_new (Heap.get?_push_of_some _ hS)) fun s' hm hS' => ?_
        exact wpAny_pure (wpAny_pure <| fin s' hm.gens hm.drawn hm.os hS' fun b o e => hm.heap b o (apart b o e) (Heap.get?_push_of_some _ (Heap.get?_push_of_some _ e)))
      · have c1 := F.sub_list_set; have c2 := F.sub_list_frozenset
        have hne : (Value.type "list" == Value.type "dict") = false := by decide
        have here : (s.heap.push (newSetO w)).IsList l items := ⟨_, hol', rfl, nl, rfl⟩
        unfold Builtin.«set.__init__» noKeywords Builtin.Frozenset.updateFrom
        generalize hPI : pyIter = PI
        wp_walk
        subst hPI
        refine wpAny_pyIter_list here (wpAny_bind (wpAny_runValue ?_))
        have idle : A.in1.in1.in1.handled = none := by simp [hh]
        refine tx_loop ((Walks.list idle _ l neI items).toS) s.heap.objs.size nin xs many few val (items.size - 0) 0 _ (by omega) (Nat.zero_le _) ⟨⟨_, Heap.get?_push_size _ rfl, rfl, rfl⟩, here.push _⟩ (tx_new (Heap.get?_push_of_some _ hS)) fun s' hm hS' => ?_
        exact wpAny_pure (wpAny_pure <| fin s' hm.gens hm.drawn hm.os hS' fun b o e => hm.heap b o (apart b o e) (Heap.get?_push_of_some _ (Heap.get?_push_of_some _ e)))
    · match r₂, hr₂ with
      | .ok (.ret r), hr₂ =>
        obtain ⟨rfl, h', tk, rfl, hS', hk'⟩ := hr₂
        repeat (any_goals (first | assumption | wp_step))
        exact h _ _ hS' hk'
      | .error e, hr₂ => exact hr₂
  | .error e, hr => exact hr
end
end Dl
end

section
set_option maxRecDepth 100000
set_option maxHeartbeats 4000000
/-! Dl14: sets of texts as values; sorted. -/
namespace Dl
open PySem PySem.Spec L2
open PyProof.Rows hiding St
section
variable {P : Program} {w : World} {A : Around} {E : Value → Shared → Prop} {s : Shared} {a : Addr} {L : List Str}
theorem strs_of_tx : ∀ (l : List Value), (∀ v ∈ l, ∃ x u, v = Value.str x u) → ∃ xs, StrsAre l xs
  | [], _ => ⟨[], .nil⟩
  | v :: l, h => by
    obtain ⟨x, u, rfl⟩ := h v List.mem_cons_self
    obtain ⟨xs, hx⟩ := strs_of_tx l fun z hz => h z (List.mem_cons_of_mem _ hz)
    exact ⟨x :: xs, .cons x u hx⟩
def tkO (v : Value) : Str := match v with
  | .str x _ => x
  | _ => default
theorem strs_tk : ∀ {l : List Value} {xs : List Str}, StrsAre l xs → l.map tkO = xs
  | _, _, .nil => rfl
  | _, _, .cons x u t => by rw [List.map_cons, strs_tk t]; rfl
theorem tx_sorted {Q : Value → Shared → Prop} (r : TxS w s.heap a L) (hh : A.handled = none)
    (hQ : ∀ s' p (out : Array Value) (c : Nat) (ys : List Str), (∀ b o, s.heap.get? b = some o → s'.heap.get? b = some o) → s'.gens = s.gens → s'.os = s.os → s.heap.objs.size ≤ p →
      s'.heap.get? p = some (seqObj "list" out c) → StrsAre out.toList ys → ys.Perm L → sortedS ys = true → Q (.ref p) s') : wpAny (model P w) A (call (.builtin "sorted") [.ref a]) Q E s := by
  obtain ⟨o, es, ep, t, ho, hx, hd, g, pm, nd, hb, hf, hr, hl⟩ := r
  have szb : es.size < scanBound := by rw [es_size pm]; exact hb
  have big : L.length ≤ sizeLine := by
    have : scanBound = 4096 := rfl
    rw [sizeLine_eq]
    omega
  refine Calls.call_function_entry kind_sorted plain_sorted entry_sorted (args_sorted1 _) ?_
  unfold Builtin.«sorted»
  refine wpAny_bind (m := checkCount "sorted" 1 1 _) (wpAny_pure (wpAny_bind (collect_set (A := A.in1) hh ⟨o, ho, hx.1, hd⟩ hf szb hr hl fun s1 vs k1 z1 g1 o1 p1 => ?_)))
  have len : vs.length = L.length := by rw [p1.length_eq, List.length_map, Array.length_toList]; exact es_size pm
  obtain ⟨xs, hS⟩ := strs_of_tx vs fun v hv => by
    obtain ⟨e, he, q⟩ := List.mem_map.mp (p1.mem_iff.mp hv)
    obtain ⟨x, u, h1, _⟩ := g e he
    exact ⟨x, u, by rw [← q]; exact h1⟩
  have p2 : xs.Perm L := by
    have q := p1.map tkO
    rw [strs_tk hS, List.map_map] at q
    exact q.trans pm
  refine wpAny_bind (wpAny_newList ?_ (by rw [len]; exact big))
  have at1 : (s1.heap.push (seqObj "list" vs.toArray 0)).get? s1.heap.objs.size = some (seqObj "list" vs.toArray 0) := Heap.get?_push_size _ rfl
  refine wpAny_bind (wpAny_holding (wpAny_call_entry slot_list_sort ⟨_, at1, rfl⟩ entry_list_sort (list_sort_treeKAny strKind_oneLt at1 hS.keysOf (fun v₁ v₂ rest e => keyKind_strs (by rw [← e]; exact hS)) (by rw [len]; exact big) fun st' hp hs => ⟨_, rfl, ?_⟩) (args_list_sort _)))
  obtain ⟨ys, q1, q2, q3⟩ := sorted_out_str hS hp hs
  obtain ⟨c, hc⟩ := sortedHeap_at (vs := vs) (out := (arrOf st').map (·.2)) at1
  refine wpAny_pure ⟨_, rfl, hQ _ s1.heap.objs.size _ c ys (fun b u e => ?_) g1 o1 z1 hc q1 (q2.trans p2) q3⟩
  have q := k1 b u e
  have lt := Heap.lt_size q
  show (sortedHeap (s1.heap.push (seqObj "list" vs.toArray 0)) s1.heap.objs.size vs _).get? b = some u
  rw [sortedHeap_old (Nat.ne_of_lt lt) (by rw [size_push']; exact Nat.lt_succ_of_lt lt)]
  exact Heap.get?_push_of_some _ q
end
section
variable {X : Cx}
def TxO (w : World) (a : Addr) (L : List Str) : HO := .ext fun h => TxS w h a L
theorem txO_new {w : World} {P : Program} {H : Hp} {h : Heap} {a : Addr} {L : List Str} (R : TxS w h a L) : ObjOk P w H h a (TxO w a L) := by
  have ⟨o, _, _, _, ho, _⟩ := R
  exact ⟨R, ⟨o, ho⟩, fun h1 h2 p k => p.up k⟩
theorem txO_get {pins : List (Addr × Obj)} {σ : L2.St} {H : Hp} {s : Shared} {a : Addr} {L : List Str} (I : Inv X pins σ H s) (ha : H a = some (TxO X.w a L)) : TxS X.w s.heap a L := (I.hok a _ ha).1
def rSetTx (K : Fr) (w : World) : List V → Hp → VK → Prop := fun vs H Q => ∃ (a : Addr) (xs : List Str), vs = [V.ref a] ∧ (SqL K H a (xs.map V.str) ∨ SqT K H a (xs.map V.str)) ∧ xs.length + 1 < scanBound ∧
  ∀ p, H p = none → Q (.ref p) (upd H p (TxO w p (ddp xs)))
theorem call_setTx (hc : X.calm = true) : CallR X (.type "set") (rSetTx X.K X.w) := by
  intro pins s σ H vs us Q I r h
  obtain ⟨a, xs, rfl, hq, few, q⟩ := h
  rw [Vals.ref1 r]
  have go : ∀ its : List Value, (s.heap.IsTuple a its.toArray ∨ s.heap.IsList a its.toArray) → StrsAre its xs → wpAny (model X.prog X.w) X.A (call (.type "set") [.ref a]) (EP X pins σ Q) X.xe s := fun its hl hS =>
    tx_call xs (I.ok.hd hc) hl (by simpa using hS) few fun h' tk hT hk => ⟨.ref _, upd H s.heap.objs.size (TxO X.w s.heap.objs.size (ddp xs)), I.laid (t' := tk) hk (Nat.le_refl _) (txO_new hT), rfl, q _ (I.hok.fresh (Nat.le_refl _))⟩
  rcases hq with hq | hq
  · obtain ⟨its, rv, pl, hz⟩ := I.list hq
    exact go its (.inr pl.isList) rv.strs
  · obtain ⟨its, rv, pl, hz⟩ := I.tuple hq
    exact go its (.inl pl) rv.strs
def rSortTx (w : World) : List V → Hp → VK → Prop := fun vs H Q => ∃ (a : Addr) (L : List Str), vs = [V.ref a] ∧ H a = some (TxO w a L) ∧ L.length ≤ sizeLine ∧
  ∀ (ys : List Str) (p : Addr), ys.Perm L → sortedS ys = true → H p = none → Q (.ref p) (upd H p (.lst (ys.map V.str)))
theorem call_sortTx (hc : X.calm = true) : CallR X (.builtin "sorted") (rSortTx X.w) := by
  intro pins s σ H vs us Q I r h
  obtain ⟨a, L, rfl, ha, big, q⟩ := h
  rw [Vals.ref1 r]
  refine tx_sorted (txO_get I ha) (I.ok.hd hc) fun s' p out c ys k g o hp hg hs hm h3 => ?_
  have hn : H p = none := I.hok.fresh hp
  have J : Inv X pins σ (upd H p (.lst (ys.map V.str))) { s with heap := s'.heap, gens := s'.gens, drawn := s'.drawn, toks := s'.toks } :=
    I.call (ch := []) (Un.laid k hp hn) (I.hok.laid k hp ⟨by rw [List.length_map, hm.length_eq]; exact big, out.toList, c, vals_of_strs hs, hg⟩) (by rw [g]; exact I.bare) (fun _ z => nomatch z)
  have e : s' = { s with heap := s'.heap, gens := s'.gens, drawn := s'.drawn, toks := s'.toks } := by
    cases s'
    cases s
    cases o
    rfl
  rw [e]
  exact ⟨.ref p, _, J, rfl, q ys p hm h3 hn⟩
/-- sorted(xs), texts, however many -/
def rSortSs (K : Fr) : List V → Hp → VK → Prop := fun vs H Q => ∃ (a : Addr) (xs : List Str), vs = [V.ref a] ∧ SqL K H a (xs.map V.str) ∧ xs.length ≤ sizeLine ∧
  ∀ (ys : List Str) (p : Addr), ys.Perm xs → sortedS ys = true → H p = none → Q (.ref p) (upd H p (.lst (ys.map V.str)))
theorem call_sortSs : CallR X (.builtin "sorted") (rSortSs X.K) := by
  intro pins s σ H vs us Q I r h
  obtain ⟨a, xs, rfl, hs, big, q⟩ := h
  obtain ⟨its, rv, hl, _⟩ := I.list hs
  rw [Vals.ref1 r]
  have len := rv.length
  rw [List.length_map] at len
  refine sorted_strsAny hl.isList rv.strs (by rw [← len]; exact big) fun out ys h1 h2 h3 => ?_
  obtain ⟨ep, he⟩ := sortedAll_at s.heap its out
  exact ⟨.ref _, upd H (s.heap.objs.size + 1) (.lst (ys.map V.str)), I.laid (t' := s.toks) (fun _ _ => sortedAll_old) (Nat.le_succ _) ⟨by rw [List.length_map, h2.length_eq]; exact big, out.toList, ep, vals_of_strs h1, he⟩, rfl, q ys _ h2 h3 (I.hok.fresh (Nat.le_succ _))⟩
end
end Dl
end

section
/-! Dl15: sorted texts, sets of texts, on plain data. -/
namespace Dl
open PySem PySem.Spec L2
open PyProof.Rows hiding St
abbrev leN (a b : List Nat) : Bool := decide (a ≤ b)
def srt (l : List (List Nat)) : List (List Nat) := l.mergeSort leN
theorem srt_perm (l : List (List Nat)) : (srt l).Perm l := List.mergeSort_perm _ _
theorem srt_pw (l : List (List Nat)) : (srt l).Pairwise (· ≤ ·) :=
  (List.pairwise_mergeSort (le := leN) (fun a b c h1 h2 => decide_eq_true (List.le_trans (of_decide_eq_true h1) (of_decide_eq_true h2)))
    (fun a b => by
      rcases List.le_total a b with h | h
      · rw [show leN a b = true from decide_eq_true h]; rfl
      · rw [show leN b a = true from decide_eq_true h, Bool.or_true]) l).imp fun h => of_decide_eq_true h
theorem srt_uniq {ys l : List (List Nat)} (p : ys.Perm l) (h : ys.Pairwise (· ≤ ·)) : ys = srt l :=
  List.Perm.eq_of_pairwise (fun a b _ _ h1 h2 => List.le_antisymm h1 h2) h (srt_pw l) (p.trans (srt_perm l).symm)
def cp (x : Str) : List Nat := x.cps.toList
theorem rising_pw : ∀ (r : List Str) (p : Str), risingS p r = true → ((p :: r).map cp).Pairwise (· ≤ ·)
  | [], p, _ => by simp
  | x :: r, p, h => by
    have hb : ¬ (cp x < cp p) ∧ risingS x r = true := by
      unfold risingS at h
      rw [ltCps_eq, Bool.and_eq_true, Bool.not_eq_true', decide_eq_false_iff_not] at h
      exact h
    have ih := rising_pw r x hb.2
    rw [List.map_cons]
    refine List.pairwise_cons.mpr ⟨fun y hy => ?_, ih⟩
    have h0 : cp p ≤ cp x := List.not_lt.mp hb.1
    rw [List.map_cons] at hy ih
    rcases List.mem_cons.mp hy with rfl | z
    · exact h0
    · exact List.le_trans h0 ((List.pairwise_cons.mp ih).1 y z)
theorem sorted_srt {ys xs : List Str} (p : ys.Perm xs) (h : sortedS ys = true) : ys.map cp = srt (xs.map cp) := by
  refine srt_uniq (p.map cp) ?_
  cases ys with
  | nil => exact List.Pairwise.nil
  | cons y r => exact rising_pw r y h
theorem cp_txt (l : List Nat) : cp (txt l) = l := rfl
theorem txt_cp (x : Str) : txt (cp x) = x := rfl
theorem map_cp_txt (l : List (List Nat)) : (l.map txt).map cp = l := by
  rw [List.map_map]
  exact List.map_id l
theorem map_txt_cp (l : List Str) : (l.map cp).map txt = l := by
  rw [List.map_map]
  exact List.map_id l
theorem sorted_txt {ys : List Str} {ns : List (List Nat)} (p : ys.Perm (ns.map txt)) (h : sortedS ys = true) : ys = (srt ns).map txt := by
  have e := sorted_srt p h
  rw [map_cp_txt] at e
  rw [← e, map_txt_cp]
def ded1 (L : List (List Nat)) (x : List Nat) : List (List Nat) := if x ∈ L then L else L ++ [x]
/-- each once, the first places -/
def ded (l : List (List Nat)) : List (List Nat) := l.foldl ded1 []
theorem dd1_txt (L : List (List Nat)) (x : List Nat) : dd1 (L.map txt) (txt x) = (ded1 L x).map txt := by
  have m : txt x ∈ L.map txt ↔ x ∈ L := ⟨fun h => by
    obtain ⟨y, hy, e⟩ := List.mem_map.mp h
    have : y = x := congrArg cp e
    rw [← this]
    exact hy, fun h => List.mem_map.mpr ⟨x, h, rfl⟩⟩
  unfold dd1 ded1
  by_cases h : x ∈ L
  · rw [if_pos h, if_pos (m.mpr h)]
  · rw [if_neg h, if_neg (fun z => h (m.mp z)), List.map_append]
    rfl
theorem ddp_txt (l : List (List Nat)) : ddp (l.map txt) = (ded l).map txt := by
  have key : ∀ (l L : List (List Nat)), (l.map txt).foldl dd1 (L.map txt) = (l.foldl ded1 L).map txt := by
    intro l
    induction l with
    | nil => intro L; rfl
    | cons x l ih =>
      intro L
      rw [List.map_cons, List.foldl_cons, List.foldl_cons, dd1_txt, ih]
  exact key l []
theorem ded1_mem {L : List (List Nat)} {x y : List Nat} : y ∈ ded1 L x ↔ y ∈ L ∨ y = x := by
  unfold ded1
  split
  · exact ⟨.inl, fun h => h.elim id fun e => by rw [e]; assumption⟩
  · rw [List.mem_append, List.mem_singleton]
theorem ded_mem {l : List (List Nat)} {y : List Nat} : y ∈ ded l ↔ y ∈ l := by
  have key : ∀ (l L : List (List Nat)), y ∈ l.foldl ded1 L ↔ y ∈ L ∨ y ∈ l := by
    intro l
    induction l with
    | nil => intro L; simp
    | cons x l ih =>
      intro L
      rw [List.foldl_cons, ih, ded1_mem, List.mem_cons, or_assoc]
  exact (key l []).trans ⟨fun h => h.elim (fun z => absurd z List.not_mem_nil) id, .inr⟩
theorem ded_nodup (l : List (List Nat)) : (ded l).Nodup := by
  have key : ∀ (l L : List (List Nat)), L.Nodup → (l.foldl ded1 L).Nodup := by
    intro l
    induction l with
    | nil => intro L h; exact h
    | cons x l ih =>
      intro L h
      refine ih _ ?_
      unfold ded1
      split
      · exact h
      · rename_i hx
        rw [List.nodup_append]
        exact ⟨h, List.nodup_cons.mpr ⟨List.not_mem_nil, List.nodup_nil⟩, fun a ha b hb => by
          rw [List.mem_singleton.mp hb]
          exact fun c => hx (c ▸ ha)⟩
  exact key l [] List.nodup_nil
theorem ded_len (l : List (List Nat)) : (ded l).length ≤ l.length := by
  have h := ddp_len (l.map txt)
  rw [ddp_txt, List.length_map, List.length_map] at h
  exact h
section
variable {K : Fr} {E : XK} {B H : Hp}
/-- a list or a tuple of texts -/
def asStrs : D → Option (List (List Nat))
  | .lst l => allStr l
  | .tup l => allStr l
  | _ => none
theorem asStrs_h {v : V} {d : D} {ns : List (List Nat)} (le : Le B H) (r : RpH K B H v d) (e : asStrs d = some ns) : ∃ a, v = .ref a ∧ (SqL K H a ((ns.map txt).map V.str) ∨ SqT K H a ((ns.map txt).map V.str)) := by
  cases d with
  | lst l =>
    obtain ⟨a, xs, rfl, h, rl⟩ := r
    rw [allStr_v rl e] at h
    exact ⟨a, rfl, .inl (.inl (.inl h))⟩
  | tup l =>
    obtain ⟨a, xs, rfl, h, rl⟩ := r
    rw [allStr_v rl e] at h
    exact ⟨a, rfl, .inr (le.sqt h)⟩
  | _ => cases e
/-- sorted(xs) of texts -/
def oSort : List D → (List D → Prop) → Prop
  | [.lst l], P => bnd (allStr l) fun ns => ns.length ≤ 16777216 ∧ P ((srt ns).map .str)
  | _, _ => False
theorem s_sort : SimLF K (rSortSs K) oSort := fun {B H xs ds P Q} le r q k => by
  match ds, q, r with
  | [.lst l], q, r =>
    obtain ⟨v, rfl, a, ys, rfl, h, rl⟩ := a1 r
    obtain ⟨ns, e, big, q⟩ := bnd_at q
    rw [allStr_v rl e] at h
    exact ⟨a, ns.map txt, rfl, .inl (.inl h), by rw [List.length_map, sizeLine_eq]; exact big, fun ys p pm s3 hp => by
      rw [sorted_txt pm s3]
      exact k p _ _ hp (rp_strs _) q⟩
/-- sorted(set(xs)) of texts -/
def rSortSet (K : Fr) (w : World) : V → Hp → VK → Prop := fun x H Q => rSetTx K w [x] H fun v H1 => rSortTx w [v] H1 Q
def dSortSet (a : ED) : FD := fun R ρ m P => a R ρ m fun x m1 => bnd (view m1 x) fun dx => bnd (asStrs dx) fun ns => ns.length < 4095 ∧ P ((srt (ded ns)).map .str) m1
theorem sim_sortSet {w : World} {t : TE} {a : ED} (ha : SimE K E t a) : SimF K E (tUn (rSortSet K w) t) (dSortSet a) := fun wr l er q k =>
  ha wr l er q fun x sx m1 B1 H1 A1 x1 w1 r1 q1 => by
    obtain ⟨dx, e1, q1⟩ := bnd_at q1
    obtain ⟨ns, e2, few, q1⟩ := bnd_at q1
    obtain ⟨a, rfl, hq⟩ := asStrs_h w1.le (view_h w1 r1 e1) e2
    have big : (ded ns).length ≤ 4095 := by
      have := ded_len ns
      omega
    refine ⟨a, ns.map txt, rfl, hq, by rw [List.length_map]; exact (by omega : ns.length + 1 < 4096), fun p hp => ?_⟩
    refine ⟨p, _, rfl, upd_same, by rw [ddp_txt, List.length_map, sizeLine_eq]; omega, fun ys n pm s3 hn => ?_⟩
    rw [ddp_txt] at pm
    rw [sorted_txt pm s3]
    have hn1 := upd_none hn
    have x2 : Xt B1 H1 A1 B1 (upd (upd H1 p (TxO w p (ddp (ns.map txt)))) n (.lst (((srt (ded ns)).map txt).map V.str))) A1 := (Xt.lost hp).tr (Xt.lost hn)
    exact k n _ _ m1 B1 _ A1 (x1.tr x2) ((w1.lost hp).lost hn) (x1.d n hn1) (w1.le.free hn1) (w1.notin hn1) upd_same (rp_strs _) q1
end
section
variable {X : Cx} {e : Expr} {te : TE} {p p2 p3 pos : Pos}
theorem pe_sortSet (hc : X.calm = true) (hg : Gl X "sorted") (hm : X.mg "sorted" = none) (hg2 : Gl X "set") (hm2 : X.mg "set" = none) (he : PE X e te)
    (h1 : starEach [e] X.env = (false, eval e X.env) :: starEach [] X.env := by rfl)
    (h2 : starEach [.Call (.Name "set" p2) [e] [] p3] X.env = (false, eval (.Call (.Name "set" p2) [e] [] p3) X.env) :: starEach [] X.env := by rfl)
    (h3 : (backTo p3 (starEach ([] : List Expr) X.env)).any (·.1) = false := by rfl) (h4 : (backTo pos (starEach ([] : List Expr) X.env)).any (·.1) = false := by rfl) :
    PE X (.Call (.Name "sorted" p) [.Call (.Name "set" p2) [e] [] p3] [] pos) (tUn (rSortSet X.K X.w) te) :=
  pe_callB (call_sortTx hc) hg hm boot_sorted (pa_cons (pe_callTy (call_setTx hc) hg2 hm2 boot_set (pa_cons he pa_nil h1) (by decide) (by decide) h1 h3) pa_nil h2) (by decide) (by decide) h2 h4
end
end Dl
end

section
/-! Dl16: methods of texts, f-texts, on plain data. -/
namespace Dl
open PySem PySem.Spec L2
open PyProof.Rows hiding St
/-! ### join -/
def joinN (sep : List Nat) : List (List Nat) → List Nat
  | [] => []
  | [x] => x
  | x :: y :: r => x ++ sep ++ joinN sep (y :: r)
theorem cp_app (a b : Str) : cp (a ++ b) = cp a ++ cp b := by
  show (a.cps ++ b.cps).toList = _
  rw [Array.toList_append]
  rfl
theorem cp_join (sep : Str) : ∀ ys : List Str, cp (Str.join sep ys) = joinN (cp sep) (ys.map cp)
  | [] => rfl
  | [x] => rfl
  | x :: y :: r => by
    show cp (x ++ sep ++ Str.join sep (y :: r)) = _
    rw [cp_app, cp_app, cp_join sep (y :: r)]
    rfl
theorem join_txt (sep : List Nat) (ns : List (List Nat)) : Txt.join (txt sep) (ns.map txt) = txt (joinN sep ns) := by
  show Builtin.Str.glued (txt sep) (ns.map txt) = _
  rw [StrLaws.glued_eq_join]
  have h := cp_join (txt sep) (ns.map txt)
  rw [map_cp_txt] at h
  rw [← txt_cp (Str.join (txt sep) (ns.map txt)), h]
  rfl
/-! ### split at one sign -/
def splitN (c : Nat) : List Nat → List (List Nat)
  | [] => [[]]
  | x :: l => if x = c then [] :: splitN c l else match splitN c l with
    | [] => [[x]]
    | p :: r => (x :: p) :: r
theorem splitN_ne (c : Nat) : ∀ l, splitN c l ≠ []
  | [] => by simp [splitN]
  | x :: l => by
    unfold splitN
    split
    · simp
    · split <;> simp
theorem splitN_free (c : Nat) : ∀ (p l : List Nat), c ∉ p → splitN c (p ++ l) = match splitN c l with
    | [] => [p]
    | q :: r => (p ++ q) :: r
  | [], l, _ => by
    cases h : splitN c l with
    | nil => exact absurd h (splitN_ne c l)
    | cons q r => simp [h]
  | x :: p, l, h => by
    have hx : x ≠ c := fun e => h (e ▸ List.mem_cons_self)
    have ih := splitN_free c p l fun z => h (List.mem_cons_of_mem _ z)
    rw [List.cons_append]
    show (if x = c then _ else _) = _
    rw [if_neg hx, ih]
    cases h2 : splitN c l with
    | nil => exact absurd h2 (splitN_ne c l)
    | cons q r => rfl
theorem splitN_join (c : Nat) : ∀ ns : List (List Nat), ns ≠ [] → (∀ p ∈ ns, c ∉ p) → splitN c (joinN [c] ns) = ns
  | [], h, _ => absurd rfl h
  | [x], _, h => by
    have := splitN_free c x [] (h x List.mem_cons_self)
    rw [List.append_nil] at this
    show splitN c x = [x]
    rw [this]
    simp [splitN]
  | x :: y :: r, _, h => by
    show splitN c (x ++ [c] ++ joinN [c] (y :: r)) = _
    rw [List.append_assoc, splitN_free c x _ (h x List.mem_cons_self)]
    have ih := splitN_join c (y :: r) (by simp) fun p hp => h p (List.mem_cons_of_mem _ hp)
    have e : splitN c ([c] ++ joinN [c] (y :: r)) = [] :: (y :: r) := by
      show (if c = c then _ else _) = _
      rw [if_pos rfl]
      show [] :: splitN c (joinN [c] (y :: r)) = _
      rw [ih]
    rw [e]
    simp
theorem split_ne (x y : Str) : Txt.split x y ≠ [] := by
  unfold Txt.split
  split
  · simp
  · split
    · simp
    · unfold Builtin.Str.partsBetween
      intro h
      have h2 := congrArg List.length h
      simp at h2
theorem split_txt (l : List Nat) (c : Nat) : Txt.split (txt l) (txt [c]) = (splitN c l).map txt := by
  have h1 := StrLaws.join_split (txt l) (txt [c])
  have h2 := StrLaws.split_free (txt l) c
  have h3 := cp_join (txt [c]) (Txt.split (txt l) (txt [c]))
  rw [h1] at h3
  have h4 := splitN_join c ((Txt.split (txt l) (txt [c])).map cp) (fun z => split_ne _ _ (List.map_eq_nil_iff.mp z)) (fun p hp => by
    obtain ⟨q, hq, rfl⟩ := List.mem_map.mp hp
    exact h2 q hq)
  have h5 : joinN [c] ((Txt.split (txt l) (txt [c])).map cp) = l := h3.symm
  rw [h5] at h4
  rw [h4, map_txt_cp]
/-! ### partition -/
def partN (pat : List Nat) : List Nat → Option (List Nat × List Nat)
  | [] => if pat = [] then some ([], []) else none
  | x :: l => if pat.isPrefixOf (x :: l) = true then some ([], (x :: l).drop pat.length) else (partN pat l).map fun p => (x :: p.1, p.2)
def AtN (l pat : List Nat) (i : Nat) : Prop := i + pat.length ≤ l.length ∧ (l.drop i).take pat.length = pat
theorem atN_zero {l pat : List Nat} : AtN l pat 0 ↔ pat.isPrefixOf l = true := by
  rw [List.isPrefixOf_iff_prefix]
  constructor
  · intro h
    exact ⟨l.drop pat.length, by
      have := List.take_append_drop pat.length l
      have h2 : List.take pat.length l = pat := h.2
      rw [h2] at this
      exact this⟩
  · rintro ⟨t, rfl⟩
    exact ⟨by simp, by simp⟩
theorem atN_succ {x : Nat} {l pat : List Nat} {i : Nat} : AtN (x :: l) pat (i + 1) ↔ AtN l pat i := by
  unfold AtN
  rw [List.length_cons, List.drop_succ_cons]
  constructor
  · rintro ⟨h1, h2⟩
    exact ⟨by omega, h2⟩
  · rintro ⟨h1, h2⟩
    exact ⟨by omega, h2⟩
theorem partN_at {pat : List Nat} (hp : pat ≠ []) : ∀ {l : List Nat} {i : Nat}, AtN l pat i → (∀ k, k < i → ¬ AtN l pat k) → partN pat l = some (l.take i, l.drop (i + pat.length))
  | [], i, h, _ => by
    have h1 := h.1
    have : pat.length = 0 := by
      rw [List.length_nil] at h1
      omega
    exact absurd (List.length_eq_zero_iff.mp this) hp
  | x :: l, 0, h, _ => by
    unfold partN
    rw [if_pos (atN_zero.mp h), Nat.zero_add]
    rfl
  | x :: l, i + 1, h, hn => by
    unfold partN
    rw [if_neg fun z => hn 0 (Nat.succ_pos _) (atN_zero.mpr z), partN_at hp (atN_succ.mp h) fun k hk z => hn (k + 1) (Nat.succ_lt_succ hk) (atN_succ.mpr z)]
    show some _ = some _
    rw [List.take_succ_cons, show i + 1 + pat.length = (i + pat.length) + 1 by omega, List.drop_succ_cons]
theorem partN_none {pat : List Nat} (hp : pat ≠ []) : ∀ {l : List Nat}, (∀ k, ¬ AtN l pat k) → partN pat l = none
  | [], _ => by
    unfold partN
    rw [if_neg hp]
  | x :: l, hn => by
    unfold partN
    rw [if_neg fun z => hn 0 (atN_zero.mpr z), partN_none hp fun k z => hn (k + 1) (atN_succ.mpr z)]
    rfl
theorem at_txt {l pat : List Nat} {i : Nat} : StrLaws.At (txt l) (txt pat) (txt l).length i ↔ AtN l pat i := by
  unfold StrLaws.At AtN
  rw [StrLaws.subAt_eq, txt_len, txt_len]
  show _ ∧ ((l.drop i).take pat.length == pat) = true ↔ _
  rw [beq_iff_eq]
def parts3 (l pat : List Nat) : List (List Nat) := match partN pat l with
  | some p => [p.1, pat, p.2]
  | none => [l, [], []]
theorem strSub_txt (l : List Nat) (i j : Nat) : Builtin.Str.strSub (txt l) i j = txt ((l.drop i).take (j - i)) := by
  rw [← txt_cp (Builtin.Str.strSub (txt l) i j)]
  congr 1
  exact StrLaws.strSub_toList _ _ _
theorem partition_txt (l pat : List Nat) (hp : pat ≠ []) : [(Txt.partition (txt l) (txt pat)).1, (Txt.partition (txt l) (txt pat)).2.1, (Txt.partition (txt l) (txt pat)).2.2] = (parts3 l pat).map txt := by
  unfold Txt.partition parts3
  rcases StrLaws.occ_head (txt l) (txt pat) 1 (Nat.le_refl 1) with ⟨h0, hn⟩ | ⟨i, r, h0, ha, hn⟩
  · rw [h0, partN_none hp fun k z => hn k (at_txt.mpr z)]
    rfl
  · have ha' := at_txt.mp ha
    rw [h0, partN_at hp ha' fun k hk z => hn k hk (at_txt.mpr z)]
    show [Builtin.Str.strSub _ _ _, _, Builtin.Str.strSub _ _ _] = _
    rw [strSub_txt, strSub_txt, txt_len, txt_len, List.drop_zero, Nat.sub_zero]
    have e : List.take (l.length - (i + pat.length)) (List.drop (i + pat.length) l) = List.drop (i + pat.length) l := List.take_of_length_le (by rw [List.length_drop]; exact Nat.le_refl _)
    rw [e]
    rfl
/-! ### begins, ends -/
theorem starts_txt (l p : List Nat) : Txt.startswith (txt l) (txt p) = p.isPrefixOf l := by
  have h : Txt.startswith (txt l) (txt p) = true ↔ p.isPrefixOf l = true := by
    rw [← atN_zero, ← at_txt]
    unfold Txt.startswith StrLaws.At
    rw [Bool.and_eq_true, decide_eq_true_eq]
  exact Bool.eq_iff_iff.mpr h
theorem ends_txt (l p : List Nat) : Txt.endswith (txt l) (txt p) = p.isSuffixOf l := by
  have h : Txt.endswith (txt l) (txt p) = true ↔ p.isSuffixOf l = true := by
    unfold Txt.endswith
    rw [Bool.and_eq_true, decide_eq_true_eq, StrLaws.subAt_eq, txt_len, txt_len]
    show _ ∧ ((l.drop (l.length - p.length)).take p.length == p) = true ↔ _
    rw [beq_iff_eq, List.isSuffixOf_iff_suffix]
    constructor
    · rintro ⟨h1, h2⟩
      rw [List.take_of_length_le (by rw [List.length_drop]; omega)] at h2
      exact ⟨l.take (l.length - p.length), by
        have := List.take_append_drop (l.length - p.length) l
        rw [h2] at this
        exact this⟩
    · rintro ⟨t, rfl⟩
      exact ⟨by simp, by simp⟩
  exact Bool.eq_iff_iff.mpr h

/-! ### the calls -/
section
variable {K : Fr} {E : XK} {B H : Hp}
abbrev RM := V → List V → Hp → VK → Prop
def SimM1 (K : Fr) (r : RM) (op : List Nat → D → (D → Prop) → Prop) : Prop := ∀ {B H y s dy P} {Q : VK}, Le B H → RpH K B H y dy → op s dy P → (∀ v d B' H', Gr B H B' H' → Rp K B' v d → P d → Q v H') → r (.str (txt s)) [y] H Q
def SimM1F (K : Fr) (r : RM) (op : List Nat → D → (List D → Prop) → Prop) : Prop := ∀ {B H y s dy P} {Q : VK}, Le B H → RpH K B H y dy → op s dy P → (∀ p ys l, H p = none → RpL K B ys l → P l → Q (.ref p) (upd H p (.lst ys))) → r (.str (txt s)) [y] H Q
def dSM (op : List Nat → D → (D → Prop) → Prop) (a b : ED) : ED := fun R ρ m P => a R ρ m fun x m1 => match x with
  | .d (.str s) => b R ρ m1 fun y m2 => bnd (view m2 y) fun dy => op s dy fun z => P (.d z) m2
  | _ => False
def dSMF (op : List Nat → D → (List D → Prop) → Prop) (a b : ED) : FD := fun R ρ m P => a R ρ m fun x m1 => match x with
  | .d (.str s) => b R ρ m1 fun y m2 => bnd (view m2 y) fun dy => op s dy fun z => P z m2
  | _ => False
theorem asS {x : SV} {f : List Nat → Prop} (q : match x with
  | .d (.str s) => f s
  | _ => False) : ∃ s, x = .d (.str s) ∧ f s := by
  split at q
  · exact ⟨_, rfl, q⟩
  · exact q.elim
theorem sim_SM {r : RM} {op : List Nat → D → (D → Prop) → Prop} {ta tb : TE} {a b : ED} (ho : SimM1 K r op) (ha : SimE K E ta a) (hb : SimE K E tb b) : SimE K E (tM1 r ta tb) (dSM op a b) := fun w l e q k =>
  ha w l e q fun x sx m1 B1 H1 A1 x1 w1 r1 q1 => by
    obtain ⟨s, rfl, q1⟩ := asS q1
    cases (Rp.h (show Rp K B1 x (.str s) from r1) w1.le).txt
    exact ⟨⟨_, rfl⟩, hb w1 (l.x x1) (e.x x1) q1 fun y sy m2 B2 H2 A2 x2 w2 r2 q2 => by
      obtain ⟨dy, ey, p⟩ := bnd_at q2
      exact ho w2.le (view_h w2 r2 ey) p fun v d B' H' g r p => k v (.d d) m2 B' H' A2 ((x1.tr x2).tr g.xt) (w2.gr g) r p⟩
theorem sim_SMF {r : RM} {op : List Nat → D → (List D → Prop) → Prop} {ta tb : TE} {a b : ED} (ho : SimM1F K r op) (ha : SimE K E ta a) (hb : SimE K E tb b) : SimF K E (tM1 r ta tb) (dSMF op a b) := fun w l e q k =>
  ha w l e q fun x sx m1 B1 H1 A1 x1 w1 r1 q1 => by
    obtain ⟨s, rfl, q1⟩ := asS q1
    cases (Rp.h (show Rp K B1 x (.str s) from r1) w1.le).txt
    exact ⟨⟨_, rfl⟩, hb w1 (l.x x1) (e.x x1) q1 fun y sy m2 B2 H2 A2 x2 w2 r2 q2 => by
      obtain ⟨dy, ey, p⟩ := bnd_at q2
      exact ho w2.le (view_h w2 r2 ey) p fun n ys l hn r p => k n ys l m2 B2 _ A2 ((x1.tr x2).tr (Xt.lost hn)) (w2.lost hn) ((x1.tr x2).d n hn) (w2.le.free hn) (w2.notin hn) upd_same r p⟩
abbrev rJoin (K : Fr) : RM := fun x xs H Q => ∃ a p, ∃ ys : List Str, x = .str a ∧ xs = [.ref p] ∧ (SqL K H p (ys.map V.str) ∨ SqT K H p (ys.map V.str)) ∧ (ys.map (·.length)).sum + ys.length * a.length ≤ 16777216 ∧ Q (.str (Txt.join a ys)) H
def oJoin (s : List Nat) (d : D) (P : D → Prop) : Prop := bnd (asStrs d) fun ns => (ns.map List.length).sum + ns.length * s.length ≤ 16777216 ∧ P (.str (joinN s ns))
theorem s_join : SimM1 K (rJoin K) oJoin := fun {B H y s dy P Q} le r q k => by
  obtain ⟨ns, e, z, q⟩ := bnd_at q
  obtain ⟨a, rfl, h⟩ := asStrs_h le r e
  refine ⟨txt s, a, ns.map txt, rfl, rfl, h, ?_, ?_⟩
  · rw [List.map_map, List.length_map, txt_len]
    have : ((fun x : Str => x.length) ∘ txt) = List.length := funext fun x => txt_len x
    rw [this]
    exact z
  · rw [join_txt]
    exact k _ _ B H (Gr.ie le) (rp_str _) q
abbrev rPart : RM := fun x xs H Q => ∃ a b, x = .str a ∧ xs = [.str b] ∧ (b.length == 0) = false ∧ a.length ≤ sizeLine ∧ ∀ p, H p = none → Q (.ref p) (upd H p (.tup [.str (Txt.partition a b).1, .str (Txt.partition a b).2.1, .str (Txt.partition a b).2.2]))
def oPart (s : List Nat) (d : D) (P : D → Prop) : Prop := match d with
  | .str b => b ≠ [] ∧ s.length ≤ 16777216 ∧ P (.tup ((parts3 s b).map .str))
  | _ => False
theorem s_part : SimM1 K rPart oPart := fun {B H y s dy P Q} le r q k => by
  cases dy with
  | str b =>
    obtain ⟨nb, z, q⟩ := q
    cases r.txt
    refine ⟨txt s, txt b, rfl, rfl, ?_, by rw [txt_len, sizeLine_eq]; exact z, fun p hp => ?_⟩
    · rw [txt_len]
      exact beq_eq_false_iff_ne.mpr fun e => nb (List.length_eq_zero_iff.mp e)
    · have e := congrArg (List.map V.str) (partition_txt s b nb)
      rw [show [V.str (Txt.partition (txt s) (txt b)).1, .str (Txt.partition (txt s) (txt b)).2.1, .str (Txt.partition (txt s) (txt b)).2.2] = _ from e]
      exact k _ _ _ _ (Gr.laid le hp) (.tup (.inl (.inl upd_same)) (rp_strs _)) q
  | _ => exact q.elim
abbrev rSplit : RM := fun x xs H Q => ∃ a b, x = .str a ∧ xs = [.str b] ∧ (b.length == 0) = false ∧ a.length + 2 ≤ sizeLine ∧ rNewStrs (Txt.split a b) H Q
def oSplit (s : List Nat) (d : D) (P : List D → Prop) : Prop := match d with
  | .str [c] => s.length + 2 ≤ 16777216 ∧ P ((splitN c s).map .str)
  | _ => False
theorem s_split : SimM1F K rSplit oSplit := fun {B H y s dy P Q} le r q k => by
  unfold oSplit at q
  split at q
  · rename_i c
    cases r.txt
    refine ⟨txt s, txt [c], rfl, rfl, rfl, by rw [txt_len, sizeLine_eq]; exact q.1, fun p hp => ?_⟩
    rw [split_txt]
    exact k p _ _ hp (rp_strs _) q.2
  · exact q.elim
def oStr2 (f : List Nat → List Nat → Bool) (s : List Nat) (d : D) (P : D → Prop) : Prop := match d with
  | .str b => P (.bl (f s b))
  | _ => False
def oStarts := oStr2 fun s b => b.isPrefixOf s
def oEnds := oStr2 fun s b => b.isSuffixOf s
abbrev rStr2 (f : Str → Str → Bool) : RM := fun x xs H Q => ∃ a b, x = .str a ∧ xs = [.str b] ∧ Q (.bl (f a b)) H
theorem s_str2 {f : Str → Str → Bool} {g : List Nat → List Nat → Bool} (h : ∀ s b, f (txt s) (txt b) = g s b) : SimM1 K (rStr2 f) (oStr2 g) := fun {B H y s dy P Q} le r q k => by
  cases dy with
  | str b =>
    cases r.txt
    refine ⟨txt s, txt b, rfl, rfl, ?_⟩
    rw [h]
    exact k _ _ B H (Gr.ie le) (.bl _) q
  | _ => exact q.elim
theorem s_starts : SimM1 K (rStr2 Txt.startswith) oStarts := s_str2 starts_txt
theorem s_ends : SimM1 K (rStr2 Txt.endswith) oEnds := s_str2 ends_txt
/-! ### f-texts -/
def dFmt (a : ED) : ED := fun R ρ m P => a R ρ m fun x m1 => match x with
  | .d (.str s) => s.length ≤ 16777216 ∧ P (.d (.str s)) m1
  | .d (.int i) => i.natAbs.log2 < 1920 ∧ P (.d (.str (numT i))) m1
  | _ => False
theorem sim_fmt {t : TE} {a : ED} (h : SimE K E t a) : SimE K E (tFmt t) (dFmt a) := fun w l e q k => h w l e q fun v s m1 B1 H1 A1 x1 w1 r1 q1 => by
  split at q1
  · rename_i s
    cases (Rp.h (show Rp K B1 v (.str s) from r1) w1.le).txt
    exact .inl ⟨txt s, rfl, by rw [txt_len, sizeLine_eq]; exact q1.1, k _ (.d (.str s)) m1 B1 H1 A1 x1 w1 (show Rp K B1 _ (.str s) from rp_str s) q1.2⟩
  · rename_i i
    cases (show Rp K B1 v (.int i) from r1)
    exact .inr ⟨i, rfl, q1.1, k _ (.d (.str (numT i))) m1 B1 H1 A1 x1 w1 (show Rp K B1 _ (.str (numT i)) from Rp.str _) q1.2⟩
  · exact q1.elim
def dJs : List ED → List Nat → ER → Rho → Mu → (SV → Mu → Prop) → Prop
  | [], acc, _, _, m, P => P (.d (.str acc)) m
  | a :: as, acc, R, ρ, m, P => a R ρ m fun x m1 => match x with
    | .d (.str s) => (acc ++ s).length ≤ 16777216 ∧ dJs as (acc ++ s) R ρ m1 P
    | _ => False
inductive SimJ (K : Fr) (E : XK) : List TE → List ED → Prop where
  | nil : SimJ K E [] []
  | cons {t : TE} {a : ED} {ts : List TE} {as : List ED} (h : SimE K E t a) (r : SimJ K E ts as) : SimJ K E (t :: ts) (a :: as)
theorem txt_app (a b : List Nat) : txt a ++ txt b = txt (a ++ b) := by
  rw [← txt_cp (txt a ++ txt b), cp_app]
  rfl
theorem sim_js {ts : List TE} {as : List ED} (h : SimJ K E ts as) : ∀ acc : List Nat, SimE K E (fun σ H Q => tJs ts (txt acc) σ H fun out H1 => Q (.str out) H1) (dJs as acc) := by
  induction h with
  | nil => exact fun acc {B H A m σ ρ P R Q} w l e q k => k _ (.d (.str acc)) m B H A Xt.ie w (show Rp K B _ (.str acc) from rp_str acc) q
  | @cons t a ts as h r ih =>
    exact fun acc {B H A m σ ρ P R Q} w l e q k => h w l e q fun v s m1 B1 H1 A1 x1 w1 r1 q1 => by
      obtain ⟨s, rfl, z, q1⟩ := asS q1
      cases (Rp.h (show Rp K B1 v (.str s) from r1) w1.le).txt
      refine ⟨txt s, rfl, by rw [txt_app, txt_len, sizeLine_eq]; exact z, ?_⟩
      rw [txt_app]
      exact ih (acc ++ s) w1 (l.x x1) (e.x x1) q1 fun v s m2 B2 H2 A2 x2 w2 r2 q2 => k v s m2 B2 H2 A2 (x1.tr x2) w2 r2 q2
end
/-- the parts of an f-text -/
structure PDJ (X : Cx) (E : XK) (es : List Expr) (ts : List TE) (as : List ED) : Prop where
  pj : PJ X es ts
  sim : SimJ X.K E ts as
theorem pdj_nil {X : Cx} {E : XK} : PDJ X E [] [] [] := ⟨.nil, .nil⟩
theorem pdj_cons {X : Cx} {E : XK} {e : Expr} {t : TE} {a : ED} {es : List Expr} {ts : List TE} {as : List ED} (h : PD X E e t a) (r : PDJ X E es ts as) : PDJ X E (e :: es) (t :: ts) (a :: as) := ⟨.cons h.pe r.pj, .cons h.sim r.sim⟩
theorem pd_joined {X : Cx} {E : XK} {v1 v2 : Expr} {rest : List Expr} {ts : List TE} {as : List ED} {pos : Pos} (h : PDJ X E (v1 :: v2 :: rest) ts as) : PD X E (.JoinedStr (v1 :: v2 :: rest) pos) (fun σ H Q => tJs ts Str.empty σ H fun out H1 => Q (.str out) H1) (dJs as []) :=
  ⟨pe_joined h.pj, sim_js h.sim []⟩
theorem pd_fmt {X : Cx} {E : XK} {e : Expr} {t : TE} {a : ED} {pos : Pos} (h : PD X E e t a) : PD X E (.FormattedValue e (-1) none pos) (tFmt t) (dFmt a) := ⟨pe_fmt h.pe, sim_fmt h.sim⟩
end Dl
end

section
/-! Dl17: enumerate, zip on plain data. -/
namespace Dl
open PySem PySem.Spec L2
open PyProof.Rows hiding St
section
variable {K : Fr} {E : XK}
/-- a list's items, and what must stand while it is walked -/
def lItems (m : Mu) : SV → (List D → (Mu → Prop) → Prop) → Prop
  | .d (.lst l), P => P l fun _ => True
  | .d (.scr l), P => P (l.map D.int) fun _ => True
  | .o i, P => bnd m[i]? fun o => match o with
    | .lst l => P l fun m' => m'[i]? = some (.lst l)
    | _ => False
  | _, _ => False
theorem lItems_at {B H : Hp} {A : List Addr} {m : Mu} {v : V} {s : SV} {P : List D → (Mu → Prop) → Prop} (w : Wr K B H A m) (r : RpS K B A v s) (q : lItems m s P) :
    ∃ a l chk, v = .ref a ∧ P l chk ∧ (∃ xs, SqL K H a xs) ∧ ∀ {B2 H2 A2 m2}, Xt B H A B2 H2 A2 → Wr K B2 H2 A2 m2 → chk m2 → ∃ xs, SqL K H2 a xs ∧ RpL K B2 xs l := by
  cases s with
  | o i =>
    obtain ⟨o, eo, q1⟩ := bnd_at q
    cases o with
    | lst ls =>
      obtain ⟨a, rfl, ea⟩ := r
      obtain ⟨_, xs, hx, rl⟩ := w.ob i a _ ea eo rfl
      exact ⟨a, ls, _, rfl, q1, ⟨xs, .inl (.inl hx)⟩, fun {B2 H2 A2 m2} x2 w2 c => by
        obtain ⟨_, ys, hy, rl2⟩ := w2.ob i a _ (app_get x2.a ea) c rfl
        exact ⟨ys, .inl (.inl hy), rl2⟩⟩
    | _ => exact q1.elim
  | d x =>
    cases x with
    | lst ls =>
      cases (show Rp K B v (.lst ls) from r) with
      | lst hx rl => exact ⟨_, ls, _, rfl, q, ⟨_, .inl (.inl (w.le.lst hx))⟩, fun x2 w2 _ => ⟨_, .inl (.inl (w2.le.lst (x2.b _ _ hx))), RpL.up x2.b rl⟩⟩
    | scr ns =>
      cases (show Rp K B v (.scr ns) from r) with
      | scr hx => exact ⟨_, ns.map D.int, _, rfl, q, ⟨_, w.le.sql hx⟩, fun x2 w2 _ => ⟨_, w2.le.sql (x2.b.sql hx), rpL_ints ns _⟩⟩
    | _ => exact q.elim
def enumD : Nat → List D → List D
  | _, [] => []
  | n, d :: l => .tup [.int (n : Int), d] :: enumD (n + 1) l
theorem enumD_len : ∀ (n : Nat) (l : List D), (enumD n l).length = l.length
  | _, [] => rfl
  | n, d :: l => by
    show (enumD (n + 1) l).length + 1 = l.length + 1
    rw [enumD_len]
theorem enumD_get : ∀ (n : Nat) (l : List D) (i : Nat), (enumD n l)[i]? = l[i]?.map fun d => .tup [.int ((n + i : Nat) : Int), d]
  | _, [], i => by simp [enumD]
  | n, d :: l, 0 => rfl
  | n, d :: l, i + 1 => by
    show (enumD (n + 1) l)[i]? = _
    rw [enumD_get (n + 1) l i, List.getElem?_cons_succ, show n + 1 + i = n + (i + 1) by omega]
def dEnum (a : ED) : ID := fun R ρ m P => a R ρ m fun s m1 => lItems m1 s fun l chk => P (enumD 0 l) chk m1
theorem sim_enum {t : TE} {a : ED} (h : SimE K E t a) : SimI K E (iEnum K (tCons t tNil)) (dEnum a) := fun w l er q k => h w l er q fun v s m1 B1 H1 A1 x1 w1 r1 q1 => by
  obtain ⟨a, ls, chk, rfl, q2, ⟨xs, hx⟩, st⟩ := lItems_at w1 r1 q1
  refine ⟨a, xs, rfl, hx, k _ _ _ _ _ _ _ x1 w1 q2 ⟨fun {B2 H2 A2 m2} x w c => ?_⟩⟩
  obtain ⟨ys, hs, rl⟩ := st x w c
  refine ⟨fun i hi => ?_, ⟨ys, hs, by rw [rl.len, enumD_len]; exact Nat.le_refl _⟩, fun i d v H3 e y => ?_⟩
  · rw [enumD_len] at hi
    exact ⟨ys, ys[i]'(by rw [rl.len]; exact hi), hs, List.getElem?_eq_getElem _⟩
  · obtain ⟨T, z, rfl, hT, rfl, y2⟩ := y
    rw [enumD_get] at e
    cases eg : ls[i]? with
    | none =>
      rw [eg] at e
      cases e
    | some d0 =>
      rw [eg] at e
      cases e
      obtain ⟨v', ev, rv⟩ := rl.get eg
      have := y2 ys hs
      rw [ev] at this
      cases this
      rw [Nat.zero_add]
      exact ⟨_, Gr.laid w.le hT, .tup (.inl (.inl upd_same)) (RpL.up (Ex.new (w.le.free hT)) (.cons (.int _) (.cons rv .nil)))⟩
def zipD : List D → List D → List D
  | x :: xs, y :: ys => .tup [x, y] :: zipD xs ys
  | _, _ => []
theorem zipD_len : ∀ l k : List D, (zipD l k).length = min l.length k.length
  | [], k => by simp [zipD]
  | x :: xs, [] => by simp [zipD]
  | x :: xs, y :: ys => by
    show (zipD xs ys).length + 1 = min (xs.length + 1) (ys.length + 1)
    rw [zipD_len xs ys]
    omega
theorem zipD_get : ∀ (l k : List D) (i : Nat) (d : D), (zipD l k)[i]? = some d → ∃ x y, l[i]? = some x ∧ k[i]? = some y ∧ d = .tup [x, y]
  | [], k, i, d, h => by simp [zipD] at h
  | x :: xs, [], i, d, h => by simp [zipD] at h
  | x :: xs, y :: ys, 0, d, h => by
    cases h
    exact ⟨x, y, rfl, rfl, rfl⟩
  | x :: xs, y :: ys, i + 1, d, h => zipD_get xs ys i d h
def dZip (a b : ED) : ID := fun R ρ m P => a R ρ m fun s m1 => b R ρ m1 fun u m2 => match s, u with
  | .d (.tup l), .d (.tup k) => P (zipD l k) (fun _ => True) m2
  | s, u => lItems m2 s fun l c1 => lItems m2 u fun k c2 => P (zipD l k) (fun m => c1 m ∧ c2 m) m2
theorem sim_zip {t1 t2 : TE} {a b : ED} (ha : SimE K E t1 a) (hb : SimE K E t2 b) : SimI K E (RZ.iZipA K (tCons t1 (tCons t2 tNil))) (dZip a b) := fun w l er q k => ha w l er q fun v s m1 B1 H1 A1 x1 w1 r1 q1 =>
  hb w1 (l.x x1) (er.x x1) q1 fun v2 s2 m2 B2 H2 A2 x2 w2 r2 q2 => by
    have r1' := r1.up x2.b x2.a
    split at q2
    · rename_i l1 l2
      cases (show Rp K B2 v (.tup l1) from r1') with
      | tup h1 rl1 =>
        cases (show Rp K B2 v2 (.tup l2) from r2) with
        | tup h2 rl2 =>
          rename_i a1 xs1 a2 xs2
          refine ⟨_, _, _, _, rfl, .inr ⟨w2.le.sqt h1, w2.le.sqt h2, k _ _ _ _ _ _ _ (x1.tr x2) w2 q2 ⟨fun {B3 H3 A3 m3} x w c => ?_⟩⟩⟩
          have s1 := w.le.sqt (x.b.sqt h1)
          have s2 := w.le.sqt (x.b.sqt h2)
          refine ⟨fun i hi => ?_, ⟨_, _, s1, s2, ?_⟩, fun i d v H4 e y => ?_⟩
          · rw [zipD_len] at hi
            exact ⟨_, _, xs1[i]'(by rw [rl1.len]; omega), xs2[i]'(by rw [rl2.len]; omega), s1, s2, List.getElem?_eq_getElem _, List.getElem?_eq_getElem _⟩
          · rw [rl1.len, rl2.len, zipD_len]
            omega
          · obtain ⟨T, z1, z2, rfl, hT, rfl, y1, y2⟩ := y
            obtain ⟨dx, dy, e1, e2, rfl⟩ := zipD_get _ _ _ _ e
            obtain ⟨v1, ev1, rv1⟩ := rl1.get e1
            obtain ⟨v2, ev2, rv2⟩ := rl2.get e2
            have f1 := y1 _ s1
            have f2 := y2 _ s2
            rw [ev1] at f1
            rw [ev2] at f2
            cases f1
            cases f2
            exact ⟨_, Gr.laid w.le hT, .tup (.inl (.inl upd_same)) (RpL.up (Ex.new (w.le.free hT)) (RpL.up x.b (.cons rv1 (.cons rv2 .nil))))⟩
    · obtain ⟨a1, l1, c1, rfl, q3, ⟨xs, hx⟩, st1⟩ := lItems_at w2 r1' q2
      obtain ⟨a2, l2, c2, rfl, q4, ⟨ys, hy⟩, st2⟩ := lItems_at w2 r2 q3
      refine ⟨a1, a2, xs, ys, rfl, .inl ⟨hx, hy, k _ _ _ _ _ _ _ (x1.tr x2) w2 q4 ⟨fun {B3 H3 A3 m3} x w c => ?_⟩⟩⟩
      obtain ⟨xs, s1, rl1⟩ := st1 x w c.1
      obtain ⟨ys, s2, rl2⟩ := st2 x w c.2
      refine ⟨fun i hi => ?_, ⟨_, _, s1, s2, ?_⟩, fun i d v H4 e y => ?_⟩
      · rw [zipD_len] at hi
        exact ⟨_, _, xs[i]'(by rw [rl1.len]; omega), ys[i]'(by rw [rl2.len]; omega), s1, s2, List.getElem?_eq_getElem _, List.getElem?_eq_getElem _⟩
      · rw [rl1.len, rl2.len, zipD_len]
        omega
      · obtain ⟨T, z1, z2, rfl, hT, rfl, y1, y2⟩ := y
        obtain ⟨dx, dy, e1, e2, rfl⟩ := zipD_get _ _ _ _ e
        obtain ⟨v1, ev1, rv1⟩ := rl1.get e1
        obtain ⟨v2, ev2, rv2⟩ := rl2.get e2
        have f1 := y1 _ s1
        have f2 := y2 _ s2
        rw [ev1] at f1
        rw [ev2] at f2
        cases f1
        cases f2
        exact ⟨_, Gr.laid w.le hT, .tup (.inl (.inl upd_same)) (RpL.up (Ex.new (w.le.free hT)) (.cons rv1 (.cons rv2 .nil)))⟩
end
end Dl
end

section
/-! Dl18: dicts whose keys are ints or texts, on plain data. -/
namespace Dl
open PySem PySem.Spec L2
open PyProof.Rows hiding St
/-! ### keys -/
def keq : D → D → Bool
  | .int i, .int j => i == j
  | .str s, .str t => s == t
  | _, _ => false
def dKey : D → Option Key
  | .int i => some (.inl i)
  | .str s => some (.inr (txt s))
  | _ => none
theorem keyD_of {d : D} {k : Key} (h : dKey d = some k) : keyD k = d := by
  cases d with
  | int i => cases h; rfl
  | str s => cases h; rfl
  | _ => cases h
theorem keq_key (a b : Key) : keq (keyD a) (keyD b) = decide (a = b) := by
  cases a with
  | inl i =>
    cases b with
    | inl j =>
      show (i == j) = _
      by_cases e : i = j
      · rw [e]; simp
      · rw [beq_eq_false_iff_ne.mpr e, decide_eq_false (fun z => e (Sum.inl.inj z))]
    | inr y => rfl
  | inr x =>
    cases b with
    | inl j => rfl
    | inr y =>
      show (cp x == cp y) = _
      by_cases e : x = y
      · rw [e]; simp
      · rw [beq_eq_false_iff_ne.mpr (fun z => e (by rw [← txt_cp x, z, txt_cp])), decide_eq_false (fun z => e (Sum.inr.inj z))]
def dget (l : List (D × D)) (k : D) : Option D := (l.find? fun p => keq p.1 k).map (·.2)
def dput (l : List (D × D)) (k v : D) : List (D × D) := if (l.any fun p => keq p.1 k) = true then l.map (fun p => if keq p.1 k = true then (p.1, v) else p) else l ++ [(k, v)]
def ddel (l : List (D × D)) (k : D) : List (D × D) := l.filter fun p => !keq p.1 k
def dmerge (l more : List (D × D)) : List (D × D) := more.foldl (fun acc p => dput acc p.1 p.2) l
section
variable {K : Fr} {E : XK} {B H : Hp}
def RO (K : Fr) (B : Hp) : Option V → Option D → Prop
  | some v, some d => Rp K B v d
  | none, none => True
  | _, _ => False
theorem RpK.len : ∀ {ks : List (Key × V)} {l : List (D × D)}, RpK K B ks l → ks.length = l.length
  | _, _, .nil => rfl
  | _, _, .cons r t => by rw [List.length_cons, List.length_cons, RpK.len t]
theorem RpK.get (k : Key) : ∀ {ks : List (Key × V)} {l : List (D × D)}, RpK K B ks l → RO K B (valV ks k) (dget l (keyD k))
  | _, _, .nil => trivial
  | _, _, @RpK.cons _ _ k0 v d vs ds r t => by
    unfold valV dget
    rw [List.find?_cons, List.find?_cons]
    dsimp only
    rw [keq_key]
    by_cases e : k0 = k
    · rw [decide_eq_true e]
      exact r
    · rw [decide_eq_false e]
      exact RpK.get k t
theorem RpK.anyK (k : Key) : ∀ {ks : List (Key × V)} {l : List (D × D)}, RpK K B ks l → (ks.any fun kv => decide (kv.1 = k)) = l.any fun p => keq p.1 (keyD k)
  | _, _, .nil => rfl
  | _, _, .cons r t => by
    rw [List.any_cons, List.any_cons, RpK.anyK k t]
    dsimp only
    rw [keq_key]
theorem RpK.repl (k : Key) {v : V} {d : D} (h : Rp K B v d) : ∀ {ks : List (Key × V)} {l : List (D × D)}, RpK K B ks l → RpK K B (ks.map fun kv => if kv.1 = k then (kv.1, v) else kv) (l.map fun p => if keq p.1 (keyD k) = true then (p.1, d) else p)
  | _, _, .nil => .nil
  | _, _, @RpK.cons _ _ k0 v0 d0 vs ds r t => by
    rw [List.map_cons, List.map_cons]
    dsimp only
    rw [keq_key]
    by_cases e : k0 = k
    · rw [if_pos e, decide_eq_true e, if_pos rfl]
      exact .cons h (RpK.repl k h t)
    · rw [if_neg e, decide_eq_false e, if_neg Bool.false_ne_true]
      exact .cons r (RpK.repl k h t)
theorem RpK.snoc {k : Key} {v : V} {d : D} (h : Rp K B v d) : ∀ {ks : List (Key × V)} {l : List (D × D)}, RpK K B ks l → RpK K B (ks ++ [(k, v)]) (l ++ [(keyD k, d)])
  | _, _, .nil => .cons h .nil
  | _, _, .cons r t => .cons r (RpK.snoc h t)
theorem RpK.put {k : Key} {v : V} {d : D} (h : Rp K B v d) {ks : List (Key × V)} {l : List (D × D)} (r : RpK K B ks l) : RpK K B (putK ks k v) (dput l (keyD k) d) := by
  unfold putK dput
  rw [RpK.anyK k r]
  split
  · exact r.repl k h
  · exact r.snoc h
theorem RpK.del (k : Key) : ∀ {ks : List (Key × V)} {l : List (D × D)}, RpK K B ks l → RpK K B (dropK ks k) (ddel l (keyD k))
  | _, _, .nil => .nil
  | _, _, @RpK.cons _ _ k0 v0 d0 vs ds r t => by
    unfold dropK ddel
    rw [List.filter_cons, List.filter_cons]
    dsimp only
    rw [keq_key]
    have ih := RpK.del k t
    by_cases e : k0 = k
    · rw [decide_eq_false (fun z => z e), decide_eq_true e]
      exact ih
    · rw [decide_eq_true e, decide_eq_false e]
      exact .cons r ih
theorem RpK.merge : ∀ {more : List (Key × V)} {m : List (D × D)} {ks : List (Key × V)} {l : List (D × D)}, RpK K B more m → RpK K B ks l → RpK K B (mergeK ks more) (dmerge l m)
  | _, _, _, _, .nil, r => r
  | _, _, ks, l, @RpK.cons _ _ k0 v0 d0 vs ds h t, r => RpK.merge (ks := putK ks k0 v0) (l := dput l (keyD k0) d0) t (r.put h)
theorem RO.some {o : Option V} {u : Option D} (r : RO K B o u) : o.isSome = u.isSome := by
  cases o <;> cases u <;> first | rfl | exact r.elim
theorem key_v {v : V} {d : D} {k : Key} (r : RpH K B H v d) (h : dKey d = some k) : v = kV k := by
  cases d with
  | int i => cases h; exact r
  | str s => cases h; exact r.txt
  | _ => cases h
def asD : D → (List (D × D) → Prop) → Prop
  | .dic l, P => P l
  | _, _ => False
theorem asD_at {d : D} {P : List (D × D) → Prop} (q : asD d P) : ∃ l, d = .dic l ∧ P l := by
  cases d with
  | dic l => exact ⟨l, rfl, q⟩
  | _ => exact q.elim
/-! ### y in d -/
def dDIn0 (neg : Bool) (a b : ED) : ED := fun R ρ m P => a R ρ m fun y m1 => b R ρ m1 fun x m2 => bnd (view m2 y) fun dy => bnd (view m2 x) fun dx => bnd (dKey dy) fun _ => asD dx fun l => P (.d (.bl (neg != (dget l dy).isSome))) m2
theorem sim_din {ty td : TE} {a b : ED} (ha : SimE K E ty a) (hb : SimE K E td b) : SimE K E (tDIn ty td) (dDIn0 false a b) := fun w l e q k =>
  ha w l e q fun y sy m1 B1 H1 A1 x1 w1 r1 q1 => hb w1 (l.x x1) (e.x x1) q1 fun x sx m2 B2 H2 A2 x2 w2 r2 q2 => by
    obtain ⟨dy, e1, q2⟩ := bnd_at q2
    obtain ⟨dx, e2, q2⟩ := bnd_at q2
    obtain ⟨ky, e3, q2⟩ := bnd_at q2
    obtain ⟨ls, rfl, q2⟩ := asD_at q2
    obtain ⟨a, ks, rfl, hd, rk⟩ := view_h w2 r2 e2
    have r3 := rk.get ky
    rw [keyD_of e3] at r3
    refine ⟨a, _, rfl, .inl ⟨ks, ky, hd, key_v (view_h w2 (r1.up x2.b x2.a) e1) e3, rfl⟩, k _ _ m2 B2 H2 A2 (x1.tr x2) w2 (show RpS K B2 A2 _ (.d (.bl _)) from ?_) q2⟩
    rw [r3.some, Bool.false_bne]
    exact .bl _
theorem sim_dnotin {ty td : TE} {a b : ED} (ha : SimE K E ty a) (hb : SimE K E td b) : SimE K E (tDNotIn ty td) (dDIn0 true a b) := fun w l e q k =>
  ha w l e q fun y sy m1 B1 H1 A1 x1 w1 r1 q1 => hb w1 (l.x x1) (e.x x1) q1 fun x sx m2 B2 H2 A2 x2 w2 r2 q2 => by
    obtain ⟨dy, e1, q2⟩ := bnd_at q2
    obtain ⟨dx, e2, q2⟩ := bnd_at q2
    obtain ⟨ky, e3, q2⟩ := bnd_at q2
    obtain ⟨ls, rfl, q2⟩ := asD_at q2
    obtain ⟨a, ks, rfl, hd, rk⟩ := view_h w2 r2 e2
    have r3 := rk.get ky
    rw [keyD_of e3] at r3
    refine ⟨a, _, rfl, .inl ⟨ks, ky, hd, key_v (view_h w2 (r1.up x2.b x2.a) e1) e3, rfl⟩, k _ _ m2 B2 H2 A2 (x1.tr x2) w2 (show RpS K B2 A2 _ (.d (.bl _)) from ?_) q2⟩
    rw [r3.some, Bool.true_bne]
    exact .bl _
/-! ### d[y] -/
def dDGet (b a : ED) : ED := fun R ρ m P => b R ρ m fun x m1 => a R ρ m1 fun y m2 => bnd (view m2 y) fun dy => bnd (view m2 x) fun dx => bnd (dKey dy) fun _ => asD dx fun l => bnd (dget l dy) fun z => P (.d z) m2
theorem sim_dget {ty td : TE} {a b : ED} (hb : SimE K E td b) (ha : SimE K E ty a) : SimE K E (tDGet td ty) (dDGet b a) := fun w l e q k =>
  hb w l e q fun x sx m1 B1 H1 A1 x1 w1 r1 q1 => ha w1 (l.x x1) (e.x x1) q1 fun y sy m2 B2 H2 A2 x2 w2 r2 q2 => by
    obtain ⟨dy, e1, q2⟩ := bnd_at q2
    obtain ⟨dx, e2, q2⟩ := bnd_at q2
    obtain ⟨ky, e3, q2⟩ := bnd_at q2
    obtain ⟨ls, rfl, q2⟩ := asD_at q2
    obtain ⟨z, e4, q2⟩ := bnd_at q2
    obtain ⟨a, ks, rfl, hd, rk⟩ := view_h w2 (r1.up x2.b x2.a) e2
    have r3 := rk.get ky
    rw [keyD_of e3, e4] at r3
    cases hv : valV ks ky with
    | none =>
      rw [hv] at r3
      exact r3.elim
    | some v =>
      rw [hv] at r3
      exact ⟨a, v, rfl, .inl ⟨ks, ky, hd, key_v (view_h w2 r2 e1) e3, hv.symm⟩, k _ (.d z) m2 B2 H2 A2 (x1.tr x2) w2 r3 q2⟩
/-- d.get(y, z) -/
def dDGet2 (b a c : ED) : ED := fun R ρ m P => b R ρ m fun x m1 => bnd (view m1 x) fun dx0 => asD dx0 fun _ => a R ρ m1 fun y m2 => c R ρ m2 fun z m3 => bnd (view m3 y) fun dy => bnd (view m3 x) fun dx => bnd (dKey dy) fun _ => asD dx fun l => match dget l dy with
  | some d => P (.d d) m3
  | none => P z m3
theorem sim_dget2 {td ty tz : TE} {a b c : ED} (hb : SimE K E td b) (ha : SimE K E ty a) (hc : SimE K E tz c) : SimE K E (tDGet2 td ty tz) (dDGet2 b a c) := fun w l e q k =>
  hb w l e q fun x sx m1 B1 H1 A1 x1 w1 r1 q1 => by
    obtain ⟨dx0, e0, q1⟩ := bnd_at q1
    obtain ⟨l0, rfl, q1⟩ := asD_at q1
    obtain ⟨a0, k0, ev, h0, _⟩ := view_h w1 r1 e0
    exact ⟨a0, ev, .inl ⟨k0, h0⟩, ha w1 (l.x x1) (e.x x1) q1 fun y sy m2 B2 H2 A2 x2 w2 r2 q2 => hc w2 (l.x (x1.tr x2)) (e.x (x1.tr x2)) q2 fun z sz m3 B3 H3 A3 x3 w3 r3 q3 => by
      obtain ⟨dy, e1, q2⟩ := bnd_at q3
      obtain ⟨dx, e2, q2⟩ := bnd_at q2
      obtain ⟨ky, e3, q2⟩ := bnd_at q2
      obtain ⟨ls, rfl, q7⟩ := asD_at q2
      have x23 := x2.tr x3
      obtain ⟨a, ks, rfl, hd, rk⟩ := view_h w3 (r1.up x23.b x23.a) e2
      cases ev
      have r4 := rk.get ky
      rw [keyD_of e3] at r4
      refine ⟨_, .inl ⟨ks, ky, hd, key_v (view_h w3 (r2.up x3.b x3.a) e1) e3, rfl⟩, ?_⟩
      cases hv : valV ks ky with
      | none =>
        rw [hv] at r4
        cases hw : dget ls dy with
        | some d =>
          rw [hw] at r4
          exact r4.elim
        | none =>
          rw [hw] at q7
          exact k _ sz m3 B3 H3 A3 (x1.tr x23) w3 r3 q7
      | some v =>
        rw [hv] at r4
        cases hw : dget ls dy with
        | none =>
          rw [hw] at r4
          exact r4.elim
        | some d =>
          rw [hw] at q7 r4
          exact k _ (.d d) m3 B3 H3 A3 (x1.tr x23) w3 r4 q7⟩
/-! ### d[y] = v, d ours -/
def asM : MO → (List (D × D) → Prop) → Prop
  | .dic l, P => P l
  | _, _ => False
theorem asM_at {o : MO} {P : List (D × D) → Prop} (q : asM o P) : ∃ l, o = .dic l ∧ P l := by
  cases o with
  | dic l => exact ⟨l, rfl, q⟩
  | _ => exact q.elim
theorem Wr.dic {A : List Addr} {m : Mu} (w : Wr K B H A m) {i : Nat} {a : Addr} {l k : List (D × D)} {ys : List (Key × V)} (ea : A[i]? = some a) (em : m[i]? = some (.dic l)) (r : RpK K B ys k) : Wr K B (upd H a (.dK ys)) A (m.set i (.dic k)) :=
  w.wrote ea (lv em rfl) ⟨ys, upd_same, r⟩
def dDPut (e b a : ED) : SD := fun R DD ρ m => e R ρ m fun v m1 => b R ρ m1 fun x m2 => a R ρ m2 fun y m3 => bnd (plain v) fun dv => bnd (view m3 y) fun dy => bnd (dKey dy) fun _ => asO m3 x fun i o => asM o fun l => l.length < 16777216 ∧ DD.nx ρ (m3.set i (.dic (dput l dy dv)))
theorem sim_dput {tv td ty : TE} {e b a : ED} (he : SimE K E tv e) (hb : SimE K E td b) (ha : SimE K E ty a) : SimS K E (sDPut td ty tv) (dDPut e b a) := fun w l er q k =>
  he w l er q fun v sv m1 B1 H1 A1 x1 w1 r1 q1 => hb w1 (l.x x1) (er.x x1) q1 fun x sx m2 B2 H2 A2 x2 w2 r2 q2 => ha w2 (l.x (x1.tr x2)) (er.x (x1.tr x2)) q2 fun y sy m3 B3 H3 A3 x3 w3 r3 q3 => by
    obtain ⟨dv, e1, q3⟩ := bnd_at q3
    obtain ⟨dy, e2, q3⟩ := bnd_at q3
    obtain ⟨ky, e3, q3⟩ := bnd_at q3
    obtain ⟨i, p, o, rfl, ea, eo, q3⟩ := asO_at w3 (r2.up x3.b x3.a) q3
    obtain ⟨ls, rfl, z, q3⟩ := asM_at q3
    obtain ⟨_, ks, h, rk⟩ := w3.ob i p _ ea eo rfl
    have x23 := x2.tr x3
    have rv := plain_rp (r1.up x23.b x23.a) e1
    have rp := RpK.put (k := ky) rv rk
    rw [keyD_of e3] at rp
    exact ⟨p, _, rfl, .inl ⟨ks, ky, h, key_v (view_h w3 r3 e2) e3, by rw [rk.len, sizeLine_eq]; exact z, rfl⟩, k.nx ((x1.tr x23).tr (Xt.wrote (List.mem_of_getElem? ea))) (w3.dic ea eo rp) (l.x (x1.tr x23)) q3⟩
/-- d[y] op= e, d ours -/
def dDAug (op : O2) (b a e : ED) : SD := fun R DD ρ m => b R ρ m fun x m1 => a R ρ m1 fun y m2 => bnd (view m2 y) fun dy => bnd (view m2 x) fun dx => bnd (dKey dy) fun _ => asD dx fun l => bnd (dget l dy) fun dz => e R ρ m2 fun u m3 => bnd (view m3 u) fun du => op dz du fun dv =>
  asO m3 x fun i o => asM o fun l => l.length < 16777216 ∧ DD.nx ρ (m3.set i (.dic (dput l dy dv)))
theorem sim_daug {tv td ty : TE} {rd : V → V → Hp → VK → Prop} {op : O2} {e b a : ED} (ho : Sim2 K rd op) (hb : SimE K E td b) (ha : SimE K E ty a) (he : SimE K E tv e) : SimS K E (sDAug td ty tv rd) (dDAug op b a e) := fun w l er q k =>
  hb w l er q fun x sx m1 B1 H1 A1 x1 w1 r1 q1 => ha w1 (l.x x1) (er.x x1) q1 fun y sy m2 B2 H2 A2 x2 w2 r2 q2 => by
    obtain ⟨dy, e1, q2⟩ := bnd_at q2
    obtain ⟨dx, e2, q2⟩ := bnd_at q2
    obtain ⟨ky, e3, q2⟩ := bnd_at q2
    obtain ⟨ls, rfl, q2⟩ := asD_at q2
    obtain ⟨dz, e4, q2⟩ := bnd_at q2
    obtain ⟨a, ks, rfl, hd, rk⟩ := view_h w2 (r1.up x2.b x2.a) e2
    have r3 := rk.get ky
    rw [keyD_of e3, e4] at r3
    cases hv : valV ks ky with
    | none =>
      rw [hv] at r3
      exact r3.elim
    | some v =>
      rw [hv] at r3
      have ky_v := key_v (view_h w2 r2 e1) e3
      refine ⟨a, v, rfl, .inl ⟨ks, ky, hd, ky_v, hv.symm⟩, he w2 (l.x (x1.tr x2)) (er.x (x1.tr x2)) q2 fun u su m3 B3 H3 A3 x3 w3 r5 q3 => ?_⟩
      obtain ⟨du, e5, q3⟩ := bnd_at q3
      have x23 := x2.tr x3
      exact ho w3.le (Rp.h (Rp.up x3.b r3) w3.le) (view_h w3 r5 e5) q3 fun z dv B' H' g rz q4 => by
        have w4 := w3.gr g
        have g4 : Xt B3 H3 A3 B' H' A3 := g.xt
        have rx := (r1.up x23.b x23.a).up g4.b g4.a
        obtain ⟨i, p, o, ep, ea, eo, q4⟩ := asO_at w4 rx q4
        cases ep
        obtain ⟨ls2, rfl, z2, q4⟩ := asM_at q4
        obtain ⟨_, ks2, h2, rk2⟩ := w4.ob i a _ ea eo rfl
        have rp := RpK.put (k := ky) rz rk2
        rw [keyD_of e3] at rp
        exact ⟨_, .inl ⟨ks2, ky, h2, ky_v, by rw [rk2.len, sizeLine_eq]; exact z2, rfl⟩, k.nx (((x1.tr x23).tr g4).tr (Xt.wrote (List.mem_of_getElem? ea))) (w4.dic ea eo rp) (l.x ((x1.tr x23).tr g4)) q4⟩
/-! ### dicts made -/
def dNewG : GD := fun _ _ m P => P [] m
theorem sim_newG : SimG K E tDNewK dNewG := fun {B H A m σ ρ P R Q} w l e q k p hp => k p [] [] m B _ A (Xt.lost hp) (w.lost hp) hp (w.le.free hp) (w.notin hp) upd_same .nil q
def asPairs : List D → Option (List (D × D))
  | [] => some []
  | .tup [x, y] :: l => (dKey x).bind fun _ => (asPairs l).map ((x, y) :: ·)
  | _ => none
theorem pairs_rp (le : Le B H) : ∀ {xs : List V} {l : List D} {ps : List (D × D)}, RpL K B xs l → asPairs l = some ps → ∃ (as : List Addr) (kvs : List (Key × V)), xs = as.map V.ref ∧ Paired (fun p kv => SqT K H p [kV kv.1, kv.2]) as kvs ∧ RpK K B kvs ps
  | _, _, _, .nil, e => by
    cases e
    exact ⟨[], [], rfl, .nil, .nil⟩
  | v :: vs, d :: ds, ps, .cons r t, e => by
    unfold asPairs at e
    split at e
    · rename_i h
      cases h
    · rename_i x y l h
      injection h with h1 h2
      subst h1 h2
      cases hk : dKey x with
      | none =>
        rw [hk] at e
        cases e
      | some ky =>
        rw [hk] at e
        obtain ⟨qs, e1, rfl⟩ := map_at (show (asPairs ds).map ((x, y) :: ·) = some ps from e)
        obtain ⟨as, kvs, rfl, hp, rk⟩ := pairs_rp le t e1
        cases r with
        | tup hs rl =>
          rename_i a xs
          cases rl with
          | cons rx rl =>
            cases rl with
            | cons ry rl =>
              cases rl
              rename_i vx vy
              have ev := key_v (Rp.h rx le) hk
              subst ev
              have := keyD_of hk
              subst this
              exact ⟨a :: as, (ky, vy) :: kvs, rfl, .cons (le.sqt hs) hp, .cons ry rk⟩
    · cases e
def rDictP (K : Fr) : List V → Hp → VK → Prop := fun xs H Q => ∃ (a : Addr) (ps : List Addr) (kvs : List (Key × V)), xs = [.ref a] ∧ SqL K H a (ps.map V.ref) ∧ Paired (fun p kv => SqT K H p [kV kv.1, kv.2]) ps kvs ∧ ∀ p, H p = none → Q (.ref p) (upd H p (.dK (mergeK [] kvs)))
def dDictP (a : ED) : GD := fun R ρ m P => a R ρ m fun x m1 => bnd (view m1 x) fun dx => match dx with
  | .lst l => bnd (asPairs l) fun ps => P (dmerge [] ps) m1
  | _ => False
theorem sim_dictP {t : TE} {a : ED} (h : SimE K E t a) : SimG K E (tCB (rDictP K) (tCons t tNil)) (dDictP a) := fun w l e q k => h w l e q fun v s m1 B1 H1 A1 x1 w1 r1 q1 => by
  obtain ⟨dx, e1, q1⟩ := bnd_at q1
  cases dx with
  | lst ls =>
    obtain ⟨ps, e2, q1⟩ := bnd_at q1
    obtain ⟨a, xs, rfl, hx, rl⟩ := view_h w1 r1 e1
    obtain ⟨as, kvs, rfl, hp, rk⟩ := pairs_rp w1.le rl e2
    exact ⟨a, as, kvs, rfl, .inl (.inl hx), hp, fun p hn => k p _ _ m1 B1 _ A1 (x1.tr (Xt.lost hn)) (w1.lost hn) (x1.d p hn) (w1.le.free hn) (w1.notin hn) upd_same (RpK.merge rk .nil) q1⟩
  | _ => exact q1.elim
/-- dict(d) -/
def rDictD : List V → Hp → VK → Prop := fun xs H Q => ∃ (a : Addr) (kvs : List (Key × V)), xs = [.ref a] ∧ Rd H a (.dK kvs) ∧ ∀ p, H p = none → Q (.ref p) (upd H p (.dK kvs))
def dDictD (a : ED) : GD := fun R ρ m P => a R ρ m fun x m1 => bnd (view m1 x) fun dx => asD dx fun l => P l m1
theorem sim_dictD {t : TE} {a : ED} (h : SimE K E t a) : SimG K E (tCB rDictD (tCons t tNil)) (dDictD a) := fun w l e q k => h w l e q fun v s m1 B1 H1 A1 x1 w1 r1 q1 => by
  obtain ⟨dx, e1, q1⟩ := bnd_at q1
  obtain ⟨ls, rfl, q1⟩ := asD_at q1
  obtain ⟨a, ks, rfl, hx, rk⟩ := view_h w1 r1 e1
  exact ⟨a, ks, rfl, hx, fun p hn => k p _ _ m1 B1 _ A1 (x1.tr (Xt.lost hn)) (w1.lost hn) (x1.d p hn) (w1.le.free hn) (w1.notin hn) upd_same rk q1⟩
/-! ### what is read off a dict -/
def rSortD (K : Fr) : List V → Hp → VK → Prop := fun xs H Q => ∃ (a : Addr) (kvs : List (Key × V)) (ks : List Str), xs = [.ref a] ∧ Rd H a (.dK kvs) ∧ kvs.map (·.1) = ks.map Sum.inr ∧ ks.length < 64 ∧
    ∀ ys p, ys.Perm ks → sortedS ys = true → H p = none → Q (.ref p) (upd H p (.lst (ys.map V.str)))
theorem keys_of : ∀ {ks : List (Key × V)} {l : List (D × D)} {ns : List (List Nat)}, RpK K B ks l → allStr (l.map (·.1)) = some ns → ks.map (·.1) = (ns.map txt).map Sum.inr
  | _, _, _, .nil, e => by
    cases e
    rfl
  | _, _, ns, @RpK.cons _ _ k0 v0 d0 vs ds r t, e => by
    cases k0 with
    | inl i => cases e
    | inr x =>
      obtain ⟨ms, e1, rfl⟩ := map_at (show (allStr (ds.map (·.1))).map (cp x :: ·) = some ns from e)
      rw [List.map_cons, keys_of t e1]
      rfl
def oSortD : List D → (List D → Prop) → Prop
  | [.dic l], P => bnd (allStr (l.map (·.1))) fun ns => ns.length < 64 ∧ P ((srt ns).map .str)
  | _, _ => False
theorem s_sortD : SimLF K (rSortD K) oSortD := fun {B H xs ds P Q} le r q k => by
  match ds, q, r with
  | [.dic l], q, r =>
    obtain ⟨v, rfl, a, ks, rfl, h, rk⟩ := a1 r
    obtain ⟨ns, e, big, q⟩ := bnd_at q
    exact ⟨a, ks, ns.map txt, rfl, h, keys_of rk e, by rw [List.length_map]; exact big, fun ys p pm s3 hp => by
      rw [sorted_txt pm s3]
      exact k p _ _ hp (rp_strs _) q⟩
def rListD : List V → Hp → VK → Prop := fun xs H Q => ∃ (a : Addr) (kvs : List (Key × V)), xs = [.ref a] ∧ Rd H a (.dK kvs) ∧ ∀ p, H p = none → Q (.ref p) (upd H p (.lst (kvs.map fun kv => kV kv.1)))
def oListD : List D → (List D → Prop) → Prop
  | [.dic l], P => P (l.map (·.1))
  | _, _ => False
theorem rpk_keys {B : Hp} : ∀ {ks : List (Key × V)} {l : List (D × D)}, RpK K B ks l → RpL K B (ks.map fun kv => kV kv.1) (l.map (·.1))
  | _, _, .nil => .nil
  | _, _, @RpK.cons _ _ k0 v0 d0 vs ds r t => .cons (by
      cases k0 with
      | inl i => exact .int i
      | inr x => exact .str x) (rpk_keys t)
theorem s_listD : SimLF K rListD oListD := fun {B H xs ds P Q} le r q k => by
  match ds, q, r with
  | [.dic l], q, r =>
    obtain ⟨v, rfl, a, ks, rfl, h, rk⟩ := a1 r
    exact ⟨a, ks, rfl, h, fun p hp => k p _ _ hp (rpk_keys rk) q⟩
end
end Dl
end

section
/-! Dl19: repr; calls by keywords; data of the program's text. -/
namespace Dl
open PySem PySem.Spec L2
open PyProof.Rows hiding St
/-! ### repr -/
def rRepr (K : Fr) : List V → Hp → VK → Prop := fun xs H Q => ∃ (a : Addr) (d : PyData), xs = [.ref a] ∧ Dp K H (.ref a) d ∧ SeqAt.shaped d = true ∧ d.showable = true ∧ d.shown.length ≤ sizeLine ∧ Q (.str d.shown) H
theorem shaped_depth {d : PyData} (h : SeqAt.shaped d = true) : d.depth ≤ 64 := by
  unfold SeqAt.shaped at h
  rw [Bool.and_eq_true] at h
  exact of_decide_eq_true h.2
theorem call_repr {X : Cx} {k : Nat} (hr : Room k X.A) (hg : X.A.guards = some []) : CallR X (.builtin "repr") (rRepr X.K) := by
  intro pins s σ H xs us Q I r h
  obtain ⟨a, d, rfl, hd, sh, ss, z, q⟩ := h
  rw [Vals.ref1 r]
  obtain ⟨as, rd⟩ := Dp.reads I d (.ref a) (.ref a) hd rfl
  refine PySem.repr_of_reads' rd ss (PyData.noDict_hsm (PyData.hasDict_of_canLay _ (SeqAt.canLay_of_shaped sh))) hg ?_ (fun b o e => e) (fun h' u tk hk => ⟨.str d.shown, H, I.kept hk, ⟨u, rfl⟩, q⟩) z
  have := shaped_depth sh
  have := hr.un
  omega
def shw (d : D) : List Nat := cp (toPy d).shown
def oRepr (d : D) (P : D → Prop) : Prop := match d with
  | .lst _ => okD 64 d = true ∧ (toPy d).showable = true ∧ (shw d).length ≤ 16777216 ∧ P (.str (shw d))
  | .tup _ => okD 64 d = true ∧ (toPy d).showable = true ∧ (shw d).length ≤ 16777216 ∧ P (.str (shw d))
  | _ => False
theorem s_repr {K : Fr} : SimL K (rRepr K) (on1 oRepr) := fun {B H xs ds P Q} le r q k => by
  obtain ⟨x, rfl, q⟩ := on1_at q
  obtain ⟨v, rfl, rv⟩ := a1 r
  have key : ∀ a, v = .ref a → okD 64 x = true → (toPy x).showable = true → (shw x).length ≤ 16777216 → P (.str (shw x)) → rRepr K [v] H Q := fun a ev h1 h2 h3 h4 => by
    subst ev
    exact ⟨a, _, rfl, rv.dp le h1, shaped_py h1, h2, by rw [sizeLine_eq]; exact h3, k _ _ B H (Gr.ie le) (Rp.str _) h4⟩
  cases x with
  | lst l =>
    obtain ⟨a, ys, ev, _⟩ := _root_.id rv
    exact key a ev q.1 q.2.1 q.2.2.1 q.2.2.2
  | tup l =>
    obtain ⟨a, ys, ev, _⟩ := _root_.id rv
    exact key a ev q.1 q.2.1 q.2.2.1 q.2.2.2
  | _ => exact q.elim
/-! ### calls by keywords alone -/
def pick {α : Type} (is : List Nat) (xs : List α) : List α := is.filterMap (xs[·]?)
theorem pick_all2 {α β : Type} {R : α → β → Prop} {xs : List α} {ys : List β} (r : All2 R xs ys) : ∀ is : List Nat, All2 R (pick is xs) (pick is ys)
  | [] => .nil
  | i :: is => by
    unfold pick
    rw [List.filterMap_cons, List.filterMap_cons]
    have ih := pick_all2 r is
    cases hy : ys[i]? with
    | none =>
      have : xs[i]? = none := by
        rw [List.getElem?_eq_none_iff] at hy ⊢
        rw [r.len]
        exact hy
      rw [this]
      exact ih
    | some y =>
      obtain ⟨x, hx, rx⟩ := r.get hy
      rw [hx]
      exact .cons rx ih
theorem vals_all2 : ∀ {vs : List V} {us : List Value}, Vals vs us → All2 RelV vs us
  | _, _, .nil => .nil
  | _, _, .cons r t => .cons r (vals_all2 t)
theorem all2_vals : ∀ {vs : List V} {us : List Value}, All2 RelV vs us → Vals vs us
  | _, _, .nil => .nil
  | _, _, .cons r t => .cons r (all2_vals t)
def tCallGK (n : Nat) (sp : Sp) (is : List Nat) (E : XK) (t : TA) : TE := fun σ H Q => t σ H fun vs H1 => vs.length = n ∧ sp (pick is vs) H1 Q E
section
variable {X : Cx} {k : Nat} {E : XK} {x : Str} {st : Stmt} {ps : List Str} {p pos : Pos} {kws : List Keyword} {t : TA} {F : SpD}
theorem pe_ownK (o : Own X.prog X.w X.K X.mg X.base k x st ps F) (hr : Room k X.A) (hg : X.A.guards = some []) (hx : PassG X E) (hn : Gl X x) (ks : List Str) (is : List Nat) (hkw : PK X kws t)
    (hb : ∀ (dV kV doc pm : Value) (an : Option Addr) (cdv ct : Value) (ws : List Value), ws.length = ks.length → bindArgs (PySem.W.fnOf x x (defArgs st) (defBody st) (defScope st) .none kV doc pm an cdv ct) ⟨[], ks.zip ws⟩ = pure (ps.zip (pick is ws)))
    (hall : (backToKw pos (keywordEach kws X.env)).all (·.1.isSome) = true := by rfl) (hks : (backToKw pos (keywordEach kws X.env)).filterMap (·.1) = ks := by rfl) (hkn : kws.length = ks.length := by rfl)
    (hdb : (x == ("__debug__" : Str)) = false := by decide)
    (hpl : ((backTo pos (starEach ([] : List Expr) X.env)).any (·.1) || (backToKw pos (keywordEach kws X.env)).any (·.1.isNone)) = false := by rfl) :
    PE X (.Call (.Name x p) [] kws pos) (tCallGK ks.length (spD X.K F) is E t) := by
  obtain ⟨fa, fd, hm, FF, _, FG⟩ := o.ex
  obtain ⟨oc, od, kV, doc, pm, an, cdv, ct, osl, rfl, lk, hcd⟩ := FF.ex
  refine ⟨fun pins s σ H Q I h => wpAny_Call_Name_kw (ld_glob I hn hm ?_ hdb)⟩
  refine PySem.W.callWith_KW0 (h₀ := X.base) I.ok.mod.kin FF.kp hall ?_ hpl
  refine thn (hkw.run pos pins s σ H _ I h) fun ws s2 ⟨zs, H2, I2, rz, l2, q2⟩ => ⟨I2.kIn, ?_⟩
  rw [hks, List.append_nil]
  exact wp_g FG hr hg hx I2 (.of_eq (hb .none kV doc pm an cdv ct ws (rz.length.symm.trans l2))) (all2_vals (pick_all2 (vals_all2 rz) is)) q2
def dCallK (n : Nat) (f : SpD) (is : List Nat) (a : AD) : ED := fun R ρ m P => a R ρ m fun ss m1 => ss.length = n ∧ f R (pick is ss) m1 P
theorem sim_callK {K : Fr} {n : Nat} {is : List Nat} {a : AD} (ha : SimA K E t a) : SimE K E (tCallGK n (spD K F) is E t) (dCallK n F is a) := fun w l e q k => ha w l e q fun vs ss m1 B1 H1 A1 x1 w1 r1 q1 =>
  ⟨r1.len.trans q1.1, B1, A1, m1, _, _, _, w1, pick_all2 r1 is, q1.2, e.x x1, fun v s m' B' H' A' x w' r p => k v s m' B' H' A' (x1.tr x) w' r p⟩
end
end Dl
end

section
/-! Dl20: a def that raises nothing: its promise from its text. Fresh lists handed back; a variable's list put to the ground. -/
namespace Dl
open PySem PySem.Spec L2
open PyProof.Rows hiding St
abbrev P0 := List D → (D → Prop) → Prop
abbrev P1 := MO → List D → (D → MO → Prop) → Prop
abbrev PF := List D → (List D → Prop) → Prop
def fnP (g : P0) : SpD := fn0 fun _ ds P => g ds P
def fnQ (g : P1) : SpD := fn1 fun _ o ds P => g o ds P
def fnF (g : PF) : SpD := fun R ss m P => bnd (allD ss) fun ds => g ds fun l => P (.o m.length) (m ++ [.lst l])
def endsF (P : List D → Prop) : DEnds := { nx := fun _ _ => False, rt := fun s m => match s with
  | .o i => bnd m[i]? fun o => asL o P
  | .d _ => False }
section
variable {K : Fr} {E : XK}
theorem bodyP {g : P0} {vs : List V} {H : Hp} {Q : VK} {N : List Str} {t : TS} {sd : SD} (h : spD K (fnP g) vs H Q E) (hs : SimS K E0 t sd)
    (hb : ∀ (ds : List D) (P : D → Prop), g ds P → sd noR (ends0 P) (startR N.length (ds.map SV.d)) []) : t { nx := fun _ H' => Q .non H', rt := Q } (L2.start N vs) H := by
  obtain ⟨B, A, m, ss, P, R, w, r, q, er, k⟩ := h
  refine body0 (K := K) (E := E0) (g := fun R ds P => R = (fun _ _ => False) ∧ g ds P) ⟨B, A, m, ss, P, noR, w, r, ?_, Erk.no, k⟩ hs fun R ds P q => ?_
  · obtain ⟨ds, e, q⟩ := bnd_at q
    show bnd (allD ss) _
    rw [e]
    exact ⟨rfl, q⟩
  · obtain ⟨rfl, q⟩ := q
    exact hb ds P q
theorem bodyQ {g : P1} {vs : List V} {H : Hp} {Q : VK} {N : List Str} {t : TS} {sd : SD} (h : spD K (fnQ g) vs H Q E) (hs : SimS K E0 t sd)
    (hb : ∀ (o : MO) (ds : List D) (P : D → MO → Prop), g o ds P → sd noR (ends1 P) (startR N.length (.o 0 :: ds.map SV.d)) [o]) : t { nx := fun _ H' => Q .non H', rt := Q } (L2.start N vs) H := by
  obtain ⟨B, A, m, ss, P, R, w, r, q, er, k⟩ := h
  refine body1 (K := K) (E := E0) (g := fun R o ds P => (∀ C d o, R C d o = False) ∧ g o ds P) ⟨B, A, m, ss, P, noR, w, r, ?_, Erk.no, k⟩ hs fun R o ds P q => ?_
  · unfold fnQ fn1 at q
    unfold fn1
    split at q
    · obtain ⟨o, e, hp, q⟩ := bnd_at q
      obtain ⟨ds, e2, q⟩ := bnd_at q
      show bnd m[_]? _
      rw [e]
      refine ⟨hp, ?_⟩
      show bnd (allD _) _
      rw [e2]
      exact ⟨fun _ _ _ => rfl, q⟩
    · exact q.elim
  · have e : (fun (C : Addr) (d : D) (m' : Mu) => bnd m'[0]? fun o' => pureM o' = true ∧ R C d o') = noR := by
      funext C d m'
      cases h0 : m'[0]? with
      | none => rfl
      | some o' =>
        show (pureM o' = true ∧ R C d o') = False
        rw [q.1, and_false]
    rw [e]
    exact hb o ds P q.2
theorem bodyF {g : PF} {vs : List V} {H : Hp} {Q : VK} {N : List Str} {t : TS} {sd : SD} (h : spD K (fnF g) vs H Q E) (hs : SimS K E0 t sd)
    (hb : ∀ (ds : List D) (P : List D → Prop), g ds P → sd noR (endsF P) (startR N.length (ds.map SV.d)) []) : t { nx := fun _ H' => Q .non H', rt := Q } (L2.start N vs) H := by
  obtain ⟨B, A, m, ss, P, R, w, r, q, er, k⟩ := h
  obtain ⟨ds, ed, q⟩ := bnd_at q
  have w0 : Wr K B H [] [] := Wr.nil w.le
  have hb' := hb ds _ q
  refine hs w0 (sl_start (rpl_all (A' := []) r ed) N) Erk.no hb' ⟨fun x w' l p => p.elim, fun {B' H' A' v s m'} x w' rv p => ?_, fun _ _ _ p => p.elim, fun _ _ _ p => p.elim⟩
  cases s with
  | d x => exact p.elim
  | o i =>
    obtain ⟨o, eo, p⟩ := bnd_at (show bnd m'[i]? _ from p)
    obtain ⟨l, rfl, p⟩ := asL_at p
    obtain ⟨a, rfl, ea⟩ := rv
    obtain ⟨hb0, xs, hx, rl⟩ := w'.ob i a _ ea eo rfl
    obtain ⟨x2, w2⟩ := Xt.frame0 w x w'
    have hn : H a = none := x.f a (List.mem_of_getElem? ea) List.not_mem_nil
    have na : a ∉ A := fun z => w.dm a z hn
    exact k (.ref a) (.o m.length) _ B' H' (A ++ [a]) (x2.own hn) (w2.own (by rw [hx]; intro z; cases z) hb0 na (show RpM K B' H' (A ++ [a]) a (.lst l) from ⟨xs, hx, rl⟩)) ⟨a, rfl, by rw [← w2.len]; exact snoc_get⟩ p
end
/-- how many values a promise takes -/
theorem len_P {K : Fr} {E : XK} {g : P0} {n : Nat} (hg : ∀ ds P, g ds P → ds.length = n) {vs : List V} {H : Hp} {Q : VK} (h : spD K (fnP g) vs H Q E) : vs.length = n := by
  obtain ⟨B, A, m, ss, P, R, w, r, q, er, k⟩ := h
  obtain ⟨ds, ed, q⟩ := bnd_at q
  rw [(allD_rp r ed).len, hg ds _ q]
theorem len_F {K : Fr} {E : XK} {g : PF} {n : Nat} (hg : ∀ ds P, g ds P → ds.length = n) {vs : List V} {H : Hp} {Q : VK} (h : spD K (fnF g) vs H Q E) : vs.length = n := by
  obtain ⟨B, A, m, ss, P, R, w, r, q, er, k⟩ := h
  obtain ⟨ds, ed, q⟩ := bnd_at q
  rw [(allD_rp r ed).len, hg ds _ q]
theorem len_Q {K : Fr} {E : XK} {g : P1} {n : Nat} (hg : ∀ o ds P, g o ds P → ds.length = n) {vs : List V} {H : Hp} {Q : VK} (h : spD K (fnQ g) vs H Q E) : vs.length = n + 1 := by
  obtain ⟨B, A, m, ss, P, R, w, r, q, er, k⟩ := h
  unfold fnQ fn1 at q
  split at q
  · obtain ⟨o, e, hp, q⟩ := bnd_at q
    obtain ⟨ds, ed, q⟩ := bnd_at q
    cases r with
    | cons r rs => rw [List.length_cons, (allD_rp rs ed).len, hg _ ds _ q]
  · exact q.elim
/-! ### a def, ready to be called, by its text -/
/-- what every rule asks of the frame -/
structure Cok (X : Cx) (k : Nat) : Prop where
  calm : X.calm = true
  room : Room k X.A
  gd : X.A.guards = some []
  nd : X.N.Nodup
  own : PassesOwn (model X.prog X.w) X.A X.env X.xe
theorem Cok.blk {X : Cx} {k : Nat} (c : Cok X k) {s : Shared} {H : Hp} {scope : Scope} {env : Env} {fp : List Addr} : Cok (X.blk s H scope env fp) k := ⟨c.calm, c.room, c.gd, c.nd, PassesOwn.never⟩
theorem Cok.un {X : Cx} {k : Nat} (c : Cok X k) : X.A.units + 1 < cLine := by have := c.room.un; omega
section
variable {P : Program} {w : World} {K : Fr} {mg : Str → Option Value} {base : Heap} {k : Nat} {x : Str} {st : Stmt} {fa : Addr} {fd : FuncData} {N ps : List Str} {sd : SD}
abbrev BodyOk (P : Program) (w : World) (K : Fr) (mg : Str → Option Value) (base : Heap) (k : Nat) (x : Str) (st : Stmt) (fa : Addr) (N : List Str) (sd : SD) : Prop :=
  ∀ (cdv : Value) (A : Around) (outer : List Env) (s : Shared) (H : Hp) (E : XK), Cok (cxOf (L2.CX P w) P w K mg base N x (defScope st) fa cdv A outer s H E) k →
    ∃ t, PDSs (cxOf (L2.CX P w) P w K mg base N x (defScope st) fa cdv A outer s H E) E0 (defBody st) t sd
theorem own_P {g : P0} (hm : mg x = some (.ref fa)) (F : L2.Fun K x x st fa fd) (hb : Binds K fd ps []) (S : FnScope N ps (defScope st)) (nd : N.Nodup) (body : BodyOk P w K mg base k x st fa N sd)
    (hg : ∀ ds Q, g ds Q → ds.length = ps.length) (hr : ∀ ds Q, g ds Q → sd noR (ends0 Q) (startR N.length (ds.map SV.d)) []) : Own P w K mg base (k + 1) x st ps (fnP g) :=
  .mk' hm F hb (gfn F S (fun vs H Q E h => len_P hg h) fun cdv A outer s H vs Q E rm gd h => by
    obtain ⟨t, ht⟩ := body cdv A outer s H E ⟨rfl, rm, gd, nd, passes_of rfl⟩
    exact ⟨t, ht.pss, bodyP h ht.sim hr⟩)
theorem own_F {g : PF} (hm : mg x = some (.ref fa)) (F : L2.Fun K x x st fa fd) (hb : Binds K fd ps []) (S : FnScope N ps (defScope st)) (nd : N.Nodup) (body : BodyOk P w K mg base k x st fa N sd)
    (hg : ∀ ds Q, g ds Q → ds.length = ps.length) (hr : ∀ ds Q, g ds Q → sd noR (endsF Q) (startR N.length (ds.map SV.d)) []) : Own P w K mg base (k + 1) x st ps (fnF g) :=
  .mk' hm F hb (gfn F S (fun vs H Q E h => len_F hg h) fun cdv A outer s H vs Q E rm gd h => by
    obtain ⟨t, ht⟩ := body cdv A outer s H E ⟨rfl, rm, gd, nd, passes_of rfl⟩
    exact ⟨t, ht.pss, bodyF h ht.sim hr⟩)
theorem own_Q {g : P1} (hm : mg x = some (.ref fa)) (F : L2.Fun K x x st fa fd) (hb : Binds K fd ps []) (S : FnScope N ps (defScope st)) (nd : N.Nodup) (body : BodyOk P w K mg base k x st fa N sd)
    (hg : ∀ o ds Q, g o ds Q → ds.length + 1 = ps.length) (hr : ∀ o ds Q, g o ds Q → sd noR (ends1 Q) (startR N.length (.o 0 :: ds.map SV.d)) [o]) : Own P w K mg base (k + 1) x st ps (fnQ g) :=
  .mk' hm F hb (gfn F S (fun vs H Q E h => by
    have := len_Q (n := ps.length - 1) (fun o ds Q q => by have := hg o ds Q q; omega) h
    obtain ⟨B, A, m, ss, P, R, w, r, q, er, k⟩ := h
    have q0 := q
    unfold fnQ fn1 at q0
    split at q0
    · obtain ⟨o, e, hp, q0⟩ := bnd_at q0
      obtain ⟨ds, ed, q0⟩ := bnd_at q0
      have := hg _ _ _ q0
      omega
    · exact q0.elim) fun cdv A outer s H vs Q E rm gd h => by
    obtain ⟨t, ht⟩ := body cdv A outer s H E ⟨rfl, rm, gd, nd, passes_of rfl⟩
    exact ⟨t, ht.pss, bodyQ h ht.sim hr⟩)
theorem Own.up {j : Nat} {f : SpD} (o : Own P w K mg base k x st ps f) (h : k ≤ j) : Own P w K mg base j x st ps f := by
  obtain ⟨fa, fd, hm, F, hb, G⟩ := o.ex
  exact ⟨fa, fd, hm, F, hb, G.mono h⟩
end
/-! ### a variable's list, put to the ground behind a statement -/
def dGnd (i : Nat) (s : SD) : SD := fun R DD ρ m => s R { DD with nx := fun ρ m => match ρ[i]? with
  | some (some (.o j)) => bnd m[j]? fun o => asL o fun l => DD.nx (ρ.set i (some (.d (.lst l)))) (m.set j .dead)
  | _ => DD.nx ρ m } ρ m
section
variable {K : Fr} {E : XK}
theorem Sl.put {B : Hp} {A : List Addr} {σ : L2.St} {ρ : Rho} (l : Sl K B A σ ρ) {i : Nat} {v : V} (e : σ[i]? = some (some v)) {s : SV} (r : RpS K B A v s) : Sl K B A σ (ρ.set i (some s)) where
  len := by rw [List.length_set]; exact l.len
  at_ := fun j u f => by
    rcases set_get f with ⟨h1, h2, h3⟩ | ⟨h1, h2⟩
    · subst h1
      cases h2
      exact ⟨v, e, r⟩
    · exact l.at_ j u h2
theorem sim_gnd {t : TS} {s : SD} (i : Nat) (h : SimS K E t s) : SimS K E t (dGnd i s) := fun {B H A m σ ρ R DD D} w l e q k =>
  h w l e q ⟨fun {B' H' A' σ' ρ' m'} x w' l' p => by
    dsimp only at p
    split at p
    · rename_i j es
      obtain ⟨o, eo, p⟩ := bnd_at p
      obtain ⟨ls, rfl, p⟩ := asL_at p
      obtain ⟨v, ev, a, rfl, ea⟩ := l'.at_ i _ es
      obtain ⟨hb, xs, hx, rl⟩ := w'.ob j a _ ea eo rfl
      have xf : Xt B' H' A' (upd B' a (.lst xs)) H' A' := Xt.froze (List.mem_of_getElem? ea) hb
      refine k.nx (x.tr xf) (w'.froze ea (lv eo rfl) hx) ((l'.x xf).put ev (show RpS K (upd B' a (.lst xs)) A' _ (.d (.lst ls)) from Rp.lst upd_same (RpL.up (Ex.new hb) rl))) p
    · exact k.nx x w' l' p, k.rt, k.bk, k.ct⟩
end
end Dl
end

section
/-! Dl21: the rules, hand judgement and reading in one. -/
namespace Dl
open PySem PySem.Spec L2
open PyProof.Rows hiding St
section
variable {X : Cx} {E : XK} {k : Nat}
/-! ### names, constants -/
theorem pd_var (i : Nat) {x : Str} {pos : Pos} (hN : X.N[i]? = some x := by rfl) (hv : Vis X.env.scope x := by first | exact Or.inl rfl | exact Or.inr (Or.inl rfl) | exact Or.inr (Or.inr rfl)) (hd : (x == ("__debug__" : Str)) = false := by decide)
    (hcd : (x == ("__classdict__" : Str)) = false := by decide) : PD X E (.Name x pos) (tVar i) (dVar i) := ⟨pe_var hN hv hd hcd, sim_var⟩
theorem pd_int {i : Int} {j : Nat} {pos : Pos} : PD X E (.Constant (.int i) j pos) (tC (.int i)) (dC (.int i)) := ⟨pe_int, sim_c fun _ => .int i⟩
theorem pd_bl {i : Bool} {j : Nat} {pos : Pos} : PD X E (.Constant (.bool i) j pos) (tC (.bl i)) (dC (.bl i)) := ⟨pe_bl, sim_c fun _ => .bl i⟩
theorem pd_non {j : Nat} {pos : Pos} : PD X E (.Constant .none j pos) (tC .non) (dC .non) := ⟨pe_non, sim_c fun _ => .non⟩
theorem pd_str (l : List Nat) {x : Str} {j : Nat} {pos : Pos} (h : x.cps.toList = l := by rfl) : PD X E (.Constant (.str x) j pos) (tC (.str x)) (dC (.str l)) := ⟨pe_str, sim_c fun _ => by rw [← h]; exact .str x⟩
theorem pd_glob {x : Str} {v : V} {u : Value} {d : D} {pos : Pos} (hm : X.mg x = some u) (r : RelV v u) (hd : ∀ B, Rp X.K B v d) (hg : Gl X x := by rfl) (hb : (x == ("__debug__" : Str)) = false := by decide) : PD X E (.Name x pos) (tC v) (dC d) := ⟨pe_glob hg hm r hb, sim_c hd⟩
/-! ### operators -/
section
variable {a b c : Expr} {ta tb tc : TE} {ea eb ec : ED} {pos : Pos}
theorem pd_op {op : Operator} {r : R2} {o : O2} (ho : OpR X (binaryOp op) r) (hs : Sim2 X.K r o) (ha : PD X E a ta ea) (hb : PD X E b tb eb) : PD X E (.BinOp a op b pos) (tOp r ta tb) (dBin o ea eb) := ⟨pe_op ho ha.pe hb.pe, sim_bin hs ha.sim hb.sim⟩
theorem pf_op {op : Operator} {r : R2} {o : D → D → (List D → Prop) → Prop} (ho : OpR X (binaryOp op) r) (hs : Sim2F X.K r o) (ha : PD X E a ta ea) (hb : PD X E b tb eb) : PDF X E (.BinOp a op b pos) (tOp r ta tb) (dBinF o ea eb) := ⟨pe_op ho ha.pe hb.pe, sim_binF hs ha.sim hb.sim⟩
theorem pd_cmp {op : CmpOp} {r : R2} {o : O2} (ho : OpR X (compareOp op) r) (hs : Sim2 X.K r o) (ha : PD X E a ta ea) (hb : PD X E b tb eb) (hm : behindInMarks op b = false := by first | exact nomark _ | rfl) : PD X E (.Compare a [op] [b] pos) (tOp r ta tb) (dBin o ea eb) :=
  ⟨pe_cmpR ho ha.pe hb.pe hm, sim_bin hs ha.sim hb.sim⟩
theorem pt_cmpD {op : CmpOp} {r : R2} {o : O2} (ho : OpR X (compareOp op) r) (hs : Sim2 X.K r o) (ha : PD X E a ta ea) (hb : PD X E b tb eb) (hm : behindInMarks op b = false := by first | exact nomark _ | rfl) : PDT X E (.Compare a [op] [b] pos) (tTest (tOp r ta tb)) (dTest (dBin o ea eb)) :=
  ⟨pt_cmpR ho ha.pe hb.pe hm, sim_test (sim_bin hs ha.sim hb.sim)⟩
theorem pd_chain {op op' : CmpOp} {r r' : R2} {o o' : O2} (ho : OpR X (compareOp op) r) (ho' : OpR X (compareOp op') r') (hs : Sim2 X.K r o) (hs' : Sim2 X.K r' o') (ha : PD X E a ta ea) (hb : PD X E b tb eb) (hc : PD X E c tc ec)
    (hm : lastMarks [op, op'] [b, c] = false := by with_unfolding_all rfl) : PD X E (.Compare a [op, op'] [b, c] pos) (tChain r r' ta tb tc) (dChain o o' ea eb ec) := ⟨pe_chain ho ho' ha.pe hb.pe hc.pe hm, sim_chain hs hs' ha.sim hb.sim hc.sim⟩
theorem pt_chainD {op op' : CmpOp} {r r' : R2} {o o' : O2} (ho : OpR X (compareOp op) r) (ho' : OpR X (compareOp op') r') (hs : Sim2 X.K r o) (hs' : Sim2 X.K r' o') (ha : PD X E a ta ea) (hb : PD X E b tb eb) (hc : PD X E c tc ec)
    (hm : lastMarks [op, op'] [b, c] = false := by with_unfolding_all rfl) : PDT X E (.Compare a [op, op'] [b, c] pos) (tTest (tChain r r' ta tb tc)) (dTest (dChain o o' ea eb ec)) := ⟨pt_chain ho ho' ha.pe hb.pe hc.pe hm, sim_test (sim_chain hs hs' ha.sim hb.sim hc.sim)⟩
theorem pd_un {op : UnaryOp} {r : V → Hp → VK → Prop} {o : O1} (ho : UnR X (unaryOp op) r) (hs : Sim1 X.K r o) (ha : PD X E a ta ea) : PD X E (.UnaryOp op a pos) (tUn r ta) (dUn o ea) := ⟨pe_un ho ha.pe, sim_un hs ha.sim⟩
/-! ### tests -/
variable {tA tB' : TT} {da db : TD} {rest : List Expr}
theorem pt_valD (h : PD X E a ta ea) (he : ∀ whole, isTrue a X.env whole = (do let v ← whole; standAt a.pos; holding [v] (truthy v)) := by intro _; rfl) : PDT X E a (tB ta) (dTest ea) := ⟨pt_val h.pe he, sim_B h.sim⟩
theorem pt_truthD (h : PD X E a ta ea) (he : ∀ whole, isTrue a X.env whole = (do let v ← whole; standAt a.pos; holding [v] (truthy v)) := by intro _; rfl) : PDT X E a (fun σ H Q => ta σ H fun x H' => ∃ k, TruV X.K x H' k ∧ Q k H') (dTruth ea) := ⟨pt_truth h.pe he, sim_truth h.sim⟩
theorem pt_notD (h : PDT X E a tA da) : PDT X E (.UnaryOp .Not a pos) (tNot tA) (dNot da) := ⟨pt_not h.pt, sim_not h.sim⟩
theorem pw_and1D (h : PDT X E a tA da) : PDW X E (.BoolOp .And [a] pos) tA da := ⟨pw_and1 h.pt, h.sim⟩
theorem pw_or1D (h : PDT X E a tA da) : PDW X E (.BoolOp .Or [a] pos) tA da := ⟨pw_or1 h.pt, h.sim⟩
theorem pw_andD (h : PDT X E a tA da) (hb : PDW X E (.BoolOp .And (b :: rest) pos) tB' db) : PDW X E (.BoolOp .And (a :: b :: rest) pos) (tAnd tA tB') (dAnd da db) := ⟨pw_and h.pt hb.pw, sim_and h.sim hb.sim⟩
theorem pw_orD (h : PDT X E a tA da) (hb : PDW X E (.BoolOp .Or (b :: rest) pos) tB' db) : PDW X E (.BoolOp .Or (a :: b :: rest) pos) (tOr tA tB') (dOr da db) := ⟨pw_or h.pt hb.pw, sim_or h.sim hb.sim⟩
theorem PDW.t {e : Expr} (h : PDW X E e tA da) : PDT X E e tA da := ⟨h.pw.pt, h.sim⟩
theorem pd_and1 (h : PD X E a ta ea) : PD X E (.BoolOp .And [a] pos) ta ea := ⟨pe_one h.pe, h.sim⟩
theorem pd_or1 (h : PD X E a ta ea) : PD X E (.BoolOp .Or [a] pos) ta ea := ⟨pe_one h.pe, h.sim⟩
theorem pd_and (h : PD X E a ta ea) (hb : PD X E (.BoolOp .And (b :: rest) pos) tb eb) : PD X E (.BoolOp .And (a :: b :: rest) pos) (tAndV ta tb) (dAndV ea eb) := ⟨pe_and h.pe hb.pe, sim_andV h.sim hb.sim⟩
theorem pd_or (h : PD X E a ta ea) (hb : PD X E (.BoolOp .Or (b :: rest) pos) tb eb) : PD X E (.BoolOp .Or (a :: b :: rest) pos) (tOrV ta tb) (dOrV ea eb) := ⟨pe_or h.pe hb.pe, sim_orV h.sim hb.sim⟩
theorem pd_not (h : PD X E a ta ea) : PD X E (.UnaryOp .Not a pos) (tNotV ta) (dNotV ea) := ⟨pe_not h.pe, sim_notV h.sim⟩
theorem pd_ifE (h : PDT X E c tA da) (ha : PD X E a ta ea) (hb : PD X E b tb eb) : PD X E (.IfExp c a b pos) (tIf tA ta tb) (dIfE da ea eb) := ⟨pe_ifExp h.pt ha.pe hb.pe, sim_ifE h.sim ha.sim hb.sim⟩
end
/-! ### arguments, displays -/
section
variable {e : Expr} {es : List Expr} {te : TE} {t : TA} {d : ED} {ad : AD} {pos : Pos}
theorem pa_nilD : PDA X E [] tNil dNil := ⟨pa_nil, sim_nil⟩
theorem pa_consD (h : PD X E e te d) (r : PDA X E es t ad) (hs : starEach (e :: es) X.env = (false, eval e X.env) :: starEach es X.env := by rfl) : PDA X E (e :: es) (tCons te t) (dCons d ad) := ⟨pa_cons h.pe r.pa hs, sim_cons h.sim r.sim⟩
theorem pd_tup {x1 : Nat} (h : PDA X E es t ad) : PD X E (.Tuple es x1 pos) (tTup t) (dTup ad) := ⟨pe_tup h.pa, sim_tup h.sim⟩
theorem pf_lst (h : PDA X E es t ad) : PDF X E (.List es pos) (tLst t) (dLst ad) := ⟨pe_lst h.pa, sim_lst h.sim⟩
theorem PDF.z {f : FD} (h : PDF X E e te f) : PD X E e te (dZ f) := ⟨h.pe, sim_Z h.sim⟩
theorem PDF.o {f : FD} (h : PDF X E e te f) : PD X E e te (dO f) := ⟨h.pe, sim_O h.sim⟩
theorem PDG.z {f : GD} (h : PDG X E e te f) : PD X E e te (dZg f) := ⟨h.pe, sim_Zg h.sim⟩
theorem PDG.o {f : GD} (h : PDG X E e te f) : PD X E e te (dOg f) := ⟨h.pe, sim_Og h.sim⟩
theorem PD.mv (h : PD X E e te d) : PD X E e te (dMv d) := ⟨h.pe, sim_Mv h.sim⟩
end
/-! ### places, parts -/
section
variable {a b lo hi : Expr} {ta tb : TE} {ea eb : ED} {pos p2 : Pos}
theorem pd_ix (ha : PD X E a ta ea) (hb : PD X E b tb eb) (hs : PlainIx b := by exact fun _ _ => rfl) : PD X E (.Subscript a b pos) (tOp (rIx X.K) ta tb) (dBin oIx ea eb) := ⟨pe_ix ix_seq ha.pe hb.pe hs, sim_bin s_ix ha.sim hb.sim⟩
structure PDO (X : Cx) (E : XK) (e : Option Expr) (t : TO) (d : OD) : Prop where
  po : PO X e t
  sim : SimO X.K E t d
theorem po_noneD : PDO X E none tNoPart dNoPart := ⟨po_none, sim_noPart⟩
theorem po_someD (h : PD X E a ta ea) : PDO X E (some a) (tPart ta) (dPart ea) := ⟨po_some h.pe, sim_part h.sim⟩
variable {l h : Option Expr} {tl th : TO} {dl dh : OD}
theorem pd_sl (ha : PD X E a ta ea) (hl : PDO X E l tl dl) (hh : PDO X E h th dh) : PD X E (.Subscript a (.Slice l h none p2) pos) (tSl (rSlAny X.K) ta tl th) (dSl ea dl dh) := ⟨pe_slice x_sl ha.pe hl.po hh.po, sim_sl ha.sim hl.sim hh.sim⟩
theorem pf_sl (ha : PD X E a ta ea) (hl : PDO X E l tl dl) (hh : PDO X E h th dh) : PDF X E (.Subscript a (.Slice l h none p2) pos) (tSl (rSlL X.K) ta tl th) (dSlF ea dl dh) := ⟨pe_slice sl_list ha.pe hl.po hh.po, sim_slF ha.sim hl.sim hh.sim⟩
theorem pf_rev {kk : Nat} {p1 p3 : Pos} (ha : PD X E a ta ea) : PDF X E (.Subscript a (.Slice none none (some (.UnaryOp .USub (.Constant (.int 1) kk p1) p2)) p3) pos) (tRevL X.K ta) (dRev ea) := ⟨pe_revL ha.pe, sim_rev ha.sim⟩
end
/-! ### calls of what is built in -/
section
variable {e : Expr} {es : List Expr} {t : TA} {ad : AD} {x : Str} {id T : String} {r : List V → Hp → VK → Prop} {p pos : Pos}
theorem pd_cb {op : OL} (hc : CallR X (.builtin id) r) (hs : SimL X.K r op) (hm : X.mg x = none) (hv : bootBuiltins x = some (.builtin id)) (ha : PDA X E (e :: es) t ad) (hg : Gl X x := by rfl) (hn : x ≠ "__name__" := by decide) (hdb : (x == ("__debug__" : Str)) = false := by decide)
    (he : starEach (e :: es) X.env = (false, eval e X.env) :: starEach es X.env := by rfl) (hpl : (backTo pos (starEach es X.env)).any (·.1) = false := by rfl) : PD X E (.Call (.Name x p) (e :: es) [] pos) (tCB r t) (dCB op ad) := ⟨pe_callB hc hg hm hv ha.pa hn hdb he hpl, sim_CB hs ha.sim⟩
theorem pd_ct {op : OL} (hc : CallR X (.type T) r) (hs : SimL X.K r op) (hm : X.mg x = none) (hv : bootBuiltins x = some (.type T)) (ha : PDA X E (e :: es) t ad) (hg : Gl X x := by rfl) (hn : x ≠ "__name__" := by decide) (hdb : (x == ("__debug__" : Str)) = false := by decide)
    (he : starEach (e :: es) X.env = (false, eval e X.env) :: starEach es X.env := by rfl) (hpl : (backTo pos (starEach es X.env)).any (·.1) = false := by rfl) : PD X E (.Call (.Name x p) (e :: es) [] pos) (tCB r t) (dCB op ad) := ⟨pe_callTy hc hg hm hv ha.pa hn hdb he hpl, sim_CB hs ha.sim⟩
theorem pf_cb {op : List D → (List D → Prop) → Prop} (hc : CallR X (.builtin id) r) (hs : SimLF X.K r op) (hm : X.mg x = none) (hv : bootBuiltins x = some (.builtin id)) (ha : PDA X E (e :: es) t ad) (hg : Gl X x := by rfl) (hn : x ≠ "__name__" := by decide) (hdb : (x == ("__debug__" : Str)) = false := by decide)
    (he : starEach (e :: es) X.env = (false, eval e X.env) :: starEach es X.env := by rfl) (hpl : (backTo pos (starEach es X.env)).any (·.1) = false := by rfl) : PDF X E (.Call (.Name x p) (e :: es) [] pos) (tCB r t) (dCF op ad) := ⟨pe_callB hc hg hm hv ha.pa hn hdb he hpl, sim_CF hs ha.sim⟩
theorem pf_ct {op : List D → (List D → Prop) → Prop} (hc : CallR X (.type T) r) (hs : SimLF X.K r op) (hm : X.mg x = none) (hv : bootBuiltins x = some (.type T)) (ha : PDA X E (e :: es) t ad) (hg : Gl X x := by rfl) (hn : x ≠ "__name__" := by decide) (hdb : (x == ("__debug__" : Str)) = false := by decide)
    (he : starEach (e :: es) X.env = (false, eval e X.env) :: starEach es X.env := by rfl) (hpl : (backTo pos (starEach es X.env)).any (·.1) = false := by rfl) : PDF X E (.Call (.Name x p) (e :: es) [] pos) (tCB r t) (dCF op ad) := ⟨pe_callTy hc hg hm hv ha.pa hn hdb he hpl, sim_CF hs ha.sim⟩
variable {te : TE} {d : ED}
theorem pg_dictP (c : Cok X k) (hm : X.mg "dict" = none) (ha : PD X E e te d) (hg : Gl X "dict" := by rfl)
    (he : starEach [e] X.env = (false, eval e X.env) :: starEach [] X.env := by rfl) (hpl : (backTo pos (starEach ([] : List Expr) X.env)).any (·.1) = false := by rfl) : PDG X E (.Call (.Name "dict" p) [e] [] pos) (tCB (rDictP X.K) (tCons te tNil)) (dDictP d) :=
  ⟨pe_callTy (L2.call_dictP c.calm) hg hm boot_dict (pa_cons ha.pe pa_nil he) (by decide) (by decide) he hpl, sim_dictP ha.sim⟩
theorem pg_dictD (hm : X.mg "dict" = none) (ha : PD X E e te d) (hg : Gl X "dict" := by rfl)
    (he : starEach [e] X.env = (false, eval e X.env) :: starEach [] X.env := by rfl) (hpl : (backTo pos (starEach ([] : List Expr) X.env)).any (·.1) = false := by rfl) : PDG X E (.Call (.Name "dict" p) [e] [] pos) (tCB rDictD (tCons te tNil)) (dDictD d) :=
  ⟨pe_callTy L2.call_dictD hg hm boot_dict (pa_cons ha.pe pa_nil he) (by decide) (by decide) he hpl, sim_dictD ha.sim⟩
theorem pg_new : PDG X E (.Dict [] [] pos) tDNewK dNewG := ⟨pe_dnewK, sim_newG⟩
theorem pf_sortSet {p2 p3 : Pos} (c : Cok X k) (hm : X.mg "sorted" = none) (hm2 : X.mg "set" = none) (ha : PD X E e te d) (hg : Gl X "sorted" := by rfl) (hg2 : Gl X "set" := by rfl)
    (h1 : starEach [e] X.env = (false, eval e X.env) :: starEach [] X.env := by rfl)
    (h2 : starEach [.Call (.Name "set" p2) [e] [] p3] X.env = (false, eval (.Call (.Name "set" p2) [e] [] p3) X.env) :: starEach [] X.env := by rfl)
    (h3 : (backTo p3 (starEach ([] : List Expr) X.env)).any (·.1) = false := by rfl) (h4 : (backTo pos (starEach ([] : List Expr) X.env)).any (·.1) = false := by rfl) :
    PDF X E (.Call (.Name "sorted" p) [.Call (.Name "set" p2) [e] [] p3] [] pos) (tUn (rSortSet X.K X.w) te) (dSortSet d) := ⟨pe_sortSet c.calm hg hm hg2 hm2 ha.pe h1 h2 h3 h4, sim_sortSet ha.sim⟩
theorem pd_isi {p1 : Pos} (n : TyN) (hm : X.mg "isinstance" = none) (hmn : X.mg (Str.ofString n.nm) = none) (he : PD X E e te d) (hg : Gl X "isinstance" := by rfl) (hgn : Gl X (Str.ofString n.nm) := by rfl)
    (h1 : starEach [e, .Name (Str.ofString n.nm) p1] X.env = (false, eval e X.env) :: starEach [.Name (Str.ofString n.nm) p1] X.env := by rfl)
    (h2 : starEach [.Name (Str.ofString n.nm) p1] X.env = (false, eval (.Name (Str.ofString n.nm) p1) X.env) :: starEach [] X.env := by rfl)
    (h3 : (backTo pos (starEach [.Name (Str.ofString n.nm) p1] X.env)).any (·.1) = false := by rfl) : PD X E (.Call (.Name "isinstance" p) [e, .Name (Str.ofString n.nm) p1] [] pos) (tUn (rIsiN X.K n.nm) te) (dUn (oIsi n) d) := ⟨pe_isiN n hg hm hgn hmn he.pe h1 h2 h3, sim_un s_isi he.sim⟩
end
/-! ### methods -/
section
variable {o e : Expr} {to te : TE} {dO' de : ED} {apos pos : Pos} {name : Str} {id : String} {r : RM}
theorem pd_sm {op : List Nat → D → (D → Prop) → Prop} (slot : Slot "str" name id) (ty : typeOf (.builtin id) = pure (.type "method_descriptor")) (rule : MtR X id r) (hs0 : SimM1 X.K r op) (ho : PD X E o to dO') (he : PD X E e te de)
    (hs : starEach [e] X.env = [(false, eval e X.env)] := by rfl) (hbase : attributeBase o name X.env (eval o X.env) = eval o X.env := by rfl) (hline : (apos.endLine == pos.line) = true := by rfl) :
    PD X E (.Call (.Attribute o name apos) [e] [] pos) (tM1 r to te) (dSM op dO' de) := ⟨pe_m1 slot ty rule ho.pe he.pe hs hbase hline, sim_SM hs0 ho.sim he.sim⟩
theorem pf_sm {op : List Nat → D → (List D → Prop) → Prop} (slot : Slot "str" name id) (ty : typeOf (.builtin id) = pure (.type "method_descriptor")) (rule : MtR X id r) (hs0 : SimM1F X.K r op) (ho : PD X E o to dO') (he : PD X E e te de)
    (hs : starEach [e] X.env = [(false, eval e X.env)] := by rfl) (hbase : attributeBase o name X.env (eval o X.env) = eval o X.env := by rfl) (hline : (apos.endLine == pos.line) = true := by rfl) :
    PDF X E (.Call (.Attribute o name apos) [e] [] pos) (tM1 r to te) (dSMF op dO' de) := ⟨pe_m1 slot ty rule ho.pe he.pe hs hbase hline, sim_SMF hs0 ho.sim he.sim⟩
theorem pd_app (ho : PD X E o to dO') (he : PD X E e te de) (hbase : attributeBase o "append" X.env (eval o X.env) = eval o X.env := by rfl)
    (hfew : ((backTo pos (starEach [e] X.env)).all (fun x => !x.1) && (backToKw pos (keywordEach [] X.env)).all (fun x => x.1.isSome) && decide (([e] : List Expr).length + ([] : List Keyword).length + (if ([] : List Keyword).isEmpty then 0 else 1) < 30)) = true := by rfl)
    (hline : (apos.endLine == pos.line) = true := by rfl) (hs : starEach [e] X.env = (false, eval e X.env) :: starEach [] X.env := by rfl) (hpl : (backTo pos (starEach ([] : List Expr) X.env)).any (·.1) = false := by rfl) :
    PD X E (.Call (.Attribute o "append" apos) [e] [] pos) (tBM X.K "list" rAppend to (tCons te tNil)) (dApp dO' de) := ⟨pe_bm PySem.F.plainAttrs_list PySem.F.slot_list_append PySem.F.type_list_append mt_append ho.pe (pa_cons he.pe pa_nil hs) hbase hfew hline hs hpl, sim_app ho.sim he.sim⟩
theorem pd_ext (ho : PD X E o to dO') (he : PD X E e te de) (hbase : attributeBase o "extend" X.env (eval o X.env) = eval o X.env := by rfl)
    (hfew : ((backTo pos (starEach [e] X.env)).all (fun x => !x.1) && (backToKw pos (keywordEach [] X.env)).all (fun x => x.1.isSome) && decide (([e] : List Expr).length + ([] : List Keyword).length + (if ([] : List Keyword).isEmpty then 0 else 1) < 30)) = true := by rfl)
    (hline : (apos.endLine == pos.line) = true := by rfl) (hs : starEach [e] X.env = (false, eval e X.env) :: starEach [] X.env := by rfl) (hpl : (backTo pos (starEach ([] : List Expr) X.env)).any (·.1) = false := by rfl) :
    PD X E (.Call (.Attribute o "extend" apos) [e] [] pos) (tBM X.K "list" rExtend to (tCons te tNil)) (dExt dO' de) := ⟨pe_bm PySem.F.plainAttrs_list PySem.F.slot_list_extend PySem.F.type_list_extend mt_extend ho.pe (pa_cons he.pe pa_nil hs) hbase hfew hline hs hpl, sim_ext ho.sim he.sim⟩
theorem pd_pop (ho : PD X E o to dO') (hbase : attributeBase o "pop" X.env (eval o X.env) = eval o X.env := by rfl) (hline : (apos.endLine == pos.line) = true := by rfl) : PD X E (.Call (.Attribute o "pop" apos) [] [] pos) (tBM0 X.K "list" rPop to) (dPop dO') :=
  ⟨pe_bm0 PySem.F.plainAttrs_list PySem.F.slot_list_pop PySem.F.type_list_pop mt_pop ho.pe hbase hline, sim_pop ho.sim⟩
end
/-! ### dicts -/
section
variable {o i e : Expr} {to ti te : TE} {dO' di de : ED} {pos pos' tpos apos : Pos}
theorem pd_din (c : Cok X k) (hi : PD X E i ti di) (ho : PD X E o to dO') (hm : behindInMarks .In o = false := by rfl) : PD X E (.Compare i [.In] [o] pos) (tDIn ti to) (dDIn0 false di dO') := ⟨pe_cmp (pc_din c.un hi.pe ho.pe) hm, sim_din hi.sim ho.sim⟩
theorem pd_dnotin (c : Cok X k) (hi : PD X E i ti di) (ho : PD X E o to dO') (hm : behindInMarks .NotIn o = false := by rfl) : PD X E (.Compare i [.NotIn] [o] pos) (tDNotIn ti to) (dDIn0 true di dO') := ⟨pe_cmp (pc_dnotin c.un hi.pe ho.pe) hm, sim_dnotin hi.sim ho.sim⟩
theorem pt_dinD (c : Cok X k) (hi : PD X E i ti di) (ho : PD X E o to dO') (hm : behindInMarks .In o = false := by rfl) : PDT X E (.Compare i [.In] [o] pos) (tB (tDIn ti to)) (dTest (dDIn0 false di dO')) := ⟨pt_cmp (pc_din c.un hi.pe ho.pe) hm, sim_B (sim_din hi.sim ho.sim)⟩
theorem pt_dnotinD (c : Cok X k) (hi : PD X E i ti di) (ho : PD X E o to dO') (hm : behindInMarks .NotIn o = false := by rfl) : PDT X E (.Compare i [.NotIn] [o] pos) (tB (tDNotIn ti to)) (dTest (dDIn0 true di dO')) := ⟨pt_cmp (pc_dnotin c.un hi.pe ho.pe) hm, sim_B (sim_dnotin hi.sim ho.sim)⟩
theorem pd_dget (c : Cok X k) (ho : PD X E o to dO') (hi : PD X E i ti di) (hs : NoSl i := by exact fun _ _ => rfl) : PD X E (.Subscript o i pos) (tDGet to ti) (dDGet dO' di) := ⟨pe_dget c.un ho.pe hi.pe hs, sim_dget ho.sim hi.sim⟩
theorem ps_dputD (c : Cok X k) (ho : PD X E o to dO') (hi : PD X E i ti di) (hv : PD X E e te de) (hs : swapsWith e (some (.Subscript o i pos')) pos.line X.env = pure false := by rfl) : PDS X E (.Assign [.Subscript o i pos'] e pos) (sDPut to ti te) (dDPut de dO' di) :=
  ⟨ps_dput c.un ho.pe hi.pe hv.pe hs, sim_dput hv.sim ho.sim hi.sim⟩
end
/-! ### calls of defs -/
section
variable {x : Str} {st : Stmt} {ps : List Str} {F : SpD} {p pos : Pos} {e : Expr} {es : List Expr} {t : TA} {ad : AD} {kws : List Keyword}
theorem pd_own (o : Own X.prog X.w X.K X.mg X.base k x st ps F) (c : Cok X k) (ha : PDA X E0 (e :: es) t ad) (hn : Gl X x := by rfl) (hdb : (x == ("__debug__" : Str)) = false := by decide)
    (he : starEach (e :: es) X.env = (false, eval e X.env) :: starEach es X.env := by rfl) (hpl : (backTo pos (starEach es X.env)).any (·.1) = false := by rfl) : PD X E0 (.Call (.Name x p) (e :: es) [] pos) (tCallG (spD X.K F) E0 t) (dCall F ad) :=
  ⟨pe_own o c.room c.gd passL hn ha.pa hdb he hpl, sim_call ha.sim⟩
structure PDK (X : Cx) (E : XK) (kws : List Keyword) (t : TA) (d : AD) : Prop where
  pk : PK X kws t
  sim : SimA X.K E t d
theorem pk_nilD : PDK X E [] tNil dNil := ⟨pk_nil, sim_nil⟩
theorem pk_consD {nm : Option Str} {kpos : Pos} {te : TE} {de : ED} (h : PD X E e te de) (r : PDK X E kws t ad) : PDK X E (⟨nm, e, kpos⟩ :: kws) (tCons te t) (dCons de ad) := ⟨pk_cons h.pe r.pk, sim_cons h.sim r.sim⟩
theorem pd_ownK (o : Own X.prog X.w X.K X.mg X.base k x st ps F) (c : Cok X k) (ks : List Str) (is : List Nat) (ha : PDK X E0 kws t ad)
    (hb : ∀ (dV kV doc pm : Value) (an : Option Addr) (cdv ct : Value) (ws : List Value), ws.length = ks.length → bindArgs (PySem.W.fnOf x x (defArgs st) (defBody st) (defScope st) .none kV doc pm an cdv ct) ⟨[], ks.zip ws⟩ = pure (ps.zip (pick is ws)))
    (hn : Gl X x := by rfl) (hall : (backToKw pos (keywordEach kws X.env)).all (·.1.isSome) = true := by rfl) (hks : (backToKw pos (keywordEach kws X.env)).filterMap (·.1) = ks := by rfl) (hkn : kws.length = ks.length := by rfl)
    (hdb : (x == ("__debug__" : Str)) = false := by decide)
    (hpl : ((backTo pos (starEach ([] : List Expr) X.env)).any (·.1) || (backToKw pos (keywordEach kws X.env)).any (·.1.isNone)) = false := by rfl) : PD X E0 (.Call (.Name x p) [] kws pos) (tCallGK ks.length (spD X.K F) is E0 t) (dCallK ks.length F is ad) :=
  ⟨pe_ownK o c.room c.gd passL hn ks is ha.pk hb hall hks hkn hdb hpl, sim_callK ha.sim⟩
end
/-! ### what is walked -/
section
variable {tg a b : Expr} {ta tb : TE} {ea eb : ED} {p pos tpos : Pos} {elts : List Expr} {kk : Nat}
theorem pi_seqD (h : PD X E a ta ea) : PDI X E tg a (iSeq X.K ta) (dSeqI ea) := ⟨pi_seq h.pe, sim_seqI h.sim⟩
theorem pi_rng1D (hm : X.mg "range" = none) (h : PD X E a ta ea) (hg : Gl X "range" := by rfl) (hs : starEach [a] X.env = [(false, eval a X.env)] := by rfl) (h1 : starEach [a] X.env = (false, eval a X.env) :: starEach [] X.env := by rfl) :
    PDI X E tg (.Call (.Name "range" p) [a] [] pos) (iRng1 (tCons ta tNil)) (dRng1 ea) := ⟨pi_range1 hg hm (pa_cons h.pe pa_nil h1) hs, sim_rng1 h.sim⟩
theorem pi_rng2D (hm : X.mg "range" = none) (h : PD X E a ta ea) (h' : PD X E b tb eb) (hg : Gl X "range" := by rfl) (hs : starEach [a, b] X.env = [(false, eval a X.env), (false, eval b X.env)] := by rfl)
    (h1 : starEach [b] X.env = [(false, eval b X.env)] := by rfl) (h2 : starEach [a, b] X.env = (false, eval a X.env) :: starEach [b] X.env := by rfl) (h3 : starEach [b] X.env = (false, eval b X.env) :: starEach [] X.env := by rfl) :
    PDI X E tg (.Call (.Name "range" p) [a, b] [] pos) (iRng2 (tCons ta (tCons tb tNil))) (dRng2 ea eb) := ⟨pi_range2 hg hm (pa_cons h.pe (pa_cons h'.pe pa_nil h3) h2) hs h1, sim_rng2 h.sim h'.sim⟩
theorem pi_enumD (hm : X.mg "enumerate" = none) (h : PD X E a ta ea) (hg : Gl X "enumerate" := by rfl) (hs : starEach [a] X.env = [(false, eval a X.env)] := by rfl) (h1 : starEach [a] X.env = (false, eval a X.env) :: starEach [] X.env := by rfl) :
    PDI X E (.Tuple elts kk tpos) (.Call (.Name "enumerate" p) [a] [] pos) (iEnum X.K (tCons ta tNil)) (dEnum ea) := ⟨pi_enum hg hm (pa_cons h.pe pa_nil h1) hs, sim_enum h.sim⟩
theorem pi_zipD (hm : X.mg "zip" = none) (h : PD X E a ta ea) (h' : PD X E b tb eb) (hg : Gl X "zip" := by rfl) (h2 : starEach [a, b] X.env = (false, eval a X.env) :: starEach [b] X.env := by rfl) (h3 : starEach [b] X.env = (false, eval b X.env) :: starEach [] X.env := by rfl)
    (h4 : (backTo pos (starEach [b] X.env)).any (·.1) = false := by rfl) : PDI X E (.Tuple elts kk tpos) (.Call (.Name "zip" p) [a, b] [] pos) (RZ.iZipA X.K (tCons ta (tCons tb tNil))) (dZip ea eb) := ⟨RZ.pi_zipA hg hm (pa_cons h.pe (pa_cons h'.pe pa_nil h3) h2) h2 h4, sim_zip h.sim h'.sim⟩
end
/-! ### targets -/
section
variable {e : Expr} {es : List Expr} {g : TG} {gs : TGs} {b : BD} {bs : BDs} {is js : List Nat} {kk n : Nat} {pos : Pos} {x : Str}
theorem pb_name (c : Cok X k) (i : Nat) (hi : X.N[i]? = some x := by rfl) (hx : Loc X.env.scope x := by first | exact Or.inl rfl | exact Or.inr rfl) (hf : X.fn x = true ∨ X.env.scope.names.lookup x = some .local := by first | exact .inl rfl | exact .inr rfl) : PDB X (.Name x pos) (gName i) (bName i) [i] := ⟨pg_name c.nd hi hx hf, sim_bName⟩
theorem pbs_nil : PDBs X [] gNil bsNil [] := ⟨pgs_nil, sim_bsNil⟩
theorem pbs_cons (h : PDB X e g b is) (h2 : PDBs X es gs bs js) (ha : (assignEach (e :: es) X.env).map (·.2) = assign e X.env :: (assignEach es X.env).map (·.2) := by rfl) : PDBs X (e :: es) (gCons g gs) (bsCons b bs) (is ++ js) := ⟨pgs_cons h.pg h2.pg ha, sim_bsCons h.sim h2.sim⟩
theorem pb_tup (c : Cok X k) (h : PDBs X es gs bs is) (hn : (assignEach es X.env).length = n := by rfl) (hst : (assignEach es X.env).findIdx? (·.1) = none := by rfl) : PDB X (.Tuple es kk pos) (gTupL X.K n gs) (bTup n bs) is := ⟨pg_tupL c.calm h.pg hn hst, sim_bTup h.sim⟩
end
/-! ### comprehensions -/
structure PTsD (X : Cx) (E : XK) (es : List Expr) (t : TT) (d : TD) : Prop where
  pts : PTs X es t
  sim : SimT X.K E t d
theorem pts_nilD : PTsD X E [] tYes dYes := ⟨pts_nil, sim_yes⟩
theorem pts_oneD {c : Expr} {t : TT} {d : TD} (h : PDT X E c t d) : PTsD X E [c] t d := ⟨pts_one h.pt, h.sim⟩
/-- the reading's own question: what a reading asks, as a question of the hand layer -/
def tD (K : Fr) (E : XK) (d : ED) : TE := fun σ H Q => ∃ (B : Hp) (A : List Addr) (m : Mu) (ρ : Rho) (P : SV → Mu → Prop) (R : ER), Wr K B H A m ∧ Sl K B A σ ρ ∧ Erk K E R B H A ∧ d R ρ m P ∧
  ∀ v s m' B' H' A', Xt B H A B' H' A' → Wr K B' H' A' m' → RpS K B' A' v s → P s m' → Q v H'
def tTD (K : Fr) (E : XK) (d : TD) : TT := fun σ H Q => ∃ (B : Hp) (A : List Addr) (m : Mu) (ρ : Rho) (P : Bool → Mu → Prop) (R : ER), Wr K B H A m ∧ Sl K B A σ ρ ∧ Erk K E R B H A ∧ d R ρ m P ∧
  ∀ b m' B' H' A', Xt B H A B' H' A' → Wr K B' H' A' m' → P b m' → Q b H'
def tBD (K : Fr) (b : BD) (is : List Nat) : TG := fun v σ H Q => ∃ (B : Hp) (A : List Addr) (m : Mu) (ρ : Rho) (s : SV) (P : Rho → Prop), Wr K B H A m ∧ Sl K B A σ ρ ∧ RpS K B A v s ∧ b s ρ m P ∧
  ∀ σ' ρ', Sl K B A σ' ρ' → (∀ vs, (∀ i ∈ is, i ∈ vs) → wipe σ' vs = wipe σ vs) → P ρ' → Q σ' H
theorem PD.can {e : Expr} {t : TE} {d : ED} (h : PD X E e t d) : PD X E e (tD X.K E d) d :=
  ⟨⟨fun pins s σ H Q I q => by
    obtain ⟨B, A, m, ρ, P, R, w, l, er, q, k⟩ := q
    exact h.pe.run pins s σ H Q I (h.sim w l er q k)⟩, fun w l er q k => ⟨_, _, _, _, _, _, w, l, er, q, k⟩⟩
theorem PTsD.can {es : List Expr} {t : TT} {d : TD} (h : PTsD X E es t d) : PTsD X E es (tTD X.K E d) d :=
  ⟨⟨fun pins s σ H Q I q => by
    obtain ⟨B, A, m, ρ, P, R, w, l, er, q, k⟩ := q
    exact h.pts.run pins s σ H Q I (h.sim w l er q k)⟩, fun w l er q k => ⟨_, _, _, _, _, _, w, l, er, q, k⟩⟩
theorem PDB.can {e : Expr} {g : TG} {b : BD} {is : List Nat} (h : PDB X e g b is) : PDB X e (tBD X.K b is) b is :=
  ⟨⟨fun pins s σ H v u Q I r q => by
    obtain ⟨B, A, m, ρ, s', P, w, l, rs, q, k⟩ := q
    exact h.pg.run pins s σ H v u Q I r (h.sim w l rs q k)⟩, fun w l r q k => ⟨_, _, _, _, _, _, w, l, r, q, k⟩⟩
section
variable {elt tg iter : Expr} {ifs : List Expr} {scope : Scope} {own : List (Str × Nat)} {pos : Pos} {wi : TI} {it : ID} {b : BD} {td : TD} {de : ED} {is : List Nat}
theorem pf_lc (c : Cok X k) (own : List (Str × Nat)) (is : List Nat) (hi : PDI X E tg iter wi it) (ok : blkC X.N X.env.scope scope own = true) (hsub : (is.all fun i => (own.map (·.2)).contains i) = true)
    (hg : ∀ (s : Shared) (H : Hp) (C : Addr) (cl : List (Str × Addr)) (fp : List Addr), ∃ g, PDB (X.blk s H scope (compEnvC scope cl C X.env) fp) tg g b is) (ht : ∀ (s : Shared) (H : Hp) (C : Addr) (cl : List (Str × Addr)) (fp : List Addr), ∃ t, PTsD (X.blk s H scope (compEnvC scope cl C X.env) fp) E0 ifs t td)
    (he : ∀ (s : Shared) (H : Hp) (C : Addr) (cl : List (Str × Addr)) (fp : List Addr), ∃ t, PD (X.blk s H scope (compEnvC scope cl C X.env) fp) E0 elt t de) (hs : ∀ x, foldedSetIterable iter X.env x = pure x := by intro _; rfl) :
    PDF X E (.ListComp elt [⟨tg, iter, ifs, 0⟩] scope pos) (tLc wi (tBD X.K b is) (tTD X.K E0 td) (tD X.K E0 de) (own.map (·.2))) (dLc it b td de (own.map (·.2))) :=
  ⟨pe_lc c.calm c.nd hi.pi (blkOk_by ok) (fun s H C cl fp => (hg s H C cl fp).elim fun _ h => h.can.pg) (fun s H C cl fp => (ht s H C cl fp).elim fun _ h => h.can.pts) (fun s H C cl fp => (he s H C cl fp).elim fun _ h => h.can.pe) hs,
    sim_lc hi.sim ((hg X.s_0 X.H_0 0 [] []).elim fun _ h => h.can.sim) (fun i h => by
      have q := List.all_eq_true.mp hsub i h
      exact List.contains_iff_mem.mp q) ((ht X.s_0 X.H_0 0 [] []).elim fun _ h => h.can.sim) ((he X.s_0 X.H_0 0 [] []).elim fun _ h => h.can.sim)⟩
end
/-! ### statements -/
section
variable {st : Stmt} {rest : List Stmt} {t u : TS} {a b : SD} {e c : Expr} {te : TE} {de : ED} {pos : Pos} {tc : TT} {dc : TD} {p q : List Stmt}
theorem pss_nilD : PDSs X E [] tNext dNext := ⟨pss_nil, sim_next⟩
theorem pss_consD (h1 : PDS X E st t a) (h2 : PDSs X E rest u b) : PDSs X E (st :: rest) (tSeq t u) (dSeq a b) := ⟨pss_cons h1.ps h2.pss, sim_seq h1.sim h2.sim⟩
theorem pss_oneD (h1 : PDS X E st t a) : PDSs X E [st] t a := ⟨pss_one h1.ps, h1.sim⟩
theorem pss_neverD {sts : List Stmt} : PDSs X E sts tNever dNever := ⟨pss_never, sim_never⟩
theorem ps_neverD : PDS X E st tNever dNever := ⟨ps_never, sim_never⟩
theorem PDS.gnd (i : Nat) (h : PDS X E st t a) : PDS X E st t (dGnd i a) := ⟨h.ps, sim_gnd i h.sim⟩
theorem ps_retD (h : PD X E e te de) : PDS X E (.Return (some e) pos) (tRet te) (dRet de) := ⟨ps_ret h.pe, sim_ret h.sim⟩
theorem ps_retND : PDS X E (.Return none pos) tRetN dRetN := ⟨ps_retN, sim_retN⟩
theorem ps_ifD (h : PDT X E c tc dc) (ha : PDSs X E p t a) (hb : PDSs X E q u b) : PDS X E (.If c p q pos) (tIfS tc t u) (dIf dc a b) := ⟨ps_if h.pt ha.pss hb.pss, sim_if h.sim ha.sim hb.sim⟩
theorem ps_exprD (h : PD X E e te de) (hs : swapsWith e none pos.line X.env = pure false := by rfl) : PDS X E (.Expr e pos) (tDrop te) (dDrop de) := ⟨ps_expr h.pe hs, sim_drop h.sim⟩
theorem ps_asgD {tg : Expr} {g : TG} {bd : BD} {is : List Nat} (he : PD X E e te de) (hg : PDB X tg g bd is) (hs : swapsWithSole [tg] e pos.line X.env = pure false := by rfl) (hw : swappedStores [tg] e X.env = pure none := by rfl) (h1 : (assignEach [tg] X.env).map (·.2) = [assign tg X.env] := by rfl) : PDS X E (.Assign [tg] e pos) (tAsg te g) (dAsg de bd) :=
  ⟨ps_asg he.pe hg.pg hs hw h1, sim_asg he.sim hg.sim⟩
theorem ps_setD {x : Str} {pos' : Pos} (ck : Cok X k) (i : Nat) (he : PD X E e te de) (hi : X.N[i]? = some x := by rfl) (hx : Loc X.env.scope x := by first | exact Or.inl rfl | exact Or.inr rfl) (hs : swapsWith e (some (.Name x pos')) pos.line X.env = pure false := by rfl)
    (hf : X.fn x = true ∨ X.env.scope.names.lookup x = some .local := by first | exact .inl rfl | exact .inr rfl) : PDS X E (.Assign [.Name x pos'] e pos) (tAsg te (gName i)) (dAsg de (bName i)) := ⟨ps_set ck.nd hi hx he.pe hs hf, sim_asg he.sim sim_bName⟩
theorem ps_brkD : PDS X E (.Break pos) tBreak dBreak := ⟨ps_break, sim_break⟩
theorem ps_contD : PDS X E (.Continue pos) tCont dCont := ⟨ps_continue, sim_cont⟩
end
end
end Dl
end

section
/-! Dl22: the rules in one: several targets, stores, loops. -/
namespace Dl
open PySem PySem.Spec L2
open PyProof.Rows hiding St
section
variable {X : Cx} {E : XK} {k : Nat}
section
variable {a b c : Expr} {ta tb tc : TE} {ea eb ec : ED} {pos : Pos}
theorem ps_parD (ck : Cok X k) (i j : Nat) {x y : Str} {px py pt : Pos} {kt k2 : Nat} {pt2 : Pos} (ha : PD X E a ta ea) (hb : PD X E b tb eb) (hi : X.N[i]? = some x := by rfl) (hj : X.N[j]? = some y := by rfl) (hij : i ≠ j := by decide)
    (hx : X.env.scope.names.lookup x = some .local := by rfl) (hy : X.env.scope.names.lookup y = some .local := by rfl)
    (hw : swappedStores [.Tuple [.Name x px, .Name y py] kt pt] (.Tuple [a, b] k2 pt2) X.env = pure (some [x, y]) := by rfl)
    (hs : swapsWithSole [.Tuple [.Name x px, .Name y py] kt pt] (.Tuple [a, b] k2 pt2) pos.line X.env = pure false := by rfl)
    (h1 : starEach [a, b] X.env = (false, eval a X.env) :: starEach [b] X.env := by rfl) (h2 : starEach [b] X.env = (false, eval b X.env) :: starEach [] X.env := by rfl) :
    PDS X E (.Assign [.Tuple [.Name x px, .Name y py] kt pt] (.Tuple [a, b] k2 pt2) pos) (tPar i j (tCons ta (tCons tb tNil))) (dPar i j ea eb) :=
  ⟨ps_par ck.calm ck.nd hi hj hij hx hy (pa_cons ha.pe (pa_cons hb.pe pa_nil h2) h1) hw hs, sim_par ha.sim hb.sim⟩
theorem ps_par3D (ck : Cok X k) (i j l : Nat) {x y z : Str} {px py pz pt : Pos} {kt k2 : Nat} {pt2 : Pos} (ha : PD X E a ta ea) (hb : PD X E b tb eb) (hc : PD X E c tc ec) (hi : X.N[i]? = some x := by rfl) (hj : X.N[j]? = some y := by rfl) (hl : X.N[l]? = some z := by rfl) (hij : i ≠ j := by decide) (hil : i ≠ l := by decide) (hjl : j ≠ l := by decide)
    (hx : X.env.scope.names.lookup x = some .local := by rfl) (hy : X.env.scope.names.lookup y = some .local := by rfl) (hz : X.env.scope.names.lookup z = some .local := by rfl)
    (hw : swappedStores [.Tuple [.Name x px, .Name y py, .Name z pz] kt pt] (.Tuple [a, b, c] k2 pt2) X.env = pure (some [x, y, z]) := by rfl)
    (hs : swapsWithSole [.Tuple [.Name x px, .Name y py, .Name z pz] kt pt] (.Tuple [a, b, c] k2 pt2) pos.line X.env = pure false := by rfl)
    (h1 : starEach [a, b, c] X.env = (false, eval a X.env) :: starEach [b, c] X.env := by rfl) (h2 : starEach [b, c] X.env = (false, eval b X.env) :: starEach [c] X.env := by rfl) (h3 : starEach [c] X.env = (false, eval c X.env) :: starEach [] X.env := by rfl) :
    PDS X E (.Assign [.Tuple [.Name x px, .Name y py, .Name z pz] kt pt] (.Tuple [a, b, c] k2 pt2) pos) (tPar3 i j l (tCons ta (tCons tb (tCons tc tNil)))) (dPar3 i j l ea eb ec) :=
  ⟨ps_par3 ck.calm ck.nd hi hj hl hij hil hjl hx hy hz (pa_cons ha.pe (pa_cons hb.pe (pa_cons hc.pe pa_nil h3) h2) h1) hw hs, sim_par3 ha.sim hb.sim hc.sim⟩
/-- o[i] = e, o a list of ours -/
theorem ps_stlD {o i e : Expr} {to ti te : TE} {dO' di de : ED} {pos' : Pos} (ho : PD X E o to dO') (hi : PD X E i ti di) (he : PD X E e te de)
    (ha : ∀ v, assign (.Subscript o i pos') X.env v = (do
      let ov ← holding [v] (eval o X.env)
      let iv ← holding [v, ov] (eval i X.env)
      standAt pos'
      holding [v, ov, iv] (setItem ov iv v)
      release [v, ov, iv] []) := by intro _; rfl)
    (hs : swapsWithSole [.Subscript o i pos'] e pos.line X.env = pure false := by rfl) (hw : swappedStores [.Subscript o i pos'] e X.env = pure none := by rfl) (h1 : (assignEach [.Subscript o i pos'] X.env).map (·.2) = [assign (.Subscript o i pos') X.env] := by rfl) :
    PDS X E (.Assign [.Subscript o i pos'] e pos) (tAsg te (gSub to ti rSetL)) (dStL de dO' di) := ⟨ps_asg he.pe (pg_sub ho.pe hi.pe set_list ha) hs hw h1, sim_stL he.sim ho.sim hi.sim⟩
end
theorem ps_forD {tg iter : Expr} {body : List Stmt} {wi : TI} {g : TG} {tb : TS} {pos : Pos} {it : ID} {bd : BD} {sd : SD} {is : List Nat} (c : Cok X k) (hi : PDI X E tg iter wi it) (hg : PDB X tg g bd is) (hb : PDSs X E body tb sd) (hs : ∀ x, foldedSetIterable iter X.env x = pure x := by intro _; rfl) :
    PDS X E (.For tg iter body [] pos) (tFor wi g tb) (dFor it bd sd) := ⟨ps_for c.own c.calm hi.pi hg.pg hb.pss hs, sim_for hi.sim hg.sim hb.sim⟩
theorem ps_whileD {c : Expr} {body : List Stmt} {tc : TT} {tb : TS} {pos : Pos} {dc : TD} {sd : SD} (ck : Cok X k) (hc : PDT X E c tc dc) (hb : PDSs X E body tb sd) : PDS X E (.While c body [] pos) (tWhile tc tb) (dWhile dc sd) := ⟨ps_while ck.own hc.pt hb.pss, sim_while hc.sim hb.sim⟩
section
variable {elt tg iter : Expr} {ifs : List Expr} {scope : Scope} {pos py spos : Pos} {wi : TI} {it : ID} {b : BD} {td : TD} {de : ED} {is : List Nat} {y : Str}
/-- y = [..] on one line -/
theorem ps_setLcD (z : Bool) (c : Cok X k) (i : Nat) (own : List (Str × Nat)) (is : List Nat) (hi : PDI X E tg iter wi it) (ok : blkC X.N X.env.scope scope own = true) (hsub : (is.all fun i => (own.map (·.2)).contains i) = true)
    (hg : ∀ (s : Shared) (H : Hp) (C : Addr) (cl : List (Str × Addr)) (fp : List Addr), ∃ g, PDB (X.blk s H scope (compEnvC scope cl C X.env) fp) tg g b is) (ht : ∀ (s : Shared) (H : Hp) (C : Addr) (cl : List (Str × Addr)) (fp : List Addr), ∃ t, PTsD (X.blk s H scope (compEnvC scope cl C X.env) fp) E0 ifs t td)
    (he : ∀ (s : Shared) (H : Hp) (C : Addr) (cl : List (Str × Addr)) (fp : List Addr), ∃ t, PD (X.blk s H scope (compEnvC scope cl C X.env) fp) E0 elt t de) (hsw : swapsWith (.ListComp elt [⟨tg, iter, ifs, 0⟩] scope pos) (some (.Name y py)) spos.line X.env = pure true)
    (hN : X.N[i]? = some y := by rfl) (hl : X.env.scope.names.lookup y = some .local := by rfl) (hs : ∀ x, foldedSetIterable iter X.env x = pure x := by intro _; rfl) :
    PDS X E (.Assign [.Name y py] (.ListComp elt [⟨tg, iter, ifs, 0⟩] scope pos) spos) (tAsg (tLc wi (tBD X.K b is) (tTD X.K E0 td) (tD X.K E0 de) (own.map (·.2))) (gName i)) (dAsg (if z = true then dZ (dLc it b td de (own.map (·.2))) else dO (dLc it b td de (own.map (·.2)))) (bName i)) := by
  have f : SimF X.K E (tLc wi (tBD X.K b is) (tTD X.K E0 td) (tD X.K E0 de) (own.map (·.2))) (dLc it b td de (own.map (·.2))) := sim_lc (vs := own.map (·.2)) hi.sim ((hg X.s_0 X.H_0 0 [] []).elim fun _ h => h.can.sim) (fun i h => by
      have q := List.all_eq_true.mp hsub i h
      exact List.contains_iff_mem.mp q) ((ht X.s_0 X.H_0 0 [] []).elim fun _ h => h.can.sim) ((he X.s_0 X.H_0 0 [] []).elim fun _ h => h.can.sim)
  refine ⟨ps_setLc c.calm c.nd hN hl hsw hi.pi (blkOk_by ok) (fun s H C cl fp => (hg s H C cl fp).elim fun _ h => h.can.pg) (fun s H C cl fp => (ht s H C cl fp).elim fun _ h => h.can.pts) (fun s H C cl fp => (he s H C cl fp).elim fun _ h => h.can.pe) hs, sim_asg ?_ sim_bName⟩
  cases z with
  | true => exact sim_Z f
  | false => exact sim_O f
end
end
/-! ### lists joined, ours -/
def oCat (x y : D) (P : List D → Prop) : Prop := match x, y with
  | .lst a, .lst b => a.length + b.length ≤ 16777216 ∧ P (a ++ b)
  | _, _ => False
theorem s_cat {K : Fr} : Sim2F K (rAddAny K) oCat := fun {B H x y dx dy P Q} le hx hy q k => by
  unfold oCat at q
  split at q
  · rename_i a b
    obtain ⟨p, xs, rfl, h1, l1⟩ := hx
    obtain ⟨r, ys, rfl, h2, l2⟩ := hy
    exact .inr (.inr (.inr (.inl ⟨p, r, xs, ys, rfl, rfl, h1, h2, by rw [lim_eq, l1.len, l2.len]; exact q.1, fun n hn => k n _ _ hn (RpL.app l1 l2) q.2⟩)))
  · exact q.elim
/-! ### names for readings -/
def oLn : OL := on1 fun x P => match x with
  | .dic _ => False
  | x => oLen x P
theorem s_ln {K : Fr} : SimL K (fun xs H Q => ∃ x n, xs = [x] ∧ LenV K x H n ∧ Q (.int (n : Nat)) H) oLn := s_len
def oSt : OL := on1 fun x P => match x with
  | .int i => i.natAbs.log2 < 1920 ∧ P (.str (numT i))
  | _ => False
theorem s_st {K : Fr} : SimL K (fun xs H Q => ∃ i, xs = [.int i] ∧ i.natAbs.log2 < 1920 ∧ Q (.str (toString i)) H) oSt := s_str
/-- int(text) -/
def oIntT : OL := on1 fun x P => match x with
  | .str s => s.length ≤ 640 ∧ bnd (PySem.intText? (txt s)) fun n => P (.int n)
  | _ => False
theorem s_intT {K : Fr} : SimL K (fun xs H Q => ∃ a n, xs = [.str a] ∧ PySem.intText? a = some n ∧ a.length ≤ 640 ∧ Q (.int n) H) oIntT := fun {B H xs ds P Q} le r q k => by
  obtain ⟨x, rfl, q⟩ := on1_at q
  obtain ⟨v, rfl, rv⟩ := a1 r
  cases x with
  | str s =>
    obtain ⟨h, q⟩ := q
    obtain ⟨n, e, q⟩ := bnd_at q
    exact ⟨txt s, n, by rw [rv.txt], e, by rw [txt_len]; exact h, k _ _ B H (Gr.ie le) (.int _) q⟩
  | _ => exact q.elim
/-- isinstance(e, (T, ..)) -/
def tyA (ns : List TyN) : TA := fun _ H Q => Q ((ns.map TyN.nm).map V.ty) H
section
variable {X : Cx} {E : XK} {es : List Expr} {p1 : Pos} {ns : List TyN}
theorem pa_ty0 : PA X [] (tyA []) := pa_nil
theorem pa_ty (n : TyN) (hmn : X.mg (Str.ofString n.nm) = none) (h : PA X es (tyA ns)) (hgn : Gl X (Str.ofString n.nm) := by rfl) (hs : starEach (.Name (Str.ofString n.nm) p1 :: es) X.env = (false, eval (.Name (Str.ofString n.nm) p1) X.env) :: starEach es X.env := by rfl) :
    PA X (.Name (Str.ofString n.nm) p1 :: es) (tyA (n :: ns)) := by
  have hn : Str.ofString n.nm ≠ "__name__" := by cases n <;> decide +kernel
  have hd : (Str.ofString n.nm == ("__debug__" : Str)) = false := by cases n <;> decide +kernel
  exact pa_cons (pe_bltn (pos := p1) (v := .ty n.nm) hgn hmn (boot_ty n) rfl hn hd) h hs
theorem pd_isi2 {e : Expr} {te : TE} {d : ED} {p pos tpos : Pos} {kk : Nat} (ns : List TyN) (hl : ns.length ≤ 99) (hm : X.mg "isinstance" = none) (he : PD X E e te d) (ht : PA X es (tyA ns)) (hg : Gl X "isinstance" := by rfl)
    (h1 : starEach [e, .Tuple es kk tpos] X.env = (false, eval e X.env) :: starEach [.Tuple es kk tpos] X.env := by rfl)
    (h2 : starEach [.Tuple es kk tpos] X.env = (false, eval (.Tuple es kk tpos) X.env) :: starEach [] X.env := by rfl)
    (h3 : (backTo pos (starEach [.Tuple es kk tpos] X.env)).any (·.1) = false := by rfl) : PD X E (.Call (.Name "isinstance" p) [e, .Tuple es kk tpos] [] pos) (tUn (rIsi2 X.K (ns.map TyN.nm)) te) (dUn (oIsi2 ns) d) := by
  have hs : bootBuiltins "isinstance" = some (.builtin "isinstance") := by decide +kernel
  refine ⟨?_, sim_un (s_isi2 hl) he.sim⟩
  have q := pe_callB (pos := pos) (p := p) call_isiT hg hm hs (pa_cons he.pe (pa_cons (pe_tup (pos := tpos) (x1 := kk) ht) pa_nil h2) h1) (by decide) (by decide) h1 h3
  refine ⟨fun pins s σ H Q I h => q.run pins s σ H Q I ?_⟩
  exact h
end
/-! ### what stands at the top, by its data -/
def tG (K : Fr) (d : D) : TE := fun _ H Q => ∀ v, (∀ B, Rp K B v d) → Q v H
def GlV (K : Fr) (mg : Str → Option Value) (x : Str) (d : D) : Prop := ∃ (v : V) (u : Value), mg x = some u ∧ RelV v u ∧ ∀ B, Rp K B v d
theorem pd_gl {X : Cx} {E : XK} {x : Str} {d : D} {pos : Pos} (h : GlV X.K X.mg x d) (hg : Gl X x := by rfl) (hb : (x == ("__debug__" : Str)) = false := by decide) : PD X E (.Name x pos) (tG X.K d) (dC d) := by
  obtain ⟨v, u, h1, h2, h3⟩ := h
  exact ⟨⟨fun pins s σ H Q I q => (pe_glob hg h1 h2 hb).run pins s σ H Q I (q v h3)⟩, fun {B H A m σ ρ P R Q} w l e q k v hv => k v (.d d) m B H A Xt.ie w (hv B) q⟩
theorem blkK (N : List Str) (sc : Scope) {scope : Scope} {own : List (Str × Nat)} (h : blkC N sc scope own = true) : blkC N sc scope own = true := h
end Dl
end

section
/-! Dl23: the law's promise to the goal behind the head. -/
namespace Dl
open PySem PySem.Spec L2
open PyProof.Rows hiding St
theorem own_at {P : Program} {w : World} {K : Fr} {mg : Str → Option Value} {base : Heap} {k : Nat} {x : Str} {st : Stmt} {ps : List Str} {f : SpD} {fa : Addr} {fd : FuncData} {oc : Value} {od : Option Addr} {osl : Array (Option Value)}
    (o : Own P w K mg base k x st ps f) (hm : mg x = some (.ref fa)) (lk : K.lookup fa = some ⟨oc, od, .func fd, osl⟩) : FnG P w K mg base k fa fd ps (spD K f) := by
  obtain ⟨fa', fd', hm', F', _, G'⟩ := o.ex
  rw [hm] at hm'
  cases hm'
  obtain ⟨oc2, od2, kV, doc, pm, an, cdv, ct, osl2, e, lk2, hcd⟩ := F'.ex
  rw [lk] at lk2
  cases lk2
  exact G'
theorem glv_str {K : Fr} {h : Heap} {mg : Str → Option Value} {x : Str} {l : List Nat} {t : Tok} (X : K.In h) (G : h.Ns mainGlobals mg) (e : PySem.W.nsIn K mainGlobals x = some (some (.str (txt l) t))) : GlV K mg x (.str l) :=
  ⟨.str (txt l), _, PySem.W.mg_of X G e, ⟨t, rfl⟩, fun _ => Rp.str (txt l)⟩
theorem glv_int {K : Fr} {h : Heap} {mg : Str → Option Value} {x : Str} {i : Int} {t : Tok} (X : K.In h) (G : h.Ns mainGlobals mg) (e : PySem.W.nsIn K mainGlobals x = some (some (.int i t))) : GlV K mg x (.int i) :=
  ⟨.int i, _, PySem.W.mg_of X G e, ⟨t, rfl⟩, fun _ => .int i⟩
/-- a tuple of texts or ints that stands in the written part -/
inductive AtomsK : List Value → List D → Prop where
  | nil : AtomsK [] []
  | str {l : List Nat} {t : Tok} {us : List Value} {ds : List D} (r : AtomsK us ds) : AtomsK (.str (txt l) t :: us) (.str l :: ds)
  | int {i : Int} {t : Tok} {us : List Value} {ds : List D} (r : AtomsK us ds) : AtomsK (.int i t :: us) (.int i :: ds)
theorem atoms_vals {K : Fr} : ∀ {us : List Value} {ds : List D}, AtomsK us ds → ∃ vs, Vals vs us ∧ ∀ B, RpL K B vs ds
  | _, _, .nil => ⟨[], .nil, fun _ => .nil⟩
  | _, _, @AtomsK.str l t us ds r => by
    obtain ⟨vs, h1, h2⟩ := atoms_vals (K := K) r
    exact ⟨.str (txt l) :: vs, .cons ⟨t, rfl⟩ h1, fun B => .cons (Rp.str (txt l)) (h2 B)⟩
  | _, _, @AtomsK.int i t us ds r => by
    obtain ⟨vs, h1, h2⟩ := atoms_vals (K := K) r
    exact ⟨.int i :: vs, .cons ⟨t, rfl⟩ h1, fun B => .cons (.int i) (h2 B)⟩
theorem glv_tup {K : Fr} {h : Heap} {mg : Str → Option Value} {x : Str} {a : Addr} {dd : Option Addr} {its : List Value} {n : Nat} {sl : Array (Option Value)} {ds : List D} (X : K.In h) (G : h.Ns mainGlobals mg) (e : PySem.W.nsIn K mainGlobals x = some (some (.ref a)))
    (lk : K.lookup a = some ⟨.type "tuple", dd, .seq its.toArray n, sl⟩) (r : AtomsK its ds) (few : its.length ≤ 1000) : GlV K mg x (.tup ds) := by
  obtain ⟨vs, h1, h2⟩ := atoms_vals (K := K) r
  exact ⟨.ref a, _, PySem.W.mg_of X G e, rfl, fun B => .tup (.inr ⟨_, its.toArray, n, lk, rfl, rfl, by rw [List.size_toArray, sizeLine_eq]; omega, by simpa using h1⟩) (h2 B)⟩
theorem end_law {l : PySem.W.OpenLaw} {k : Nat} {q : Program} {loose : List Str} {XP : (Str → Option Value) → Heap → Prop} {YP : World → Heap → Prop} {d : DefRec} {K : Params → Fr} {g : P0} {x : Str}
    (hn : l.most = some 63) (hdf : d.params.defaults = []) (hr : Room k callerA) (hY : ∀ (w : World) (h : Heap), YP w h → (K w.params).In h)
    (fn : ∀ (w : World) (mg : Str → Option Value) (fa : Addr) (h : Heap), (K w.params).In h → h.Ns mainGlobals mg → mg d.name = some (.ref fa) →
      ∃ fd : FuncData, (∀ (s : Shared) (u : Value), BindsTo s fd ⟨[u], []⟩ [(x, u)]) ∧
        ∀ base : Heap, (K w.params).In base → base.Ns mainGlobals mg → FnG l.prog w (K w.params) mg base k fa fd [x] (spD (K w.params) (fnP g)))
    (hF : ∀ ns : List Int, ns.length ≤ 63 → g [.scr ns] fun d => d = .bl true) :
    PySem.W.WalkO q loose XP YP l.row.toRowW d [] (fun f vs => PySem.call f vs) :=
  walkG hn (by decide) hdf hr hY fn fun ns h => by
    have := hF ns h
    show g [.scr ns] fun d => SV.d d = .d (.bl true)
    have e : (fun d : D => SV.d d = .d (.bl true)) = fun d => d = .bl true := by
      funext d
      exact propext ⟨fun h => by cases h; rfl, fun h => by rw [h]⟩
    rw [e]
    exact this
end Dl
end

section
/-! Dl24: readings, simplified. -/
namespace Dl
open PySem PySem.Spec L2
open PyProof.Rows hiding St
section
variable {R : ER} {ρ : Rho} {m : Mu} {DD : DEnds}
theorem e_var {i : Nat} {P : SV → Mu → Prop} : dVar i R ρ m P = match ρ[i]? with
  | some (some s) => P s m
  | _ => False := propext Iff.rfl
theorem e_varD {i : Nat} {s : SV} {P : SV → Mu → Prop} (h : ρ[i]? = some (some s)) : dVar i R ρ m P = P s m := by
  rw [e_var, h]
theorem e_c {d : D} {P : SV → Mu → Prop} : dC d R ρ m P = P (.d d) m := propext Iff.rfl
theorem e_bin {op : O2} {a b : ED} {P : SV → Mu → Prop} : dBin op a b R ρ m P = a R ρ m fun x m1 => b R ρ m1 fun y m2 => bnd (view m2 x) fun dx => bnd (view m2 y) fun dy => op dx dy fun z => P (.d z) m2 := propext Iff.rfl
theorem e_un {op : O1} {a : ED} {P : SV → Mu → Prop} : dUn op a R ρ m P = a R ρ m fun x m1 => bnd (view m1 x) fun dx => op dx fun z => P (.d z) m1 := propext Iff.rfl
theorem e_view {d : D} : view m (.d d) = some d := rfl
theorem e_viewL {i : Nat} {l : List D} (h : m[i]? = some (MO.lst l)) : view m (.o i) = some (D.lst l) := by
  show (match m[i]? with
    | some (MO.lst l) => some (D.lst l)
    | some (MO.dic l) => some (D.dic l)
    | _ => none) = _
  rw [h]
theorem e_viewD {i : Nat} {l : List (D × D)} (h : m[i]? = some (MO.dic l)) : view m (.o i) = some (D.dic l) := by
  show (match m[i]? with
    | some (MO.lst l) => some (D.lst l)
    | some (MO.dic l) => some (D.dic l)
    | _ => none) = _
  rw [h]
theorem e_bnd {α : Type} {a : α} {k : α → Prop} : bnd (some a) k = k a := propext Iff.rfl
theorem e_cons {a : ED} {r : AD} {P : List SV → Mu → Prop} : dCons a r R ρ m P = a R ρ m fun x m1 => r R ρ m1 fun xs m2 => P (x :: xs) m2 := propext Iff.rfl
theorem e_nil {P : List SV → Mu → Prop} : dNil R ρ m P = P [] m := propext Iff.rfl
theorem e_allD0 : allD [] = some [] := rfl
theorem e_allD {x : D} {l : List SV} : allD (.d x :: l) = (allD l).map (x :: ·) := rfl
theorem e_allV0 : allV m [] = some [] := rfl
theorem e_allV1 {s : SV} : allV m [s] = (view m s).map fun d => [d] := by
  show (view m s).bind (fun d => (some []).map (d :: ·)) = _
  cases view m s <;> rfl
theorem e_allV2 {s u : SV} : allV m [s, u] = (view m s).bind fun d => (view m u).map fun e => [d, e] := by
  show (view m s).bind (fun d => (allV m [u]).map (d :: ·)) = _
  rw [e_allV1]
  cases view m s <;> cases view m u <;> rfl
theorem e_cb {op : OL} {a : AD} {P : SV → Mu → Prop} : dCB op a R ρ m P = a R ρ m fun ss m1 => bnd (allV m1 ss) fun ds => op ds fun z => P (.d z) m1 := propext Iff.rfl
theorem e_cf {op : List D → (List D → Prop) → Prop} {a : AD} {P : List D → Mu → Prop} : dCF op a R ρ m P = a R ρ m fun ss m1 => bnd (allV m1 ss) fun ds => op ds fun z => P z m1 := propext Iff.rfl
theorem e_on1 {f : O1} {x : D} {P : D → Prop} : on1 f [x] P = f x P := propext Iff.rfl
theorem e_on2 {f : O2} {x y : D} {P : D → Prop} : on2 f [x, y] P = f x y P := propext Iff.rfl
theorem e_test {a : ED} {P : Bool → Mu → Prop} : dTest a R ρ m P = a R ρ m fun s m1 => asB s fun b => P b m1 := propext Iff.rfl
theorem e_truth {a : ED} {P : Bool → Mu → Prop} : dTruth a R ρ m P = a R ρ m fun s m1 => bnd (view m1 s) fun d => truD d fun b => P b m1 := propext Iff.rfl
theorem e_asB {b : Bool} {P : Bool → Prop} : asB (.d (.bl b)) P = P b := propext Iff.rfl
theorem e_asI {b : Int} {P : Int → Prop} : asI (.d (.int b)) P = P b := propext Iff.rfl
theorem e_tup {a : AD} {P : SV → Mu → Prop} : dTup a R ρ m P = a R ρ m fun ss m1 => bnd (allD ss) fun ds => ds.length ≤ 16777216 ∧ P (.d (.tup ds)) m1 := propext Iff.rfl
theorem e_lst {a : AD} {P : List D → Mu → Prop} : dLst a R ρ m P = a R ρ m fun ss m1 => bnd (allD ss) fun ds => ds.length ≤ 16777216 ∧ P ds m1 := propext Iff.rfl
theorem e_z {f : FD} {P : SV → Mu → Prop} : dZ f R ρ m P = f R ρ m fun l m' => P (.d (.lst l)) m' := propext Iff.rfl
theorem e_o {f : FD} {P : SV → Mu → Prop} : dO f R ρ m P = f R ρ m fun l m' => P (.o m'.length) (m' ++ [.lst l]) := propext Iff.rfl
theorem e_zg {f : GD} {P : SV → Mu → Prop} : dZg f R ρ m P = f R ρ m fun l m' => P (.d (.dic l)) m' := propext Iff.rfl
theorem e_og {f : GD} {P : SV → Mu → Prop} : dOg f R ρ m P = f R ρ m fun l m' => P (.o m'.length) (m' ++ [.dic l]) := propext Iff.rfl
theorem e_ifE {c : TD} {a b : ED} {P : SV → Mu → Prop} : dIfE c a b R ρ m P = c R ρ m fun c m1 => if c = true then a R ρ m1 P else b R ρ m1 P := propext Iff.rfl
theorem e_and {a b : TD} {P : Bool → Mu → Prop} : dAnd a b R ρ m P = a R ρ m fun c m1 => if c = true then b R ρ m1 P else P false m1 := propext Iff.rfl
theorem e_or {a b : TD} {P : Bool → Mu → Prop} : dOr a b R ρ m P = a R ρ m fun c m1 => if c = true then P true m1 else b R ρ m1 P := propext Iff.rfl
theorem e_not {a : TD} {P : Bool → Mu → Prop} : dNot a R ρ m P = a R ρ m fun c m1 => P (!c) m1 := propext Iff.rfl
theorem e_andV {a b : ED} {P : SV → Mu → Prop} : dAndV a b R ρ m P = dTest a R ρ m fun c m1 => if c = true then b R ρ m1 P else P (.d (.bl false)) m1 := propext Iff.rfl
theorem e_orV {a b : ED} {P : SV → Mu → Prop} : dOrV a b R ρ m P = dTest a R ρ m fun c m1 => if c = true then P (.d (.bl true)) m1 else b R ρ m1 P := propext Iff.rfl
theorem e_notV {a : ED} {P : SV → Mu → Prop} : dNotV a R ρ m P = dTest a R ρ m fun c m1 => P (.d (.bl (!c))) m1 := propext Iff.rfl
theorem e_sm {op : List Nat → D → (D → Prop) → Prop} {s : List Nat} {a b : ED} {P : SV → Mu → Prop} : dSM op (dC (.str s)) b R ρ m P = b R ρ m fun y m2 => bnd (view m2 y) fun dy => op s dy fun z => P (.d z) m2 := propext Iff.rfl
theorem e_smV {op : List Nat → D → (D → Prop) → Prop} {a b : ED} {P : SV → Mu → Prop} : dSM op a b R ρ m P = a R ρ m fun x m1 => match x with
  | .d (.str s) => b R ρ m1 fun y m2 => bnd (view m2 y) fun dy => op s dy fun z => P (.d z) m2
  | _ => False := propext Iff.rfl
theorem e_smf {op : List Nat → D → (List D → Prop) → Prop} {a b : ED} {P : List D → Mu → Prop} : dSMF op a b R ρ m P = a R ρ m fun x m1 => match x with
  | .d (.str s) => b R ρ m1 fun y m2 => bnd (view m2 y) fun dy => op s dy fun z => P z m2
  | _ => False := propext Iff.rfl
theorem e_call {f : SpD} {a : AD} {P : SV → Mu → Prop} : dCall f a R ρ m P = a R ρ m fun ss m1 => f R ss m1 P := propext Iff.rfl
theorem e_callK {n : Nat} {is : List Nat} {f : SpD} {a : AD} {P : SV → Mu → Prop} : dCallK n f is a R ρ m P = a R ρ m fun ss m1 => ss.length = n ∧ f R (pick is ss) m1 P := propext Iff.rfl
theorem e_fnP {g : P0} {ss : List SV} {P : SV → Mu → Prop} : fnP g R ss m P = bnd (allD ss) fun ds => g ds fun d => P (.d d) m := propext Iff.rfl
theorem e_fnF {g : PF} {ss : List SV} {P : SV → Mu → Prop} : fnF g R ss m P = bnd (allD ss) fun ds => g ds fun l => P (.o m.length) (m ++ [.lst l]) := propext Iff.rfl
theorem e_fnQ {g : P1} {j : Nat} {ss : List SV} {P : SV → Mu → Prop} : fnQ g R (.o j :: ss) m P = bnd m[j]? fun o => pureM o = true ∧ bnd (allD ss) fun ds => g o ds fun d o' => P (.d d) (m.set j o') := propext Iff.rfl
/-! statements -/
theorem e_next : dNext R DD ρ m = DD.nx ρ m := propext Iff.rfl
theorem e_seq {a b : SD} : dSeq a b R DD ρ m = a R { DD with nx := b R DD } ρ m := propext Iff.rfl
theorem e_brk : dBreak R DD ρ m = DD.bk ρ m := propext Iff.rfl
theorem e_cnt : dCont R DD ρ m = DD.ct ρ m := propext Iff.rfl
theorem e_drop {a : ED} : dDrop a R DD ρ m = a R ρ m fun _ m1 => DD.nx ρ m1 := propext Iff.rfl
theorem e_ret {a : ED} : dRet a R DD ρ m = a R ρ m DD.rt := propext Iff.rfl
theorem e_if {c : TD} {a b : SD} : dIf c a b R DD ρ m = c R ρ m fun c m1 => if c = true then a R DD ρ m1 else b R DD ρ m1 := propext Iff.rfl
theorem e_asg {a : ED} {b : BD} : dAsg a b R DD ρ m = a R ρ m fun s m1 => b s ρ m1 fun ρ1 => DD.nx ρ1 m1 := propext Iff.rfl
theorem e_bname {i : Nat} {s : SV} {P : Rho → Prop} : bName i s ρ m P = P (ρ.set i (some s)) := propext Iff.rfl
theorem e_btup {n : Nat} {bs : BDs} {s : SV} {P : Rho → Prop} : bTup n bs s ρ m P = bnd (view m s) fun d => match d with
  | .tup ds => ds.length = n ∧ bs ds ρ m P
  | .lst ds => ds.length = n ∧ bs ds ρ m P
  | _ => False := propext Iff.rfl
theorem e_bsnil {P : Rho → Prop} : bsNil [] ρ m P = P ρ := propext Iff.rfl
theorem e_bscons {b : BD} {bs : BDs} {d : D} {ds : List D} {P : Rho → Prop} : bsCons b bs (d :: ds) ρ m P = b (.d d) ρ m fun ρ1 => bs ds ρ1 m P := propext Iff.rfl
theorem e_par {i j : Nat} {a b : ED} : dPar i j a b R DD ρ m = a R ρ m fun x m1 => b R ρ m1 fun y m2 => DD.nx ((ρ.set i (some x)).set j (some y)) m2 := propext Iff.rfl
theorem e_fmt {a : ED} {P : SV → Mu → Prop} : dFmt a R ρ m P = a R ρ m fun x m1 => match x with
  | .d (.str s) => s.length ≤ 16777216 ∧ P (.d (.str s)) m1
  | .d (.int i) => i.natAbs.log2 < 1920 ∧ P (.d (.str (numT i))) m1
  | _ => False := propext Iff.rfl
theorem e_js0 {acc : List Nat} {P : SV → Mu → Prop} : dJs [] acc R ρ m P = P (.d (.str acc)) m := propext Iff.rfl
theorem e_js {a : ED} {as : List ED} {acc : List Nat} {P : SV → Mu → Prop} : dJs (a :: as) acc R ρ m P = a R ρ m fun x m1 => match x with
  | .d (.str s) => (acc ++ s).length ≤ 16777216 ∧ dJs as (acc ++ s) R ρ m1 P
  | _ => False := propext Iff.rfl
theorem e_sl {a : ED} {lo hi : OD} {P : SV → Mu → Prop} : dSl a lo hi R ρ m P = a R ρ m fun x m1 => lo R ρ m1 fun l m2 => hi R ρ m2 fun h m3 => bnd (view m3 x) fun dx => oSl l h dx fun z => P (.d z) m3 := propext Iff.rfl
theorem e_nopart {P : Option Int → Mu → Prop} : dNoPart R ρ m P = P none m := propext Iff.rfl
theorem e_part {a : ED} {P : Option Int → Mu → Prop} : dPart a R ρ m P = a R ρ m fun s m1 => asI s fun i => P (some i) m1 := propext Iff.rfl
theorem e_frzd {d : D} : frz m (.d d) = some d := rfl
theorem e_frz1d {d : D} : frz1 m (.d d) = some d := rfl
theorem e_lc {it : ID} {b : BD} {t : TD} {e : ED} {vs : List Nat} {P : List D → Mu → Prop} : dLc it b t e vs R ρ m P = it R ρ m fun l chk m1 => lcGo chk b t e (wipeR ρ vs) P l [] m1 := propext Iff.rfl
theorem e_for {it : ID} {b : BD} {body : SD} : dFor it b body R DD ρ m = it R ρ m fun l chk m1 => forGo R chk b body DD l ρ m1 := propext Iff.rfl
theorem e_seqI {a : ED} {P : List D → (Mu → Prop) → Mu → Prop} : dSeqI a R ρ m P = a R ρ m fun s m1 => items m1 s fun l chk => P l chk m1 := propext Iff.rfl
theorem e_rng1 {a : ED} {P : List D → (Mu → Prop) → Mu → Prop} : dRng1 a R ρ m P = a R ρ m fun s m1 => asI s fun j => -(2 ^ 62) ≤ j ∧ j < 2 ^ 62 ∧ P (intsOf 0 j.toNat) (fun _ => True) m1 := propext Iff.rfl
theorem e_rng2 {a b : ED} {P : List D → (Mu → Prop) → Mu → Prop} : dRng2 a b R ρ m P = a R ρ m fun s m1 => b R ρ m1 fun u m2 => asI s fun i => asI u fun j => -(2 ^ 62) ≤ i ∧ i < 2 ^ 62 ∧ -(2 ^ 62) ≤ j ∧ j < 2 ^ 62 ∧ P (intsOf i (j - i).toNat) (fun _ => True) m2 := propext Iff.rfl
theorem e_enum {a : ED} {P : List D → (Mu → Prop) → Mu → Prop} : dEnum a R ρ m P = a R ρ m fun s m1 => lItems m1 s fun l chk => P (enumD 0 l) chk m1 := propext Iff.rfl
theorem e_itT {l : List D} {P : List D → (Mu → Prop) → Prop} : items m (.d (.tup l)) P = P l fun _ => True := propext Iff.rfl
theorem e_itL {l : List D} {P : List D → (Mu → Prop) → Prop} : items m (.d (.lst l)) P = P l fun _ => True := propext Iff.rfl
theorem e_itS {s : List Nat} {P : List D → (Mu → Prop) → Prop} : items m (.d (.str s)) P = P (s.map fun c => D.str [c]) fun _ => True := propext Iff.rfl
theorem e_start (n : Nat) (ss : List SV) : startR n ss = ss.map some ++ List.replicate (n - ss.length) none := rfl
theorem e_yes {P : Bool → Mu → Prop} : dYes R ρ m P = P true m := propext Iff.rfl
theorem e_plain {d : D} : plain (.d d) = some d := rfl
end
/-! ### comprehensions whose parts change nothing -/
theorem lc_pure {chk : Mu → Prop} {b : BD} {t : TD} {e : ED} {ρ : Rho} {P : List D → Mu → Prop} {m : Mu} (f : D → Option D) (hc : chk m) : ∀ (l acc : List D),
    (∀ d ∈ l, ∀ (Q : SV → Mu → Prop) (Q' : Mu → Prop), (match f d with
      | some y => Q (.d y) m
      | none => Q' m) → b (.d d) ρ m fun ρ1 => t noR ρ1 m fun c m1 => if c = true then e noR ρ1 m1 Q else Q' m1) →
    acc.length + l.length ≤ 16777216 → P (acc ++ l.filterMap f) m → lcGo chk b t e ρ P l acc m
  | [], acc, _, _, h => ⟨hc, by simpa using h⟩
  | d :: l, acc, hd, hz, h => ⟨hc, hd d List.mem_cons_self _ _ (by
      rw [List.filterMap_cons] at h
      cases hf : f d with
      | none =>
        rw [hf] at h
        exact lc_pure f hc l acc (fun x hx => hd x (List.mem_cons_of_mem _ hx)) (by rw [List.length_cons] at hz; omega) h
      | some y =>
        rw [hf] at h
        refine ⟨by rw [List.length_cons] at hz; omega, lc_pure f hc l (acc ++ [y]) (fun x hx => hd x (List.mem_cons_of_mem _ hx)) (by rw [List.length_cons] at hz; rw [List.length_append, List.length_singleton]; omega) ?_⟩
        rw [List.append_assoc]
        exact h)⟩
end Dl
end

section
/-! Dl25: operations on known data, simplified; the law's pail. -/
namespace Dl
open PySem PySem.Spec L2
open PyProof.Rows hiding St
section
variable {P : D → Prop} {a b : Int} {s t : List Nat} {l k : List D} {c d : Bool} {x : D}
theorem o_add : oAdd (.int a) (.int b) P = P (.int (a + b)) := propext Iff.rfl
theorem o_addS : oAdd (.str s) (.str t) P = (s.length + t.length ≤ 16777216 ∧ P (.str (s ++ t))) := propext Iff.rfl
theorem o_addT : oAdd (.tup l) (.tup k) P = (l.length + k.length ≤ 16777216 ∧ P (.tup (l ++ k))) := propext Iff.rfl
theorem o_addL : oAdd (.lst l) (.lst k) P = (l.length + k.length ≤ 16777216 ∧ P (.lst (l ++ k))) := propext Iff.rfl
theorem o_sub : oSub (.int a) (.int b) P = P (.int (a - b)) := propext Iff.rfl
theorem o_mul : oMul (.int a) (.int b) P = (MulOk a b ∧ P (.int (a * b))) := propext Iff.rfl
theorem o_mulS : oMul (.str s) (.int b) P = (-(2 ^ 63) ≤ b ∧ b < 2 ^ 63 ∧ s.length * b.toNat ≤ 16777216 ∧ P (.str (List.replicate b.toNat s).flatten)) := propext Iff.rfl
theorem o_div : oDiv (.int a) (.int b) P = (CDivW a b ∧ P (.int (a / b))) := propext Iff.rfl
theorem o_mod : oMod (.int a) (.int b) P = (0 < b ∧ P (.int (a % b))) := propext Iff.rfl
theorem o_pow : oPow (.int a) (.int b) P = (CPowW a b ∧ P (.int (a ^ b.toNat))) := propext Iff.rfl
theorem o_neg : oNeg (.int a) P = P (.int (-a)) := propext Iff.rfl
theorem o_lt : oLt (.int a) (.int b) P = P (.bl (decide (a < b))) := propext Iff.rfl
theorem o_le : oLe (.int a) (.int b) P = P (.bl (decide (a ≤ b))) := propext Iff.rfl
theorem o_gt : oGt (.int a) (.int b) P = P (.bl (decide (b < a))) := propext Iff.rfl
theorem o_ge : oGe (.int a) (.int b) P = P (.bl (decide (b ≤ a))) := propext Iff.rfl
theorem o_ltS : oLt (.str s) (.str t) P = P (.bl (decide (s < t))) := propext Iff.rfl
theorem o_eqI : oEq (.int a) (.int b) P = P (.bl (decide (a = b))) := by
  show P (.bl (false ^^ decide (a = b))) = _
  rw [Bool.false_xor]
theorem o_eqS : oEq (.str s) (.str t) P = P (.bl (decide (s = t))) := by
  show P (.bl (false ^^ decide (s = t))) = _
  rw [Bool.false_xor]
theorem o_neI : oNe (.int a) (.int b) P = P (.bl (!decide (a = b))) := by
  show P (.bl (true ^^ decide (a = b))) = _
  rw [Bool.true_xor]
theorem o_neS : oNe (.str s) (.str t) P = P (.bl (!decide (s = t))) := by
  show P (.bl (true ^^ decide (s = t))) = _
  rw [Bool.true_xor]
theorem o_eqL : oEq (.lst l) (.lst k) P = (okD 64 (.lst l) = true ∧ okD 64 (.lst k) = true ∧ P (.bl (eqv (.lst l) (.lst k)))) := by
  show (_ ∧ _ ∧ P (.bl (false ^^ _))) = _
  rw [Bool.false_xor]
theorem o_neL : oNe (.lst l) (.lst k) P = (okD 64 (.lst l) = true ∧ okD 64 (.lst k) = true ∧ P (.bl (!eqv (.lst l) (.lst k)))) := by
  show (_ ∧ _ ∧ P (.bl (true ^^ _))) = _
  rw [Bool.true_xor]
theorem o_lenS : oLn [.str s] P = (s.length ≤ 16777216 ∧ P (.int s.length)) := propext Iff.rfl
theorem o_lenT : oLn [.tup l] P = P (.int l.length) := propext Iff.rfl
theorem o_lenL : oLn [.lst l] P = P (.int l.length) := propext Iff.rfl
theorem o_lenR {ns : List Int} : oLn [.scr ns] P = P (.int ns.length) := propext Iff.rfl
theorem o_int : oInt1 (.int a) P = P (.int a) := propext Iff.rfl
theorem o_intB : oInt1 (.bl c) P = P (.int (if c then 1 else 0)) := propext Iff.rfl
theorem o_abs : oAbs (.int a) P = P (.int (if a < 0 then -a else a)) := propext Iff.rfl
theorem o_max : oMax2 (.int a) (.int b) P = P (.int (if b > a then b else a)) := propext Iff.rfl
theorem o_min : oMin2 (.int a) (.int b) P = P (.int (if b < a then b else a)) := propext Iff.rfl
theorem o_st : oSt [.int a] P = (a.natAbs.log2 < 1920 ∧ P (.str (numT a))) := propext Iff.rfl
theorem o_ixL : oIx (.lst l) (.int a) P = bnd (atI l a) P := propext Iff.rfl
theorem o_ixT : oIx (.tup l) (.int a) P = bnd (atI l a) P := propext Iff.rfl
theorem o_ixR {ns : List Int} : oIx (.scr ns) (.int a) P = bnd (atI ns a) fun n => P (.int n) := propext Iff.rfl
theorem o_ixS : oIx (.str s) (.int a) P = (s.length ≤ 16777216 ∧ bnd (atI s a) fun c => P (.str [c])) := propext Iff.rfl
theorem o_tupL : oTupOf (.lst l) P = P (.tup l) := propext Iff.rfl
theorem o_tupT : oTupOf (.tup l) P = P (.tup l) := propext Iff.rfl
theorem o_all : oAll (.lst l) P = bnd (allBl l) fun ns => P (.bl (ns.all id)) := propext Iff.rfl
theorem o_slS {lo hi : Option Int} : oSl lo hi (.str s) P = (s.length ≤ 16777216 ∧ P (.str (cut s lo hi))) := propext Iff.rfl
theorem o_slT {lo hi : Option Int} : oSl lo hi (.tup l) P = P (.tup (cut l lo hi)) := propext Iff.rfl
theorem o_slL {lo hi : Option Int} : oSl lo hi (.lst l) P = P (.lst (cut l lo hi)) := propext Iff.rfl
theorem o_join : oJoin s x P = bnd (asStrs x) fun ns => (ns.map List.length).sum + ns.length * s.length ≤ 16777216 ∧ P (.str (joinN s ns)) := propext Iff.rfl
theorem o_asT : asStrs (.tup l) = allStr l := rfl
theorem o_asL : asStrs (.lst l) = allStr l := rfl
theorem o_part : oPart s (.str t) P = (t ≠ [] ∧ s.length ≤ 16777216 ∧ P (.tup ((parts3 s t).map .str))) := propext Iff.rfl
theorem o_is : oIs x .non P = (D.non = D.non ∧ P (.bl (isN x))) := propext Iff.rfl
theorem o_reprL : oRepr (.lst l) P = (okD 64 (.lst l) = true ∧ (toPy (.lst l)).showable = true ∧ (shw (.lst l)).length ≤ 16777216 ∧ P (.str (shw (.lst l)))) := propext Iff.rfl
theorem o_reprT : oRepr (.tup l) P = (okD 64 (.tup l) = true ∧ (toPy (.tup l)).showable = true ∧ (shw (.tup l)).length ≤ 16777216 ∧ P (.str (shw (.tup l)))) := propext Iff.rfl
theorem t_bl : truD (.bl c) = fun P => P c := rfl
theorem t_lst : truD (.lst l) = fun P => P (!l.isEmpty) := rfl
theorem t_tup : truD (.tup l) = fun P => P (!l.isEmpty) := rfl
end
section
variable {R : ER} {ρ : Rho} {m : Mu} {DD : DEnds} {i : Nat}
theorem e_asO {P : Nat → MO → Prop} : asO m (.o i) P = bnd m[i]? fun o => P i o := propext Iff.rfl
theorem e_asL {l : List D} {P : List D → Prop} : asL (.lst l) P = P l := propext Iff.rfl
theorem e_stL {e a b : ED} : dStL e a b R DD ρ m = e R ρ m fun v m1 => a R ρ m1 fun x m2 => b R ρ m2 fun y m3 => asI y fun n => asO m3 x fun i o => asL o fun l => bnd (plain v) fun d => bnd (ixN l.length n) fun j => DD.nx ρ (m3.set i (.lst (l.set j d))) := propext Iff.rfl
theorem e_frz1 {j : Nat} {l : List D} (h : m[j + 1]? = some (MO.lst l)) : frz1 m (.o (j + 1)) = some (D.lst l) := by
  show (match m[j + 1]? with
    | some (MO.lst l) => some (D.lst l)
    | some (MO.dic l) => some (D.dic l)
    | _ => none) = _
  rw [h]
theorem e_pure {l : List D} : (pureM (.lst l) = true) = True := by simp [pureM]
theorem v_o0 {l : List D} {r : Mu} : view (.lst l :: r) (.o 0) = some (.lst l) := rfl
theorem v_o1 {o : MO} {l : List D} {r : Mu} : view (o :: .lst l :: r) (.o 1) = some (.lst l) := rfl
theorem at0 {x y z : D} : atI [x, y, z] 0 = some x := rfl
theorem at1 {x y z : D} : atI [x, y, z] 1 = some y := rfl
theorem at2 {x y z : D} : atI [x, y, z] 2 = some z := rfl
theorem ix30 : ixN 3 0 = some 0 := rfl
theorem ix31 : ixN 3 1 = some 1 := rfl
theorem ix32 : ixN 3 2 = some 2 := rfl
end
/-! ### powers -/
theorem bits_le {i : Int} {n : Nat} (h : i.natAbs < 2 ^ n) : Builtin.Int.intBits i ≤ n := by
  unfold Builtin.Int.intBits
  split
  · exact Nat.zero_le _
  · rename_i h0
    have h1 : i.natAbs ≠ 0 := by simpa using h0
    have := (Nat.log2_lt h1).mpr h
    omega
theorem cpow {i j : Int} {n : Nat} (h0 : 0 ≤ j) (h : i.natAbs < 2 ^ n) (hn : (n : Int) * j ≤ 2 ^ 27) : CPowW i j := by
  refine ⟨h0, Int.le_trans ?_ hn⟩
  have := bits_le h
  exact Int.mul_le_mul_of_nonneg_right (by omega) h0
theorem cmulL {i j : Int} (h1 : -(2 ^ 64) < i) (h2 : i < 2 ^ 64) : MulOk i j := .inl (.inl ⟨h1, h2⟩)
theorem cmulR {i j : Int} (h1 : -(2 ^ 64) < j) (h2 : j < 2 ^ 64) : MulOk i j := .inl (.inr ⟨h1, h2⟩)
theorem log2_lt' {a n : Nat} (h : a < 2 ^ n) (hn : 0 < n) : a.log2 < n := by
  by_cases h0 : a = 0
  · rw [h0]
    exact hn
  · exact (Nat.log2_lt h0).mpr h
theorem cmulW {i j : Int} {n k : Nat} (h1 : i.natAbs < 2 ^ n) (h2 : j.natAbs < 2 ^ k) (hn : 0 < n) (hk : 0 < k) (h : n + k ≤ 1000000) : MulOk i j := by
  refine .inr ?_
  have a := log2_lt' h1 hn
  have b := log2_lt' h2 hk
  show i.natAbs.log2 + j.natAbs.log2 < 1000000
  omega
theorem cdiv {i j : Int} {n : Nat} (h0 : 0 < j) (h : j.natAbs < 2 ^ n) (hn : 0 < n) (h2 : n ≤ 9000) : CDivW i j := ⟨h0, by have := log2_lt' h hn; omega⟩
section
variable {R : ER} {ρ : Rho} {m : Mu} {DD : DEnds} {chk : Mu → Prop} {b : BD} {body : SD}
theorem li_R {l : List Int} {P : List D → (Mu → Prop) → Prop} : lItems m (.d (.scr l)) P = P (l.map D.int) fun _ => True := propext Iff.rfl
theorem li_L {l : List D} {P : List D → (Mu → Prop) → Prop} : lItems m (.d (.lst l)) P = P l fun _ => True := propext Iff.rfl
theorem e_go0 : forGo R chk b body DD [] ρ m = (chk m ∧ DD.nx ρ m) := propext Iff.rfl
theorem e_go {d : D} {l : List D} : forGo R chk b body DD (d :: l) ρ m = (chk m ∧ b (.d d) ρ m fun ρ1 => body R { DD with nx := forGo R chk b body DD l, ct := forGo R chk b body DD l, bk := DD.nx } ρ1 m) := propext Iff.rfl
theorem e_enum0 {i : Nat} : enumD i [] = [] := rfl
theorem e_enum1 {i : Nat} {d : D} {l : List D} : enumD i (d :: l) = .tup [.int (i : Int), d] :: enumD (i + 1) l := rfl
end
theorem for_inv {R : ER} {chk : Mu → Prop} {b : BD} {body : SD} {DD : DEnds} {I : List D → Rho → Mu → Prop}
    (step : ∀ (d : D) (l : List D) (ρ : Rho) (m : Mu) (Nx : Rho → Mu → Prop), I (d :: l) ρ m → (∀ ρ' m', I l ρ' m' → Nx ρ' m') → chk m ∧ b (.d d) ρ m fun ρ1 => body R { DD with nx := Nx, ct := Nx, bk := DD.nx } ρ1 m)
    (fin : ∀ ρ m, I [] ρ m → chk m ∧ DD.nx ρ m) : ∀ (l : List D) (ρ : Rho) (m : Mu), I l ρ m → forGo R chk b body DD l ρ m
  | [], ρ, m, h => fin ρ m h
  | d :: l, ρ, m, h => step d l ρ m _ h fun ρ' m' h' => for_inv step fin l ρ' m' h'
theorem lc_inv {chk : Mu → Prop} {b : BD} {t : TD} {e : ED} {ρ : Rho} {P : List D → Mu → Prop} {I : List D → List D → Mu → Prop}
    (step : ∀ (d : D) (l acc : List D) (m : Mu) (Q : List D → Mu → Prop), I (d :: l) acc m → (∀ acc' m', I l acc' m' → Q acc' m') →
      chk m ∧ b (.d d) ρ m fun ρ1 => t noR ρ1 m fun c m1 => if c = true then e noR ρ1 m1 fun s m2 => bnd (plain s) fun y => acc.length < 16777216 ∧ Q (acc ++ [y]) m2 else Q acc m1)
    (fin : ∀ acc m, I [] acc m → chk m ∧ P acc m) : ∀ (l acc : List D) (m : Mu), I l acc m → lcGo chk b t e ρ P l acc m
  | [], acc, m, h => fin acc m h
  | d :: l, acc, m, h => step d l acc m _ h fun acc' m' h' => lc_inv step fin l acc' m' h'
theorem e_wp0 {ρ : Rho} : wipeR ρ [] = ρ := rfl
theorem e_wp {ρ : Rho} {v : Nat} {vs : List Nat} : wipeR ρ (v :: vs) = (wipeR ρ vs).set v none := rfl
/-! ### parts -/
theorem sIx_le (n d k : Nat) (h : k ≤ n) : HT.sIx n d (some (k : Int)) = k := by
  rw [HT.sIx_nat]
  omega
theorem cut_mid {α : Type} {l : List α} {i j : Nat} (hi : i ≤ j) (hj : j ≤ l.length) : cut l (some (i : Int)) (some (j : Int)) = (l.drop i).take (j - i) := by
  unfold cut
  rw [sIx_le _ _ _ (Nat.le_trans hi hj), sIx_le _ _ _ hj]
theorem cut_from {α : Type} {l : List α} {i : Nat} : cut l (some (i : Int)) none = l.drop i := by
  unfold cut
  rw [HT.sIx_nat, HT.sIx_none]
  by_cases h : i ≤ l.length
  · rw [show min i l.length = i by omega, List.take_of_length_le]
    rw [List.length_drop]
    exact Nat.le_refl _
  · rw [show min i l.length = l.length by omega, List.drop_eq_nil_of_le (Nat.le_refl _), List.drop_eq_nil_of_le (by omega), List.take_nil]
theorem cut_to {α : Type} {l : List α} {j : Nat} : cut l none (some (j : Int)) = l.take j := by
  unfold cut
  rw [HT.sIx_none, HT.sIx_nat, List.drop_zero, Nat.sub_zero]
  by_cases h : j ≤ l.length
  · rw [show min j l.length = j by omega]
  · rw [show min j l.length = l.length by omega, List.take_of_length_le (Nat.le_refl _), List.take_of_length_le (by omega)]
theorem sIx_m1 (n d : Nat) : HT.sIx n d (some (-1)) = n - 1 := by
  show (if (-1 : Int) < 0 then ((-1 : Int) + (n : Int)).toNat else min (-1 : Int).toNat n) = n - 1
  rw [if_pos (by decide)]
  omega
theorem cut_but {α : Type} {l : List α} : cut l none (some (-1)) = l.dropLast := by
  unfold cut
  rw [HT.sIx_none, List.drop_zero, Nat.sub_zero, sIx_m1, List.dropLast_eq_take]
theorem cut_last {α : Type} {l : List α} : cut l (some (-1)) none = l.drop (l.length - 1) := by
  unfold cut
  rw [HT.sIx_none, sIx_m1, List.take_of_length_le]
  rw [List.length_drop]
  exact Nat.le_refl _
theorem at_last {α : Type} {l : List α} (h : l ≠ []) : atI l (-1) = some (l.getLast h) := by
  have h0 := List.length_pos_iff.mpr h
  unfold atI ixN
  rw [if_neg (by decide), if_pos (by omega)]
  show l[((-1 : Int) + (l.length : Int)).toNat]? = _
  rw [show ((-1 : Int) + (l.length : Int)).toNat = l.length - 1 by omega, List.getLast_eq_getElem, List.getElem?_eq_getElem]
theorem at_nat {α : Type} {l : List α} {i : Nat} (h : i < l.length) : atI l (i : Int) = some l[i] := by
  unfold atI ixN
  rw [if_pos (by omega), if_pos (by omega)]
  show l[(i : Int).toNat]? = _
  rw [Int.toNat_natCast, List.getElem?_eq_getElem h]
/-! ### texts in a list -/
theorem allStr_map : ∀ ns : List (List Nat), allStr (ns.map D.str) = some ns
  | [] => rfl
  | n :: ns => by
    show (allStr (ns.map D.str)).map (n :: ·) = _
    rw [allStr_map ns]
    rfl
theorem allBl_map : ∀ ns : List Bool, allBl (ns.map D.bl) = some ns
  | [] => rfl
  | n :: ns => by
    show (allBl (ns.map D.bl)).map (n :: ·) = _
    rw [allBl_map ns]
    rfl
theorem srt_lt {l : List (List Nat)} (h : l.Nodup) : (srt l).Pairwise (· < ·) := by
  have h1 := srt_pw l
  have h2 : (srt l).Pairwise (· ≠ ·) := (srt_perm l).nodup_iff.mpr h
  refine List.Pairwise.imp₂ (fun x y a b => ?_) h1 h2
  rcases Decidable.em (x < y) with c | c
  · exact c
  · exact absurd (List.le_antisymm a (List.not_lt.mp c)) b
theorem e_ss {a : ED} {R : ER} {ρ : Rho} {m : Mu} {P : List D → Mu → Prop} : dSortSet a R ρ m P = a R ρ m fun x m1 => bnd (view m1 x) fun dx => bnd (asStrs dx) fun ns => ns.length < 4095 ∧ P ((srt (ded ns)).map .str) m1 := propext Iff.rfl
theorem intsOf_mem {n : Nat} {d : D} (h : d ∈ intsOf 0 n) : ∃ i : Nat, i < n ∧ d = .int (i : Int) := by
  unfold intsOf at h
  obtain ⟨i, hi, rfl⟩ := List.mem_map.mp h
  exact ⟨i, List.mem_range.mp hi, by rw [Int.zero_add]⟩
theorem intsOf_len {lo : Int} {n : Nat} : (intsOf lo n).length = n := by
  unfold intsOf
  rw [List.length_map, List.length_range]
theorem e_gnd {i : Nat} {s : SD} {R : ER} {DD : DEnds} {ρ : Rho} {m : Mu} : dGnd i s R DD ρ m = s R { DD with nx := fun ρ m => match ρ[i]? with
  | some (some (.o j)) => bnd m[j]? fun o => asL o fun l => DD.nx (ρ.set i (some (.d (.lst l)))) (m.set j .dead)
  | _ => DD.nx ρ m } ρ m := propext Iff.rfl
theorem e_app {a b : ED} {R : ER} {ρ : Rho} {m : Mu} {P : SV → Mu → Prop} : dApp a b R ρ m P = a R ρ m fun x m1 => asO m1 x fun _ o1 => asL o1 fun _ => b R ρ m1 fun y m2 => asO m2 x fun i o => bnd (plain y) fun d => asL o fun l => l.length < 16777216 ∧ P (.d .non) (m2.set i (.lst (l ++ [d]))) := propext Iff.rfl
theorem e_pop {a : ED} {R : ER} {ρ : Rho} {m : Mu} {P : SV → Mu → Prop} : dPop a R ρ m P = a R ρ m fun x m1 => asO m1 x fun i o => asL o fun l => bnd l.getLast? fun d => P (.d d) (m1.set i (.lst l.dropLast)) := propext Iff.rfl
theorem joinN_nil : ∀ ns : List (List Nat), joinN [] ns = ns.flatten
  | [] => rfl
  | [x] => by simp [joinN]
  | x :: y :: r => by
    show x ++ [] ++ joinN [] (y :: r) = _
    rw [joinN_nil (y :: r), List.append_nil, List.flatten_cons, List.flatten_cons, List.flatten_cons]
theorem allStr_of {G : List Nat → Prop} : ∀ {l : List D}, (∀ d ∈ l, ∃ s, d = .str s ∧ G s) → ∃ ns, l = ns.map D.str ∧ allStr l = some ns ∧ ∀ s ∈ ns, G s
  | [], _ => ⟨[], rfl, rfl, nofun⟩
  | d :: l, h => by
    obtain ⟨s, rfl, hs⟩ := h d List.mem_cons_self
    obtain ⟨ns, e1, e2, e3⟩ := allStr_of (l := l) fun x hx => h x (List.mem_cons_of_mem _ hx)
    refine ⟨s :: ns, by rw [e1]; rfl, ?_, fun t ht => ?_⟩
    · show (allStr l).map (s :: ·) = _
      rw [e2]
      rfl
    · rcases List.mem_cons.mp ht with rfl | z
      · exact hs
      · exact e3 t z
theorem sum_le {ns : List (List Nat)} {n : Nat} (h : ∀ s ∈ ns, s.length ≤ n) : (ns.map List.length).sum ≤ n * ns.length := by
  induction ns with
  | nil => simp
  | cons x ns ih =>
    rw [List.map_cons, List.sum_cons, List.length_cons, Nat.mul_succ]
    have := h x List.mem_cons_self
    have := ih fun s hs => h s (List.mem_cons_of_mem _ hs)
    omega
section
variable {P : D → Prop} {n : TyN} {ns : List TyN} {i : Int} {s t : List Nat} {l : List D} {c : Bool} {k : Nat}
theorem o_isiI : oIsi n (.int i) P = P (.bl (isT n (.int i))) := propext Iff.rfl
theorem o_isiS : oIsi n (.str s) P = P (.bl (isT n (.str s))) := propext Iff.rfl
theorem o_isiT : oIsi n (.tup l) P = P (.bl (isT n (.tup l))) := propext Iff.rfl
theorem o_isiL : oIsi n (.lst l) P = P (.bl (isT n (.lst l))) := propext Iff.rfl
theorem o_isiB : oIsi n (.bl c) P = P (.bl (isT n (.bl c))) := propext Iff.rfl
theorem o_isiN : oIsi n .non P = P (.bl (isT n .non)) := propext Iff.rfl
theorem o_isi2I : oIsi2 ns (.int i) P = P (.bl (ns.any fun n => isT n (.int i))) := propext Iff.rfl
theorem o_isi2S : oIsi2 ns (.str s) P = P (.bl (ns.any fun n => isT n (.str s))) := propext Iff.rfl
theorem o_isi2T : oIsi2 ns (.tup l) P = P (.bl (ns.any fun n => isT n (.tup l))) := propext Iff.rfl
theorem o_isi2L : oIsi2 ns (.lst l) P = P (.bl (ns.any fun n => isT n (.lst l))) := propext Iff.rfl
theorem o_isi2B : oIsi2 ns (.bl c) P = P (.bl (ns.any fun n => isT n (.bl c))) := propext Iff.rfl
theorem o_isi2N : oIsi2 ns .non P = P (.bl (ns.any fun n => isT n .non)) := propext Iff.rfl
theorem inS_one : inS [k] s = decide (k ∈ s) := StrLaws.found_one (txt s) k
theorem o_inS1 : oIn (.str [k]) (.str s) P = P (.bl (decide (k ∈ s))) := by
  show P (.bl (false ^^ inS [k] s)) = _
  rw [Bool.false_xor, inS_one]
theorem o_inT {x : D} : oIn x (.tup l) P = (flatD x = true ∧ l.all flatD = true ∧ P (.bl (l.any fun d => eqv d x))) := by
  have : oIn x (.tup l) P = (flatD x = true ∧ l.all flatD = true ∧ P (.bl (false ^^ l.any fun d => eqv d x))) := by cases x <;> rfl
  rw [this, Bool.false_xor]
theorem o_ninT {x : D} : oNotIn x (.tup l) P = (flatD x = true ∧ l.all flatD = true ∧ P (.bl (!l.any fun d => eqv d x))) := by
  have : oNotIn x (.tup l) P = (flatD x = true ∧ l.all flatD = true ∧ P (.bl (true ^^ l.any fun d => eqv d x))) := by cases x <;> rfl
  rw [this, Bool.true_xor]
theorem o_intT : oIntT [.str s] P = (s.length ≤ 640 ∧ bnd (PySem.intText? (txt s)) fun n => P (.int n)) := propext Iff.rfl
theorem o_split {Q : List D → Prop} : oSplit s (.str [k]) Q = (s.length + 2 ≤ 16777216 ∧ Q ((splitN k s).map .str)) := propext Iff.rfl
end
theorem e_chain {op op' : O2} {a b c : ED} {R : ER} {ρ : Rho} {m : Mu} {P : SV → Mu → Prop} : dChain op op' a b c R ρ m P = a R ρ m fun x m1 => b R ρ m1 fun y m2 => bnd (view m2 x) fun dx => bnd (view m2 y) fun dy => op dx dy fun z => match z with
  | .bl true => c R ρ m2 fun w m3 => bnd (view m3 y) fun dy => bnd (view m3 w) fun dw => op' dy dw fun z => P (.d z) m3
  | .bl false => P (.d (.bl false)) m2
  | _ => False := propext Iff.rfl
theorem lc_true {b : BD} {t : TD} {e : ED} {ρ : Rho} {m : Mu} {P : List D → Mu → Prop} {l : List D}
    (h : ∀ d ∈ l, ∀ (Q : SV → Mu → Prop) (Q' : Mu → Prop), Q (.d (.bl true)) m → b (.d d) ρ m fun ρ1 => t noR ρ1 m fun c m1 => if c = true then e noR ρ1 m1 Q else Q' m1)
    (hl : l.length ≤ 16777216) (hP : P (List.replicate l.length (.bl true)) m) : lcGo (fun _ => True) b t e ρ P l [] m := by
  refine lc_pure (f := fun _ => some (.bl true)) trivial l [] (fun d hd Q Q' q => h d hd Q Q' q) (by rw [List.length_nil]; omega) ?_
  have e : l.filterMap (fun _ => some (D.bl true)) = List.replicate l.length (.bl true) := by
    rw [List.filterMap_eq_map', List.map_const']
  rw [e]
  exact hP
theorem allBl_rep : ∀ n : Nat, allBl (List.replicate n (.bl true)) = some (List.replicate n true)
  | 0 => rfl
  | n + 1 => by
    rw [List.replicate_succ]
    show (allBl (List.replicate n (.bl true))).map (true :: ·) = _
    rw [allBl_rep n]
    rfl
theorem all_rep (n : Nat) : (List.replicate n true).all id = true := by
  rw [List.all_eq_true]
  intro x hx
  exact (List.mem_replicate.mp hx).2
section
variable {R : ER} {ρ : Rho} {m : Mu} {DD : DEnds} {i : Nat}
theorem e_binF {op : D → D → (List D → Prop) → Prop} {a b : ED} {P : List D → Mu → Prop} : dBinF op a b R ρ m P = a R ρ m fun x m1 => b R ρ m1 fun y m2 => bnd (view m2 x) fun dx => bnd (view m2 y) fun dy => op dx dy fun z => P z m2 := propext Iff.rfl
theorem o_cat {l k : List D} {P : List D → Prop} : oCat (.lst l) (.lst k) P = (l.length + k.length ≤ 16777216 ∧ P (l ++ k)) := propext Iff.rfl
theorem e_dictP {a : ED} {P : List (D × D) → Mu → Prop} : dDictP a R ρ m P = a R ρ m fun x m1 => bnd (view m1 x) fun dx => match dx with
  | .lst l => bnd (asPairs l) fun ps => P (dmerge [] ps) m1
  | _ => False := propext Iff.rfl
theorem e_while {c : TD} {body : SD} : dWhile c body R DD ρ m = ∃ W : Nat → Rho → Mu → Prop, (∃ n, W n ρ m) ∧ ∀ n ρ m, W n ρ m → c R ρ m fun b m1 =>
  if b = true then ∃ N : Rho → Mu → Prop, (∀ ρ' m', N ρ' m' → ∃ n', n' < n ∧ W n' ρ' m') ∧ body R { DD with nx := N, ct := N, bk := DD.nx } ρ m1 else DD.nx ρ m1 := propext Iff.rfl
theorem e_din0 {neg : Bool} {a b : ED} {P : SV → Mu → Prop} : dDIn0 neg a b R ρ m P = a R ρ m fun y m1 => b R ρ m1 fun x m2 => bnd (view m2 y) fun dy => bnd (view m2 x) fun dx => bnd (dKey dy) fun _ => asD dx fun l => P (.d (.bl (neg != (dget l dy).isSome))) m2 := propext Iff.rfl
theorem e_dput {e b a : ED} : dDPut e b a R DD ρ m = e R ρ m fun v m1 => b R ρ m1 fun x m2 => a R ρ m2 fun y m3 => bnd (plain v) fun dv => bnd (view m3 y) fun dy => bnd (dKey dy) fun _ => asO m3 x fun i o => asM o fun l => l.length < 16777216 ∧ DD.nx ρ (m3.set i (.dic (dput l dy dv))) := propext Iff.rfl
theorem o_sortD {l : List (D × D)} {P : List D → Prop} : oSortD [.dic l] P = bnd (allStr (l.map (·.1))) fun ns => ns.length < 64 ∧ P ((srt ns).map .str) := propext Iff.rfl
theorem e_key {s : List Nat} {k : Key → Prop} : bnd (dKey (.str s)) k = k (.inr (txt s)) := propext Iff.rfl
theorem e_asD {l : List (D × D)} {P : List (D × D) → Prop} : asD (.dic l) P = P l := propext Iff.rfl
theorem e_asM {l : List (D × D)} {P : List (D × D) → Prop} : asM (.dic l) P = P l := propext Iff.rfl
theorem e_itO {P : List D → (Mu → Prop) → Prop} : items m (.o i) P = bnd m[i]? fun o => match o with
  | .lst l => P l fun m' => m'[i]? = some (.lst l)
  | _ => False := propext Iff.rfl
theorem v_o1d {o : MO} {l : List (D × D)} {r : Mu} : view (o :: .dic l :: r) (.o 1) = some (.dic l) := rfl
end
/-- texts as keys, all True -/
def mkT (ks : List (List Nat)) : List (D × D) := ks.map fun w => (.str w, .bl true)
theorem mkT_keys (ks : List (List Nat)) : (mkT ks).map (·.1) = ks.map .str := by
  unfold mkT
  rw [List.map_map]
  rfl
theorem mkT_any (ks : List (List Nat)) (w : List Nat) : ((mkT ks).any fun p => keq p.1 (.str w)) = decide (w ∈ ks) := by
  rw [Bool.eq_iff_iff, List.any_eq_true, decide_eq_true_eq]
  unfold mkT
  constructor
  · rintro ⟨p, hp, h⟩
    obtain ⟨u, hu, rfl⟩ := List.mem_map.mp hp
    have : u = w := by
      have h2 : (u == w) = true := h
      exact beq_iff_eq.mp h2
    rw [← this]
    exact hu
  · intro h
    refine ⟨_, List.mem_map.mpr ⟨w, h, rfl⟩, ?_⟩
    show (w == w) = true
    exact beq_self_eq_true w
theorem mkT_get (ks : List (List Nat)) (w : List Nat) : (dget (mkT ks) (.str w)).isSome = decide (w ∈ ks) := by
  rw [← mkT_any]
  unfold dget
  rw [Option.isSome_map, List.isSome_find?]
theorem mkT_put (ks : List (List Nat)) (w : List Nat) : dput (mkT ks) (.str w) (.bl true) = mkT (ded1 ks w) := by
  unfold dput ded1
  rw [mkT_any]
  by_cases h : w ∈ ks
  · rw [decide_eq_true h, if_pos rfl, if_pos h]
    unfold mkT
    rw [List.map_map]
    refine List.map_congr_left fun u hu => ?_
    show (if keq (.str u) (.str w) = true then (D.str u, D.bl true) else (D.str u, D.bl true)) = _
    split <;> rfl
  · rw [decide_eq_false h, if_neg Bool.false_ne_true, if_neg h]
    unfold mkT
    rw [List.map_append]
    rfl
theorem mkT_merge (ks : List (List Nat)) : dmerge [] (mkT ks) = mkT (ded ks) := by
  have key : ∀ (l L : List (List Nat)), dmerge (mkT L) (mkT l) = mkT (l.foldl ded1 L) := by
    intro l
    induction l with
    | nil => intro L; rfl
    | cons x l ih =>
      intro L
      show dmerge (dput (mkT L) (.str x) (.bl true)) (mkT l) = _
      rw [mkT_put, ih]
      rfl
  exact key ks []
theorem mkT_pairs : ∀ ks : List (List Nat), asPairs (ks.map fun w => .tup [.str w, .bl true]) = some (mkT ks)
  | [] => rfl
  | w :: ks => by
    show (dKey (.str w)).bind (fun _ => (asPairs (ks.map fun w => .tup [.str w, .bl true])).map ((D.str w, D.bl true) :: ·)) = _
    rw [mkT_pairs ks]
    rfl
end Dl
end

section
/-! Dl26: how long a repr is; that it can be had. -/
namespace Dl
open PySem PySem.Spec L2
open PyProof.Rows hiding St
mutual
def wtD : D → Nat
  | .non => 5
  | .bl _ => 5
  | .int i => (numT i).length
  | .str s => 10 * s.length + 2
  | .tup l => wtL l + 4
  | .lst l => wtL l + 4
  | .dic _ => 0
  | .scr _ => 0
def wtL : List D → Nat
  | [] => 0
  | d :: l => wtD d + 2 + wtL l
end
mutual
/-- ints below 10 ^ 60 -/
def smD : D → Bool
  | .non => true
  | .bl _ => true
  | .int i => decide (i.natAbs < 10 ^ 60)
  | .str _ => true
  | .tup l => smL l
  | .lst l => smL l
  | .dic _ => false
  | .scr _ => false
def smL : List D → Bool
  | [] => true
  | d :: l => smD d && smL l
end
theorem len_cp (x : Str) : (cp x).length = x.length := by
  show x.cps.toList.length = x.cps.size
  exact Array.length_toList
theorem len_app (a b : Str) : (a ++ b).length = a.length + b.length := by
  rw [← len_cp, cp_app, List.length_append, len_cp, len_cp]
theorem text_le : ∀ (ts : List Str) (k : Nat) (acc : Str), (textFrom k acc ts).length ≤ acc.length + ((ts.map Str.length).sum + 2 * ts.length)
  | [], k, acc => by
    show acc.length ≤ _
    omega
  | t :: r, k, acc => by
    have h := text_le r (k + 1) (acc ++ (if k > 0 then ", " else "" : String) ++ t)
    have e : textFrom k acc (t :: r) = textFrom (k + 1) (acc ++ (if k > 0 then ", " else "" : String) ++ t) r := rfl
    rw [e, List.map_cons, List.sum_cons, List.length_cons]
    rw [len_app, len_app] at h
    have h2 : (Str.ofString (if k > 0 then ", " else "" : String)).length ≤ 2 := by
      split
      · decide +kernel
      · decide +kernel
    omega
theorem listText_le (ts : List Str) : (listText ts).length ≤ (ts.map Str.length).sum + 2 * ts.length + 2 := by
  have h := text_le ts 0 "["
  have h1 : (Str.ofString "[").length = 1 := by decide +kernel
  have h2 : (Str.ofString "]").length = 1 := by decide +kernel
  show (textFrom 0 "[" ts ++ "]").length ≤ _
  rw [len_app]
  omega
theorem tupleText_le (ts : List Str) : (tupleText ts).length ≤ (ts.map Str.length).sum + 2 * ts.length + 4 := by
  have h := StrLaws.join_length_le ", " ts
  have h1 : (Str.ofString "(").length = 1 := by decide +kernel
  have h2 : (Str.ofString ", ").length = 2 := by decide +kernel
  have h3 : (Str.ofString (if ts.length == 1 then ",)" else ")" : String)).length ≤ 2 := by
    split
    · decide +kernel
    · decide +kernel
  unfold tupleText
  rw [len_app, len_app]
  rw [h2] at h
  have e : (ts.map fun x => x.length) = ts.map Str.length := rfl
  rw [e] at h
  omega
mutual
theorem shw_le : ∀ (n : Nat) (d : D), okD n d = true → (toPy d).shown.length ≤ wtD d
  | _, .non, _ => by
    show (Str.ofString "None").length ≤ 5
    decide +kernel
  | _, .bl b, _ => by
    cases b
    · show (Str.ofString "False").length ≤ 5
      decide +kernel
    · show (Str.ofString "True").length ≤ 5
      decide +kernel
  | _, .int i, _ => by
    show (Str.ofString (toString i)).length ≤ (numT i).length
    rw [← len_cp]
    exact Nat.le_refl _
  | _, .str s, h => by
    show (reprText (txt s)).length ≤ 10 * s.length + 2
    have h2 : s.all (· < 1114112) = true := h
    have := StrLaws.reprText_len (txt s) fun c hc => Nat.lt_trans (of_decide_eq_true (List.all_eq_true.mp h2 c hc)) (by decide)
    rw [txt_len] at this
    exact this
  | 0, .tup l, h => by simp [okD] at h
  | n + 1, .tup l, h => by
    have h1 := shw_leL n l (by simpa [okD] using h)
    have h2 := tupleText_le (PyData.shownAll (toPyL l))
    show (tupleText (PyData.shownAll (toPyL l))).length ≤ wtL l + 4
    omega
  | 0, .lst l, h => by simp [okD] at h
  | n + 1, .lst l, h => by
    have h1 := shw_leL n l (by simpa [okD] using h)
    have h2 := listText_le (PyData.shownAll (toPyL l))
    show (listText (PyData.shownAll (toPyL l))).length ≤ wtL l + 4
    omega
  | _, .dic _, h => by simp [okD] at h
  | _, .scr _, h => by simp [okD] at h
theorem shw_leL : ∀ (n : Nat) (l : List D), okL n l = true → ((PyData.shownAll (toPyL l)).map Str.length).sum + 2 * (PyData.shownAll (toPyL l)).length ≤ wtL l
  | _, [], _ => Nat.le_refl _
  | n, d :: l, h => by
    simp only [okL, Bool.and_eq_true] at h
    have h1 := shw_le n d h.1
    have h2 := shw_leL n l h.2
    show (((toPy d).shown :: PyData.shownAll (toPyL l)).map Str.length).sum + 2 * ((toPy d).shown :: PyData.shownAll (toPyL l)).length ≤ wtD d + 2 + wtL l
    rw [List.map_cons, List.sum_cons, List.length_cons]
    omega
end
theorem log_sm {i : Int} (h : i.natAbs < 10 ^ 60) : i.natAbs.log2 < 1920 :=
  log2_lt' (Nat.lt_of_lt_of_le h (show 10 ^ 60 ≤ 2 ^ 200 by decide)) (by decide) |> fun q => Nat.lt_of_lt_of_le q (show 200 ≤ 1920 by decide)
mutual
theorem show_ok : ∀ d : D, smD d = true → (toPy d).showable = true
  | .non, _ => rfl
  | .bl _, _ => rfl
  | .int i, h => by
    show decide (i.natAbs.log2 < 1920) = true
    exact decide_eq_true (log_sm (of_decide_eq_true h))
  | .str s, _ => rfl
  | .tup l, h => show_okL l h
  | .lst l, h => show_okL l h
  | .dic _, h => by simp [smD] at h
  | .scr _, h => by simp [smD] at h
theorem show_okL : ∀ l : List D, smL l = true → PyData.showableAll (toPyL l) = true
  | [], _ => rfl
  | d :: l, h => by
    simp only [smL, Bool.and_eq_true] at h
    show ((toPy d).showable && PyData.showableAll (toPyL l)) = true
    rw [show_ok d h.1, show_okL l h.2]
    rfl
end
theorem numT_len {i : Int} {k : Nat} (hk : 0 < k) (h : i.natAbs < 10 ^ k) : (numT i).length ≤ k + 1 := by
  have := int_text_length_le10 hk h
  show (cp (Str.ofString (toString i))).length ≤ _
  rw [len_cp]
  rw [PySem.ofString_length]
  exact this
/-- repr of a list or a tuple -/
theorem repr_ok {d : D} {P : D → Prop} (hd : (∃ l, d = .lst l) ∨ ∃ l, d = .tup l) (h1 : okD 64 d = true) (h2 : smD d = true) (h3 : wtD d ≤ 16777216) (h : P (.str (shw d))) : oRepr d P := by
  have a : (shw d).length ≤ 16777216 := by
    show (cp (toPy d).shown).length ≤ _
    rw [len_cp]
    exact Nat.le_trans (shw_le 64 d h1) h3
  rcases hd with ⟨l, rfl⟩ | ⟨l, rfl⟩
  · exact ⟨h1, show_ok _ h2, a, h⟩
  · exact ⟨h1, show_ok _ h2, a, h⟩
theorem okL_map {α : Type} {n : Nat} {f : α → D} : ∀ {l : List α}, (∀ x ∈ l, okD n (f x) = true) → okL n (l.map f) = true
  | [], _ => rfl
  | x :: l, h => by
    show (okD n (f x) && okL n (l.map f)) = true
    rw [h x List.mem_cons_self, okL_map fun y hy => h y (List.mem_cons_of_mem _ hy)]
    rfl
theorem smL_map {α : Type} {f : α → D} : ∀ {l : List α}, (∀ x ∈ l, smD (f x) = true) → smL (l.map f) = true
  | [], _ => rfl
  | x :: l, h => by
    show (smD (f x) && smL (l.map f)) = true
    rw [h x List.mem_cons_self, smL_map fun y hy => h y (List.mem_cons_of_mem _ hy)]
    rfl
theorem wtL_map {α : Type} {k : Nat} {f : α → D} : ∀ {l : List α}, (∀ x ∈ l, wtD (f x) ≤ k) → wtL (l.map f) ≤ (k + 2) * l.length
  | [], _ => Nat.zero_le _
  | x :: l, h => by
    show wtD (f x) + 2 + wtL (l.map f) ≤ _
    have h1 := h x List.mem_cons_self
    have h2 := wtL_map (l := l) fun y hy => h y (List.mem_cons_of_mem _ hy)
    rw [List.length_cons, Nat.mul_succ]
    omega
theorem okS {s : List Nat} {n : Nat} (h : ∀ c ∈ s, c < 1114112) : okD n (.str s) = true := by
  have : s.all (· < 1114112) = true := List.all_eq_true.mpr fun c hc => decide_eq_true (h c hc)
  cases n <;> exact this
end Dl
end

section
set_option maxRecDepth 100000
set_option maxHeartbeats 4000000
namespace K28
open PySem PySem.Spec L2 Dl
open PyProof.Rows hiding St
abbrev top (i : Nat) : Stmt := PySem.Challenge.pw_surepieces_k28_texts_of_books_counts_and.main.body.getD i (.Pass ⟨0, 0, 0, 0⟩)
def v_LETTERS : D := .str [97, 98, 99, 100, 101, 102, 103, 104, 105, 106, 107, 108, 109, 110, 111, 112, 113, 114, 115, 116, 117, 118, 119, 120, 121, 122]
def v_LEAST_SIZE : D := .int 2
def v_MOST_SIZE : D := .int 6
def v_SIZES : D := .tup [.str [50], .str [51], .str [52], .str [53], .str [54]]
/-- what stands at the top -/
structure Tp (K : Fr) (mg : Str → Option Value) : Prop where
  n_len : mg "len" = none
  n_int : mg "int" = none
  n_abs : mg "abs" = none
  n_max : mg "max" = none
  n_min : mg "min" = none
  n_str : mg "str" = none
  n_all : mg "all" = none
  n_tuple : mg "tuple" = none
  n_sorted : mg "sorted" = none
  n_set : mg "set" = none
  n_repr : mg "repr" = none
  n_isinstance : mg "isinstance" = none
  n_dict : mg "dict" = none
  n_range : mg "range" = none
  n_enumerate : mg "enumerate" = none
  n_zip : mg "zip" = none
  n_bool : mg "bool" = none
  w_LETTERS : GlV K mg "LETTERS" v_LETTERS
  w_LEAST_SIZE : GlV K mg "LEAST_SIZE" v_LEAST_SIZE
  w_MOST_SIZE : GlV K mg "MOST_SIZE" v_MOST_SIZE
  w_SIZES : GlV K mg "SIZES" v_SIZES
section
variable {P : Program} {w : World} {K : Fr} {mg : Str → Option Value} {base : Heap} {fa : Addr} {fd : FuncData}
/-! ### words_of -/
abbrev s_words_of : Stmt := top 1
theorem sc_words_of : FnScope ["windows"] ["windows"] (defScope s_words_of) := ⟨rfl, rfl, rfl, by decide +kernel, rfl, by decide +kernel, by decide +kernel⟩
def r_words_of : SD := (dRet (dIfE (dTest (dBin oGt (dCB oLn (dCons (dVar 0) dNil)) (dC (.int 0)))) (dSM oJoin (dC (.str [32])) (dVar 0)) (dC (.str [45]))))
def g_words_of : P0 := fun ds P => ds.length = 1 ∧ r_words_of noR (ends0 P) (startR 1 (ds.map SV.d)) []
theorem o_words_of (T : Tp K mg) (hm : mg "words_of" = some (.ref fa)) (F : L2.Fun K "words_of" "words_of" s_words_of fa fd) : Own P w K mg base 1 "words_of" s_words_of ["windows"] (fnP g_words_of) :=
  own_P (N := ["windows"]) hm F (F.binds (ps := ["windows"]) fun _ _ _ _ _ _ us hl => match us, hl with | [_], _ => rfl) sc_words_of (by decide) (fun cdv A outer s H E c => ⟨_, pss_oneD (ps_retD (pd_ifE (pt_cmpD x_gt s_ord (pd_cb call_len s_ln T.n_len boot_len (pa_consD (pd_var 0) pa_nilD)) (pd_int)) (pd_sm PySem.F.slot_str_join PySem.F.type_str_join mt_join s_join (pd_str [32]) (pd_var 0)) (pd_str [45])))⟩) (fun _ _ h => h.1) (fun _ _ h => h.2)
/-! ### show_book -/
abbrev s_show_book : Stmt := top 2
theorem sc_show_book : FnScope ["book", "size", "windows"] ["book"] (defScope s_show_book) := ⟨rfl, rfl, rfl, by decide +kernel, rfl, by decide +kernel, by decide +kernel⟩
def r_show_book : SD := (dSeq (dAsg (dVar 0) (bTup 2 (bsCons (bName 1) (bsCons (bName 2) bsNil))))
  (dRet (dBin oAdd (dJs ((dFmt (dVar 1)) :: ((dC (.str [58, 32])) :: [])) []) (dSM oJoin (dC (.str [32])) (dVar 2)))))
def g_show_book : P0 := fun ds P => ds.length = 1 ∧ r_show_book noR (ends0 P) (startR 3 (ds.map SV.d)) []
theorem o_show_book (T : Tp K mg) (hm : mg "show_book" = some (.ref fa)) (F : L2.Fun K "show_book" "show_book" s_show_book fa fd) : Own P w K mg base 1 "show_book" s_show_book ["book"] (fnP g_show_book) :=
  own_P (N := ["book", "size", "windows"]) hm F (F.binds (ps := ["book"]) fun _ _ _ _ _ _ us hl => match us, hl with | [_], _ => rfl) sc_show_book (by decide) (fun cdv A outer s H E c => ⟨_, pss_consD (ps_asgD (pd_var 0) (pb_tup c (n := 2) (pbs_cons (pb_name c 1) (pbs_cons (pb_name c 2) pbs_nil))))
      (pss_oneD (ps_retD (pd_op x_add s_add (pd_joined (pdj_cons (pd_fmt (pd_var 1)) (pdj_cons (pd_str [58, 32]) pdj_nil))) (pd_sm PySem.F.slot_str_join PySem.F.type_str_join mt_join s_join (pd_str [32]) (pd_var 2)))))⟩) (fun _ _ h => h.1) (fun _ _ h => h.2)
/-! ### show_counts -/
abbrev s_show_counts : Stmt := top 3
theorem sc_show_counts : FnScope ["book", "counts", "window", "count"] ["book", "counts"] (defScope s_show_counts) := ⟨rfl, rfl, rfl, by decide +kernel, rfl, by decide +kernel, by decide +kernel⟩
def r_show_counts : SD := (dRet (dCall (fnP g_words_of) (dCons (dZ (dLc (dZip (dBin oIx (dVar 0) (dC (.int 1))) (dVar 1)) (bTup 2 (bsCons (bName 2) (bsCons (bName 3) bsNil))) (dTest (dBin oGt (dVar 3) (dC (.int 0)))) (dJs ((dFmt (dVar 2)) :: ((dC (.str [61])) :: ((dFmt (dVar 3)) :: []))) []) [2, 3])) dNil)))
def g_show_counts : P0 := fun ds P => ds.length = 2 ∧ r_show_counts noR (ends0 P) (startR 4 (ds.map SV.d)) []
theorem o_show_counts (T : Tp K mg) (o_words_of : Own P w K mg base 1 "words_of" s_words_of ["windows"] (fnP g_words_of)) (hm : mg "show_counts" = some (.ref fa)) (F : L2.Fun K "show_counts" "show_counts" s_show_counts fa fd) : Own P w K mg base 2 "show_counts" s_show_counts ["book", "counts"] (fnP g_show_counts) :=
  own_P (N := ["book", "counts", "window", "count"]) hm F (F.binds (ps := ["book", "counts"]) fun _ _ _ _ _ _ us hl => match us, hl with | [_, _], _ => rfl) sc_show_counts (by decide) (fun cdv A outer s H E c => ⟨_, pss_oneD (ps_retD (pd_own (o_words_of.up (by decide)) c (pa_consD (PDF.z (pf_lc c [("window", 2), ("count", 3)] [2, 3] (pi_zipD T.n_zip (pd_ix (pd_var 0) (pd_int)) (pd_var 1)) (blkK ["book", "counts", "window", "count"] (defScope s_show_counts) (by decide +kernel)) (by decide) (fun _ _ _ _ _ => ⟨_, (pb_tup c.blk (n := 2) (pbs_cons (pb_name c.blk 2) (pbs_cons (pb_name c.blk 3) pbs_nil)))⟩) (fun _ _ _ _ _ => ⟨_, (pts_oneD (pt_cmpD x_gt s_ord (pd_var 3) (pd_int)))⟩) (fun _ _ _ _ _ => ⟨_, (pd_joined (pdj_cons (pd_fmt (pd_var 2)) (pdj_cons (pd_str [61]) (pdj_cons (pd_fmt (pd_var 3)) pdj_nil))))⟩))) pa_nilD)))⟩) (fun _ _ h => h.1) (fun _ _ h => h.2)
/-! ### show_paper -/
abbrev s_show_paper : Stmt := top 4
theorem sc_show_paper : FnScope ["value", "lot"] ["value"] (defScope s_show_paper) := ⟨rfl, rfl, rfl, by decide +kernel, rfl, by decide +kernel, by decide +kernel⟩
def r_show_paper : SD := (dRet (dSM oJoin (dC (.str [32, 59, 32])) (dZ (dLc (dSeqI (dVar 0)) (bName 1) dYes (dCall (fnP g_words_of) (dCons (dVar 1) dNil)) [1]))))
def g_show_paper : P0 := fun ds P => ds.length = 1 ∧ r_show_paper noR (ends0 P) (startR 2 (ds.map SV.d)) []
theorem o_show_paper (T : Tp K mg) (o_words_of : Own P w K mg base 1 "words_of" s_words_of ["windows"] (fnP g_words_of)) (hm : mg "show_paper" = some (.ref fa)) (F : L2.Fun K "show_paper" "show_paper" s_show_paper fa fd) : Own P w K mg base 2 "show_paper" s_show_paper ["value"] (fnP g_show_paper) :=
  own_P (N := ["value", "lot"]) hm F (F.binds (ps := ["value"]) fun _ _ _ _ _ _ us hl => match us, hl with | [_], _ => rfl) sc_show_paper (by decide) (fun cdv A outer s H E c => ⟨_, pss_oneD (ps_retD (pd_sm PySem.F.slot_str_join PySem.F.type_str_join mt_join s_join (pd_str [32, 59, 32]) (PDF.z (pf_lc c [("lot", 1)] [1] (pi_seqD (pd_var 0)) (blkK ["value", "lot"] (defScope s_show_paper) (by decide +kernel)) (by decide) (fun _ _ _ _ _ => ⟨_, (pb_name c.blk 1)⟩) (fun _ _ _ _ _ => ⟨_, pts_nilD⟩) (fun _ _ _ _ _ => ⟨_, (pd_own (o_words_of.up (by decide)) c.blk (pa_consD (pd_var 1) pa_nilD))⟩)))))⟩) (fun _ _ h => h.1) (fun _ _ h => h.2)
/-! ### is_integer -/
abbrev s_is_integer : Stmt := top 12
theorem sc_is_integer : FnScope ["value"] ["value"] (defScope s_is_integer) := ⟨rfl, rfl, rfl, by decide +kernel, rfl, by decide +kernel, by decide +kernel⟩
def r_is_integer : SD := (dRet (dAndV (dUn (oIsi .int) (dVar 0)) (dNotV (dUn (oIsi .bool) (dVar 0)))))
def g_is_integer : P0 := fun ds P => ds.length = 1 ∧ r_is_integer noR (ends0 P) (startR 1 (ds.map SV.d)) []
theorem o_is_integer (T : Tp K mg) (hm : mg "is_integer" = some (.ref fa)) (F : L2.Fun K "is_integer" "is_integer" s_is_integer fa fd) : Own P w K mg base 1 "is_integer" s_is_integer ["value"] (fnP g_is_integer) :=
  own_P (N := ["value"]) hm F (F.binds (ps := ["value"]) fun _ _ _ _ _ _ us hl => match us, hl with | [_], _ => rfl) sc_is_integer (by decide) (fun cdv A outer s H E c => ⟨_, pss_oneD (ps_retD (pd_and (pd_isi .int T.n_isinstance T.n_int (pd_var 0)) (pd_and1 (pd_not (pd_isi .bool T.n_isinstance T.n_bool (pd_var 0))))))⟩) (fun _ _ h => h.1) (fun _ _ h => h.2)
/-! ### are_ascending -/
abbrev s_are_ascending : Stmt := top 14
theorem sc_are_ascending : FnScope ["values", "at"] ["values"] (defScope s_are_ascending) := ⟨rfl, rfl, rfl, by decide +kernel, rfl, by decide +kernel, by decide +kernel⟩
def r_are_ascending : SD := (dRet (dCB (on1 oAll) (dCons (dZ (dLc (dRng1 (dBin oSub (dCB oLn (dCons (dVar 0) dNil)) (dC (.int 1)))) (bName 1) dYes (dBin oLt (dBin oIx (dVar 0) (dVar 1)) (dBin oIx (dVar 0) (dBin oAdd (dVar 1) (dC (.int 1))))) [1])) dNil)))
def g_are_ascending : P0 := fun ds P => ds.length = 1 ∧ r_are_ascending noR (ends0 P) (startR 2 (ds.map SV.d)) []
theorem o_are_ascending (T : Tp K mg) (hm : mg "are_ascending" = some (.ref fa)) (F : L2.Fun K "are_ascending" "are_ascending" s_are_ascending fa fd) : Own P w K mg base 1 "are_ascending" s_are_ascending ["values"] (fnP g_are_ascending) :=
  own_P (N := ["values", "at"]) hm F (F.binds (ps := ["values"]) fun _ _ _ _ _ _ us hl => match us, hl with | [_], _ => rfl) sc_are_ascending (by decide) (fun cdv A outer s H E c => ⟨_, pss_oneD (ps_retD (pd_cb (cr_all c.calm) s_all T.n_all boot_all (pa_consD (PDF.z (pf_lc c [("at", 1)] [1] (pi_rng1D T.n_range (pd_op op_sub s_int0 (pd_cb call_len s_ln T.n_len boot_len (pa_consD (pd_var 0) pa_nilD)) (pd_int))) (blkK ["values", "at"] (defScope s_are_ascending) (by decide +kernel)) (by decide) (fun _ _ _ _ _ => ⟨_, (pb_name c.blk 1)⟩) (fun _ _ _ _ _ => ⟨_, pts_nilD⟩) (fun _ _ _ _ _ => ⟨_, (pd_cmp x_lt s_ord (pd_ix (pd_var 0) (pd_var 1)) (pd_ix (pd_var 0) (pd_op x_add s_add (pd_var 1) (pd_int))))⟩))) pa_nilD)))⟩) (fun _ _ h => h.1) (fun _ _ h => h.2)
/-! ### is_word -/
abbrev s_is_word : Stmt := top 15
theorem sc_is_word : FnScope ["value", "sign"] ["value"] (defScope s_is_word) := ⟨rfl, rfl, rfl, by decide +kernel, rfl, by decide +kernel, by decide +kernel⟩
def r_is_word : SD := (dRet (dAndV (dUn (oIsi .str) (dVar 0)) (dCB (on1 oAll) (dCons (dZ (dLc (dSeqI (dVar 0)) (bName 1) dYes (dBin oIn (dVar 1) (dC v_LETTERS)) [1])) dNil))))
def g_is_word : P0 := fun ds P => ds.length = 1 ∧ r_is_word noR (ends0 P) (startR 2 (ds.map SV.d)) []
theorem o_is_word (T : Tp K mg) (hm : mg "is_word" = some (.ref fa)) (F : L2.Fun K "is_word" "is_word" s_is_word fa fd) : Own P w K mg base 1 "is_word" s_is_word ["value"] (fnP g_is_word) :=
  own_P (N := ["value", "sign"]) hm F (F.binds (ps := ["value"]) fun _ _ _ _ _ _ us hl => match us, hl with | [_], _ => rfl) sc_is_word (by decide) (fun cdv A outer s H E c => ⟨_, pss_oneD (ps_retD (pd_and (pd_isi .str T.n_isinstance T.n_str (pd_var 0)) (pd_and1 (pd_cb (cr_all c.calm) s_all T.n_all boot_all (pa_consD (PDF.z (pf_lc c [("sign", 1)] [1] (pi_seqD (pd_var 0)) (blkK ["value", "sign"] (defScope s_is_word) (by decide +kernel)) (by decide) (fun _ _ _ _ _ => ⟨_, (pb_name c.blk 1)⟩) (fun _ _ _ _ _ => ⟨_, pts_nilD⟩) (fun _ _ _ _ _ => ⟨_, (pd_cmp (x_in c.blk.room) s_in (pd_var 1) (pd_gl T.w_LETTERS))⟩))) pa_nilD)))))⟩) (fun _ _ h => h.1) (fun _ _ h => h.2)
/-! ### is_size -/
abbrev s_is_size : Stmt := top 16
theorem sc_is_size : FnScope ["value"] ["value"] (defScope s_is_size) := ⟨rfl, rfl, rfl, by decide +kernel, rfl, by decide +kernel, by decide +kernel⟩
def r_is_size : SD := (dRet (dAndV (dCall (fnP g_is_integer) (dCons (dVar 0) dNil)) (dChain oLe oLe (dC v_LEAST_SIZE) (dVar 0) (dC v_MOST_SIZE))))
def g_is_size : P0 := fun ds P => ds.length = 1 ∧ r_is_size noR (ends0 P) (startR 1 (ds.map SV.d)) []
theorem o_is_size (T : Tp K mg) (o_is_integer : Own P w K mg base 1 "is_integer" s_is_integer ["value"] (fnP g_is_integer)) (hm : mg "is_size" = some (.ref fa)) (F : L2.Fun K "is_size" "is_size" s_is_size fa fd) : Own P w K mg base 2 "is_size" s_is_size ["value"] (fnP g_is_size) :=
  own_P (N := ["value"]) hm F (F.binds (ps := ["value"]) fun _ _ _ _ _ _ us hl => match us, hl with | [_], _ => rfl) sc_is_size (by decide) (fun cdv A outer s H E c => ⟨_, pss_oneD (ps_retD (pd_and (pd_own (o_is_integer.up (by decide)) c (pa_consD (pd_var 0) pa_nilD)) (pd_and1 (pd_chain x_le x_le s_ord s_ord (pd_gl T.w_LEAST_SIZE) (pd_var 0) (pd_gl T.w_MOST_SIZE)))))⟩) (fun _ _ h => h.1) (fun _ _ h => h.2)
/-! ### are_windows -/
abbrev s_are_windows : Stmt := top 17
theorem sc_are_windows : FnScope ["size", "value", "window"] ["size", "value"] (defScope s_are_windows) := ⟨rfl, rfl, rfl, by decide +kernel, rfl, by decide +kernel, by decide +kernel⟩
def r_are_windows : SD := (dSeq (dIf (dOr (dNot (dTest (dUn (oIsi .tuple) (dVar 1)))) (dNot (dTest (dCB (on1 oAll) (dCons (dZ (dLc (dSeqI (dVar 1)) (bName 2) dYes (dAndV (dCall (fnP g_is_word) (dCons (dVar 2) dNil)) (dBin oEq (dCB oLn (dCons (dVar 2) dNil)) (dVar 0))) [2])) dNil))))) (dRet (dC (.bl false))) dNext)
  (dRet (dCall (fnP g_are_ascending) (dCons (dVar 1) dNil))))
def g_are_windows : P0 := fun ds P => ds.length = 2 ∧ r_are_windows noR (ends0 P) (startR 3 (ds.map SV.d)) []
theorem o_are_windows (T : Tp K mg) (o_are_ascending : Own P w K mg base 1 "are_ascending" s_are_ascending ["values"] (fnP g_are_ascending)) (o_is_word : Own P w K mg base 1 "is_word" s_is_word ["value"] (fnP g_is_word)) (hm : mg "are_windows" = some (.ref fa)) (F : L2.Fun K "are_windows" "are_windows" s_are_windows fa fd) : Own P w K mg base 2 "are_windows" s_are_windows ["size", "value"] (fnP g_are_windows) :=
  own_P (N := ["size", "value", "window"]) hm F (F.binds (ps := ["size", "value"]) fun _ _ _ _ _ _ us hl => match us, hl with | [_, _], _ => rfl) sc_are_windows (by decide) (fun cdv A outer s H E c => ⟨_, pss_consD (ps_ifD (PDW.t (pw_orD (pt_notD (pt_valD (pd_isi .tuple T.n_isinstance T.n_tuple (pd_var 1)))) (pw_or1D (pt_notD (pt_valD (pd_cb (cr_all c.calm) s_all T.n_all boot_all (pa_consD (PDF.z (pf_lc c [("window", 2)] [2] (pi_seqD (pd_var 1)) (blkK ["size", "value", "window"] (defScope s_are_windows) (by decide +kernel)) (by decide) (fun _ _ _ _ _ => ⟨_, (pb_name c.blk 2)⟩) (fun _ _ _ _ _ => ⟨_, pts_nilD⟩) (fun _ _ _ _ _ => ⟨_, (pd_and (pd_own (o_is_word.up (by decide)) c.blk (pa_consD (pd_var 2) pa_nilD)) (pd_and1 (pd_cmp (x_eq c.blk.room) s_eq (pd_cb call_len s_ln T.n_len boot_len (pa_consD (pd_var 2) pa_nilD)) (pd_var 0))))⟩))) pa_nilD))))))) (pss_oneD (ps_retD (pd_bl))) (pss_nilD))
      (pss_oneD (ps_retD (pd_own (o_are_ascending.up (by decide)) c (pa_consD (pd_var 1) pa_nilD))))⟩) (fun _ _ h => h.1) (fun _ _ h => h.2)
/-! ### is_a_book -/
abbrev s_is_a_book : Stmt := top 18
theorem sc_is_a_book : FnScope ["value"] ["value"] (defScope s_is_a_book) := ⟨rfl, rfl, rfl, by decide +kernel, rfl, by decide +kernel, by decide +kernel⟩
def r_is_a_book : SD := (dSeq (dIf (dOr (dNot (dTest (dUn (oIsi .tuple) (dVar 0)))) (dOr (dTest (dBin oNe (dCB oLn (dCons (dVar 0) dNil)) (dC (.int 2)))) (dNot (dTruth (dCall (fnP g_is_size) (dCons (dBin oIx (dVar 0) (dC (.int 0))) dNil)))))) (dRet (dC (.bl false))) dNext)
  (dRet (dAndV (dCall (fnP g_are_windows) (dCons (dBin oIx (dVar 0) (dC (.int 0))) (dCons (dBin oIx (dVar 0) (dC (.int 1))) dNil))) (dBin oGt (dCB oLn (dCons (dBin oIx (dVar 0) (dC (.int 1))) dNil)) (dC (.int 0))))))
def g_is_a_book : P0 := fun ds P => ds.length = 1 ∧ r_is_a_book noR (ends0 P) (startR 1 (ds.map SV.d)) []
theorem o_is_a_book (T : Tp K mg) (o_are_windows : Own P w K mg base 2 "are_windows" s_are_windows ["size", "value"] (fnP g_are_windows)) (o_is_size : Own P w K mg base 2 "is_size" s_is_size ["value"] (fnP g_is_size)) (hm : mg "is_a_book" = some (.ref fa)) (F : L2.Fun K "is_a_book" "is_a_book" s_is_a_book fa fd) : Own P w K mg base 3 "is_a_book" s_is_a_book ["value"] (fnP g_is_a_book) :=
  own_P (N := ["value"]) hm F (F.binds (ps := ["value"]) fun _ _ _ _ _ _ us hl => match us, hl with | [_], _ => rfl) sc_is_a_book (by decide) (fun cdv A outer s H E c => ⟨_, pss_consD (ps_ifD (PDW.t (pw_orD (pt_notD (pt_valD (pd_isi .tuple T.n_isinstance T.n_tuple (pd_var 0)))) (pw_orD (pt_cmpD (x_ne c.room) s_ne (pd_cb call_len s_ln T.n_len boot_len (pa_consD (pd_var 0) pa_nilD)) (pd_int)) (pw_or1D (pt_notD (pt_truthD (pd_own (o_is_size.up (by decide)) c (pa_consD (pd_ix (pd_var 0) (pd_int)) pa_nilD)))))))) (pss_oneD (ps_retD (pd_bl))) (pss_nilD))
      (pss_oneD (ps_retD (pd_and (pd_own (o_are_windows.up (by decide)) c (pa_consD (pd_ix (pd_var 0) (pd_int)) (pa_consD (pd_ix (pd_var 0) (pd_int)) pa_nilD))) (pd_and1 (pd_cmp x_gt s_ord (pd_cb call_len s_ln T.n_len boot_len (pa_consD (pd_ix (pd_var 0) (pd_int)) pa_nilD)) (pd_int))))))⟩) (fun _ _ h => h.1) (fun _ _ h => h.2)
/-! ### book_in -/
abbrev s_book_in : Stmt := top 21
theorem sc_book_in : FnScope ["text", "size", "sign", "words", "book"] ["text"] (defScope s_book_in) := ⟨rfl, rfl, rfl, by decide +kernel, rfl, by decide +kernel, by decide +kernel⟩
def r_book_in : SD := (dSeq (dAsg (dSM oPart (dVar 0) (dC (.str [58, 32]))) (bTup 3 (bsCons (bName 1) (bsCons (bName 2) (bsCons (bName 3) bsNil)))))
  (dSeq (dIf (dTest (dBin oNotIn (dVar 1) (dC v_SIZES))) (dRet (dC .non)) dNext)
  (dSeq (dAsg (dTup (dCons (dCB oIntT (dCons (dVar 1) dNil)) (dCons (dCB (on1 oTupOf) (dCons (dZ (dSMF oSplit (dVar 3) (dC (.str [32])))) dNil)) dNil))) (bName 4))
  (dRet (dIfE (dTruth (dCall (fnP g_is_a_book) (dCons (dVar 4) dNil))) (dVar 4) (dC .non))))))
def g_book_in : P0 := fun ds P => ds.length = 1 ∧ r_book_in noR (ends0 P) (startR 5 (ds.map SV.d)) []
theorem o_book_in (T : Tp K mg) (o_is_a_book : Own P w K mg base 3 "is_a_book" s_is_a_book ["value"] (fnP g_is_a_book)) (hm : mg "book_in" = some (.ref fa)) (F : L2.Fun K "book_in" "book_in" s_book_in fa fd) : Own P w K mg base 4 "book_in" s_book_in ["text"] (fnP g_book_in) :=
  own_P (N := ["text", "size", "sign", "words", "book"]) hm F (F.binds (ps := ["text"]) fun _ _ _ _ _ _ us hl => match us, hl with | [_], _ => rfl) sc_book_in (by decide) (fun cdv A outer s H E c => ⟨_, pss_consD (ps_asgD (pd_sm PySem.F.slot_str_partition PySem.F.type_str_partition mt_partition s_part (pd_var 0) (pd_str [58, 32])) (pb_tup c (n := 3) (pbs_cons (pb_name c 1) (pbs_cons (pb_name c 2) (pbs_cons (pb_name c 3) pbs_nil)))))
      (pss_consD (ps_ifD (pt_cmpD (x_notin c.room) s_notin (pd_var 1) (pd_gl T.w_SIZES)) (pss_oneD (ps_retD (pd_non))) (pss_nilD))
      (pss_consD (ps_setD c 4 (pd_tup (pa_consD (pd_ct call_int_str s_intT T.n_int boot_int (pa_consD (pd_var 1) pa_nilD)) (pa_consD (pd_ct call_tuple_of s_tupOf T.n_tuple boot_tuple (pa_consD (PDF.z (pf_sm PySem.F.slot_str_split PySem.F.type_str_split mt_split s_split (pd_var 3) (pd_str [32]))) pa_nilD)) pa_nilD))))
      (pss_oneD (ps_retD (pd_ifE (pt_truthD (pd_own (o_is_a_book.up (by decide)) c (pa_consD (pd_var 4) pa_nilD))) (pd_var 4) (pd_non))))))⟩) (fun _ _ h => h.1) (fun _ _ h => h.2)
/-! ### read_book -/
abbrev s_read_book : Stmt := top 22
theorem sc_read_book : FnScope ["text", "book"] ["text"] (defScope s_read_book) := ⟨rfl, rfl, rfl, by decide +kernel, rfl, by decide +kernel, by decide +kernel⟩
def r_read_book : SD := (dSeq (dAsg (dIfE (dTest (dUn (oIsi .str) (dVar 0))) (dCall (fnP g_book_in) (dCons (dVar 0) dNil)) (dC .non)) (bName 1))
  (dSeq (dIf (dTest (dBin oIs (dVar 1) (dC .non))) dNever dNext)
  (dRet (dVar 1))))
def g_read_book : P0 := fun ds P => ds.length = 1 ∧ r_read_book noR (ends0 P) (startR 2 (ds.map SV.d)) []
theorem o_read_book (T : Tp K mg) (o_book_in : Own P w K mg base 4 "book_in" s_book_in ["text"] (fnP g_book_in)) (hm : mg "read_book" = some (.ref fa)) (F : L2.Fun K "read_book" "read_book" s_read_book fa fd) : Own P w K mg base 5 "read_book" s_read_book ["text"] (fnP g_read_book) :=
  own_P (N := ["text", "book"]) hm F (F.binds (ps := ["text"]) fun _ _ _ _ _ _ us hl => match us, hl with | [_], _ => rfl) sc_read_book (by decide) (fun cdv A outer s H E c => ⟨_, pss_consD (ps_setD c 1 (pd_ifE (pt_valD (pd_isi .str T.n_isinstance T.n_str (pd_var 0))) (pd_own (o_book_in.up (by decide)) c (pa_consD (pd_var 0) pa_nilD)) (pd_non)))
      (pss_consD (ps_ifD (pt_cmpD op_isN s_is (pd_var 1) (pd_non)) (pss_neverD) (pss_nilD))
      (pss_oneD (ps_retD (pd_var 1))))⟩) (fun _ _ h => h.1) (fun _ _ h => h.2)
/-! ### _law_pail -/
abbrev s__law_pail : Stmt := top 24
theorem sc__law_pail : FnScope ["script", "k", "cell", "total", "at", "other", "stir"] ["script", "k"] (defScope s__law_pail) := ⟨rfl, rfl, rfl, by decide +kernel, rfl, by decide +kernel, by decide +kernel⟩
def r__law_pail : SD := (dSeq (dPar 2 3 (dBin oAdd (dBin oMul (dC (.int 211)) (dVar 1)) (dC (.int 47))) (dC (.int 0)))
  (dSeq (dFor (dEnum (dVar 0)) (bTup 2 (bsCons (bName 4) (bsCons (bName 5) bsNil))) (dAsg (dBin oAdd (dVar 3) (dBin oMul (dBin oAdd (dBin oMul (dC (.int 5)) (dVar 4)) (dC (.int 2))) (dBin oMod (dCB (on1 oInt1) (dCons (dVar 5) dNil)) (dBin oAdd (dBin oPow (dC (.int 10)) (dC (.int 27))) (dC (.int 103)))))) (bName 3)))
  (dSeq (dIf (dTest (dBin oLt (dVar 1) (dCB oLn (dCons (dVar 0) dNil)))) (dAsg (dBin oIx (dVar 0) (dVar 1)) (bName 2)) dNext)
  (dSeq (dAsg (dBin oMod (dCB (on1 oInt1) (dCons (dBin oAdd (dBin oAdd (dBin oAdd (dBin oMul (dCB (on1 oAbs) (dCons (dVar 2) dNil)) (dC (.int 7))) (dBin oMul (dC (.int 2)) (dCB (on1 oInt1) (dCons (dBin oLt (dVar 2) (dC (.int 0))) dNil)))) (dBin oMul (dC (.int 60013)) (dVar 3))) (dBin oMul (dC (.int 31)) (dVar 1))) dNil)) (dBin oAdd (dBin oPow (dC (.int 10)) (dC (.int 35))) (dC (.int 69)))) (bName 6))
  (dRet (dO (dLst (dCons (dCB (on2 oMax2) (dCons (dC (.int 0)) (dCons (dBin oSub (dVar 2) (dBin oPow (dC (.int 10)) (dC (.int 18)))) dNil))) (dCons (dVar 6) (dCons (dC (.int 0)) dNil))))))))))
def g__law_pail : PF := fun ds P => ds.length = 2 ∧ r__law_pail noR (endsF P) (startR 7 (ds.map SV.d)) []
theorem o__law_pail (T : Tp K mg) (hm : mg "_law_pail" = some (.ref fa)) (F : L2.Fun K "_law_pail" "_law_pail" s__law_pail fa fd) : Own P w K mg base 1 "_law_pail" s__law_pail ["script", "k"] (fnF g__law_pail) :=
  own_F (N := ["script", "k", "cell", "total", "at", "other", "stir"]) hm F (F.binds (ps := ["script", "k"]) fun _ _ _ _ _ _ us hl => match us, hl with | [_, _], _ => rfl) sc__law_pail (by decide) (fun cdv A outer s H E c => ⟨_, pss_consD (ps_parD c 2 3 (pd_op x_add s_add (pd_op x_mul s_mul (pd_int) (pd_var 1)) (pd_int)) (pd_int))
      (pss_consD (ps_forD c (pi_enumD T.n_enumerate (pd_var 0)) (pb_tup c (n := 2) (pbs_cons (pb_name c 4) (pbs_cons (pb_name c 5) pbs_nil))) (pss_oneD (ps_setD c 3 (pd_op x_add s_add (pd_var 3) (pd_op x_mul s_mul (pd_op x_add s_add (pd_op x_mul s_mul (pd_int) (pd_var 4)) (pd_int)) (pd_op op_mod s_int (pd_ct call_int1 s_int1 T.n_int boot_int (pa_consD (pd_var 5) pa_nilD)) (pd_op x_add s_add (pd_op x_pow s_int (pd_int) (pd_int)) (pd_int))))))))
      (pss_consD (ps_ifD (pt_cmpD x_lt s_ord (pd_var 1) (pd_cb call_len s_ln T.n_len boot_len (pa_consD (pd_var 0) pa_nilD))) (pss_oneD (ps_setD c 2 (pd_ix (pd_var 0) (pd_var 1)))) (pss_nilD))
      (pss_consD (ps_setD c 6 (pd_op op_mod s_int (pd_ct call_int1 s_int1 T.n_int boot_int (pa_consD (pd_op x_add s_add (pd_op x_add s_add (pd_op x_add s_add (pd_op x_mul s_mul (pd_cb call_abs s_abs T.n_abs boot_abs (pa_consD (pd_var 2) pa_nilD)) (pd_int)) (pd_op x_mul s_mul (pd_int) (pd_ct call_int1 s_int1 T.n_int boot_int (pa_consD (pd_cmp x_lt s_ord (pd_var 2) (pd_int)) pa_nilD)))) (pd_op x_mul s_mul (pd_int) (pd_var 3))) (pd_op x_mul s_mul (pd_int) (pd_var 1))) pa_nilD)) (pd_op x_add s_add (pd_op x_pow s_int (pd_int) (pd_int)) (pd_int))))
      (pss_oneD (ps_retD (PDF.o (pf_lst (pa_consD (pd_cb (call_max2 c.calm) s_2 T.n_max boot_max (pa_consD (pd_int) (pa_consD (pd_op op_sub s_int0 (pd_var 2) (pd_op x_pow s_int (pd_int) (pd_int))) pa_nilD))) (pa_consD (pd_var 6) (pa_consD (pd_int) pa_nilD))))))))))⟩) (fun _ _ h => h.1) (fun _ _ h => h.2)
/-! ### _law_scoop -/
abbrev s__law_scoop : Stmt := top 25
theorem sc__law_scoop : FnScope ["pail", "most", "digit", "stirred"] ["pail", "most"] (defScope s__law_scoop) := ⟨rfl, rfl, rfl, by decide +kernel, rfl, by decide +kernel, by decide +kernel⟩
def r__law_scoop : SD := (dSeq (dIf (dTest (dBin oGt (dBin oIx (dVar 0) (dC (.int 0))) (dC (.int 0)))) (dSeq (dAsg (dBin oMod (dCB (on1 oInt1) (dCons (dBin oIx (dVar 0) (dC (.int 0))) dNil)) (dVar 1)) (bName 2))
  (dSeq (dStL (dBin oDiv (dBin oIx (dVar 0) (dC (.int 0))) (dVar 1)) (dVar 0) (dC (.int 0)))
  (dRet (dVar 2)))) dNext)
  (dSeq (dStL (dBin oAdd (dBin oIx (dVar 0) (dC (.int 2))) (dC (.int 1))) (dVar 0) (dC (.int 2)))
  (dSeq (dAsg (dBin oMod (dCB (on1 oInt1) (dCons (dBin oAdd (dBin oPow (dBin oAdd (dBin oIx (dVar 0) (dC (.int 1))) (dBin oMul (dC (.int 982451653)) (dBin oIx (dVar 0) (dC (.int 2))))) (dC (.int 3))) (dBin oMul (dC (.int 57885161)) (dBin oIx (dVar 0) (dC (.int 2))))) dNil)) (dBin oAdd (dBin oPow (dC (.int 10)) (dC (.int 28))) (dC (.int 331)))) (bName 3))
  (dSeq (dAsg (dBin oMod (dCB (on1 oInt1) (dCons (dBin oAdd (dBin oMul (dVar 3) (dVar 3)) (dBin oMul (dC (.int 32452843)) (dBin oIx (dVar 0) (dC (.int 1))))) dNil)) (dBin oAdd (dBin oPow (dC (.int 10)) (dC (.int 31))) (dC (.int 33)))) (bName 3))
  (dRet (dBin oMod (dCB (on1 oInt1) (dCons (dBin oDiv (dVar 3) (dC (.int 7919))) dNil)) (dVar 1)))))))
def g__law_scoop : P1 := fun o ds P => ds.length + 1 = 2 ∧ r__law_scoop noR (ends1 P) (startR 4 (.o 0 :: ds.map SV.d)) [o]
theorem o__law_scoop (T : Tp K mg) (hm : mg "_law_scoop" = some (.ref fa)) (F : L2.Fun K "_law_scoop" "_law_scoop" s__law_scoop fa fd) : Own P w K mg base 1 "_law_scoop" s__law_scoop ["pail", "most"] (fnQ g__law_scoop) :=
  own_Q (N := ["pail", "most", "digit", "stirred"]) hm F (F.binds (ps := ["pail", "most"]) fun _ _ _ _ _ _ us hl => match us, hl with | [_, _], _ => rfl) sc__law_scoop (by decide) (fun cdv A outer s H E c => ⟨_, pss_consD (ps_ifD (pt_cmpD x_gt s_ord (pd_ix (pd_var 0) (pd_int)) (pd_int)) (pss_consD (ps_setD c 2 (pd_op op_mod s_int (pd_ct call_int1 s_int1 T.n_int boot_int (pa_consD (pd_ix (pd_var 0) (pd_int)) pa_nilD)) (pd_var 1)))
      (pss_consD (ps_stlD (pd_var 0) (pd_int) (pd_op op_fdivW s_int (pd_ix (pd_var 0) (pd_int)) (pd_var 1)))
      (pss_oneD (ps_retD (pd_var 2))))) (pss_nilD))
      (pss_consD (ps_stlD (pd_var 0) (pd_int) (pd_op x_add s_add (pd_ix (pd_var 0) (pd_int)) (pd_int)))
      (pss_consD (ps_setD c 3 (pd_op op_mod s_int (pd_ct call_int1 s_int1 T.n_int boot_int (pa_consD (pd_op x_add s_add (pd_op x_pow s_int (pd_op x_add s_add (pd_ix (pd_var 0) (pd_int)) (pd_op x_mul s_mul (pd_int) (pd_ix (pd_var 0) (pd_int)))) (pd_int)) (pd_op x_mul s_mul (pd_int) (pd_ix (pd_var 0) (pd_int)))) pa_nilD)) (pd_op x_add s_add (pd_op x_pow s_int (pd_int) (pd_int)) (pd_int))))
      (pss_consD (ps_setD c 3 (pd_op op_mod s_int (pd_ct call_int1 s_int1 T.n_int boot_int (pa_consD (pd_op x_add s_add (pd_op x_mul s_mul (pd_var 3) (pd_var 3)) (pd_op x_mul s_mul (pd_int) (pd_ix (pd_var 0) (pd_int)))) pa_nilD)) (pd_op x_add s_add (pd_op x_pow s_int (pd_int) (pd_int)) (pd_int))))
      (pss_oneD (ps_retD (pd_op op_mod s_int (pd_ct call_int1 s_int1 T.n_int boot_int (pa_consD (pd_op op_fdivW s_int (pd_var 3) (pd_int)) pa_nilD)) (pd_var 1)))))))⟩) (fun _ _ _ h => h.1) (fun _ _ _ h => h.2)
/-! ### _law_pick -/
abbrev s__law_pick : Stmt := top 26
theorem sc__law_pick : FnScope ["pail", "things"] ["pail", "things"] (defScope s__law_pick) := ⟨rfl, rfl, rfl, by decide +kernel, rfl, by decide +kernel, by decide +kernel⟩
def r__law_pick : SD := (dRet (dBin oIx (dVar 1) (dCall (fnQ g__law_scoop) (dCons (dVar 0) (dCons (dCB oLn (dCons (dVar 1) dNil)) dNil)))))
def g__law_pick : P1 := fun o ds P => ds.length + 1 = 2 ∧ r__law_pick noR (ends1 P) (startR 2 (.o 0 :: ds.map SV.d)) [o]
theorem o__law_pick (T : Tp K mg) (o__law_scoop : Own P w K mg base 1 "_law_scoop" s__law_scoop ["pail", "most"] (fnQ g__law_scoop)) (hm : mg "_law_pick" = some (.ref fa)) (F : L2.Fun K "_law_pick" "_law_pick" s__law_pick fa fd) : Own P w K mg base 2 "_law_pick" s__law_pick ["pail", "things"] (fnQ g__law_pick) :=
  own_Q (N := ["pail", "things"]) hm F (F.binds (ps := ["pail", "things"]) fun _ _ _ _ _ _ us hl => match us, hl with | [_, _], _ => rfl) sc__law_pick (by decide) (fun cdv A outer s H E c => ⟨_, pss_oneD (ps_retD (pd_ix (pd_var 1) (pd_own (o__law_scoop.up (by decide)) c (pa_consD (pd_var 0) (pa_consD (pd_cb call_len s_ln T.n_len boot_len (pa_consD (pd_var 1) pa_nilD)) pa_nilD)))))⟩) (fun _ _ _ h => h.1) (fun _ _ _ h => h.2)
/-! ### _law_own_windows -/
abbrev s__law_own_windows : Stmt := top 27
theorem sc__law_own_windows : FnScope ["size", "text", "wide", "at"] ["size", "text"] (defScope s__law_own_windows) := ⟨rfl, rfl, rfl, by decide +kernel, rfl, by decide +kernel, by decide +kernel⟩
def r__law_own_windows : SD := (dSeq (dAsg (dBin oMul (dVar 1) (dBin oAdd (dBin oDiv (dVar 0) (dCB oLn (dCons (dVar 1) dNil))) (dC (.int 2)))) (bName 2))
  (dRet (dCB (on1 oTupOf) (dCons (dZ (dSortSet (dZ (dLc (dRng1 (dCB oLn (dCons (dVar 1) dNil))) (bName 3) dYes (dSl (dVar 2) (dPart (dVar 3)) (dPart (dBin oAdd (dVar 3) (dVar 0)))) [3])))) dNil))))
def g__law_own_windows : P0 := fun ds P => ds.length = 2 ∧ r__law_own_windows noR (ends0 P) (startR 4 (ds.map SV.d)) []
theorem o__law_own_windows (T : Tp K mg) (hm : mg "_law_own_windows" = some (.ref fa)) (F : L2.Fun K "_law_own_windows" "_law_own_windows" s__law_own_windows fa fd) : Own P w K mg base 1 "_law_own_windows" s__law_own_windows ["size", "text"] (fnP g__law_own_windows) :=
  own_P (N := ["size", "text", "wide", "at"]) hm F (F.binds (ps := ["size", "text"]) fun _ _ _ _ _ _ us hl => match us, hl with | [_, _], _ => rfl) sc__law_own_windows (by decide) (fun cdv A outer s H E c => ⟨_, pss_consD (ps_setD c 2 (pd_op x_mul s_mul (pd_var 1) (pd_op x_add s_add (pd_op op_fdivW s_int (pd_var 0) (pd_cb call_len s_ln T.n_len boot_len (pa_consD (pd_var 1) pa_nilD))) (pd_int))))
      (pss_oneD (ps_retD (pd_ct call_tuple_of s_tupOf T.n_tuple boot_tuple (pa_consD (PDF.z (pf_sortSet c T.n_sorted T.n_set (PDF.z (pf_lc c [("at", 3)] [3] (pi_rng1D T.n_range (pd_cb call_len s_ln T.n_len boot_len (pa_consD (pd_var 1) pa_nilD))) (blkK ["size", "text", "wide", "at"] (defScope s__law_own_windows) (by decide +kernel)) (by decide) (fun _ _ _ _ _ => ⟨_, (pb_name c.blk 3)⟩) (fun _ _ _ _ _ => ⟨_, pts_nilD⟩) (fun _ _ _ _ _ => ⟨_, (pd_sl (pd_var 2) (po_someD (pd_var 3)) (po_someD (pd_op x_add s_add (pd_var 3) (pd_var 0))))⟩))))) pa_nilD))))⟩) (fun _ _ h => h.1) (fun _ _ h => h.2)
/-! ### _law_loop -/
abbrev s__law_loop : Stmt := top 28
theorem sc__law_loop : FnScope ["pail", "most", "pool", "turn", "words", "letter", "text"] ["pail", "most"] (defScope s__law_loop) := ⟨rfl, rfl, rfl, by decide +kernel, rfl, by decide +kernel, by decide +kernel⟩
def r__law_loop : SD := (dSeq (dAsg (dCall (fnQ g__law_pick) (dCons (dVar 0) (dCons (dZ (dLst (dCons (dC (.str [97, 98])) (dCons (dC (.str [97, 98, 99])) (dCons (dC (.str [97, 98, 99, 100])) (dCons (dC (.str [119, 120, 121])) (dCons (dC (.str [97, 98, 99, 100, 101, 102, 103, 104, 105, 106])) dNil))))))) dNil))) (bName 2))
  (dSeq (dIf (dTest (dBin oEq (dCall (fnQ g__law_scoop) (dCons (dVar 0) (dCons (dC (.int 2)) dNil))) (dC (.int 0)))) (dRet (dSM oJoin (dC (.str [])) (dZ (dLc (dRng1 (dBin oAdd (dC (.int 1)) (dCall (fnQ g__law_scoop) (dCons (dVar 0) (dCons (dVar 1) dNil))))) (bName 3) dYes (dCall (fnQ g__law_pick) (dCons (dVar 0) (dCons (dVar 2) dNil))) [3])))) dNext)
  (dSeq (dAsg (dO (dLst dNil)) (bName 4))
  (dSeq (dGnd 4 (dFor (dRng1 (dBin oAdd (dC (.int 2)) (dCall (fnQ g__law_scoop) (dCons (dVar 0) (dCons (dC (.int 2)) dNil))))) (bName 3) (dDrop (dApp (dVar 4) (dSM oJoin (dC (.str [])) (dZ (dLc (dRng1 (dBin oAdd (dC (.int 1)) (dCall (fnQ g__law_scoop) (dCons (dVar 0) (dCons (dC (.int 4)) dNil))))) (bName 5) dYes (dCall (fnQ g__law_pick) (dCons (dVar 0) (dCons (dVar 2) dNil))) [5])))))))
  (dSeq (dAsg (dSM oJoin (dC (.str [])) (dZ (dLc (dRng1 (dBin oAdd (dC (.int 2)) (dCall (fnQ g__law_scoop) (dCons (dVar 0) (dCons (dC (.int 4)) dNil))))) (bName 3) dYes (dCall (fnQ g__law_pick) (dCons (dVar 0) (dCons (dVar 4) dNil))) [3]))) (bName 6))
  (dRet (dSl (dVar 6) dNoPart (dPart (dVar 1)))))))))
def g__law_loop : P1 := fun o ds P => ds.length + 1 = 2 ∧ r__law_loop noR (ends1 P) (startR 7 (.o 0 :: ds.map SV.d)) [o]
theorem o__law_loop (T : Tp K mg) (o__law_pick : Own P w K mg base 2 "_law_pick" s__law_pick ["pail", "things"] (fnQ g__law_pick)) (o__law_scoop : Own P w K mg base 1 "_law_scoop" s__law_scoop ["pail", "most"] (fnQ g__law_scoop)) (hm : mg "_law_loop" = some (.ref fa)) (F : L2.Fun K "_law_loop" "_law_loop" s__law_loop fa fd) : Own P w K mg base 3 "_law_loop" s__law_loop ["pail", "most"] (fnQ g__law_loop) :=
  own_Q (N := ["pail", "most", "pool", "turn", "words", "letter", "text"]) hm F (F.binds (ps := ["pail", "most"]) fun _ _ _ _ _ _ us hl => match us, hl with | [_, _], _ => rfl) sc__law_loop (by decide) (fun cdv A outer s H E c => ⟨_, pss_consD (ps_setD c 2 (pd_own (o__law_pick.up (by decide)) c (pa_consD (pd_var 0) (pa_consD (PDF.z (pf_lst (pa_consD (pd_str [97, 98]) (pa_consD (pd_str [97, 98, 99]) (pa_consD (pd_str [97, 98, 99, 100]) (pa_consD (pd_str [119, 120, 121]) (pa_consD (pd_str [97, 98, 99, 100, 101, 102, 103, 104, 105, 106]) pa_nilD))))))) pa_nilD))))
      (pss_consD (ps_ifD (pt_cmpD (x_eq c.room) s_eq (pd_own (o__law_scoop.up (by decide)) c (pa_consD (pd_var 0) (pa_consD (pd_int) pa_nilD))) (pd_int)) (pss_oneD (ps_retD (pd_sm PySem.F.slot_str_join PySem.F.type_str_join mt_join s_join (pd_str []) (PDF.z (pf_lc c [("turn", 3)] [3] (pi_rng1D T.n_range (pd_op x_add s_add (pd_int) (pd_own (o__law_scoop.up (by decide)) c (pa_consD (pd_var 0) (pa_consD (pd_var 1) pa_nilD))))) (blkK ["pail", "most", "pool", "turn", "words", "letter", "text"] (defScope s__law_loop) (by decide +kernel)) (by decide) (fun _ _ _ _ _ => ⟨_, (pb_name c.blk 3)⟩) (fun _ _ _ _ _ => ⟨_, pts_nilD⟩) (fun _ _ _ _ _ => ⟨_, (pd_own (o__law_pick.up (by decide)) c.blk (pa_consD (pd_var 0) (pa_consD (pd_var 2) pa_nilD)))⟩)))))) (pss_nilD))
      (pss_consD (ps_setD c 4 (PDF.o (pf_lst pa_nilD)))
      (pss_consD (PDS.gnd 4 (ps_forD c (pi_rng1D T.n_range (pd_op x_add s_add (pd_int) (pd_own (o__law_scoop.up (by decide)) c (pa_consD (pd_var 0) (pa_consD (pd_int) pa_nilD))))) (pb_name c 3) (pss_oneD (ps_exprD (pd_app (pd_var 4) (pd_sm PySem.F.slot_str_join PySem.F.type_str_join mt_join s_join (pd_str []) (PDF.z (pf_lc c [("letter", 5)] [5] (pi_rng1D T.n_range (pd_op x_add s_add (pd_int) (pd_own (o__law_scoop.up (by decide)) c (pa_consD (pd_var 0) (pa_consD (pd_int) pa_nilD))))) (blkK ["pail", "most", "pool", "turn", "words", "letter", "text"] (defScope s__law_loop) (by decide +kernel)) (by decide) (fun _ _ _ _ _ => ⟨_, (pb_name c.blk 5)⟩) (fun _ _ _ _ _ => ⟨_, pts_nilD⟩) (fun _ _ _ _ _ => ⟨_, (pd_own (o__law_pick.up (by decide)) c.blk (pa_consD (pd_var 0) (pa_consD (pd_var 2) pa_nilD)))⟩)))))))))
      (pss_consD (ps_setD c 6 (pd_sm PySem.F.slot_str_join PySem.F.type_str_join mt_join s_join (pd_str []) (PDF.z (pf_lc c [("turn", 3)] [3] (pi_rng1D T.n_range (pd_op x_add s_add (pd_int) (pd_own (o__law_scoop.up (by decide)) c (pa_consD (pd_var 0) (pa_consD (pd_int) pa_nilD))))) (blkK ["pail", "most", "pool", "turn", "words", "letter", "text"] (defScope s__law_loop) (by decide +kernel)) (by decide) (fun _ _ _ _ _ => ⟨_, (pb_name c.blk 3)⟩) (fun _ _ _ _ _ => ⟨_, pts_nilD⟩) (fun _ _ _ _ _ => ⟨_, (pd_own (o__law_pick.up (by decide)) c.blk (pa_consD (pd_var 0) (pa_consD (pd_var 4) pa_nilD)))⟩)))))
      (pss_oneD (ps_retD (pd_sl (pd_var 6) po_noneD (po_someD (pd_var 1)))))))))⟩) (fun _ _ _ h => h.1) (fun _ _ _ h => h.2)
/-! ### _law_walk -/
abbrev s__law_walk : Stmt := top 29
theorem sc__law_walk : FnScope ["pail", "size", "wins", "most", "text", "turn", "behind", "one"] ["pail", "size", "wins", "most"] (defScope s__law_walk) := ⟨rfl, rfl, rfl, by decide +kernel, rfl, by decide +kernel, by decide +kernel⟩
def r__law_walk : SD := (dSeq (dAsg (dCall (fnQ g__law_pick) (dCons (dVar 0) (dCons (dVar 2) dNil))) (bName 4))
  (dSeq (dFor (dRng1 (dCall (fnQ g__law_scoop) (dCons (dVar 0) (dCons (dVar 3) dNil)))) (bName 5) (dSeq (dAsg (if true = true then dZ (dLc (dSeqI (dVar 2)) (bName 7) (dTest (dBin oEq (dSl (dVar 7) dNoPart (dPart (dUn oNeg (dC (.int 1))))) (dSl (dVar 4) (dPart (dBin oAdd (dBin oSub (dCB oLn (dCons (dVar 4) dNil)) (dVar 1)) (dC (.int 1)))) dNoPart))) (dVar 7) [7]) else dO (dLc (dSeqI (dVar 2)) (bName 7) (dTest (dBin oEq (dSl (dVar 7) dNoPart (dPart (dUn oNeg (dC (.int 1))))) (dSl (dVar 4) (dPart (dBin oAdd (dBin oSub (dCB oLn (dCons (dVar 4) dNil)) (dVar 1)) (dC (.int 1)))) dNoPart))) (dVar 7) [7])) (bName 6))
  (dAsg (dIfE (dTest (dBin oNe (dVar 6) (dZ (dLst dNil)))) (dBin oAdd (dVar 4) (dBin oIx (dCall (fnQ g__law_pick) (dCons (dVar 0) (dCons (dVar 6) dNil))) (dUn oNeg (dC (.int 1))))) (dVar 4)) (bName 4))))
  (dRet (dVar 4))))
def g__law_walk : P1 := fun o ds P => ds.length + 1 = 4 ∧ r__law_walk noR (ends1 P) (startR 8 (.o 0 :: ds.map SV.d)) [o]
theorem o__law_walk (T : Tp K mg) (o__law_pick : Own P w K mg base 2 "_law_pick" s__law_pick ["pail", "things"] (fnQ g__law_pick)) (o__law_scoop : Own P w K mg base 1 "_law_scoop" s__law_scoop ["pail", "most"] (fnQ g__law_scoop)) (hm : mg "_law_walk" = some (.ref fa)) (F : L2.Fun K "_law_walk" "_law_walk" s__law_walk fa fd) : Own P w K mg base 3 "_law_walk" s__law_walk ["pail", "size", "wins", "most"] (fnQ g__law_walk) :=
  own_Q (N := ["pail", "size", "wins", "most", "text", "turn", "behind", "one"]) hm F (F.binds (ps := ["pail", "size", "wins", "most"]) fun _ _ _ _ _ _ us hl => match us, hl with | [_, _, _, _], _ => rfl) sc__law_walk (by decide) (fun cdv A outer s H E c => ⟨_, pss_consD (ps_setD c 4 (pd_own (o__law_pick.up (by decide)) c (pa_consD (pd_var 0) (pa_consD (pd_var 2) pa_nilD))))
      (pss_consD (ps_forD c (pi_rng1D T.n_range (pd_own (o__law_scoop.up (by decide)) c (pa_consD (pd_var 0) (pa_consD (pd_var 3) pa_nilD)))) (pb_name c 5) (pss_consD (ps_setLcD true c 6 [("one", 7)] [7] (pi_seqD (pd_var 2)) (blkK ["pail", "size", "wins", "most", "text", "turn", "behind", "one"] (defScope s__law_walk) (by decide +kernel)) (by decide) (fun _ _ _ _ _ => ⟨_, (pb_name c.blk 7)⟩) (fun _ _ _ _ _ => ⟨_, (pts_oneD (pt_cmpD (x_eq c.blk.room) s_eq (pd_sl (pd_var 7) po_noneD (po_someD (pd_un un_neg s_neg (pd_int)))) (pd_sl (pd_var 4) (po_someD (pd_op x_add s_add (pd_op op_sub s_int0 (pd_cb call_len s_ln T.n_len boot_len (pa_consD (pd_var 4) pa_nilD)) (pd_var 1)) (pd_int))) po_noneD)))⟩) (fun _ _ _ _ _ => ⟨_, (pd_var 7)⟩) (sw_true rfl rfl rfl (by decide +kernel)))
      (pss_oneD (ps_setD c 4 (pd_ifE (pt_cmpD (x_ne c.room) s_ne (pd_var 6) (PDF.z (pf_lst pa_nilD))) (pd_op x_add s_add (pd_var 4) (pd_ix (pd_own (o__law_pick.up (by decide)) c (pa_consD (pd_var 0) (pa_consD (pd_var 6) pa_nilD))) (pd_un un_neg s_neg (pd_int)))) (pd_var 4))))))
      (pss_oneD (ps_retD (pd_var 4))))⟩) (fun _ _ _ h => h.1) (fun _ _ _ h => h.2)
/-! ### _law_inner -/
abbrev s__law_inner : Stmt := top 30
theorem sc__law_inner : FnScope ["size", "text", "steps", "at", "step"] ["size", "text"] (defScope s__law_inner) := ⟨rfl, rfl, rfl, by decide +kernel, rfl, by decide +kernel, by decide +kernel⟩
def r__law_inner : SD := (dSeq (dAsg (if true = true then dZ (dLc (dRng1 (dBin oAdd (dBin oSub (dCB oLn (dCons (dVar 1) dNil)) (dVar 0)) (dC (.int 1)))) (bName 3) dYes (dSl (dVar 1) (dPart (dVar 3)) (dPart (dBin oAdd (dVar 3) (dVar 0)))) [3]) else dO (dLc (dRng1 (dBin oAdd (dBin oSub (dCB oLn (dCons (dVar 1) dNil)) (dVar 0)) (dC (.int 1)))) (bName 3) dYes (dSl (dVar 1) (dPart (dVar 3)) (dPart (dBin oAdd (dVar 3) (dVar 0)))) [3])) (bName 2))
  (dRet (dZ (dLst (dCons (dVar 2) (dCons (dZ (dLc (dSeqI (dSl (dVar 2) dNoPart (dPart (dUn oNeg (dC (.int 1)))))) (bName 4) dYes (dSl (dVar 4) (dPart (dC (.int 1))) dNoPart) [4])) dNil))))))
def g__law_inner : P0 := fun ds P => ds.length = 2 ∧ r__law_inner noR (ends0 P) (startR 5 (ds.map SV.d)) []
theorem o__law_inner (T : Tp K mg) (hm : mg "_law_inner" = some (.ref fa)) (F : L2.Fun K "_law_inner" "_law_inner" s__law_inner fa fd) : Own P w K mg base 1 "_law_inner" s__law_inner ["size", "text"] (fnP g__law_inner) :=
  own_P (N := ["size", "text", "steps", "at", "step"]) hm F (F.binds (ps := ["size", "text"]) fun _ _ _ _ _ _ us hl => match us, hl with | [_, _], _ => rfl) sc__law_inner (by decide) (fun cdv A outer s H E c => ⟨_, pss_consD (ps_setLcD true c 2 [("at", 3)] [3] (pi_rng1D T.n_range (pd_op x_add s_add (pd_op op_sub s_int0 (pd_cb call_len s_ln T.n_len boot_len (pa_consD (pd_var 1) pa_nilD)) (pd_var 0)) (pd_int))) (blkK ["size", "text", "steps", "at", "step"] (defScope s__law_inner) (by decide +kernel)) (by decide) (fun _ _ _ _ _ => ⟨_, (pb_name c.blk 3)⟩) (fun _ _ _ _ _ => ⟨_, pts_nilD⟩) (fun _ _ _ _ _ => ⟨_, (pd_sl (pd_var 1) (po_someD (pd_var 3)) (po_someD (pd_op x_add s_add (pd_var 3) (pd_var 0))))⟩) (sw_true rfl rfl rfl (by decide +kernel)))
      (pss_oneD (ps_retD (PDF.z (pf_lst (pa_consD (pd_var 2) (pa_consD (PDF.z (pf_lc c [("step", 4)] [4] (pi_seqD (pd_sl (pd_var 2) po_noneD (po_someD (pd_un un_neg s_neg (pd_int))))) (blkK ["size", "text", "steps", "at", "step"] (defScope s__law_inner) (by decide +kernel)) (by decide) (fun _ _ _ _ _ => ⟨_, (pb_name c.blk 4)⟩) (fun _ _ _ _ _ => ⟨_, pts_nilD⟩) (fun _ _ _ _ _ => ⟨_, (pd_sl (pd_var 4) (po_someD (pd_int)) po_noneD)⟩))) pa_nilD))))))⟩) (fun _ _ h => h.1) (fun _ _ h => h.2)
/-! ### _law_lot -/
abbrev s__law_lot : Stmt := top 31
theorem sc__law_lot : FnScope ["wins", "steps", "inner", "i", "j", "more", "row", "one", "met", "other"] ["wins", "steps", "inner", "i", "j", "more"] (defScope s__law_lot) := ⟨rfl, rfl, rfl, by decide +kernel, rfl, by decide +kernel, by decide +kernel⟩
def r__law_lot : SD := (dSeq (dAsg (dO (dBinF oCat (dZ (dLc (dSeqI (dVar 0)) (bName 7) (dAnd (dTest (dBin oEq (dSl (dVar 7) dNoPart (dPart (dUn oNeg (dC (.int 1))))) (dBin oIx (dVar 2) (dBin oSub (dVar 4) (dC (.int 1)))))) (dTest (dBin oNe (dVar 7) (dBin oIx (dVar 1) (dVar 4))))) (dVar 7) [7])) (dVar 5))) (bName 6))
  (dSeq (dAsg (dOg (dDictP (dZ (dLc (dSeqI (dVar 6)) (bName 7) dYes (dTup (dCons (dVar 7) (dCons (dC (.bl true)) dNil))) [7])))) (bName 8))
  (dSeq (dWhile (dTest (dBin oNe (dVar 6) (dZ (dLst dNil)))) (dSeq (dAsg (dPop (dVar 6)) (bName 7))
  (dIf (dTest (dBin oNotIn (dSl (dVar 7) (dPart (dC (.int 1))) dNoPart) (dTup (dCons (dBin oIx (dVar 2) (dBin oSub (dVar 3) (dC (.int 1)))) (dCons (dBin oIx (dVar 2) (dBin oSub (dVar 4) (dC (.int 1)))) dNil))))) (dFor (dSeqI (dVar 0)) (bName 9) (dIf (dAnd (dTest (dBin oEq (dSl (dVar 9) dNoPart (dPart (dUn oNeg (dC (.int 1))))) (dSl (dVar 7) (dPart (dC (.int 1))) dNoPart))) (dTest (dDIn0 true (dVar 9) (dVar 8)))) (dSeq (dDPut (dC (.bl true)) (dVar 8) (dVar 9))
  (dDrop (dApp (dVar 6) (dVar 9)))) dNext)) dNext)))
  (dRet (dCB (on1 oTupOf) (dCons (dZ (dCF oSortD (dCons (dVar 8) dNil))) dNil))))))
def g__law_lot : P0 := fun ds P => ds.length = 6 ∧ r__law_lot noR (ends0 P) (startR 10 (ds.map SV.d)) []
theorem o__law_lot (T : Tp K mg) (hm : mg "_law_lot" = some (.ref fa)) (F : L2.Fun K "_law_lot" "_law_lot" s__law_lot fa fd) : Own P w K mg base 1 "_law_lot" s__law_lot ["wins", "steps", "inner", "i", "j", "more"] (fnP g__law_lot) :=
  own_P (N := ["wins", "steps", "inner", "i", "j", "more", "row", "one", "met", "other"]) hm F (F.binds (ps := ["wins", "steps", "inner", "i", "j", "more"]) fun _ _ _ _ _ _ us hl => match us, hl with | [_, _, _, _, _, _], _ => rfl) sc__law_lot (by decide) (fun cdv A outer s H E c => ⟨_, pss_consD (ps_setD c 6 (PDF.o (pf_op x_add s_cat (PDF.z (pf_lc c [("one", 7)] [7] (pi_seqD (pd_var 0)) (blkK ["wins", "steps", "inner", "i", "j", "more", "row", "one", "met", "other"] (defScope s__law_lot) (by decide +kernel)) (by decide) (fun _ _ _ _ _ => ⟨_, (pb_name c.blk 7)⟩) (fun _ _ _ _ _ => ⟨_, (pts_oneD (PDW.t (pw_andD (pt_cmpD (x_eq c.blk.room) s_eq (pd_sl (pd_var 7) po_noneD (po_someD (pd_un un_neg s_neg (pd_int)))) (pd_ix (pd_var 2) (pd_op op_sub s_int0 (pd_var 4) (pd_int)))) (pw_and1D (pt_cmpD (x_ne c.blk.room) s_ne (pd_var 7) (pd_ix (pd_var 1) (pd_var 4)))))))⟩) (fun _ _ _ _ _ => ⟨_, (pd_var 7)⟩))) (pd_var 5))))
      (pss_consD (ps_setD c 8 (PDG.o (pg_dictP c T.n_dict (PDF.z (pf_lc c [("one", 7)] [7] (pi_seqD (pd_var 6)) (blkK ["wins", "steps", "inner", "i", "j", "more", "row", "one", "met", "other"] (defScope s__law_lot) (by decide +kernel)) (by decide) (fun _ _ _ _ _ => ⟨_, (pb_name c.blk 7)⟩) (fun _ _ _ _ _ => ⟨_, pts_nilD⟩) (fun _ _ _ _ _ => ⟨_, (pd_tup (pa_consD (pd_var 7) (pa_consD (pd_bl) pa_nilD)))⟩))))))
      (pss_consD (ps_whileD c (pt_cmpD (x_ne c.room) s_ne (pd_var 6) (PDF.z (pf_lst pa_nilD))) (pss_consD (ps_setD c 7 (pd_pop (pd_var 6)))
      (pss_oneD (ps_ifD (pt_cmpD (x_notin c.room) s_notin (pd_sl (pd_var 7) (po_someD (pd_int)) po_noneD) (pd_tup (pa_consD (pd_ix (pd_var 2) (pd_op op_sub s_int0 (pd_var 3) (pd_int))) (pa_consD (pd_ix (pd_var 2) (pd_op op_sub s_int0 (pd_var 4) (pd_int))) pa_nilD)))) (pss_oneD (ps_forD c (pi_seqD (pd_var 0)) (pb_name c 9) (pss_oneD (ps_ifD (PDW.t (pw_andD (pt_cmpD (x_eq c.room) s_eq (pd_sl (pd_var 9) po_noneD (po_someD (pd_un un_neg s_neg (pd_int)))) (pd_sl (pd_var 7) (po_someD (pd_int)) po_noneD)) (pw_and1D (pt_dnotinD c (pd_var 9) (pd_var 8))))) (pss_consD (ps_dputD c (pd_var 8) (pd_var 9) (pd_bl))
      (pss_oneD (ps_exprD (pd_app (pd_var 6) (pd_var 9))))) (pss_nilD))))) (pss_nilD)))))
      (pss_oneD (ps_retD (pd_ct call_tuple_of s_tupOf T.n_tuple boot_tuple (pa_consD (PDF.z (pf_cb (call_sortedD c.calm) s_sortD T.n_sorted boot_sorted (pa_consD (pd_var 8) pa_nilD))) pa_nilD))))))⟩) (fun _ _ h => h.1) (fun _ _ h => h.2)
/-! ### _law_is_open -/
abbrev s__law_is_open : Stmt := top 32
theorem sc__law_is_open : FnScope ["lot", "steps", "inner", "i", "one"] ["lot", "steps", "inner", "i"] (defScope s__law_is_open) := ⟨rfl, rfl, rfl, by decide +kernel, rfl, by decide +kernel, by decide +kernel⟩
def r__law_is_open : SD := (dRet (dBin oNe (dZ (dLc (dSeqI (dVar 0)) (bName 4) (dAnd (dTest (dBin oEq (dSl (dVar 4) (dPart (dC (.int 1))) dNoPart) (dBin oIx (dVar 2) (dBin oSub (dVar 3) (dC (.int 1)))))) (dTest (dBin oNe (dVar 4) (dBin oIx (dVar 1) (dBin oSub (dVar 3) (dC (.int 1))))))) (dVar 4) [4])) (dZ (dLst dNil))))
def g__law_is_open : P0 := fun ds P => ds.length = 4 ∧ r__law_is_open noR (ends0 P) (startR 5 (ds.map SV.d)) []
theorem o__law_is_open (T : Tp K mg) (hm : mg "_law_is_open" = some (.ref fa)) (F : L2.Fun K "_law_is_open" "_law_is_open" s__law_is_open fa fd) : Own P w K mg base 1 "_law_is_open" s__law_is_open ["lot", "steps", "inner", "i"] (fnP g__law_is_open) :=
  own_P (N := ["lot", "steps", "inner", "i", "one"]) hm F (F.binds (ps := ["lot", "steps", "inner", "i"]) fun _ _ _ _ _ _ us hl => match us, hl with | [_, _, _, _], _ => rfl) sc__law_is_open (by decide) (fun cdv A outer s H E c => ⟨_, pss_oneD (ps_retD (pd_cmp (x_ne c.room) s_ne (PDF.z (pf_lc c [("one", 4)] [4] (pi_seqD (pd_var 0)) (blkK ["lot", "steps", "inner", "i", "one"] (defScope s__law_is_open) (by decide +kernel)) (by decide) (fun _ _ _ _ _ => ⟨_, (pb_name c.blk 4)⟩) (fun _ _ _ _ _ => ⟨_, (pts_oneD (PDW.t (pw_andD (pt_cmpD (x_eq c.blk.room) s_eq (pd_sl (pd_var 4) (po_someD (pd_int)) po_noneD) (pd_ix (pd_var 2) (pd_op op_sub s_int0 (pd_var 3) (pd_int)))) (pw_and1D (pt_cmpD (x_ne c.blk.room) s_ne (pd_var 4) (pd_ix (pd_var 1) (pd_op op_sub s_int0 (pd_var 3) (pd_int))))))))⟩) (fun _ _ _ _ _ => ⟨_, (pd_var 4)⟩))) (PDF.z (pf_lst pa_nilD))))⟩) (fun _ _ h => h.1) (fun _ _ h => h.2)
/-! ### _law_own_paper -/
abbrev s__law_own_paper : Stmt := top 33
theorem sc__law_own_paper : FnScope ["pail", "size", "wins", "text", "steps", "inner", "found", "wide", "j", "i", "lot", "greater"] ["pail", "size", "wins", "text"] (defScope s__law_own_paper) := ⟨rfl, rfl, rfl, by decide +kernel, rfl, by decide +kernel, by decide +kernel⟩
def r__law_own_paper : SD := (dSeq (dAsg (dCall (fnP g__law_inner) (dCons (dVar 1) (dCons (dVar 3) dNil))) (bTup 2 (bsCons (bName 4) (bsCons (bName 5) bsNil))))
  (dSeq (dPar 6 7 (dO (dLst dNil)) (dBin oEq (dCall (fnQ g__law_scoop) (dCons (dVar 0) (dCons (dC (.int 2)) dNil))) (dC (.int 0))))
  (dSeq (dFor (dRng2 (dC (.int 1)) (dCB oLn (dCons (dVar 4) dNil))) (bName 8) (dFor (dRng2 (dC (.int 1)) (dBin oAdd (dVar 8) (dC (.int 1)))) (bName 9) (dSeq (dAsg (dCall (fnP g__law_lot) (dCons (dVar 2) (dCons (dVar 4) (dCons (dVar 5) (dCons (dVar 9) (dCons (dVar 8) (dCons (dZ (dLst dNil)) dNil))))))) (bName 10))
  (dSeq (dIf (dTruth (dCall (fnP g__law_is_open) (dCons (dVar 10) (dCons (dVar 4) (dCons (dVar 5) (dCons (dVar 9) dNil)))))) (dRet (dZ (dLst dNil))) dNext)
  (dSeq (dIf (dTruth (dVar 7)) (dSeq (dAsg (dCall (fnP g__law_lot) (dCons (dVar 2) (dCons (dVar 4) (dCons (dVar 5) (dCons (dVar 9) (dCons (dVar 8) (dCons (dZ (dLst (dCons (dCall (fnQ g__law_pick) (dCons (dVar 0) (dCons (dVar 2) dNil))) dNil))) dNil))))))) (bName 11))
  (dAsg (dIfE (dTruth (dCall (fnP g__law_is_open) (dCons (dVar 11) (dCons (dVar 4) (dCons (dVar 5) (dCons (dVar 9) dNil)))))) (dVar 10) (dVar 11)) (bName 10))) dNext)
  (dDrop (dApp (dVar 6) (dVar 10))))))))
  (dRet (dZ (dLst (dCons (dCB (on1 oTupOf) (dCons (dVar 6) dNil)) dNil)))))))
def g__law_own_paper : P1 := fun o ds P => ds.length + 1 = 4 ∧ r__law_own_paper noR (ends1 P) (startR 12 (.o 0 :: ds.map SV.d)) [o]
theorem o__law_own_paper (T : Tp K mg) (o__law_inner : Own P w K mg base 1 "_law_inner" s__law_inner ["size", "text"] (fnP g__law_inner)) (o__law_is_open : Own P w K mg base 1 "_law_is_open" s__law_is_open ["lot", "steps", "inner", "i"] (fnP g__law_is_open)) (o__law_lot : Own P w K mg base 1 "_law_lot" s__law_lot ["wins", "steps", "inner", "i", "j", "more"] (fnP g__law_lot)) (o__law_pick : Own P w K mg base 2 "_law_pick" s__law_pick ["pail", "things"] (fnQ g__law_pick)) (o__law_scoop : Own P w K mg base 1 "_law_scoop" s__law_scoop ["pail", "most"] (fnQ g__law_scoop)) (hm : mg "_law_own_paper" = some (.ref fa)) (F : L2.Fun K "_law_own_paper" "_law_own_paper" s__law_own_paper fa fd) : Own P w K mg base 3 "_law_own_paper" s__law_own_paper ["pail", "size", "wins", "text"] (fnQ g__law_own_paper) :=
  own_Q (N := ["pail", "size", "wins", "text", "steps", "inner", "found", "wide", "j", "i", "lot", "greater"]) hm F (F.binds (ps := ["pail", "size", "wins", "text"]) fun _ _ _ _ _ _ us hl => match us, hl with | [_, _, _, _], _ => rfl) sc__law_own_paper (by decide) (fun cdv A outer s H E c => ⟨_, pss_consD (ps_asgD (pd_own (o__law_inner.up (by decide)) c (pa_consD (pd_var 1) (pa_consD (pd_var 3) pa_nilD))) (pb_tup c (n := 2) (pbs_cons (pb_name c 4) (pbs_cons (pb_name c 5) pbs_nil))))
      (pss_consD (ps_parD c 6 7 (PDF.o (pf_lst pa_nilD)) (pd_cmp (x_eq c.room) s_eq (pd_own (o__law_scoop.up (by decide)) c (pa_consD (pd_var 0) (pa_consD (pd_int) pa_nilD))) (pd_int)))
      (pss_consD (ps_forD c (pi_rng2D T.n_range (pd_int) (pd_cb call_len s_ln T.n_len boot_len (pa_consD (pd_var 4) pa_nilD))) (pb_name c 8) (pss_oneD (ps_forD c (pi_rng2D T.n_range (pd_int) (pd_op x_add s_add (pd_var 8) (pd_int))) (pb_name c 9) (pss_consD (ps_setD c 10 (pd_own (o__law_lot.up (by decide)) c (pa_consD (pd_var 2) (pa_consD (pd_var 4) (pa_consD (pd_var 5) (pa_consD (pd_var 9) (pa_consD (pd_var 8) (pa_consD (PDF.z (pf_lst pa_nilD)) pa_nilD))))))))
      (pss_consD (ps_ifD (pt_truthD (pd_own (o__law_is_open.up (by decide)) c (pa_consD (pd_var 10) (pa_consD (pd_var 4) (pa_consD (pd_var 5) (pa_consD (pd_var 9) pa_nilD)))))) (pss_oneD (ps_retD (PDF.z (pf_lst pa_nilD)))) (pss_nilD))
      (pss_consD (ps_ifD (pt_truthD (pd_var 7)) (pss_consD (ps_setD c 11 (pd_own (o__law_lot.up (by decide)) c (pa_consD (pd_var 2) (pa_consD (pd_var 4) (pa_consD (pd_var 5) (pa_consD (pd_var 9) (pa_consD (pd_var 8) (pa_consD (PDF.z (pf_lst (pa_consD (pd_own (o__law_pick.up (by decide)) c (pa_consD (pd_var 0) (pa_consD (pd_var 2) pa_nilD))) pa_nilD))) pa_nilD))))))))
      (pss_oneD (ps_setD c 10 (pd_ifE (pt_truthD (pd_own (o__law_is_open.up (by decide)) c (pa_consD (pd_var 11) (pa_consD (pd_var 4) (pa_consD (pd_var 5) (pa_consD (pd_var 9) pa_nilD)))))) (pd_var 10) (pd_var 11))))) (pss_nilD))
      (pss_oneD (ps_exprD (pd_app (pd_var 6) (pd_var 10))))))))))
      (pss_oneD (ps_retD (PDF.z (pf_lst (pa_consD (pd_ct call_tuple_of s_tupOf T.n_tuple boot_tuple (pa_consD (pd_var 6) pa_nilD)) pa_nilD)))))))⟩) (fun _ _ _ h => h.1) (fun _ _ _ h => h.2)
/-! ### _law_parts -/
abbrev s__law_parts : Stmt := top 34
theorem sc__law_parts : FnScope ["words"] ["words"] (defScope s__law_parts) := ⟨rfl, rfl, rfl, by decide +kernel, rfl, by decide +kernel, by decide +kernel⟩
def r__law_parts : SD := (dRet (dIfE (dTest (dBin oEq (dCB oLn (dCons (dVar 0) dNil)) (dC (.int 0)))) (dC (.str [45])) (dSM oJoin (dC (.str [32])) (dVar 0))))
def g__law_parts : P0 := fun ds P => ds.length = 1 ∧ r__law_parts noR (ends0 P) (startR 1 (ds.map SV.d)) []
theorem o__law_parts (T : Tp K mg) (hm : mg "_law_parts" = some (.ref fa)) (F : L2.Fun K "_law_parts" "_law_parts" s__law_parts fa fd) : Own P w K mg base 1 "_law_parts" s__law_parts ["words"] (fnP g__law_parts) :=
  own_P (N := ["words"]) hm F (F.binds (ps := ["words"]) fun _ _ _ _ _ _ us hl => match us, hl with | [_], _ => rfl) sc__law_parts (by decide) (fun cdv A outer s H E c => ⟨_, pss_oneD (ps_retD (pd_ifE (pt_cmpD (x_eq c.room) s_eq (pd_cb call_len s_ln T.n_len boot_len (pa_consD (pd_var 0) pa_nilD)) (pd_int)) (pd_str [45]) (pd_sm PySem.F.slot_str_join PySem.F.type_str_join mt_join s_join (pd_str [32]) (pd_var 0))))⟩) (fun _ _ h => h.1) (fun _ _ h => h.2)
/-! ### _law_written -/
abbrev s__law_written : Stmt := top 35
theorem sc__law_written : FnScope ["size", "wins", "text", "one"] ["size", "wins"] (defScope s__law_written) := ⟨rfl, rfl, rfl, by decide +kernel, rfl, by decide +kernel, by decide +kernel⟩
def r__law_written : SD := (dSeq (dAsg (dBin oAdd (dCB oSt (dCons (dVar 0) dNil)) (dC (.str [58]))) (bName 2))
  (dSeq (dFor (dSeqI (dVar 1)) (bName 3) (dAsg (dBin oAdd (dBin oAdd (dVar 2) (dC (.str [32]))) (dVar 3)) (bName 2)))
  (dRet (dVar 2))))
def g__law_written : P0 := fun ds P => ds.length = 2 ∧ r__law_written noR (ends0 P) (startR 4 (ds.map SV.d)) []
theorem o__law_written (T : Tp K mg) (hm : mg "_law_written" = some (.ref fa)) (F : L2.Fun K "_law_written" "_law_written" s__law_written fa fd) : Own P w K mg base 1 "_law_written" s__law_written ["size", "wins"] (fnP g__law_written) :=
  own_P (N := ["size", "wins", "text", "one"]) hm F (F.binds (ps := ["size", "wins"]) fun _ _ _ _ _ _ us hl => match us, hl with | [_, _], _ => rfl) sc__law_written (by decide) (fun cdv A outer s H E c => ⟨_, pss_consD (ps_setD c 2 (pd_op x_add s_add (pd_ct call_str_int s_st T.n_str boot_str (pa_consD (pd_var 0) pa_nilD)) (pd_str [58])))
      (pss_consD (ps_forD c (pi_seqD (pd_var 1)) (pb_name c 3) (pss_oneD (ps_setD c 2 (pd_op x_add s_add (pd_op x_add s_add (pd_var 2) (pd_str [32])) (pd_var 3)))))
      (pss_oneD (ps_retD (pd_var 2))))⟩) (fun _ _ h => h.1) (fun _ _ h => h.2)
/-! ### _law_numbers -/
abbrev s__law_numbers : Stmt := top 36
theorem sc__law_numbers : FnScope ["pail", "wins", "most", "one"] ["pail", "wins"] (defScope s__law_numbers) := ⟨rfl, rfl, rfl, by decide +kernel, rfl, by decide +kernel, by decide +kernel⟩
def r__law_numbers : SD := (dSeq (dAsg (dCall (fnQ g__law_pick) (dCons (dVar 0) (dCons (dZ (dLst (dCons (dC (.int 1)) (dCons (dC (.int 2)) (dCons (dC (.int 4)) (dCons (dC (.int 11)) (dCons (dBin oPow (dC (.int 10)) (dC (.int 30))) dNil))))))) dNil))) (bName 2))
  (dRet (dCB (on1 oTupOf) (dCons (dZ (dLc (dSeqI (dVar 1)) (bName 3) dYes (dCall (fnQ g__law_scoop) (dCons (dVar 0) (dCons (dBin oAdd (dVar 2) (dC (.int 1))) dNil))) [3])) dNil))))
def g__law_numbers : P1 := fun o ds P => ds.length + 1 = 2 ∧ r__law_numbers noR (ends1 P) (startR 4 (.o 0 :: ds.map SV.d)) [o]
theorem o__law_numbers (T : Tp K mg) (o__law_pick : Own P w K mg base 2 "_law_pick" s__law_pick ["pail", "things"] (fnQ g__law_pick)) (o__law_scoop : Own P w K mg base 1 "_law_scoop" s__law_scoop ["pail", "most"] (fnQ g__law_scoop)) (hm : mg "_law_numbers" = some (.ref fa)) (F : L2.Fun K "_law_numbers" "_law_numbers" s__law_numbers fa fd) : Own P w K mg base 3 "_law_numbers" s__law_numbers ["pail", "wins"] (fnQ g__law_numbers) :=
  own_Q (N := ["pail", "wins", "most", "one"]) hm F (F.binds (ps := ["pail", "wins"]) fun _ _ _ _ _ _ us hl => match us, hl with | [_, _], _ => rfl) sc__law_numbers (by decide) (fun cdv A outer s H E c => ⟨_, pss_consD (ps_setD c 2 (pd_own (o__law_pick.up (by decide)) c (pa_consD (pd_var 0) (pa_consD (PDF.z (pf_lst (pa_consD (pd_int) (pa_consD (pd_int) (pa_consD (pd_int) (pa_consD (pd_int) (pa_consD (pd_op x_pow s_int (pd_int) (pd_int)) pa_nilD))))))) pa_nilD))))
      (pss_oneD (ps_retD (pd_ct call_tuple_of s_tupOf T.n_tuple boot_tuple (pa_consD (PDF.z (pf_lc c [("one", 3)] [3] (pi_seqD (pd_var 1)) (blkK ["pail", "wins", "most", "one"] (defScope s__law_numbers) (by decide +kernel)) (by decide) (fun _ _ _ _ _ => ⟨_, (pb_name c.blk 3)⟩) (fun _ _ _ _ _ => ⟨_, pts_nilD⟩) (fun _ _ _ _ _ => ⟨_, (pd_own (o__law_scoop.up (by decide)) c.blk (pa_consD (pd_var 0) (pa_consD (pd_op x_add s_add (pd_var 2) (pd_int)) pa_nilD)))⟩))) pa_nilD))))⟩) (fun _ _ _ h => h.1) (fun _ _ _ h => h.2)
/-! ### _law_paper_right -/
abbrev s__law_paper_right : Stmt := top 37
theorem sc__law_paper_right : FnScope ["pail", "size", "wins", "text", "paper", "due", "kept", "lot"] ["pail", "size", "wins"] (defScope s__law_paper_right) := ⟨rfl, rfl, rfl, by decide +kernel, rfl, by decide +kernel, by decide +kernel⟩
def r__law_paper_right : SD := (dSeq (dAsg (dCall (fnQ g__law_walk) (dCons (dVar 0) (dCons (dVar 1) (dCons (dVar 2) (dCons (dCall (fnQ g__law_pick) (dCons (dVar 0) (dCons (dZ (dLst (dCons (dC (.int 3)) (dCons (dC (.int 9)) (dCons (dIfE (dTest (dBin oLt (dCB oLn (dCons (dVar 2) dNil)) (dC (.int 13)))) (dC (.int 20)) (dC (.int 9))) dNil))))) dNil))) dNil))))) (bName 3))
  (dSeq (dFor (dSeqI (dCall (fnQ g__law_own_paper) (dCons (dVar 0) (dCons (dVar 1) (dCons (dVar 2) (dCons (dVar 3) dNil)))))) (bName 4) (dSeq (dPar 5 6 (dSM oJoin (dC (.str [32, 59, 32])) (dZ (dLc (dSeqI (dVar 4)) (bName 7) dYes (dCall (fnP g__law_parts) (dCons (dVar 7) dNil)) [7]))) (dCB (on1 oRepr) (dCons (dVar 4) dNil)))
  (dIf (dOr (dTest (dBin oNe (dCB (on1 oRepr) (dCons (dZ (dLst (dCons (dCall (fnP g_show_paper) (dCons (dVar 4) dNil)) (dCons (dCallK 1 (fnP g_show_paper) [0] (dCons (dVar 4) dNil)) dNil)))) dNil)) (dCB (on1 oRepr) (dCons (dZ (dLst (dCons (dVar 5) (dCons (dVar 5) dNil)))) dNil)))) (dTest (dBin oNe (dCB (on1 oRepr) (dCons (dVar 4) dNil)) (dVar 6)))) (dRet (dC (.bl false))) dNext)))
  (dRet (dC (.bl true)))))
def g__law_paper_right : P1 := fun o ds P => ds.length + 1 = 3 ∧ r__law_paper_right noR (ends1 P) (startR 8 (.o 0 :: ds.map SV.d)) [o]
theorem o__law_paper_right (T : Tp K mg) (o__law_own_paper : Own P w K mg base 3 "_law_own_paper" s__law_own_paper ["pail", "size", "wins", "text"] (fnQ g__law_own_paper)) (o__law_parts : Own P w K mg base 1 "_law_parts" s__law_parts ["words"] (fnP g__law_parts)) (o__law_pick : Own P w K mg base 2 "_law_pick" s__law_pick ["pail", "things"] (fnQ g__law_pick)) (o__law_walk : Own P w K mg base 3 "_law_walk" s__law_walk ["pail", "size", "wins", "most"] (fnQ g__law_walk)) (o_show_paper : Own P w K mg base 2 "show_paper" s_show_paper ["value"] (fnP g_show_paper)) (hm : mg "_law_paper_right" = some (.ref fa)) (F : L2.Fun K "_law_paper_right" "_law_paper_right" s__law_paper_right fa fd) : Own P w K mg base 4 "_law_paper_right" s__law_paper_right ["pail", "size", "wins"] (fnQ g__law_paper_right) :=
  own_Q (N := ["pail", "size", "wins", "text", "paper", "due", "kept", "lot"]) hm F (F.binds (ps := ["pail", "size", "wins"]) fun _ _ _ _ _ _ us hl => match us, hl with | [_, _, _], _ => rfl) sc__law_paper_right (by decide) (fun cdv A outer s H E c => ⟨_, pss_consD (ps_setD c 3 (pd_own (o__law_walk.up (by decide)) c (pa_consD (pd_var 0) (pa_consD (pd_var 1) (pa_consD (pd_var 2) (pa_consD (pd_own (o__law_pick.up (by decide)) c (pa_consD (pd_var 0) (pa_consD (PDF.z (pf_lst (pa_consD (pd_int) (pa_consD (pd_int) (pa_consD (pd_ifE (pt_cmpD x_lt s_ord (pd_cb call_len s_ln T.n_len boot_len (pa_consD (pd_var 2) pa_nilD)) (pd_int)) (pd_int) (pd_int)) pa_nilD))))) pa_nilD))) pa_nilD))))))
      (pss_consD (ps_forD c (pi_seqD (pd_own (o__law_own_paper.up (by decide)) c (pa_consD (pd_var 0) (pa_consD (pd_var 1) (pa_consD (pd_var 2) (pa_consD (pd_var 3) pa_nilD)))))) (pb_name c 4) (pss_consD (ps_parD c 5 6 (pd_sm PySem.F.slot_str_join PySem.F.type_str_join mt_join s_join (pd_str [32, 59, 32]) (PDF.z (pf_lc c [("lot", 7)] [7] (pi_seqD (pd_var 4)) (blkK ["pail", "size", "wins", "text", "paper", "due", "kept", "lot"] (defScope s__law_paper_right) (by decide +kernel)) (by decide) (fun _ _ _ _ _ => ⟨_, (pb_name c.blk 7)⟩) (fun _ _ _ _ _ => ⟨_, pts_nilD⟩) (fun _ _ _ _ _ => ⟨_, (pd_own (o__law_parts.up (by decide)) c.blk (pa_consD (pd_var 7) pa_nilD))⟩)))) (pd_cb (call_repr c.room c.gd) s_repr T.n_repr boot_repr (pa_consD (pd_var 4) pa_nilD)))
      (pss_oneD (ps_ifD (PDW.t (pw_orD (pt_cmpD (x_ne c.room) s_ne (pd_cb (call_repr c.room c.gd) s_repr T.n_repr boot_repr (pa_consD (PDF.z (pf_lst (pa_consD (pd_own (o_show_paper.up (by decide)) c (pa_consD (pd_var 4) pa_nilD)) (pa_consD (pd_ownK (o_show_paper.up (by decide)) c ["value"] [0] (pk_consD (pd_var 4) pk_nilD) (fun _ _ _ _ _ _ _ ws hl => match ws, hl with | [_], _ => rfl)) pa_nilD)))) pa_nilD)) (pd_cb (call_repr c.room c.gd) s_repr T.n_repr boot_repr (pa_consD (PDF.z (pf_lst (pa_consD (pd_var 5) (pa_consD (pd_var 5) pa_nilD)))) pa_nilD))) (pw_or1D (pt_cmpD (x_ne c.room) s_ne (pd_cb (call_repr c.room c.gd) s_repr T.n_repr boot_repr (pa_consD (pd_var 4) pa_nilD)) (pd_var 6))))) (pss_oneD (ps_retD (pd_bl))) (pss_nilD)))))
      (pss_oneD (ps_retD (pd_bl))))⟩) (fun _ _ _ h => h.1) (fun _ _ _ h => h.2)
/-! ### _law_turn_right -/
abbrev s__law_turn_right : Stmt := top 38
theorem sc__law_turn_right : FnScope ["pail", "size", "wins", "turn", "one", "book", "text", "numbers", "due", "number"] ["pail"] (defScope s__law_turn_right) := ⟨rfl, rfl, rfl, by decide +kernel, rfl, by decide +kernel, by decide +kernel⟩
def r__law_turn_right : SD := (dSeq (dAsg (dBin oAdd (dC (.int 2)) (dCall (fnQ g__law_scoop) (dCons (dVar 0) (dCons (dC (.int 5)) dNil)))) (bName 1))
  (dSeq (dAsg (dCall (fnP g__law_own_windows) (dCons (dVar 1) (dCons (dCall (fnQ g__law_loop) (dCons (dVar 0) (dCons (dCall (fnQ g__law_pick) (dCons (dVar 0) (dCons (dZ (dLst (dCons (dC (.int 3)) (dCons (dC (.int 8)) (dCons (dC (.int 40)) dNil))))) dNil))) dNil))) dNil))) (bName 2))
  (dSeq (dFor (dRng1 (dC (.int 3))) (bName 3) (dIf (dNot (dTruth (dCall (fnQ g__law_paper_right) (dCons (dVar 0) (dCons (dVar 1) (dCons (dVar 2) dNil)))))) (dRet (dC (.bl false))) dNext))
  (dSeq (dIf (dAnd (dTest (dBin oGt (dCB oLn (dCons (dVar 2) dNil)) (dC (.int 1)))) (dTest (dBin oEq (dCall (fnQ g__law_scoop) (dCons (dVar 0) (dCons (dC (.int 4)) dNil))) (dC (.int 0))))) (dAsg (dBin oAdd (dCB (on1 oTupOf) (dCons (dZ (dLc (dSeqI (dSl (dVar 2) dNoPart (dPart (dUn oNeg (dC (.int 1)))))) (bName 4) (dTest (dBin oEq (dCall (fnQ g__law_scoop) (dCons (dVar 0) (dCons (dC (.int 2)) dNil))) (dC (.int 0)))) (dVar 4) [4])) dNil)) (dSl (dVar 2) (dPart (dUn oNeg (dC (.int 1)))) dNoPart)) (bName 2)) dNext)
  (dSeq (dPar 5 6 (dTup (dCons (dVar 1) (dCons (dVar 2) dNil))) (dCall (fnP g__law_written) (dCons (dVar 1) (dCons (dVar 2) dNil))))
  (dSeq (dFor (dRng1 (dC (.int 2))) (bName 3) (dSeq (dIf (dTest (dBin oNe (dCB (on1 oRepr) (dCons (dZ (dLst (dCons (dCall (fnP g_show_book) (dCons (dVar 5) dNil)) (dCons (dCallK 1 (fnP g_show_book) [0] (dCons (dVar 5) dNil)) dNil)))) dNil)) (dCB (on1 oRepr) (dCons (dZ (dLst (dCons (dVar 6) (dCons (dVar 6) dNil)))) dNil)))) (dRet (dC (.bl false))) dNext)
  (dIf (dTest (dBin oNe (dCB (on1 oRepr) (dCons (dZ (dLst (dCons (dCall (fnP g_read_book) (dCons (dVar 6) dNil)) (dCons (dCallK 1 (fnP g_read_book) [0] (dCons (dVar 6) dNil)) dNil)))) dNil)) (dCB (on1 oRepr) (dCons (dZ (dLst (dCons (dVar 5) (dCons (dVar 5) dNil)))) dNil)))) (dRet (dC (.bl false))) dNext)))
  (dSeq (dAsg (dCall (fnQ g__law_numbers) (dCons (dVar 0) (dCons (dVar 2) dNil))) (bName 7))
  (dSeq (dAsg (dCall (fnP g__law_parts) (dCons (dZ (dLc (dZip (dVar 2) (dVar 7)) (bTup 2 (bsCons (bName 4) (bsCons (bName 9) bsNil))) (dTest (dBin oGt (dVar 9) (dC (.int 0)))) (dBin oAdd (dBin oAdd (dVar 4) (dC (.str [61]))) (dCB oSt (dCons (dVar 9) dNil))) [4, 9])) dNil)) (bName 8))
  (dSeq (dIf (dTest (dBin oNe (dCB (on1 oRepr) (dCons (dZ (dLst (dCons (dCall (fnP g_show_counts) (dCons (dVar 5) (dCons (dVar 7) dNil))) (dCons (dCallK 2 (fnP g_show_counts) [1, 0] (dCons (dVar 7) (dCons (dVar 5) dNil))) dNil)))) dNil)) (dCB (on1 oRepr) (dCons (dZ (dLst (dCons (dVar 8) (dCons (dVar 8) dNil)))) dNil)))) (dRet (dC (.bl false))) dNext)
  (dRet (dBin oEq (dCB (on1 oRepr) (dCons (dVar 5) dNil)) (dCB (on1 oRepr) (dCons (dTup (dCons (dVar 1) (dCons (dVar 2) dNil))) dNil)))))))))))))
def g__law_turn_right : P1 := fun o ds P => ds.length + 1 = 1 ∧ r__law_turn_right noR (ends1 P) (startR 10 (.o 0 :: ds.map SV.d)) [o]
theorem o__law_turn_right (T : Tp K mg) (o__law_loop : Own P w K mg base 3 "_law_loop" s__law_loop ["pail", "most"] (fnQ g__law_loop)) (o__law_numbers : Own P w K mg base 3 "_law_numbers" s__law_numbers ["pail", "wins"] (fnQ g__law_numbers)) (o__law_own_windows : Own P w K mg base 1 "_law_own_windows" s__law_own_windows ["size", "text"] (fnP g__law_own_windows)) (o__law_paper_right : Own P w K mg base 4 "_law_paper_right" s__law_paper_right ["pail", "size", "wins"] (fnQ g__law_paper_right)) (o__law_parts : Own P w K mg base 1 "_law_parts" s__law_parts ["words"] (fnP g__law_parts)) (o__law_pick : Own P w K mg base 2 "_law_pick" s__law_pick ["pail", "things"] (fnQ g__law_pick)) (o__law_scoop : Own P w K mg base 1 "_law_scoop" s__law_scoop ["pail", "most"] (fnQ g__law_scoop)) (o__law_written : Own P w K mg base 1 "_law_written" s__law_written ["size", "wins"] (fnP g__law_written)) (o_read_book : Own P w K mg base 5 "read_book" s_read_book ["text"] (fnP g_read_book)) (o_show_book : Own P w K mg base 1 "show_book" s_show_book ["book"] (fnP g_show_book)) (o_show_counts : Own P w K mg base 2 "show_counts" s_show_counts ["book", "counts"] (fnP g_show_counts)) (hm : mg "_law_turn_right" = some (.ref fa)) (F : L2.Fun K "_law_turn_right" "_law_turn_right" s__law_turn_right fa fd) : Own P w K mg base 6 "_law_turn_right" s__law_turn_right ["pail"] (fnQ g__law_turn_right) :=
  own_Q (N := ["pail", "size", "wins", "turn", "one", "book", "text", "numbers", "due", "number"]) hm F (F.binds (ps := ["pail"]) fun _ _ _ _ _ _ us hl => match us, hl with | [_], _ => rfl) sc__law_turn_right (by decide) (fun cdv A outer s H E c => ⟨_, pss_consD (ps_setD c 1 (pd_op x_add s_add (pd_int) (pd_own (o__law_scoop.up (by decide)) c (pa_consD (pd_var 0) (pa_consD (pd_int) pa_nilD)))))
      (pss_consD (ps_setD c 2 (pd_own (o__law_own_windows.up (by decide)) c (pa_consD (pd_var 1) (pa_consD (pd_own (o__law_loop.up (by decide)) c (pa_consD (pd_var 0) (pa_consD (pd_own (o__law_pick.up (by decide)) c (pa_consD (pd_var 0) (pa_consD (PDF.z (pf_lst (pa_consD (pd_int) (pa_consD (pd_int) (pa_consD (pd_int) pa_nilD))))) pa_nilD))) pa_nilD))) pa_nilD))))
      (pss_consD (ps_forD c (pi_rng1D T.n_range (pd_int)) (pb_name c 3) (pss_oneD (ps_ifD (pt_notD (pt_truthD (pd_own (o__law_paper_right.up (by decide)) c (pa_consD (pd_var 0) (pa_consD (pd_var 1) (pa_consD (pd_var 2) pa_nilD)))))) (pss_oneD (ps_retD (pd_bl))) (pss_nilD))))
      (pss_consD (ps_ifD (PDW.t (pw_andD (pt_cmpD x_gt s_ord (pd_cb call_len s_ln T.n_len boot_len (pa_consD (pd_var 2) pa_nilD)) (pd_int)) (pw_and1D (pt_cmpD (x_eq c.room) s_eq (pd_own (o__law_scoop.up (by decide)) c (pa_consD (pd_var 0) (pa_consD (pd_int) pa_nilD))) (pd_int))))) (pss_oneD (ps_setD c 2 (pd_op x_add s_add (pd_ct call_tuple_of s_tupOf T.n_tuple boot_tuple (pa_consD (PDF.z (pf_lc c [("one", 4)] [4] (pi_seqD (pd_sl (pd_var 2) po_noneD (po_someD (pd_un un_neg s_neg (pd_int))))) (blkK ["pail", "size", "wins", "turn", "one", "book", "text", "numbers", "due", "number"] (defScope s__law_turn_right) (by decide +kernel)) (by decide) (fun _ _ _ _ _ => ⟨_, (pb_name c.blk 4)⟩) (fun _ _ _ _ _ => ⟨_, (pts_oneD (pt_cmpD (x_eq c.blk.room) s_eq (pd_own (o__law_scoop.up (by decide)) c.blk (pa_consD (pd_var 0) (pa_consD (pd_int) pa_nilD))) (pd_int)))⟩) (fun _ _ _ _ _ => ⟨_, (pd_var 4)⟩))) pa_nilD)) (pd_sl (pd_var 2) (po_someD (pd_un un_neg s_neg (pd_int))) po_noneD)))) (pss_nilD))
      (pss_consD (ps_parD c 5 6 (pd_tup (pa_consD (pd_var 1) (pa_consD (pd_var 2) pa_nilD))) (pd_own (o__law_written.up (by decide)) c (pa_consD (pd_var 1) (pa_consD (pd_var 2) pa_nilD))))
      (pss_consD (ps_forD c (pi_rng1D T.n_range (pd_int)) (pb_name c 3) (pss_consD (ps_ifD (pt_cmpD (x_ne c.room) s_ne (pd_cb (call_repr c.room c.gd) s_repr T.n_repr boot_repr (pa_consD (PDF.z (pf_lst (pa_consD (pd_own (o_show_book.up (by decide)) c (pa_consD (pd_var 5) pa_nilD)) (pa_consD (pd_ownK (o_show_book.up (by decide)) c ["book"] [0] (pk_consD (pd_var 5) pk_nilD) (fun _ _ _ _ _ _ _ ws hl => match ws, hl with | [_], _ => rfl)) pa_nilD)))) pa_nilD)) (pd_cb (call_repr c.room c.gd) s_repr T.n_repr boot_repr (pa_consD (PDF.z (pf_lst (pa_consD (pd_var 6) (pa_consD (pd_var 6) pa_nilD)))) pa_nilD))) (pss_oneD (ps_retD (pd_bl))) (pss_nilD))
      (pss_oneD (ps_ifD (pt_cmpD (x_ne c.room) s_ne (pd_cb (call_repr c.room c.gd) s_repr T.n_repr boot_repr (pa_consD (PDF.z (pf_lst (pa_consD (pd_own (o_read_book.up (by decide)) c (pa_consD (pd_var 6) pa_nilD)) (pa_consD (pd_ownK (o_read_book.up (by decide)) c ["text"] [0] (pk_consD (pd_var 6) pk_nilD) (fun _ _ _ _ _ _ _ ws hl => match ws, hl with | [_], _ => rfl)) pa_nilD)))) pa_nilD)) (pd_cb (call_repr c.room c.gd) s_repr T.n_repr boot_repr (pa_consD (PDF.z (pf_lst (pa_consD (pd_var 5) (pa_consD (pd_var 5) pa_nilD)))) pa_nilD))) (pss_oneD (ps_retD (pd_bl))) (pss_nilD)))))
      (pss_consD (ps_setD c 7 (pd_own (o__law_numbers.up (by decide)) c (pa_consD (pd_var 0) (pa_consD (pd_var 2) pa_nilD))))
      (pss_consD (ps_setD c 8 (pd_own (o__law_parts.up (by decide)) c (pa_consD (PDF.z (pf_lc c [("one", 4), ("number", 9)] [4, 9] (pi_zipD T.n_zip (pd_var 2) (pd_var 7)) (blkK ["pail", "size", "wins", "turn", "one", "book", "text", "numbers", "due", "number"] (defScope s__law_turn_right) (by decide +kernel)) (by decide) (fun _ _ _ _ _ => ⟨_, (pb_tup c.blk (n := 2) (pbs_cons (pb_name c.blk 4) (pbs_cons (pb_name c.blk 9) pbs_nil)))⟩) (fun _ _ _ _ _ => ⟨_, (pts_oneD (pt_cmpD x_gt s_ord (pd_var 9) (pd_int)))⟩) (fun _ _ _ _ _ => ⟨_, (pd_op x_add s_add (pd_op x_add s_add (pd_var 4) (pd_str [61])) (pd_ct call_str_int s_st T.n_str boot_str (pa_consD (pd_var 9) pa_nilD)))⟩))) pa_nilD)))
      (pss_consD (ps_ifD (pt_cmpD (x_ne c.room) s_ne (pd_cb (call_repr c.room c.gd) s_repr T.n_repr boot_repr (pa_consD (PDF.z (pf_lst (pa_consD (pd_own (o_show_counts.up (by decide)) c (pa_consD (pd_var 5) (pa_consD (pd_var 7) pa_nilD))) (pa_consD (pd_ownK (o_show_counts.up (by decide)) c ["counts", "book"] [1, 0] (pk_consD (pd_var 7) (pk_consD (pd_var 5) pk_nilD)) (fun _ _ _ _ _ _ _ ws hl => match ws, hl with | [_, _], _ => rfl)) pa_nilD)))) pa_nilD)) (pd_cb (call_repr c.room c.gd) s_repr T.n_repr boot_repr (pa_consD (PDF.z (pf_lst (pa_consD (pd_var 8) (pa_consD (pd_var 8) pa_nilD)))) pa_nilD))) (pss_oneD (ps_retD (pd_bl))) (pss_nilD))
      (pss_oneD (ps_retD (pd_cmp (x_eq c.room) s_eq (pd_cb (call_repr c.room c.gd) s_repr T.n_repr boot_repr (pa_consD (pd_var 5) pa_nilD)) (pd_cb (call_repr c.room c.gd) s_repr T.n_repr boot_repr (pa_consD (pd_tup (pa_consD (pd_var 1) (pa_consD (pd_var 2) pa_nilD))) pa_nilD)))))))))))))⟩) (fun _ _ _ h => h.1) (fun _ _ _ h => h.2)
/-! ### law -/
abbrev s_law : Stmt := top 39
theorem sc_law : FnScope ["script", "k"] ["script"] (defScope s_law) := ⟨rfl, rfl, rfl, by decide +kernel, rfl, by decide +kernel, by decide +kernel⟩
def r_law : SD := (dSeq (dFor (dRng1 (dCB (on2 oMax2) (dCons (dC (.int 1)) (dCons (dCB (on2 oMin2) (dCons (dC (.int 4)) (dCons (dCB oLn (dCons (dVar 0) dNil)) dNil))) dNil)))) (bName 1) (dIf (dNot (dTruth (dCall (fnQ g__law_turn_right) (dCons (dCall (fnF g__law_pail) (dCons (dVar 0) (dCons (dVar 1) dNil))) dNil)))) (dRet (dC (.bl false))) dNext))
  (dRet (dC (.bl true))))
def g_law : P0 := fun ds P => ds.length = 1 ∧ r_law noR (ends0 P) (startR 2 (ds.map SV.d)) []
theorem o_law (T : Tp K mg) (o__law_pail : Own P w K mg base 1 "_law_pail" s__law_pail ["script", "k"] (fnF g__law_pail)) (o__law_turn_right : Own P w K mg base 6 "_law_turn_right" s__law_turn_right ["pail"] (fnQ g__law_turn_right)) (hm : mg "law" = some (.ref fa)) (F : L2.Fun K "law" "law" s_law fa fd) : Own P w K mg base 7 "law" s_law ["script"] (fnP g_law) :=
  own_P (N := ["script", "k"]) hm F (F.binds (ps := ["script"]) fun _ _ _ _ _ _ us hl => match us, hl with | [_], _ => rfl) sc_law (by decide) (fun cdv A outer s H E c => ⟨_, pss_consD (ps_forD c (pi_rng1D T.n_range (pd_cb (call_max2 c.calm) s_2 T.n_max boot_max (pa_consD (pd_int) (pa_consD (pd_cb (call_min2 c.calm) s_2 T.n_min boot_min (pa_consD (pd_int) (pa_consD (pd_cb call_len s_ln T.n_len boot_len (pa_consD (pd_var 0) pa_nilD)) pa_nilD))) pa_nilD)))) (pb_name c 1) (pss_oneD (ps_ifD (pt_notD (pt_truthD (pd_own (o__law_turn_right.up (by decide)) c (pa_consD (pd_own (o__law_pail.up (by decide)) c (pa_consD (pd_var 0) (pa_consD (pd_var 1) pa_nilD))) pa_nilD)))) (pss_oneD (ps_retD (pd_bl))) (pss_nilD))))
      (pss_oneD (ps_retD (pd_bl)))⟩) (fun _ _ h => h.1) (fun _ _ h => h.2)
end
end K28
end

section
set_option maxRecDepth 100000
namespace K28
open PySem PySem.Spec L2 Dl
open PyProof.Rows hiding St
/-- the pail, so many draws behind -/
def Pl (N : Nat) (o : MO) : Prop := ∃ a b c : Int, o = .lst [.int a, .int b, .int c] ∧ 0 ≤ b ∧ b < 2 ^ 120 ∧ 0 ≤ c ∧ c ≤ N
theorem Pl.up {N M : Nat} {o : MO} (h : Pl N o) (k : N ≤ M) : Pl M o := by
  obtain ⟨a, b, c, e, h0, h1, h2, h3⟩ := h
  exact ⟨a, b, c, e, h0, h1, h2, by omega⟩
theorem Pl.pure {N : Nat} {o : MO} (h : Pl N o) : pureM o = true := by
  obtain ⟨a, b, c, e, _⟩ := h
  rw [e]
  rfl
theorem scoop_ok {N : Nat} {o : MO} {n : Int} {P : D → MO → Prop} (ho : Pl N o) (hN : N ≤ 2 ^ 60) (h1 : 0 < n) (h2 : n < 2 ^ 120) (k : ∀ (d : Int) (o' : MO), 0 ≤ d → d < n → Pl (N + 1) o' → P (.int d) o') : g__law_scoop o [.int n] P := by
  obtain ⟨a, b, c, rfl, b0, b1, c0, c1⟩ := ho
  refine ⟨rfl, ?_⟩
  simp only [r__law_scoop, e_var, e_c, e_bin, e_un, e_view, e_bnd, e_cons, e_nil, e_allD0, e_allD, e_allV0, e_allV1, e_allV2, e_cb, e_cf, e_on1, e_on2, e_test, e_truth, e_asB, e_asI, e_tup, e_lst, e_z, e_o, e_zg, e_og, e_ifE, e_and, e_or, e_not, e_andV, e_orV, e_notV, e_sm, e_smV, e_smf, e_call, e_callK, e_fnP, e_fnF, e_fnQ, e_next, e_seq, e_brk, e_cnt, e_drop, e_ret, e_if, e_asg, e_bname, e_btup, e_bsnil, e_bscons, e_par, e_fmt, e_js0, e_js, e_sl, e_nopart, e_part, e_frzd, e_frz1d, e_lc, e_for, e_seqI, e_rng1, e_rng2, e_enum, e_itT, e_itL, e_itS, e_start, e_yes, e_plain, o_add, o_addS, o_addT, o_addL, o_sub, o_mul, o_mulS, o_div, o_mod, o_pow, o_neg, o_lt, o_le, o_gt, o_ge, o_ltS, o_eqI, o_eqS, o_neI, o_neS, o_eqL, o_neL, o_lenS, o_lenT, o_lenL, o_lenR, o_int, o_intB, o_abs, o_max, o_min, o_st, o_ixL, o_ixT, o_ixR, o_ixS, o_tupL, o_tupT, o_all, o_slS, o_slT, o_slL, o_join, o_asT, o_asL, o_part, o_is, o_reprL, o_reprT, t_bl, t_lst, t_tup, e_asO, e_asL, e_stL, e_pure, v_o0, v_o1, at0, at1, at2, ix30, ix31, ix32, li_R, li_L, e_wp0, e_wp, e_ss, e_gnd, e_app, e_pop, o_isiI, o_isiS, o_isiT, o_isiL, o_isiB, o_isiN, o_isi2I, o_isi2S, o_isi2T, o_isi2L, o_isi2B, o_isi2N, o_inS1, o_inT, o_ninT, o_intT, o_split, e_chain, e_binF, o_cat, e_dictP, e_while, e_din0, e_dput, o_sortD, e_key, e_asD, e_asM, e_itO, v_o1d, isT, reduceCtorEq, List.any_cons, List.any_nil, List.all_cons, List.all_nil, Bool.or_false, Bool.false_or, Bool.or_true, Bool.true_or, flatD, List.map_cons, List.map_nil, List.length_cons, List.length_nil, Nat.reduceAdd, Nat.reduceSub, List.reduceReplicate, List.cons_append, List.nil_append, List.append_nil, List.getElem?_cons_zero, List.getElem?_cons_succ, List.set_cons_zero, List.set_cons_succ, Option.map_some, Option.bind_some, ends0, ends1, endsF, ite_true, if_true, if_false, Bool.false_eq_true, reduceIte, true_and, and_true, Bool.not_true, Bool.not_false, Bool.not_eq_true', decide_eq_true_eq, decide_eq_false_iff_not]
  split
  · exact ⟨h1, cdiv (n := 120) h1 (by omega) (by decide) (by decide), k _ _ (Int.emod_nonneg _ (by omega)) (Int.emod_lt_of_pos _ h1) ⟨_, _, _, rfl, b0, b1, c0, by omega⟩⟩
  · have e1 : (10 : Int) ^ Int.toNat 28 + 331 = 10000000000000000000000000331 := by decide +kernel
    have e2 : (10 : Int) ^ Int.toNat 31 + 33 = 10000000000000000000000000000033 := by decide +kernel
    have e3 : Int.toNat 3 = 3 := rfl
    rw [e1, e2, e3]
    generalize hx : ((b + 982451653 * (c + 1)) ^ 3 + 57885161 * (c + 1)) % 10000000000000000000000000331 = x
    have x0 : 0 ≤ x := by rw [← hx]; exact Int.emod_nonneg _ (by decide)
    have x1 : x < 10000000000000000000000000331 := by rw [← hx]; exact Int.emod_lt_of_pos _ (by decide)
    generalize hy : (x * x + 32452843 * b) % 10000000000000000000000000000033 = y
    have y0 : 0 ≤ y := by rw [← hy]; exact Int.emod_nonneg _ (by decide)
    refine ⟨cmulL (by decide) (by decide), cpow (n := 200) (by decide) (by omega) (by decide), cmulL (by decide) (by decide), cpow (n := 4) (by decide) (by decide) (by decide), by decide, cmulW (n := 100) (k := 100) (by omega) (by omega) (by decide) (by decide) (by decide),
      cmulL (by decide) (by decide), cpow (n := 4) (by decide) (by decide) (by decide), by decide, cdiv (n := 20) (by decide) (by decide) (by decide) (by decide), h1, k _ _ (Int.emod_nonneg _ (by omega)) (Int.emod_lt_of_pos _ h1) ⟨_, _, _, rfl, b0, b1, by omega, by omega⟩⟩
theorem pick_ok {N : Nat} {o : MO} {l : List D} {P : D → MO → Prop} (ho : Pl N o) (hN : N ≤ 2 ^ 60) (h1 : l ≠ []) (h2 : l.length ≤ 16777216) (x : D) (hx : x = .lst l ∨ x = .tup l) (k : ∀ (d : D) (o' : MO), d ∈ l → Pl (N + 1) o' → P d o') : g__law_pick o [x] P := by
  refine ⟨rfl, ?_⟩
  have h0 : 0 < l.length := List.length_pos_iff.mpr h1
  have fin : ∀ (d : Int) (o' : MO), 0 ≤ d → d < l.length → Pl (N + 1) o' → bnd (atI l d) fun z => pureM o' = true ∧ P z o' := fun d o' d0 d1 p => by
    have e : atI l d = some (l[d.toNat]'(by omega)) := by
      unfold atI ixN
      rw [if_pos d0, if_pos d1]
      show l[d.toNat]? = _
      rw [List.getElem?_eq_getElem]
    rw [e]
    exact ⟨p.pure, k _ _ (List.getElem_mem _) p⟩
  rcases hx with rfl | rfl
  all_goals
    simp only [r__law_pick, e_var, e_c, e_bin, e_un, e_view, e_bnd, e_cons, e_nil, e_allD0, e_allD, e_allV0, e_allV1, e_allV2, e_cb, e_cf, e_on1, e_on2, e_test, e_truth, e_asB, e_asI, e_tup, e_lst, e_z, e_o, e_zg, e_og, e_ifE, e_and, e_or, e_not, e_andV, e_orV, e_notV, e_sm, e_smV, e_smf, e_call, e_callK, e_fnP, e_fnF, e_fnQ, e_next, e_seq, e_brk, e_cnt, e_drop, e_ret, e_if, e_asg, e_bname, e_btup, e_bsnil, e_bscons, e_par, e_fmt, e_js0, e_js, e_sl, e_nopart, e_part, e_frzd, e_frz1d, e_lc, e_for, e_seqI, e_rng1, e_rng2, e_enum, e_itT, e_itL, e_itS, e_start, e_yes, e_plain, o_add, o_addS, o_addT, o_addL, o_sub, o_mul, o_mulS, o_div, o_mod, o_pow, o_neg, o_lt, o_le, o_gt, o_ge, o_ltS, o_eqI, o_eqS, o_neI, o_neS, o_eqL, o_neL, o_lenS, o_lenT, o_lenL, o_lenR, o_int, o_intB, o_abs, o_max, o_min, o_st, o_ixL, o_ixT, o_ixR, o_ixS, o_tupL, o_tupT, o_all, o_slS, o_slT, o_slL, o_join, o_asT, o_asL, o_part, o_is, o_reprL, o_reprT, t_bl, t_lst, t_tup, e_asO, e_asL, e_stL, e_pure, v_o0, v_o1, at0, at1, at2, ix30, ix31, ix32, li_R, li_L, e_wp0, e_wp, e_ss, e_gnd, e_app, e_pop, o_isiI, o_isiS, o_isiT, o_isiL, o_isiB, o_isiN, o_isi2I, o_isi2S, o_isi2T, o_isi2L, o_isi2B, o_isi2N, o_inS1, o_inT, o_ninT, o_intT, o_split, e_chain, e_binF, o_cat, e_dictP, e_while, e_din0, e_dput, o_sortD, e_key, e_asD, e_asM, e_itO, v_o1d, isT, reduceCtorEq, List.any_cons, List.any_nil, List.all_cons, List.all_nil, Bool.or_false, Bool.false_or, Bool.or_true, Bool.true_or, flatD, List.map_cons, List.map_nil, List.length_cons, List.length_nil, Nat.reduceAdd, Nat.reduceSub, List.reduceReplicate, List.cons_append, List.nil_append, List.append_nil, List.getElem?_cons_zero, List.getElem?_cons_succ, List.set_cons_zero, List.set_cons_succ, Option.map_some, Option.bind_some, ends0, ends1, endsF, ite_true, if_true, if_false, Bool.false_eq_true, reduceIte, true_and, and_true, Bool.not_true, Bool.not_false, Bool.not_eq_true', decide_eq_true_eq, decide_eq_false_iff_not]
    refine ⟨ho.pure, scoop_ok ho hN (by omega) (by omega) fun d o' d0 d1 p => ?_⟩
    simp only [e_var, e_c, e_bin, e_un, e_view, e_bnd, e_cons, e_nil, e_allD0, e_allD, e_allV0, e_allV1, e_allV2, e_cb, e_cf, e_on1, e_on2, e_test, e_truth, e_asB, e_asI, e_tup, e_lst, e_z, e_o, e_zg, e_og, e_ifE, e_and, e_or, e_not, e_andV, e_orV, e_notV, e_sm, e_smV, e_smf, e_call, e_callK, e_fnP, e_fnF, e_fnQ, e_next, e_seq, e_brk, e_cnt, e_drop, e_ret, e_if, e_asg, e_bname, e_btup, e_bsnil, e_bscons, e_par, e_fmt, e_js0, e_js, e_sl, e_nopart, e_part, e_frzd, e_frz1d, e_lc, e_for, e_seqI, e_rng1, e_rng2, e_enum, e_itT, e_itL, e_itS, e_start, e_yes, e_plain, o_add, o_addS, o_addT, o_addL, o_sub, o_mul, o_mulS, o_div, o_mod, o_pow, o_neg, o_lt, o_le, o_gt, o_ge, o_ltS, o_eqI, o_eqS, o_neI, o_neS, o_eqL, o_neL, o_lenS, o_lenT, o_lenL, o_lenR, o_int, o_intB, o_abs, o_max, o_min, o_st, o_ixL, o_ixT, o_ixR, o_ixS, o_tupL, o_tupT, o_all, o_slS, o_slT, o_slL, o_join, o_asT, o_asL, o_part, o_is, o_reprL, o_reprT, t_bl, t_lst, t_tup, e_asO, e_asL, e_stL, e_pure, v_o0, v_o1, at0, at1, at2, ix30, ix31, ix32, li_R, li_L, e_wp0, e_wp, e_ss, e_gnd, e_app, e_pop, o_isiI, o_isiS, o_isiT, o_isiL, o_isiB, o_isiN, o_isi2I, o_isi2S, o_isi2T, o_isi2L, o_isi2B, o_isi2N, o_inS1, o_inT, o_ninT, o_intT, o_split, e_chain, e_binF, o_cat, e_dictP, e_while, e_din0, e_dput, o_sortD, e_key, e_asD, e_asM, e_itO, v_o1d, isT, reduceCtorEq, List.any_cons, List.any_nil, List.all_cons, List.all_nil, Bool.or_false, Bool.false_or, Bool.or_true, Bool.true_or, flatD, List.map_cons, List.map_nil, List.length_cons, List.length_nil, Nat.reduceAdd, Nat.reduceSub, List.reduceReplicate, List.cons_append, List.nil_append, List.append_nil, List.getElem?_cons_zero, List.getElem?_cons_succ, List.set_cons_zero, List.set_cons_succ, Option.map_some, Option.bind_some, ends0, ends1, endsF, ite_true, if_true, if_false, Bool.false_eq_true, reduceIte, true_and, and_true, Bool.not_true, Bool.not_false, Bool.not_eq_true', decide_eq_true_eq, decide_eq_false_iff_not]
    exact fin d o' d0 d1 p
theorem pickS_ok {N : Nat} {o : MO} {s : List Nat} {P : D → MO → Prop} (ho : Pl N o) (hN : N ≤ 2 ^ 60) (h1 : s ≠ []) (h2 : s.length ≤ 16777216) (k : ∀ (c : Nat) (o' : MO), c ∈ s → Pl (N + 1) o' → P (.str [c]) o') : g__law_pick o [.str s] P := by
  refine ⟨rfl, ?_⟩
  have h0 : 0 < s.length := List.length_pos_iff.mpr h1
  simp only [r__law_pick, e_var, e_c, e_bin, e_un, e_view, e_bnd, e_cons, e_nil, e_allD0, e_allD, e_allV0, e_allV1, e_allV2, e_cb, e_cf, e_on1, e_on2, e_test, e_truth, e_asB, e_asI, e_tup, e_lst, e_z, e_o, e_zg, e_og, e_ifE, e_and, e_or, e_not, e_andV, e_orV, e_notV, e_sm, e_smV, e_smf, e_call, e_callK, e_fnP, e_fnF, e_fnQ, e_next, e_seq, e_brk, e_cnt, e_drop, e_ret, e_if, e_asg, e_bname, e_btup, e_bsnil, e_bscons, e_par, e_fmt, e_js0, e_js, e_sl, e_nopart, e_part, e_frzd, e_frz1d, e_lc, e_for, e_seqI, e_rng1, e_rng2, e_enum, e_itT, e_itL, e_itS, e_start, e_yes, e_plain, o_add, o_addS, o_addT, o_addL, o_sub, o_mul, o_mulS, o_div, o_mod, o_pow, o_neg, o_lt, o_le, o_gt, o_ge, o_ltS, o_eqI, o_eqS, o_neI, o_neS, o_eqL, o_neL, o_lenS, o_lenT, o_lenL, o_lenR, o_int, o_intB, o_abs, o_max, o_min, o_st, o_ixL, o_ixT, o_ixR, o_ixS, o_tupL, o_tupT, o_all, o_slS, o_slT, o_slL, o_join, o_asT, o_asL, o_part, o_is, o_reprL, o_reprT, t_bl, t_lst, t_tup, e_asO, e_asL, e_stL, e_pure, v_o0, v_o1, at0, at1, at2, ix30, ix31, ix32, li_R, li_L, e_wp0, e_wp, e_ss, e_gnd, e_app, e_pop, o_isiI, o_isiS, o_isiT, o_isiL, o_isiB, o_isiN, o_isi2I, o_isi2S, o_isi2T, o_isi2L, o_isi2B, o_isi2N, o_inS1, o_inT, o_ninT, o_intT, o_split, e_chain, e_binF, o_cat, e_dictP, e_while, e_din0, e_dput, o_sortD, e_key, e_asD, e_asM, e_itO, v_o1d, isT, reduceCtorEq, List.any_cons, List.any_nil, List.all_cons, List.all_nil, Bool.or_false, Bool.false_or, Bool.or_true, Bool.true_or, flatD, List.map_cons, List.map_nil, List.length_cons, List.length_nil, Nat.reduceAdd, Nat.reduceSub, List.reduceReplicate, List.cons_append, List.nil_append, List.append_nil, List.getElem?_cons_zero, List.getElem?_cons_succ, List.set_cons_zero, List.set_cons_succ, Option.map_some, Option.bind_some, ends0, ends1, endsF, ite_true, if_true, if_false, Bool.false_eq_true, reduceIte, true_and, and_true, Bool.not_true, Bool.not_false, Bool.not_eq_true', decide_eq_true_eq, decide_eq_false_iff_not]
  refine ⟨h2, ho.pure, scoop_ok ho hN (by omega) (by omega) fun d o' d0 d1 p => ?_⟩
  simp only [e_var, e_c, e_bin, e_un, e_view, e_bnd, e_cons, e_nil, e_allD0, e_allD, e_allV0, e_allV1, e_allV2, e_cb, e_cf, e_on1, e_on2, e_test, e_truth, e_asB, e_asI, e_tup, e_lst, e_z, e_o, e_zg, e_og, e_ifE, e_and, e_or, e_not, e_andV, e_orV, e_notV, e_sm, e_smV, e_smf, e_call, e_callK, e_fnP, e_fnF, e_fnQ, e_next, e_seq, e_brk, e_cnt, e_drop, e_ret, e_if, e_asg, e_bname, e_btup, e_bsnil, e_bscons, e_par, e_fmt, e_js0, e_js, e_sl, e_nopart, e_part, e_frzd, e_frz1d, e_lc, e_for, e_seqI, e_rng1, e_rng2, e_enum, e_itT, e_itL, e_itS, e_start, e_yes, e_plain, o_add, o_addS, o_addT, o_addL, o_sub, o_mul, o_mulS, o_div, o_mod, o_pow, o_neg, o_lt, o_le, o_gt, o_ge, o_ltS, o_eqI, o_eqS, o_neI, o_neS, o_eqL, o_neL, o_lenS, o_lenT, o_lenL, o_lenR, o_int, o_intB, o_abs, o_max, o_min, o_st, o_ixL, o_ixT, o_ixR, o_ixS, o_tupL, o_tupT, o_all, o_slS, o_slT, o_slL, o_join, o_asT, o_asL, o_part, o_is, o_reprL, o_reprT, t_bl, t_lst, t_tup, e_asO, e_asL, e_stL, e_pure, v_o0, v_o1, at0, at1, at2, ix30, ix31, ix32, li_R, li_L, e_wp0, e_wp, e_ss, e_gnd, e_app, e_pop, o_isiI, o_isiS, o_isiT, o_isiL, o_isiB, o_isiN, o_isi2I, o_isi2S, o_isi2T, o_isi2L, o_isi2B, o_isi2N, o_inS1, o_inT, o_ninT, o_intT, o_split, e_chain, e_binF, o_cat, e_dictP, e_while, e_din0, e_dput, o_sortD, e_key, e_asD, e_asM, e_itO, v_o1d, isT, reduceCtorEq, List.any_cons, List.any_nil, List.all_cons, List.all_nil, Bool.or_false, Bool.false_or, Bool.or_true, Bool.true_or, flatD, List.map_cons, List.map_nil, List.length_cons, List.length_nil, Nat.reduceAdd, Nat.reduceSub, List.reduceReplicate, List.cons_append, List.nil_append, List.append_nil, List.getElem?_cons_zero, List.getElem?_cons_succ, List.set_cons_zero, List.set_cons_succ, Option.map_some, Option.bind_some, ends0, ends1, endsF, ite_true, if_true, if_false, Bool.false_eq_true, reduceIte, true_and, and_true, Bool.not_true, Bool.not_false, Bool.not_eq_true', decide_eq_true_eq, decide_eq_false_iff_not]
  have e : atI s d = some (s[d.toNat]'(by omega)) := by
    unfold atI ixN
    rw [if_pos d0, if_pos d1]
    show s[d.toNat]? = _
    rw [List.getElem?_eq_getElem]
  rw [e]
  exact ⟨h2, p.pure, k _ _ (List.getElem_mem _) p⟩
theorem pail_ok {ns : List Int} {k : Int} {P : List D → Prop} (hn : ns.length ≤ 63) (k0 : 0 ≤ k) (k1 : k ≤ 100) (h : ∀ l, Pl 0 (.lst l) → P l) : g__law_pail [.scr ns, .int k] P := by
  refine ⟨rfl, ?_⟩
  simp only [r__law_pail, e_var, e_c, e_bin, e_un, e_view, e_bnd, e_cons, e_nil, e_allD0, e_allD, e_allV0, e_allV1, e_allV2, e_cb, e_cf, e_on1, e_on2, e_test, e_truth, e_asB, e_asI, e_tup, e_lst, e_z, e_o, e_zg, e_og, e_ifE, e_and, e_or, e_not, e_andV, e_orV, e_notV, e_sm, e_smV, e_smf, e_call, e_callK, e_fnP, e_fnF, e_fnQ, e_next, e_seq, e_brk, e_cnt, e_drop, e_ret, e_if, e_asg, e_bname, e_btup, e_bsnil, e_bscons, e_par, e_fmt, e_js0, e_js, e_sl, e_nopart, e_part, e_frzd, e_frz1d, e_lc, e_for, e_seqI, e_rng1, e_rng2, e_enum, e_itT, e_itL, e_itS, e_start, e_yes, e_plain, o_add, o_addS, o_addT, o_addL, o_sub, o_mul, o_mulS, o_div, o_mod, o_pow, o_neg, o_lt, o_le, o_gt, o_ge, o_ltS, o_eqI, o_eqS, o_neI, o_neS, o_eqL, o_neL, o_lenS, o_lenT, o_lenL, o_lenR, o_int, o_intB, o_abs, o_max, o_min, o_st, o_ixL, o_ixT, o_ixR, o_ixS, o_tupL, o_tupT, o_all, o_slS, o_slT, o_slL, o_join, o_asT, o_asL, o_part, o_is, o_reprL, o_reprT, t_bl, t_lst, t_tup, e_asO, e_asL, e_stL, e_pure, v_o0, v_o1, at0, at1, at2, ix30, ix31, ix32, li_R, li_L, e_wp0, e_wp, e_ss, e_gnd, e_app, e_pop, o_isiI, o_isiS, o_isiT, o_isiL, o_isiB, o_isiN, o_isi2I, o_isi2S, o_isi2T, o_isi2L, o_isi2B, o_isi2N, o_inS1, o_inT, o_ninT, o_intT, o_split, e_chain, e_binF, o_cat, e_dictP, e_while, e_din0, e_dput, o_sortD, e_key, e_asD, e_asM, e_itO, v_o1d, isT, reduceCtorEq, List.any_cons, List.any_nil, List.all_cons, List.all_nil, Bool.or_false, Bool.false_or, Bool.or_true, Bool.true_or, flatD, List.map_cons, List.map_nil, List.length_cons, List.length_nil, Nat.reduceAdd, Nat.reduceSub, List.reduceReplicate, List.cons_append, List.nil_append, List.append_nil, List.getElem?_cons_zero, List.getElem?_cons_succ, List.set_cons_zero, List.set_cons_succ, Option.map_some, Option.bind_some, ends0, ends1, endsF, ite_true, if_true, if_false, Bool.false_eq_true, reduceIte, true_and, and_true, Bool.not_true, Bool.not_false, Bool.not_eq_true', decide_eq_true_eq, decide_eq_false_iff_not]
  refine ⟨cmulL (by decide) (by decide), ?_⟩
  refine for_inv (I := fun l ρ m => ∃ (i : Nat) (js : List Int) (c t : Int) (x y : Option SV), l = enumD i (js.map .int) ∧ i + js.length ≤ 63 ∧ ρ = [some (.d (.scr ns)), some (.d (.int k)), some (.d (.int c)), some (.d (.int t)), x, y, none] ∧ m = [])
    (fun d l ρ m Nx hI nx => ?_) (fun ρ m hI => ?_) _ _ _ ⟨0, ns, _, _, _, _, rfl, by omega, rfl, rfl⟩
  · obtain ⟨i, js, c, t, x, y, e, hi, rfl, rfl⟩ := hI
    cases js with
    | nil => cases e
    | cons j js =>
      cases e
      simp only [e_var, e_c, e_bin, e_un, e_view, e_bnd, e_cons, e_nil, e_allD0, e_allD, e_allV0, e_allV1, e_allV2, e_cb, e_cf, e_on1, e_on2, e_test, e_truth, e_asB, e_asI, e_tup, e_lst, e_z, e_o, e_zg, e_og, e_ifE, e_and, e_or, e_not, e_andV, e_orV, e_notV, e_sm, e_smV, e_smf, e_call, e_callK, e_fnP, e_fnF, e_fnQ, e_next, e_seq, e_brk, e_cnt, e_drop, e_ret, e_if, e_asg, e_bname, e_btup, e_bsnil, e_bscons, e_par, e_fmt, e_js0, e_js, e_sl, e_nopart, e_part, e_frzd, e_frz1d, e_lc, e_for, e_seqI, e_rng1, e_rng2, e_enum, e_itT, e_itL, e_itS, e_start, e_yes, e_plain, o_add, o_addS, o_addT, o_addL, o_sub, o_mul, o_mulS, o_div, o_mod, o_pow, o_neg, o_lt, o_le, o_gt, o_ge, o_ltS, o_eqI, o_eqS, o_neI, o_neS, o_eqL, o_neL, o_lenS, o_lenT, o_lenL, o_lenR, o_int, o_intB, o_abs, o_max, o_min, o_st, o_ixL, o_ixT, o_ixR, o_ixS, o_tupL, o_tupT, o_all, o_slS, o_slT, o_slL, o_join, o_asT, o_asL, o_part, o_is, o_reprL, o_reprT, t_bl, t_lst, t_tup, e_asO, e_asL, e_stL, e_pure, v_o0, v_o1, at0, at1, at2, ix30, ix31, ix32, li_R, li_L, e_wp0, e_wp, e_ss, e_gnd, e_app, e_pop, o_isiI, o_isiS, o_isiT, o_isiL, o_isiB, o_isiN, o_isi2I, o_isi2S, o_isi2T, o_isi2L, o_isi2B, o_isi2N, o_inS1, o_inT, o_ninT, o_intT, o_split, e_chain, e_binF, o_cat, e_dictP, e_while, e_din0, e_dput, o_sortD, e_key, e_asD, e_asM, e_itO, v_o1d, isT, reduceCtorEq, List.any_cons, List.any_nil, List.all_cons, List.all_nil, Bool.or_false, Bool.false_or, Bool.or_true, Bool.true_or, flatD, List.map_cons, List.map_nil, List.length_cons, List.length_nil, Nat.reduceAdd, Nat.reduceSub, List.reduceReplicate, List.cons_append, List.nil_append, List.append_nil, List.getElem?_cons_zero, List.getElem?_cons_succ, List.set_cons_zero, List.set_cons_succ, Option.map_some, Option.bind_some, ends0, ends1, endsF, ite_true, if_true, if_false, Bool.false_eq_true, reduceIte, true_and, and_true, Bool.not_true, Bool.not_false, Bool.not_eq_true', decide_eq_true_eq, decide_eq_false_iff_not]
      rw [List.length_cons] at hi
      refine ⟨cmulL (by decide) (by decide), cpow (n := 4) (by decide) (by decide) (by decide), by decide, cmulL (by omega) (by omega), nx _ _ ⟨i + 1, js, _, _, _, _, rfl, by omega, rfl, rfl⟩⟩
  · obtain ⟨i, js, c, t, x, y, e, hi, rfl, rfl⟩ := hI
    have fin : ∀ (c : Int), Dl.MulOk (if c < 0 then -c else c) 7 ∧ Dl.MulOk 2 (if c < 0 then 1 else 0) ∧ Dl.MulOk 60013 t ∧ Dl.MulOk 31 k ∧ CPowW 10 35 ∧ 0 < (10 : Int) ^ Int.toNat 35 + 69 ∧ CPowW 10 18 ∧ 3 ≤ 16777216 ∧
        P [D.int (if c - 10 ^ Int.toNat 18 > 0 then c - 10 ^ Int.toNat 18 else 0), D.int ((((if c < 0 then -c else c) * 7 + 2 * if c < 0 then 1 else 0) + 60013 * t + 31 * k) % (10 ^ Int.toNat 35 + 69)), D.int 0] := fun c => by
      have e1 : (10 : Int) ^ Int.toNat 35 + 69 = 100000000000000000000000000000000069 := by decide +kernel
      rw [e1]
      exact ⟨cmulR (by decide) (by decide), cmulL (by decide) (by decide), cmulL (by decide) (by decide), cmulL (by decide) (by decide), cpow (n := 4) (by decide) (by decide) (by decide), by decide, cpow (n := 4) (by decide) (by decide) (by decide), by decide,
        h _ ⟨_, _, _, rfl, Int.emod_nonneg _ (by decide), Int.lt_trans (Int.emod_lt_of_pos _ (by decide)) (by decide), Int.le_refl 0, Int.le_refl 0⟩⟩
    simp only [e_var, e_c, e_bin, e_un, e_view, e_bnd, e_cons, e_nil, e_allD0, e_allD, e_allV0, e_allV1, e_allV2, e_cb, e_cf, e_on1, e_on2, e_test, e_truth, e_asB, e_asI, e_tup, e_lst, e_z, e_o, e_zg, e_og, e_ifE, e_and, e_or, e_not, e_andV, e_orV, e_notV, e_sm, e_smV, e_smf, e_call, e_callK, e_fnP, e_fnF, e_fnQ, e_next, e_seq, e_brk, e_cnt, e_drop, e_ret, e_if, e_asg, e_bname, e_btup, e_bsnil, e_bscons, e_par, e_fmt, e_js0, e_js, e_sl, e_nopart, e_part, e_frzd, e_frz1d, e_lc, e_for, e_seqI, e_rng1, e_rng2, e_enum, e_itT, e_itL, e_itS, e_start, e_yes, e_plain, o_add, o_addS, o_addT, o_addL, o_sub, o_mul, o_mulS, o_div, o_mod, o_pow, o_neg, o_lt, o_le, o_gt, o_ge, o_ltS, o_eqI, o_eqS, o_neI, o_neS, o_eqL, o_neL, o_lenS, o_lenT, o_lenL, o_lenR, o_int, o_intB, o_abs, o_max, o_min, o_st, o_ixL, o_ixT, o_ixR, o_ixS, o_tupL, o_tupT, o_all, o_slS, o_slT, o_slL, o_join, o_asT, o_asL, o_part, o_is, o_reprL, o_reprT, t_bl, t_lst, t_tup, e_asO, e_asL, e_stL, e_pure, v_o0, v_o1, at0, at1, at2, ix30, ix31, ix32, li_R, li_L, e_wp0, e_wp, e_ss, e_gnd, e_app, e_pop, o_isiI, o_isiS, o_isiT, o_isiL, o_isiB, o_isiN, o_isi2I, o_isi2S, o_isi2T, o_isi2L, o_isi2B, o_isi2N, o_inS1, o_inT, o_ninT, o_intT, o_split, e_chain, e_binF, o_cat, e_dictP, e_while, e_din0, e_dput, o_sortD, e_key, e_asD, e_asM, e_itO, v_o1d, isT, reduceCtorEq, List.any_cons, List.any_nil, List.all_cons, List.all_nil, Bool.or_false, Bool.false_or, Bool.or_true, Bool.true_or, flatD, List.map_cons, List.map_nil, List.length_cons, List.length_nil, Nat.reduceAdd, Nat.reduceSub, List.reduceReplicate, List.cons_append, List.nil_append, List.append_nil, List.getElem?_cons_zero, List.getElem?_cons_succ, List.set_cons_zero, List.set_cons_succ, Option.map_some, Option.bind_some, ends0, ends1, endsF, ite_true, if_true, if_false, Bool.false_eq_true, reduceIte, true_and, and_true, Bool.not_true, Bool.not_false, Bool.not_eq_true', decide_eq_true_eq, decide_eq_false_iff_not]
    split
    · rename_i hk
      have hk' : k.toNat < ns.length := by omega
      have e2 := at_nat (l := ns) (i := k.toNat) hk'
      rw [show ((k.toNat : Nat) : Int) = k by omega] at e2
      rw [e2]
      exact fin _
    · exact fin c
/-! ### windows -/
structure Wins (n : Nat) (ws : List (List Nat)) : Prop where
  ne : ws ≠ []
  few : ws.length ≤ 40
  asc : ws.Pairwise (· < ·)
  len : ∀ w ∈ ws, w.length = n
  az : ∀ w ∈ ws, ∀ c ∈ w, 97 ≤ c ∧ c ≤ 122
theorem fm_ints {f : Nat → D} {g : D → Option D} (h : ∀ i : Nat, g (.int i) = some (f i)) (n : Nat) : (intsOf 0 n).filterMap g = (List.range n).map f := by
  unfold intsOf
  rw [List.filterMap_map]
  have e : (g ∘ fun i : Nat => D.int (0 + (i : Int))) = fun i => some (f i) := by
    funext i
    show g (.int (0 + (i : Int))) = _
    rw [Int.zero_add]
    exact h i
  rw [e, List.filterMap_eq_map']
theorem rep_len (q : Nat) (s : List Nat) : (List.replicate q s).flatten.length = q * s.length := by
  rw [List.length_flatten, List.map_replicate, List.sum_replicate_nat]
theorem rep_mem {q c : Nat} {s : List Nat} (h : c ∈ (List.replicate q s).flatten) : c ∈ s := by
  obtain ⟨l, hl, hc⟩ := List.mem_flatten.mp h
  rw [(List.mem_replicate.mp hl).2] at hc
  exact hc
theorem windows_ok {n : Nat} {s : List Nat} {P : D → Prop} (h0 : s ≠ []) (h1 : s.length ≤ 40) (hn : n ≤ 6) (az : ∀ c ∈ s, 97 ≤ c ∧ c ≤ 122) (k : ∀ ws, Wins n ws → P (.tup (ws.map .str))) : g__law_own_windows [.int n, .str s] P := by
  refine ⟨rfl, ?_⟩
  have hp : 0 < s.length := List.length_pos_iff.mpr h0
  have eq : ((n : Int) / (s.length : Int) + 2) = ((n / s.length + 2 : Nat) : Int) := by
    rw [Int.natCast_add, Int.natCast_ediv]
    rfl
  simp only [r__law_own_windows, e_var, e_c, e_bin, e_un, e_view, e_bnd, e_cons, e_nil, e_allD0, e_allD, e_allV0, e_allV1, e_allV2, e_cb, e_cf, e_on1, e_on2, e_test, e_truth, e_asB, e_asI, e_tup, e_lst, e_z, e_o, e_zg, e_og, e_ifE, e_and, e_or, e_not, e_andV, e_orV, e_notV, e_sm, e_smV, e_smf, e_call, e_callK, e_fnP, e_fnF, e_fnQ, e_next, e_seq, e_brk, e_cnt, e_drop, e_ret, e_if, e_asg, e_bname, e_btup, e_bsnil, e_bscons, e_par, e_fmt, e_js0, e_js, e_sl, e_nopart, e_part, e_frzd, e_frz1d, e_lc, e_for, e_seqI, e_rng1, e_rng2, e_enum, e_itT, e_itL, e_itS, e_start, e_yes, e_plain, o_add, o_addS, o_addT, o_addL, o_sub, o_mul, o_mulS, o_div, o_mod, o_pow, o_neg, o_lt, o_le, o_gt, o_ge, o_ltS, o_eqI, o_eqS, o_neI, o_neS, o_eqL, o_neL, o_lenS, o_lenT, o_lenL, o_lenR, o_int, o_intB, o_abs, o_max, o_min, o_st, o_ixL, o_ixT, o_ixR, o_ixS, o_tupL, o_tupT, o_all, o_slS, o_slT, o_slL, o_join, o_asT, o_asL, o_part, o_is, o_reprL, o_reprT, t_bl, t_lst, t_tup, e_asO, e_asL, e_stL, e_pure, v_o0, v_o1, at0, at1, at2, ix30, ix31, ix32, li_R, li_L, e_wp0, e_wp, e_ss, e_gnd, e_app, e_pop, o_isiI, o_isiS, o_isiT, o_isiL, o_isiB, o_isiN, o_isi2I, o_isi2S, o_isi2T, o_isi2L, o_isi2B, o_isi2N, o_inS1, o_inT, o_ninT, o_intT, o_split, e_chain, e_binF, o_cat, e_dictP, e_while, e_din0, e_dput, o_sortD, e_key, e_asD, e_asM, e_itO, v_o1d, isT, reduceCtorEq, List.any_cons, List.any_nil, List.all_cons, List.all_nil, Bool.or_false, Bool.false_or, Bool.or_true, Bool.true_or, flatD, List.map_cons, List.map_nil, List.length_cons, List.length_nil, Nat.reduceAdd, Nat.reduceSub, List.reduceReplicate, List.cons_append, List.nil_append, List.append_nil, List.getElem?_cons_zero, List.getElem?_cons_succ, List.set_cons_zero, List.set_cons_succ, Option.map_some, Option.bind_some, ends0, ends1, endsF, ite_true, if_true, if_false, Bool.false_eq_true, reduceIte, true_and, and_true, Bool.not_true, Bool.not_false, Bool.not_eq_true', decide_eq_true_eq, decide_eq_false_iff_not]
  rw [eq, Int.toNat_natCast, Int.toNat_natCast]
  have q6 : n / s.length ≤ n := Nat.div_le_self _ _
  generalize hq : n / s.length + 2 = q
  have hw : n + s.length ≤ q * s.length := by
    rw [← hq, Nat.add_mul]
    have := Nat.lt_div_mul_add hp (a := n)
    omega
  have hq8 : q ≤ 8 := by omega
  have hmul : s.length * q ≤ 40 * 8 := Nat.mul_le_mul h1 hq8
  refine ⟨by omega, cdiv (n := 10) (by omega) (by omega) (by decide) (by decide), by omega, by omega, by omega, by omega, by omega, by omega, ?_⟩
  refine lc_pure (f := fun d => match d with
    | .int i => some (.str (((List.replicate q s).flatten.drop i.toNat).take n))
    | _ => none) trivial _ _ (fun d hd Q Q' h => ?_) (by rw [intsOf_len, List.length_nil]; omega) ?_
  · obtain ⟨i, hi, rfl⟩ := intsOf_mem hd
    have e2 : ((i : Int) + (n : Int)) = ((i + n : Nat) : Int) := by omega
    simp only [e_var, e_c, e_bin, e_un, e_view, e_bnd, e_cons, e_nil, e_allD0, e_allD, e_allV0, e_allV1, e_allV2, e_cb, e_cf, e_on1, e_on2, e_test, e_truth, e_asB, e_asI, e_tup, e_lst, e_z, e_o, e_zg, e_og, e_ifE, e_and, e_or, e_not, e_andV, e_orV, e_notV, e_sm, e_smV, e_smf, e_call, e_callK, e_fnP, e_fnF, e_fnQ, e_next, e_seq, e_brk, e_cnt, e_drop, e_ret, e_if, e_asg, e_bname, e_btup, e_bsnil, e_bscons, e_par, e_fmt, e_js0, e_js, e_sl, e_nopart, e_part, e_frzd, e_frz1d, e_lc, e_for, e_seqI, e_rng1, e_rng2, e_enum, e_itT, e_itL, e_itS, e_start, e_yes, e_plain, o_add, o_addS, o_addT, o_addL, o_sub, o_mul, o_mulS, o_div, o_mod, o_pow, o_neg, o_lt, o_le, o_gt, o_ge, o_ltS, o_eqI, o_eqS, o_neI, o_neS, o_eqL, o_neL, o_lenS, o_lenT, o_lenL, o_lenR, o_int, o_intB, o_abs, o_max, o_min, o_st, o_ixL, o_ixT, o_ixR, o_ixS, o_tupL, o_tupT, o_all, o_slS, o_slT, o_slL, o_join, o_asT, o_asL, o_part, o_is, o_reprL, o_reprT, t_bl, t_lst, t_tup, e_asO, e_asL, e_stL, e_pure, v_o0, v_o1, at0, at1, at2, ix30, ix31, ix32, li_R, li_L, e_wp0, e_wp, e_ss, e_gnd, e_app, e_pop, o_isiI, o_isiS, o_isiT, o_isiL, o_isiB, o_isiN, o_isi2I, o_isi2S, o_isi2T, o_isi2L, o_isi2B, o_isi2N, o_inS1, o_inT, o_ninT, o_intT, o_split, e_chain, e_binF, o_cat, e_dictP, e_while, e_din0, e_dput, o_sortD, e_key, e_asD, e_asM, e_itO, v_o1d, isT, reduceCtorEq, List.any_cons, List.any_nil, List.all_cons, List.all_nil, Bool.or_false, Bool.false_or, Bool.or_true, Bool.true_or, flatD, List.map_cons, List.map_nil, List.length_cons, List.length_nil, Nat.reduceAdd, Nat.reduceSub, List.reduceReplicate, List.cons_append, List.nil_append, List.append_nil, List.getElem?_cons_zero, List.getElem?_cons_succ, List.set_cons_zero, List.set_cons_succ, Option.map_some, Option.bind_some, ends0, ends1, endsF, ite_true, if_true, if_false, Bool.false_eq_true, reduceIte, true_and, and_true, Bool.not_true, Bool.not_false, Bool.not_eq_true', decide_eq_true_eq, decide_eq_false_iff_not]
    rw [e2, cut_mid (by omega) (by rw [rep_len]; omega), show i + n - i = n by omega, rep_len]
    refine ⟨?_, h⟩
    have := Nat.mul_le_mul hq8 h1
    omega
  · rw [List.nil_append, fm_ints (f := fun i => .str (((List.replicate q s).flatten.drop i).take n)) (fun i => rfl)]
    have e3 : (List.range s.length).map (fun i => D.str (((List.replicate q s).flatten.drop i).take n)) = ((List.range s.length).map fun i => ((List.replicate q s).flatten.drop i).take n).map .str := by
      rw [List.map_map]
      rfl
    rw [e3, allStr_map]
    generalize hws : (List.range s.length).map (fun i => ((List.replicate q s).flatten.drop i).take n) = ws
    have wl : ws.length = s.length := by rw [← hws, List.length_map, List.length_range]
    have wm : ∀ w ∈ ws, w.length = n ∧ ∀ c ∈ w, 97 ≤ c ∧ c ≤ 122 := fun w h => by
      rw [← hws] at h
      obtain ⟨i, hi, rfl⟩ := List.mem_map.mp h
      have hi := List.mem_range.mp hi
      refine ⟨?_, fun c hc => az c (rep_mem (List.mem_of_mem_drop (List.mem_of_mem_take hc)))⟩
      rw [List.length_take, List.length_drop, rep_len]
      omega
    have sub : ∀ w ∈ srt (ded ws), w ∈ ws := fun w h => ded_mem.mp ((srt_perm _).mem_iff.mp h)
    refine ⟨by omega, k _ ⟨?_, ?_, srt_lt (ded_nodup _), fun w h => (wm w (sub w h)).1, fun w h => (wm w (sub w h)).2⟩⟩
    · intro e
      have hne : ws ≠ [] := fun z => by
        rw [z] at wl
        rw [List.length_nil] at wl
        omega
      obtain ⟨w, hw⟩ := List.exists_mem_of_ne_nil ws hne
      have : w ∈ srt (ded ws) := (srt_perm _).mem_iff.mpr (ded_mem.mpr hw)
      rw [e] at this
      cases this
    · rw [(srt_perm _).length_eq]
      have := ded_len ws
      omega
/-- a text of letters, not empty -/
structure Txt1 (n : Nat) (s : List Nat) : Prop where
  ne : s ≠ []
  few : s.length ≤ n
  az : ∀ c ∈ s, 97 ≤ c ∧ c ≤ 122
theorem Txt1.up {n k : Nat} {s : List Nat} (h : Txt1 n s) (hk : n ≤ k) : Txt1 k s := ⟨h.ne, Nat.le_trans h.few hk, h.az⟩
/-- picks, one for each turn -/
theorem picks_ok {ρ : Rho} {i p j N : Nat} {x : D} {o : MO} {rest : Mu} {G : D → Prop} {P : List D → Mu → Prop} (h0 : ∀ v, (ρ.set i v)[0]? = some (some (.o 0))) (hp : ∀ v, (ρ.set i v)[p]? = some (some (.d x))) (ho : Pl N o) (hj : j ≤ 1000)
    (pick : ∀ (M : Nat) (o : MO) (Q : D → MO → Prop), Pl M o → M ≤ N + j → (∀ d o', G d → Pl (M + 1) o' → Q d o') → g__law_pick o [x] Q) (fin : ∀ l o', l.length = j → (∀ d ∈ l, G d) → Pl (N + j) o' → P l (o' :: rest)) :
    lcGo (fun _ => True) (bName i) dYes (dCall (fnQ g__law_pick) (dCons (dVar 0) (dCons (dVar p) dNil))) ρ P (intsOf 0 j) [] (o :: rest) := by
  refine lc_inv (I := fun l acc m => ∃ o', m = o' :: rest ∧ Pl (N + acc.length) o' ∧ (∀ d ∈ acc, G d) ∧ acc.length + l.length = j) (fun d l acc m Q hI q => ?_) (fun acc m hI => ?_) _ _ _ ⟨o, rfl, ho, nofun, by rw [intsOf_len, List.length_nil, Nat.zero_add]⟩
  · obtain ⟨o', rfl, ho', ha, hl⟩ := hI
    rw [List.length_cons] at hl
    simp only [e_bname, e_yes, e_call, e_cons, e_nil, e_varD (h0 _), e_varD (hp _)]
    simp only [e_var, e_c, e_bin, e_un, e_view, e_bnd, e_cons, e_nil, e_allD0, e_allD, e_allV0, e_allV1, e_allV2, e_cb, e_cf, e_on1, e_on2, e_test, e_truth, e_asB, e_asI, e_tup, e_lst, e_z, e_o, e_zg, e_og, e_ifE, e_and, e_or, e_not, e_andV, e_orV, e_notV, e_sm, e_smV, e_smf, e_call, e_callK, e_fnP, e_fnF, e_fnQ, e_next, e_seq, e_brk, e_cnt, e_drop, e_ret, e_if, e_asg, e_bname, e_btup, e_bsnil, e_bscons, e_par, e_fmt, e_js0, e_js, e_sl, e_nopart, e_part, e_frzd, e_frz1d, e_lc, e_for, e_seqI, e_rng1, e_rng2, e_enum, e_itT, e_itL, e_itS, e_start, e_yes, e_plain, o_add, o_addS, o_addT, o_addL, o_sub, o_mul, o_mulS, o_div, o_mod, o_pow, o_neg, o_lt, o_le, o_gt, o_ge, o_ltS, o_eqI, o_eqS, o_neI, o_neS, o_eqL, o_neL, o_lenS, o_lenT, o_lenL, o_lenR, o_int, o_intB, o_abs, o_max, o_min, o_st, o_ixL, o_ixT, o_ixR, o_ixS, o_tupL, o_tupT, o_all, o_slS, o_slT, o_slL, o_join, o_asT, o_asL, o_part, o_is, o_reprL, o_reprT, t_bl, t_lst, t_tup, e_asO, e_asL, e_stL, e_pure, v_o0, v_o1, at0, at1, at2, ix30, ix31, ix32, li_R, li_L, e_wp0, e_wp, e_ss, e_gnd, e_app, e_pop, o_isiI, o_isiS, o_isiT, o_isiL, o_isiB, o_isiN, o_isi2I, o_isi2S, o_isi2T, o_isi2L, o_isi2B, o_isi2N, o_inS1, o_inT, o_ninT, o_intT, o_split, e_chain, e_binF, o_cat, e_dictP, e_while, e_din0, e_dput, o_sortD, e_key, e_asD, e_asM, e_itO, v_o1d, isT, reduceCtorEq, List.any_cons, List.any_nil, List.all_cons, List.all_nil, Bool.or_false, Bool.false_or, Bool.or_true, Bool.true_or, flatD, List.map_cons, List.map_nil, List.length_cons, List.length_nil, Nat.reduceAdd, Nat.reduceSub, List.reduceReplicate, List.cons_append, List.nil_append, List.append_nil, List.getElem?_cons_zero, List.getElem?_cons_succ, List.set_cons_zero, List.set_cons_succ, Option.map_some, Option.bind_some, ends0, ends1, endsF, ite_true, if_true, if_false, Bool.false_eq_true, reduceIte, true_and, and_true, Bool.not_true, Bool.not_false, Bool.not_eq_true', decide_eq_true_eq, decide_eq_false_iff_not]
    refine ⟨ho'.pure, pick _ _ _ ho' (by omega) fun d o2 hd p2 => ⟨by omega, q _ _ ⟨o2, rfl, ?_, fun z hz => ?_, ?_⟩⟩⟩
    · rw [List.length_append]
      exact p2
    · rcases List.mem_append.mp hz with h | h
      · exact ha z h
      · rw [List.mem_singleton.mp h]
        exact hd
    · rw [List.length_append, List.length_singleton]
      omega
  · obtain ⟨o', rfl, ho', ha, hl⟩ := hI
    rw [List.length_nil, Nat.add_zero] at hl
    rw [hl] at ho'
    exact ⟨trivial, fin acc o' hl ha ho'⟩
theorem joined {l : List D} {n : Nat} (hl : l ≠ []) (h : ∀ d ∈ l, ∃ s, d = .str s ∧ Txt1 n s) : ∃ ns, allStr l = some ns ∧ ns.length = l.length ∧ (ns.map List.length).sum ≤ n * l.length ∧ Txt1 (n * l.length) (joinN [] ns) := by
  obtain ⟨ns, e1, e2, e3⟩ := allStr_of h
  have el : ns.length = l.length := by rw [e1, List.length_map]
  have hs : (ns.map List.length).sum ≤ n * l.length := by
    rw [← el]
    exact sum_le fun s h => (e3 s h).few
  refine ⟨ns, e2, el, hs, ?_, ?_, fun c hc => ?_⟩
  · rw [joinN_nil]
    intro z
    cases ns with
    | nil =>
      rw [List.length_nil] at el
      exact hl (List.length_eq_zero_iff.mp el.symm)
    | cons s r =>
      rw [List.flatten_cons] at z
      exact (e3 s List.mem_cons_self).ne (List.append_eq_nil_iff.mp z).1
  · rw [joinN_nil, List.length_flatten]
    exact hs
  · rw [joinN_nil] at hc
    obtain ⟨s, h1, h2⟩ := List.mem_flatten.mp hc
    exact (e3 s h1).az c h2
theorem loop_ok {N : Nat} {o : MO} {most : Nat} {P : D → MO → Prop} (ho : Pl N o) (hN : N ≤ 2 ^ 59) (h1 : 3 ≤ most) (h2 : most ≤ 40) (k : ∀ s o', Txt1 most s → Pl (N + 200) o' → P (.str s) o') : g__law_loop o [.int most] P := by
  refine ⟨rfl, ?_⟩
  simp only [r__law_loop, e_var, e_c, e_bin, e_un, e_view, e_bnd, e_cons, e_nil, e_allD0, e_allD, e_allV0, e_allV1, e_allV2, e_cb, e_cf, e_on1, e_on2, e_test, e_truth, e_asB, e_asI, e_tup, e_lst, e_z, e_o, e_zg, e_og, e_ifE, e_and, e_or, e_not, e_andV, e_orV, e_notV, e_sm, e_smV, e_smf, e_call, e_callK, e_fnP, e_fnF, e_fnQ, e_next, e_seq, e_brk, e_cnt, e_drop, e_ret, e_if, e_asg, e_bname, e_btup, e_bsnil, e_bscons, e_par, e_fmt, e_js0, e_js, e_sl, e_nopart, e_part, e_frzd, e_frz1d, e_lc, e_for, e_seqI, e_rng1, e_rng2, e_enum, e_itT, e_itL, e_itS, e_start, e_yes, e_plain, o_add, o_addS, o_addT, o_addL, o_sub, o_mul, o_mulS, o_div, o_mod, o_pow, o_neg, o_lt, o_le, o_gt, o_ge, o_ltS, o_eqI, o_eqS, o_neI, o_neS, o_eqL, o_neL, o_lenS, o_lenT, o_lenL, o_lenR, o_int, o_intB, o_abs, o_max, o_min, o_st, o_ixL, o_ixT, o_ixR, o_ixS, o_tupL, o_tupT, o_all, o_slS, o_slT, o_slL, o_join, o_asT, o_asL, o_part, o_is, o_reprL, o_reprT, t_bl, t_lst, t_tup, e_asO, e_asL, e_stL, e_pure, v_o0, v_o1, at0, at1, at2, ix30, ix31, ix32, li_R, li_L, e_wp0, e_wp, e_ss, e_gnd, e_app, e_pop, o_isiI, o_isiS, o_isiT, o_isiL, o_isiB, o_isiN, o_isi2I, o_isi2S, o_isi2T, o_isi2L, o_isi2B, o_isi2N, o_inS1, o_inT, o_ninT, o_intT, o_split, e_chain, e_binF, o_cat, e_dictP, e_while, e_din0, e_dput, o_sortD, e_key, e_asD, e_asM, e_itO, v_o1d, isT, reduceCtorEq, List.any_cons, List.any_nil, List.all_cons, List.all_nil, Bool.or_false, Bool.false_or, Bool.or_true, Bool.true_or, flatD, List.map_cons, List.map_nil, List.length_cons, List.length_nil, Nat.reduceAdd, Nat.reduceSub, List.reduceReplicate, List.cons_append, List.nil_append, List.append_nil, List.getElem?_cons_zero, List.getElem?_cons_succ, List.set_cons_zero, List.set_cons_succ, Option.map_some, Option.bind_some, ends0, ends1, endsF, ite_true, if_true, if_false, Bool.false_eq_true, reduceIte, true_and, and_true, Bool.not_true, Bool.not_false, Bool.not_eq_true', decide_eq_true_eq, decide_eq_false_iff_not]
  refine ⟨by decide, ho.pure, pick_ok ho (by omega) (by simp) (by simp) _ (.inl rfl) fun d o1 hd p1 => ⟨p1.pure, scoop_ok p1 (by omega) (by decide) (by decide) fun c o2 c0 c1 p2 => ?_⟩⟩
  obtain ⟨pool, rfl, hpool⟩ : ∃ pool, d = .str pool ∧ Txt1 10 pool := by
    simp only [List.mem_cons, List.not_mem_nil, or_false] at hd
    rcases hd with rfl | rfl | rfl | rfl | rfl
    all_goals exact ⟨_, rfl, by decide, by decide, by decide⟩
  have letter : ∀ (M : Nat) (o : MO) (Q : D → MO → Prop), Pl M o → M ≤ 2 ^ 60 → (∀ d o', (∃ s, d = .str s ∧ Txt1 1 s) → Pl (M + 1) o' → Q d o') → g__law_pick o [.str pool] Q := fun M o Q h hM k =>
    pickS_ok h hM hpool.ne (by have := hpool.few; omega) fun c o' hc p => k _ _ ⟨[c], rfl, by simp, by simp, fun z hz => by rw [List.mem_singleton.mp hz]; exact hpool.az c hc⟩ p
  simp only [e_var, e_c, e_bin, e_un, e_view, e_bnd, e_cons, e_nil, e_allD0, e_allD, e_allV0, e_allV1, e_allV2, e_cb, e_cf, e_on1, e_on2, e_test, e_truth, e_asB, e_asI, e_tup, e_lst, e_z, e_o, e_zg, e_og, e_ifE, e_and, e_or, e_not, e_andV, e_orV, e_notV, e_sm, e_smV, e_smf, e_call, e_callK, e_fnP, e_fnF, e_fnQ, e_next, e_seq, e_brk, e_cnt, e_drop, e_ret, e_if, e_asg, e_bname, e_btup, e_bsnil, e_bscons, e_par, e_fmt, e_js0, e_js, e_sl, e_nopart, e_part, e_frzd, e_frz1d, e_lc, e_for, e_seqI, e_rng1, e_rng2, e_enum, e_itT, e_itL, e_itS, e_start, e_yes, e_plain, o_add, o_addS, o_addT, o_addL, o_sub, o_mul, o_mulS, o_div, o_mod, o_pow, o_neg, o_lt, o_le, o_gt, o_ge, o_ltS, o_eqI, o_eqS, o_neI, o_neS, o_eqL, o_neL, o_lenS, o_lenT, o_lenL, o_lenR, o_int, o_intB, o_abs, o_max, o_min, o_st, o_ixL, o_ixT, o_ixR, o_ixS, o_tupL, o_tupT, o_all, o_slS, o_slT, o_slL, o_join, o_asT, o_asL, o_part, o_is, o_reprL, o_reprT, t_bl, t_lst, t_tup, e_asO, e_asL, e_stL, e_pure, v_o0, v_o1, at0, at1, at2, ix30, ix31, ix32, li_R, li_L, e_wp0, e_wp, e_ss, e_gnd, e_app, e_pop, o_isiI, o_isiS, o_isiT, o_isiL, o_isiB, o_isiN, o_isi2I, o_isi2S, o_isi2T, o_isi2L, o_isi2B, o_isi2N, o_inS1, o_inT, o_ninT, o_intT, o_split, e_chain, e_binF, o_cat, e_dictP, e_while, e_din0, e_dput, o_sortD, e_key, e_asD, e_asM, e_itO, v_o1d, isT, reduceCtorEq, List.any_cons, List.any_nil, List.all_cons, List.all_nil, Bool.or_false, Bool.false_or, Bool.or_true, Bool.true_or, flatD, List.map_cons, List.map_nil, List.length_cons, List.length_nil, Nat.reduceAdd, Nat.reduceSub, List.reduceReplicate, List.cons_append, List.nil_append, List.append_nil, List.getElem?_cons_zero, List.getElem?_cons_succ, List.set_cons_zero, List.set_cons_succ, Option.map_some, Option.bind_some, ends0, ends1, endsF, ite_true, if_true, if_false, Bool.false_eq_true, reduceIte, true_and, and_true, Bool.not_true, Bool.not_false, Bool.not_eq_true', decide_eq_true_eq, decide_eq_false_iff_not]
  split
  · refine ⟨p2.pure, scoop_ok p2 (by omega) (by omega) (by omega) fun j o3 j0 j1 p3 => ?_⟩
    simp only [e_var, e_c, e_bin, e_un, e_view, e_bnd, e_cons, e_nil, e_allD0, e_allD, e_allV0, e_allV1, e_allV2, e_cb, e_cf, e_on1, e_on2, e_test, e_truth, e_asB, e_asI, e_tup, e_lst, e_z, e_o, e_zg, e_og, e_ifE, e_and, e_or, e_not, e_andV, e_orV, e_notV, e_sm, e_smV, e_smf, e_call, e_callK, e_fnP, e_fnF, e_fnQ, e_next, e_seq, e_brk, e_cnt, e_drop, e_ret, e_if, e_asg, e_bname, e_btup, e_bsnil, e_bscons, e_par, e_fmt, e_js0, e_js, e_sl, e_nopart, e_part, e_frzd, e_frz1d, e_lc, e_for, e_seqI, e_rng1, e_rng2, e_enum, e_itT, e_itL, e_itS, e_start, e_yes, e_plain, o_add, o_addS, o_addT, o_addL, o_sub, o_mul, o_mulS, o_div, o_mod, o_pow, o_neg, o_lt, o_le, o_gt, o_ge, o_ltS, o_eqI, o_eqS, o_neI, o_neS, o_eqL, o_neL, o_lenS, o_lenT, o_lenL, o_lenR, o_int, o_intB, o_abs, o_max, o_min, o_st, o_ixL, o_ixT, o_ixR, o_ixS, o_tupL, o_tupT, o_all, o_slS, o_slT, o_slL, o_join, o_asT, o_asL, o_part, o_is, o_reprL, o_reprT, t_bl, t_lst, t_tup, e_asO, e_asL, e_stL, e_pure, v_o0, v_o1, at0, at1, at2, ix30, ix31, ix32, li_R, li_L, e_wp0, e_wp, e_ss, e_gnd, e_app, e_pop, o_isiI, o_isiS, o_isiT, o_isiL, o_isiB, o_isiN, o_isi2I, o_isi2S, o_isi2T, o_isi2L, o_isi2B, o_isi2N, o_inS1, o_inT, o_ninT, o_intT, o_split, e_chain, e_binF, o_cat, e_dictP, e_while, e_din0, e_dput, o_sortD, e_key, e_asD, e_asM, e_itO, v_o1d, isT, reduceCtorEq, List.any_cons, List.any_nil, List.all_cons, List.all_nil, Bool.or_false, Bool.false_or, Bool.or_true, Bool.true_or, flatD, List.map_cons, List.map_nil, List.length_cons, List.length_nil, Nat.reduceAdd, Nat.reduceSub, List.reduceReplicate, List.cons_append, List.nil_append, List.append_nil, List.getElem?_cons_zero, List.getElem?_cons_succ, List.set_cons_zero, List.set_cons_succ, Option.map_some, Option.bind_some, ends0, ends1, endsF, ite_true, if_true, if_false, Bool.false_eq_true, reduceIte, true_and, and_true, Bool.not_true, Bool.not_false, Bool.not_eq_true', decide_eq_true_eq, decide_eq_false_iff_not]
    refine ⟨by omega, by omega, picks_ok (N := N + 3) (G := fun d => ∃ s, d = .str s ∧ Txt1 1 s) (fun v => rfl) (fun v => rfl) p3 (by omega) (fun M o Q h hM k => letter M o Q h (by omega) k) fun l o4 hl hg p4 => ?_⟩
    obtain ⟨ns, e1, e2, e3, e4⟩ := joined (n := 1) (by intro z; rw [z] at hl; simp at hl; omega) hg
    rw [e1]
    simp only [e_var, e_c, e_bin, e_un, e_view, e_bnd, e_cons, e_nil, e_allD0, e_allD, e_allV0, e_allV1, e_allV2, e_cb, e_cf, e_on1, e_on2, e_test, e_truth, e_asB, e_asI, e_tup, e_lst, e_z, e_o, e_zg, e_og, e_ifE, e_and, e_or, e_not, e_andV, e_orV, e_notV, e_sm, e_smV, e_smf, e_call, e_callK, e_fnP, e_fnF, e_fnQ, e_next, e_seq, e_brk, e_cnt, e_drop, e_ret, e_if, e_asg, e_bname, e_btup, e_bsnil, e_bscons, e_par, e_fmt, e_js0, e_js, e_sl, e_nopart, e_part, e_frzd, e_frz1d, e_lc, e_for, e_seqI, e_rng1, e_rng2, e_enum, e_itT, e_itL, e_itS, e_start, e_yes, e_plain, o_add, o_addS, o_addT, o_addL, o_sub, o_mul, o_mulS, o_div, o_mod, o_pow, o_neg, o_lt, o_le, o_gt, o_ge, o_ltS, o_eqI, o_eqS, o_neI, o_neS, o_eqL, o_neL, o_lenS, o_lenT, o_lenL, o_lenR, o_int, o_intB, o_abs, o_max, o_min, o_st, o_ixL, o_ixT, o_ixR, o_ixS, o_tupL, o_tupT, o_all, o_slS, o_slT, o_slL, o_join, o_asT, o_asL, o_part, o_is, o_reprL, o_reprT, t_bl, t_lst, t_tup, e_asO, e_asL, e_stL, e_pure, v_o0, v_o1, at0, at1, at2, ix30, ix31, ix32, li_R, li_L, e_wp0, e_wp, e_ss, e_gnd, e_app, e_pop, o_isiI, o_isiS, o_isiT, o_isiL, o_isiB, o_isiN, o_isi2I, o_isi2S, o_isi2T, o_isi2L, o_isi2B, o_isi2N, o_inS1, o_inT, o_ninT, o_intT, o_split, e_chain, e_binF, o_cat, e_dictP, e_while, e_din0, e_dput, o_sortD, e_key, e_asD, e_asM, e_itO, v_o1d, isT, reduceCtorEq, List.any_cons, List.any_nil, List.all_cons, List.all_nil, Bool.or_false, Bool.false_or, Bool.or_true, Bool.true_or, flatD, List.map_cons, List.map_nil, List.length_cons, List.length_nil, Nat.reduceAdd, Nat.reduceSub, List.reduceReplicate, List.cons_append, List.nil_append, List.append_nil, List.getElem?_cons_zero, List.getElem?_cons_succ, List.set_cons_zero, List.set_cons_succ, Option.map_some, Option.bind_some, ends0, ends1, endsF, ite_true, if_true, if_false, Bool.false_eq_true, reduceIte, true_and, and_true, Bool.not_true, Bool.not_false, Bool.not_eq_true', decide_eq_true_eq, decide_eq_false_iff_not]
    exact ⟨by omega, p4.pure, k _ _ (e4.up (by omega)) (p4.up (by omega))⟩
  · refine ⟨by decide, p2.pure, scoop_ok p2 (by omega) (by decide) (by decide) fun j o3 j0 j1 p3 => ?_⟩
    simp only [e_var, e_c, e_bin, e_un, e_view, e_bnd, e_cons, e_nil, e_allD0, e_allD, e_allV0, e_allV1, e_allV2, e_cb, e_cf, e_on1, e_on2, e_test, e_truth, e_asB, e_asI, e_tup, e_lst, e_z, e_o, e_zg, e_og, e_ifE, e_and, e_or, e_not, e_andV, e_orV, e_notV, e_sm, e_smV, e_smf, e_call, e_callK, e_fnP, e_fnF, e_fnQ, e_next, e_seq, e_brk, e_cnt, e_drop, e_ret, e_if, e_asg, e_bname, e_btup, e_bsnil, e_bscons, e_par, e_fmt, e_js0, e_js, e_sl, e_nopart, e_part, e_frzd, e_frz1d, e_lc, e_for, e_seqI, e_rng1, e_rng2, e_enum, e_itT, e_itL, e_itS, e_start, e_yes, e_plain, o_add, o_addS, o_addT, o_addL, o_sub, o_mul, o_mulS, o_div, o_mod, o_pow, o_neg, o_lt, o_le, o_gt, o_ge, o_ltS, o_eqI, o_eqS, o_neI, o_neS, o_eqL, o_neL, o_lenS, o_lenT, o_lenL, o_lenR, o_int, o_intB, o_abs, o_max, o_min, o_st, o_ixL, o_ixT, o_ixR, o_ixS, o_tupL, o_tupT, o_all, o_slS, o_slT, o_slL, o_join, o_asT, o_asL, o_part, o_is, o_reprL, o_reprT, t_bl, t_lst, t_tup, e_asO, e_asL, e_stL, e_pure, v_o0, v_o1, at0, at1, at2, ix30, ix31, ix32, li_R, li_L, e_wp0, e_wp, e_ss, e_gnd, e_app, e_pop, o_isiI, o_isiS, o_isiT, o_isiL, o_isiB, o_isiN, o_isi2I, o_isi2S, o_isi2T, o_isi2L, o_isi2B, o_isi2N, o_inS1, o_inT, o_ninT, o_intT, o_split, e_chain, e_binF, o_cat, e_dictP, e_while, e_din0, e_dput, o_sortD, e_key, e_asD, e_asM, e_itO, v_o1d, isT, reduceCtorEq, List.any_cons, List.any_nil, List.all_cons, List.all_nil, Bool.or_false, Bool.false_or, Bool.or_true, Bool.true_or, flatD, List.map_cons, List.map_nil, List.length_cons, List.length_nil, Nat.reduceAdd, Nat.reduceSub, List.reduceReplicate, List.cons_append, List.nil_append, List.append_nil, List.getElem?_cons_zero, List.getElem?_cons_succ, List.set_cons_zero, List.set_cons_succ, Option.map_some, Option.bind_some, ends0, ends1, endsF, ite_true, if_true, if_false, Bool.false_eq_true, reduceIte, true_and, and_true, Bool.not_true, Bool.not_false, Bool.not_eq_true', decide_eq_true_eq, decide_eq_false_iff_not]
    refine ⟨by omega, by omega, ?_⟩
    refine for_inv (I := fun l ρ m => ∃ (o' : MO) (ws : List D) (x y : Option SV), m = [o', .lst ws] ∧ ρ = [some (SV.o 0), some (SV.d (D.int ↑most)), some (SV.d (.str pool)), x, some (SV.o 1), y, none] ∧ Pl (N + 3 + 5 * ws.length) o' ∧ ws.length + l.length ≤ 3 ∧ 2 ≤ ws.length + l.length ∧ ∀ d ∈ ws, ∃ s, d = .str s ∧ Txt1 4 s)
      (fun d l ρ m Nx hI nx => ?_) (fun ρ m hI => ?_) _ _ _ ⟨o3, [], none, none, rfl, rfl, p3, by rw [intsOf_len, List.length_nil]; omega, by rw [intsOf_len, List.length_nil]; omega, nofun⟩
    · obtain ⟨o', ws, x, y, rfl, rfl, ho', hl, hl2, hw⟩ := hI
      rw [List.length_cons] at hl hl2
      simp only [e_var, e_c, e_bin, e_un, e_view, e_bnd, e_cons, e_nil, e_allD0, e_allD, e_allV0, e_allV1, e_allV2, e_cb, e_cf, e_on1, e_on2, e_test, e_truth, e_asB, e_asI, e_tup, e_lst, e_z, e_o, e_zg, e_og, e_ifE, e_and, e_or, e_not, e_andV, e_orV, e_notV, e_sm, e_smV, e_smf, e_call, e_callK, e_fnP, e_fnF, e_fnQ, e_next, e_seq, e_brk, e_cnt, e_drop, e_ret, e_if, e_asg, e_bname, e_btup, e_bsnil, e_bscons, e_par, e_fmt, e_js0, e_js, e_sl, e_nopart, e_part, e_frzd, e_frz1d, e_lc, e_for, e_seqI, e_rng1, e_rng2, e_enum, e_itT, e_itL, e_itS, e_start, e_yes, e_plain, o_add, o_addS, o_addT, o_addL, o_sub, o_mul, o_mulS, o_div, o_mod, o_pow, o_neg, o_lt, o_le, o_gt, o_ge, o_ltS, o_eqI, o_eqS, o_neI, o_neS, o_eqL, o_neL, o_lenS, o_lenT, o_lenL, o_lenR, o_int, o_intB, o_abs, o_max, o_min, o_st, o_ixL, o_ixT, o_ixR, o_ixS, o_tupL, o_tupT, o_all, o_slS, o_slT, o_slL, o_join, o_asT, o_asL, o_part, o_is, o_reprL, o_reprT, t_bl, t_lst, t_tup, e_asO, e_asL, e_stL, e_pure, v_o0, v_o1, at0, at1, at2, ix30, ix31, ix32, li_R, li_L, e_wp0, e_wp, e_ss, e_gnd, e_app, e_pop, o_isiI, o_isiS, o_isiT, o_isiL, o_isiB, o_isiN, o_isi2I, o_isi2S, o_isi2T, o_isi2L, o_isi2B, o_isi2N, o_inS1, o_inT, o_ninT, o_intT, o_split, e_chain, e_binF, o_cat, e_dictP, e_while, e_din0, e_dput, o_sortD, e_key, e_asD, e_asM, e_itO, v_o1d, isT, reduceCtorEq, List.any_cons, List.any_nil, List.all_cons, List.all_nil, Bool.or_false, Bool.false_or, Bool.or_true, Bool.true_or, flatD, List.map_cons, List.map_nil, List.length_cons, List.length_nil, Nat.reduceAdd, Nat.reduceSub, List.reduceReplicate, List.cons_append, List.nil_append, List.append_nil, List.getElem?_cons_zero, List.getElem?_cons_succ, List.set_cons_zero, List.set_cons_succ, Option.map_some, Option.bind_some, ends0, ends1, endsF, ite_true, if_true, if_false, Bool.false_eq_true, reduceIte, true_and, and_true, Bool.not_true, Bool.not_false, Bool.not_eq_true', decide_eq_true_eq, decide_eq_false_iff_not]
      refine ⟨ho'.pure, scoop_ok ho' (by omega) (by decide) (by decide) fun j o4 j0 j1 p4 => ?_⟩
      simp only [e_var, e_c, e_bin, e_un, e_view, e_bnd, e_cons, e_nil, e_allD0, e_allD, e_allV0, e_allV1, e_allV2, e_cb, e_cf, e_on1, e_on2, e_test, e_truth, e_asB, e_asI, e_tup, e_lst, e_z, e_o, e_zg, e_og, e_ifE, e_and, e_or, e_not, e_andV, e_orV, e_notV, e_sm, e_smV, e_smf, e_call, e_callK, e_fnP, e_fnF, e_fnQ, e_next, e_seq, e_brk, e_cnt, e_drop, e_ret, e_if, e_asg, e_bname, e_btup, e_bsnil, e_bscons, e_par, e_fmt, e_js0, e_js, e_sl, e_nopart, e_part, e_frzd, e_frz1d, e_lc, e_for, e_seqI, e_rng1, e_rng2, e_enum, e_itT, e_itL, e_itS, e_start, e_yes, e_plain, o_add, o_addS, o_addT, o_addL, o_sub, o_mul, o_mulS, o_div, o_mod, o_pow, o_neg, o_lt, o_le, o_gt, o_ge, o_ltS, o_eqI, o_eqS, o_neI, o_neS, o_eqL, o_neL, o_lenS, o_lenT, o_lenL, o_lenR, o_int, o_intB, o_abs, o_max, o_min, o_st, o_ixL, o_ixT, o_ixR, o_ixS, o_tupL, o_tupT, o_all, o_slS, o_slT, o_slL, o_join, o_asT, o_asL, o_part, o_is, o_reprL, o_reprT, t_bl, t_lst, t_tup, e_asO, e_asL, e_stL, e_pure, v_o0, v_o1, at0, at1, at2, ix30, ix31, ix32, li_R, li_L, e_wp0, e_wp, e_ss, e_gnd, e_app, e_pop, o_isiI, o_isiS, o_isiT, o_isiL, o_isiB, o_isiN, o_isi2I, o_isi2S, o_isi2T, o_isi2L, o_isi2B, o_isi2N, o_inS1, o_inT, o_ninT, o_intT, o_split, e_chain, e_binF, o_cat, e_dictP, e_while, e_din0, e_dput, o_sortD, e_key, e_asD, e_asM, e_itO, v_o1d, isT, reduceCtorEq, List.any_cons, List.any_nil, List.all_cons, List.all_nil, Bool.or_false, Bool.false_or, Bool.or_true, Bool.true_or, flatD, List.map_cons, List.map_nil, List.length_cons, List.length_nil, Nat.reduceAdd, Nat.reduceSub, List.reduceReplicate, List.cons_append, List.nil_append, List.append_nil, List.getElem?_cons_zero, List.getElem?_cons_succ, List.set_cons_zero, List.set_cons_succ, Option.map_some, Option.bind_some, ends0, ends1, endsF, ite_true, if_true, if_false, Bool.false_eq_true, reduceIte, true_and, and_true, Bool.not_true, Bool.not_false, Bool.not_eq_true', decide_eq_true_eq, decide_eq_false_iff_not]
      refine ⟨by omega, by omega, picks_ok (N := N + 3 + 5 * ws.length + 1) (G := fun d => ∃ s, d = .str s ∧ Txt1 1 s) (fun v => rfl) (fun v => rfl) p4 (by omega) (fun M o Q h hM k => letter M o Q h (by omega) k) fun l2 o5 hl3 hg p5 => ?_⟩
      obtain ⟨ns, e1, e2, e3, e4⟩ := joined (n := 1) (by intro z; rw [z] at hl3; simp at hl3; omega) hg
      rw [e1]
      simp only [e_var, e_c, e_bin, e_un, e_view, e_bnd, e_cons, e_nil, e_allD0, e_allD, e_allV0, e_allV1, e_allV2, e_cb, e_cf, e_on1, e_on2, e_test, e_truth, e_asB, e_asI, e_tup, e_lst, e_z, e_o, e_zg, e_og, e_ifE, e_and, e_or, e_not, e_andV, e_orV, e_notV, e_sm, e_smV, e_smf, e_call, e_callK, e_fnP, e_fnF, e_fnQ, e_next, e_seq, e_brk, e_cnt, e_drop, e_ret, e_if, e_asg, e_bname, e_btup, e_bsnil, e_bscons, e_par, e_fmt, e_js0, e_js, e_sl, e_nopart, e_part, e_frzd, e_frz1d, e_lc, e_for, e_seqI, e_rng1, e_rng2, e_enum, e_itT, e_itL, e_itS, e_start, e_yes, e_plain, o_add, o_addS, o_addT, o_addL, o_sub, o_mul, o_mulS, o_div, o_mod, o_pow, o_neg, o_lt, o_le, o_gt, o_ge, o_ltS, o_eqI, o_eqS, o_neI, o_neS, o_eqL, o_neL, o_lenS, o_lenT, o_lenL, o_lenR, o_int, o_intB, o_abs, o_max, o_min, o_st, o_ixL, o_ixT, o_ixR, o_ixS, o_tupL, o_tupT, o_all, o_slS, o_slT, o_slL, o_join, o_asT, o_asL, o_part, o_is, o_reprL, o_reprT, t_bl, t_lst, t_tup, e_asO, e_asL, e_stL, e_pure, v_o0, v_o1, at0, at1, at2, ix30, ix31, ix32, li_R, li_L, e_wp0, e_wp, e_ss, e_gnd, e_app, e_pop, o_isiI, o_isiS, o_isiT, o_isiL, o_isiB, o_isiN, o_isi2I, o_isi2S, o_isi2T, o_isi2L, o_isi2B, o_isi2N, o_inS1, o_inT, o_ninT, o_intT, o_split, e_chain, e_binF, o_cat, e_dictP, e_while, e_din0, e_dput, o_sortD, e_key, e_asD, e_asM, e_itO, v_o1d, isT, reduceCtorEq, List.any_cons, List.any_nil, List.all_cons, List.all_nil, Bool.or_false, Bool.false_or, Bool.or_true, Bool.true_or, flatD, List.map_cons, List.map_nil, List.length_cons, List.length_nil, Nat.reduceAdd, Nat.reduceSub, List.reduceReplicate, List.cons_append, List.nil_append, List.append_nil, List.getElem?_cons_zero, List.getElem?_cons_succ, List.set_cons_zero, List.set_cons_succ, Option.map_some, Option.bind_some, ends0, ends1, endsF, ite_true, if_true, if_false, Bool.false_eq_true, reduceIte, true_and, and_true, Bool.not_true, Bool.not_false, Bool.not_eq_true', decide_eq_true_eq, decide_eq_false_iff_not]
      refine ⟨by omega, by omega, nx _ _ ⟨o5, ws ++ [.str (joinN [] ns)], _, _, rfl, rfl, p5.up ?_, ?_, ?_, fun z hz => ?_⟩⟩
      · rw [List.length_append, List.length_singleton]
        omega
      · rw [List.length_append, List.length_singleton]
        omega
      · rw [List.length_append, List.length_singleton]
        omega
      · rcases List.mem_append.mp hz with h | h
        · exact hw z h
        · rw [List.mem_singleton.mp h]
          exact ⟨_, rfl, e4.up (by omega)⟩
    · obtain ⟨o', ws, x, y, rfl, rfl, ho', hl, hl2, hw⟩ := hI
      rw [List.length_nil, Nat.add_zero] at hl hl2
      simp only [e_var, e_c, e_bin, e_un, e_view, e_bnd, e_cons, e_nil, e_allD0, e_allD, e_allV0, e_allV1, e_allV2, e_cb, e_cf, e_on1, e_on2, e_test, e_truth, e_asB, e_asI, e_tup, e_lst, e_z, e_o, e_zg, e_og, e_ifE, e_and, e_or, e_not, e_andV, e_orV, e_notV, e_sm, e_smV, e_smf, e_call, e_callK, e_fnP, e_fnF, e_fnQ, e_next, e_seq, e_brk, e_cnt, e_drop, e_ret, e_if, e_asg, e_bname, e_btup, e_bsnil, e_bscons, e_par, e_fmt, e_js0, e_js, e_sl, e_nopart, e_part, e_frzd, e_frz1d, e_lc, e_for, e_seqI, e_rng1, e_rng2, e_enum, e_itT, e_itL, e_itS, e_start, e_yes, e_plain, o_add, o_addS, o_addT, o_addL, o_sub, o_mul, o_mulS, o_div, o_mod, o_pow, o_neg, o_lt, o_le, o_gt, o_ge, o_ltS, o_eqI, o_eqS, o_neI, o_neS, o_eqL, o_neL, o_lenS, o_lenT, o_lenL, o_lenR, o_int, o_intB, o_abs, o_max, o_min, o_st, o_ixL, o_ixT, o_ixR, o_ixS, o_tupL, o_tupT, o_all, o_slS, o_slT, o_slL, o_join, o_asT, o_asL, o_part, o_is, o_reprL, o_reprT, t_bl, t_lst, t_tup, e_asO, e_asL, e_stL, e_pure, v_o0, v_o1, at0, at1, at2, ix30, ix31, ix32, li_R, li_L, e_wp0, e_wp, e_ss, e_gnd, e_app, e_pop, o_isiI, o_isiS, o_isiT, o_isiL, o_isiB, o_isiN, o_isi2I, o_isi2S, o_isi2T, o_isi2L, o_isi2B, o_isi2N, o_inS1, o_inT, o_ninT, o_intT, o_split, e_chain, e_binF, o_cat, e_dictP, e_while, e_din0, e_dput, o_sortD, e_key, e_asD, e_asM, e_itO, v_o1d, isT, reduceCtorEq, List.any_cons, List.any_nil, List.all_cons, List.all_nil, Bool.or_false, Bool.false_or, Bool.or_true, Bool.true_or, flatD, List.map_cons, List.map_nil, List.length_cons, List.length_nil, Nat.reduceAdd, Nat.reduceSub, List.reduceReplicate, List.cons_append, List.nil_append, List.append_nil, List.getElem?_cons_zero, List.getElem?_cons_succ, List.set_cons_zero, List.set_cons_succ, Option.map_some, Option.bind_some, ends0, ends1, endsF, ite_true, if_true, if_false, Bool.false_eq_true, reduceIte, true_and, and_true, Bool.not_true, Bool.not_false, Bool.not_eq_true', decide_eq_true_eq, decide_eq_false_iff_not]
      refine ⟨ho'.pure, scoop_ok ho' (by omega) (by decide) (by decide) fun j o4 j0 j1 p4 => ?_⟩
      simp only [e_var, e_c, e_bin, e_un, e_view, e_bnd, e_cons, e_nil, e_allD0, e_allD, e_allV0, e_allV1, e_allV2, e_cb, e_cf, e_on1, e_on2, e_test, e_truth, e_asB, e_asI, e_tup, e_lst, e_z, e_o, e_zg, e_og, e_ifE, e_and, e_or, e_not, e_andV, e_orV, e_notV, e_sm, e_smV, e_smf, e_call, e_callK, e_fnP, e_fnF, e_fnQ, e_next, e_seq, e_brk, e_cnt, e_drop, e_ret, e_if, e_asg, e_bname, e_btup, e_bsnil, e_bscons, e_par, e_fmt, e_js0, e_js, e_sl, e_nopart, e_part, e_frzd, e_frz1d, e_lc, e_for, e_seqI, e_rng1, e_rng2, e_enum, e_itT, e_itL, e_itS, e_start, e_yes, e_plain, o_add, o_addS, o_addT, o_addL, o_sub, o_mul, o_mulS, o_div, o_mod, o_pow, o_neg, o_lt, o_le, o_gt, o_ge, o_ltS, o_eqI, o_eqS, o_neI, o_neS, o_eqL, o_neL, o_lenS, o_lenT, o_lenL, o_lenR, o_int, o_intB, o_abs, o_max, o_min, o_st, o_ixL, o_ixT, o_ixR, o_ixS, o_tupL, o_tupT, o_all, o_slS, o_slT, o_slL, o_join, o_asT, o_asL, o_part, o_is, o_reprL, o_reprT, t_bl, t_lst, t_tup, e_asO, e_asL, e_stL, e_pure, v_o0, v_o1, at0, at1, at2, ix30, ix31, ix32, li_R, li_L, e_wp0, e_wp, e_ss, e_gnd, e_app, e_pop, o_isiI, o_isiS, o_isiT, o_isiL, o_isiB, o_isiN, o_isi2I, o_isi2S, o_isi2T, o_isi2L, o_isi2B, o_isi2N, o_inS1, o_inT, o_ninT, o_intT, o_split, e_chain, e_binF, o_cat, e_dictP, e_while, e_din0, e_dput, o_sortD, e_key, e_asD, e_asM, e_itO, v_o1d, isT, reduceCtorEq, List.any_cons, List.any_nil, List.all_cons, List.all_nil, Bool.or_false, Bool.false_or, Bool.or_true, Bool.true_or, flatD, List.map_cons, List.map_nil, List.length_cons, List.length_nil, Nat.reduceAdd, Nat.reduceSub, List.reduceReplicate, List.cons_append, List.nil_append, List.append_nil, List.getElem?_cons_zero, List.getElem?_cons_succ, List.set_cons_zero, List.set_cons_succ, Option.map_some, Option.bind_some, ends0, ends1, endsF, ite_true, if_true, if_false, Bool.false_eq_true, reduceIte, true_and, and_true, Bool.not_true, Bool.not_false, Bool.not_eq_true', decide_eq_true_eq, decide_eq_false_iff_not]
      have hne : ws ≠ [] := fun z => by rw [z] at hl2; simp at hl2
      refine ⟨by omega, by omega, picks_ok (N := N + 3 + 5 * ws.length + 1) (x := .lst ws) (G := fun d => ∃ s, d = .str s ∧ Txt1 4 s) (fun v => rfl) (fun v => rfl) p4 (by omega)
        (fun M o Q h hM k => pick_ok h (by omega) hne (by omega) _ (.inl rfl) fun d o' hd p => k _ _ (hw d hd) p) fun l2 o5 hl3 hg p5 => ?_⟩
      obtain ⟨ns, e1, e2, e3, e4⟩ := joined (n := 4) (by intro z; rw [z] at hl3; simp at hl3; omega) hg
      rw [e1]
      simp only [e_var, e_c, e_bin, e_un, e_view, e_bnd, e_cons, e_nil, e_allD0, e_allD, e_allV0, e_allV1, e_allV2, e_cb, e_cf, e_on1, e_on2, e_test, e_truth, e_asB, e_asI, e_tup, e_lst, e_z, e_o, e_zg, e_og, e_ifE, e_and, e_or, e_not, e_andV, e_orV, e_notV, e_sm, e_smV, e_smf, e_call, e_callK, e_fnP, e_fnF, e_fnQ, e_next, e_seq, e_brk, e_cnt, e_drop, e_ret, e_if, e_asg, e_bname, e_btup, e_bsnil, e_bscons, e_par, e_fmt, e_js0, e_js, e_sl, e_nopart, e_part, e_frzd, e_frz1d, e_lc, e_for, e_seqI, e_rng1, e_rng2, e_enum, e_itT, e_itL, e_itS, e_start, e_yes, e_plain, o_add, o_addS, o_addT, o_addL, o_sub, o_mul, o_mulS, o_div, o_mod, o_pow, o_neg, o_lt, o_le, o_gt, o_ge, o_ltS, o_eqI, o_eqS, o_neI, o_neS, o_eqL, o_neL, o_lenS, o_lenT, o_lenL, o_lenR, o_int, o_intB, o_abs, o_max, o_min, o_st, o_ixL, o_ixT, o_ixR, o_ixS, o_tupL, o_tupT, o_all, o_slS, o_slT, o_slL, o_join, o_asT, o_asL, o_part, o_is, o_reprL, o_reprT, t_bl, t_lst, t_tup, e_asO, e_asL, e_stL, e_pure, v_o0, v_o1, at0, at1, at2, ix30, ix31, ix32, li_R, li_L, e_wp0, e_wp, e_ss, e_gnd, e_app, e_pop, o_isiI, o_isiS, o_isiT, o_isiL, o_isiB, o_isiN, o_isi2I, o_isi2S, o_isi2T, o_isi2L, o_isi2B, o_isi2N, o_inS1, o_inT, o_ninT, o_intT, o_split, e_chain, e_binF, o_cat, e_dictP, e_while, e_din0, e_dput, o_sortD, e_key, e_asD, e_asM, e_itO, v_o1d, isT, reduceCtorEq, List.any_cons, List.any_nil, List.all_cons, List.all_nil, Bool.or_false, Bool.false_or, Bool.or_true, Bool.true_or, flatD, List.map_cons, List.map_nil, List.length_cons, List.length_nil, Nat.reduceAdd, Nat.reduceSub, List.reduceReplicate, List.cons_append, List.nil_append, List.append_nil, List.getElem?_cons_zero, List.getElem?_cons_succ, List.set_cons_zero, List.set_cons_succ, Option.map_some, Option.bind_some, ends0, ends1, endsF, ite_true, if_true, if_false, Bool.false_eq_true, reduceIte, true_and, and_true, Bool.not_true, Bool.not_false, Bool.not_eq_true', decide_eq_true_eq, decide_eq_false_iff_not]
      rw [cut_to]
      refine ⟨by omega, by have := e4.few; omega, p5.pure, k _ _ ⟨?_, ?_, fun c hc => e4.az c (List.mem_of_mem_take hc)⟩ (p5.up (by omega))⟩
      · intro z
        have := congrArg List.length z
        rw [List.length_take, List.length_nil] at this
        have := List.length_pos_iff.mpr e4.ne
        omega
      · rw [List.length_take]
        omega
/-! ### texts -/
def wrds (ws : List (List Nat)) : List Nat := if 0 < ws.length then joinN [32] ws else [45]
def Seq (d : D) (l : List D) : Prop := d = .lst l ∨ d = .tup l
theorem words_ok {d : D} {ws : List (List Nat)} {P : D → Prop} (hd : Seq d (ws.map .str)) (hb : (ws.map List.length).sum + ws.length * 1 ≤ 16777216) (h : P (.str (wrds ws))) : g_words_of [d] P := by
  refine ⟨rfl, ?_⟩
  unfold wrds at h
  rcases hd with rfl | rfl
  all_goals
    simp only [r_words_of, e_var, e_c, e_bin, e_un, e_view, e_bnd, e_cons, e_nil, e_allD0, e_allD, e_allV0, e_allV1, e_allV2, e_cb, e_cf, e_on1, e_on2, e_test, e_truth, e_asB, e_asI, e_tup, e_lst, e_z, e_o, e_zg, e_og, e_ifE, e_and, e_or, e_not, e_andV, e_orV, e_notV, e_sm, e_smV, e_smf, e_call, e_callK, e_fnP, e_fnF, e_fnQ, e_next, e_seq, e_brk, e_cnt, e_drop, e_ret, e_if, e_asg, e_bname, e_btup, e_bsnil, e_bscons, e_par, e_fmt, e_js0, e_js, e_sl, e_nopart, e_part, e_frzd, e_frz1d, e_lc, e_for, e_seqI, e_rng1, e_rng2, e_enum, e_itT, e_itL, e_itS, e_start, e_yes, e_plain, o_add, o_addS, o_addT, o_addL, o_sub, o_mul, o_mulS, o_div, o_mod, o_pow, o_neg, o_lt, o_le, o_gt, o_ge, o_ltS, o_eqI, o_eqS, o_neI, o_neS, o_eqL, o_neL, o_lenS, o_lenT, o_lenL, o_lenR, o_int, o_intB, o_abs, o_max, o_min, o_st, o_ixL, o_ixT, o_ixR, o_ixS, o_tupL, o_tupT, o_all, o_slS, o_slT, o_slL, o_join, o_asT, o_asL, o_part, o_is, o_reprL, o_reprT, t_bl, t_lst, t_tup, e_asO, e_asL, e_stL, e_pure, v_o0, v_o1, at0, at1, at2, ix30, ix31, ix32, li_R, li_L, e_wp0, e_wp, e_ss, e_gnd, e_app, e_pop, o_isiI, o_isiS, o_isiT, o_isiL, o_isiB, o_isiN, o_isi2I, o_isi2S, o_isi2T, o_isi2L, o_isi2B, o_isi2N, o_inS1, o_inT, o_ninT, o_intT, o_split, e_chain, e_binF, o_cat, e_dictP, e_while, e_din0, e_dput, o_sortD, e_key, e_asD, e_asM, e_itO, v_o1d, isT, reduceCtorEq, List.any_cons, List.any_nil, List.all_cons, List.all_nil, Bool.or_false, Bool.false_or, Bool.or_true, Bool.true_or, flatD, List.map_cons, List.map_nil, List.length_cons, List.length_nil, Nat.reduceAdd, Nat.reduceSub, List.reduceReplicate, List.cons_append, List.nil_append, List.append_nil, List.getElem?_cons_zero, List.getElem?_cons_succ, List.set_cons_zero, List.set_cons_succ, Option.map_some, Option.bind_some, ends0, ends1, endsF, ite_true, if_true, if_false, Bool.false_eq_true, reduceIte, true_and, and_true, Bool.not_true, Bool.not_false, Bool.not_eq_true', decide_eq_true_eq, decide_eq_false_iff_not]
    rw [allStr_map]
    simp only [e_var, e_c, e_bin, e_un, e_view, e_bnd, e_cons, e_nil, e_allD0, e_allD, e_allV0, e_allV1, e_allV2, e_cb, e_cf, e_on1, e_on2, e_test, e_truth, e_asB, e_asI, e_tup, e_lst, e_z, e_o, e_zg, e_og, e_ifE, e_and, e_or, e_not, e_andV, e_orV, e_notV, e_sm, e_smV, e_smf, e_call, e_callK, e_fnP, e_fnF, e_fnQ, e_next, e_seq, e_brk, e_cnt, e_drop, e_ret, e_if, e_asg, e_bname, e_btup, e_bsnil, e_bscons, e_par, e_fmt, e_js0, e_js, e_sl, e_nopart, e_part, e_frzd, e_frz1d, e_lc, e_for, e_seqI, e_rng1, e_rng2, e_enum, e_itT, e_itL, e_itS, e_start, e_yes, e_plain, o_add, o_addS, o_addT, o_addL, o_sub, o_mul, o_mulS, o_div, o_mod, o_pow, o_neg, o_lt, o_le, o_gt, o_ge, o_ltS, o_eqI, o_eqS, o_neI, o_neS, o_eqL, o_neL, o_lenS, o_lenT, o_lenL, o_lenR, o_int, o_intB, o_abs, o_max, o_min, o_st, o_ixL, o_ixT, o_ixR, o_ixS, o_tupL, o_tupT, o_all, o_slS, o_slT, o_slL, o_join, o_asT, o_asL, o_part, o_is, o_reprL, o_reprT, t_bl, t_lst, t_tup, e_asO, e_asL, e_stL, e_pure, v_o0, v_o1, at0, at1, at2, ix30, ix31, ix32, li_R, li_L, e_wp0, e_wp, e_ss, e_gnd, e_app, e_pop, o_isiI, o_isiS, o_isiT, o_isiL, o_isiB, o_isiN, o_isi2I, o_isi2S, o_isi2T, o_isi2L, o_isi2B, o_isi2N, o_inS1, o_inT, o_ninT, o_intT, o_split, e_chain, e_binF, o_cat, e_dictP, e_while, e_din0, e_dput, o_sortD, e_key, e_asD, e_asM, e_itO, v_o1d, isT, reduceCtorEq, List.any_cons, List.any_nil, List.all_cons, List.all_nil, Bool.or_false, Bool.false_or, Bool.or_true, Bool.true_or, flatD, List.map_cons, List.map_nil, List.length_cons, List.length_nil, Nat.reduceAdd, Nat.reduceSub, List.reduceReplicate, List.cons_append, List.nil_append, List.append_nil, List.getElem?_cons_zero, List.getElem?_cons_succ, List.set_cons_zero, List.set_cons_succ, Option.map_some, Option.bind_some, ends0, ends1, endsF, ite_true, if_true, if_false, Bool.false_eq_true, reduceIte, true_and, and_true, Bool.not_true, Bool.not_false, Bool.not_eq_true', decide_eq_true_eq, decide_eq_false_iff_not, List.length_map]
    split
    · rename_i hp
      rw [if_pos (by omega)] at h
      exact ⟨by omega, h⟩
    · rename_i hp
      rw [if_neg (by omega)] at h
      exact h
theorem parts_ok {d : D} {ws : List (List Nat)} {P : D → Prop} (hd : Seq d (ws.map .str)) (hb : (ws.map List.length).sum + ws.length * 1 ≤ 16777216) (h : P (.str (wrds ws))) : g__law_parts [d] P := by
  refine ⟨rfl, ?_⟩
  unfold wrds at h
  rcases hd with rfl | rfl
  all_goals
    simp only [r__law_parts, e_var, e_c, e_bin, e_un, e_view, e_bnd, e_cons, e_nil, e_allD0, e_allD, e_allV0, e_allV1, e_allV2, e_cb, e_cf, e_on1, e_on2, e_test, e_truth, e_asB, e_asI, e_tup, e_lst, e_z, e_o, e_zg, e_og, e_ifE, e_and, e_or, e_not, e_andV, e_orV, e_notV, e_sm, e_smV, e_smf, e_call, e_callK, e_fnP, e_fnF, e_fnQ, e_next, e_seq, e_brk, e_cnt, e_drop, e_ret, e_if, e_asg, e_bname, e_btup, e_bsnil, e_bscons, e_par, e_fmt, e_js0, e_js, e_sl, e_nopart, e_part, e_frzd, e_frz1d, e_lc, e_for, e_seqI, e_rng1, e_rng2, e_enum, e_itT, e_itL, e_itS, e_start, e_yes, e_plain, o_add, o_addS, o_addT, o_addL, o_sub, o_mul, o_mulS, o_div, o_mod, o_pow, o_neg, o_lt, o_le, o_gt, o_ge, o_ltS, o_eqI, o_eqS, o_neI, o_neS, o_eqL, o_neL, o_lenS, o_lenT, o_lenL, o_lenR, o_int, o_intB, o_abs, o_max, o_min, o_st, o_ixL, o_ixT, o_ixR, o_ixS, o_tupL, o_tupT, o_all, o_slS, o_slT, o_slL, o_join, o_asT, o_asL, o_part, o_is, o_reprL, o_reprT, t_bl, t_lst, t_tup, e_asO, e_asL, e_stL, e_pure, v_o0, v_o1, at0, at1, at2, ix30, ix31, ix32, li_R, li_L, e_wp0, e_wp, e_ss, e_gnd, e_app, e_pop, o_isiI, o_isiS, o_isiT, o_isiL, o_isiB, o_isiN, o_isi2I, o_isi2S, o_isi2T, o_isi2L, o_isi2B, o_isi2N, o_inS1, o_inT, o_ninT, o_intT, o_split, e_chain, e_binF, o_cat, e_dictP, e_while, e_din0, e_dput, o_sortD, e_key, e_asD, e_asM, e_itO, v_o1d, isT, reduceCtorEq, List.any_cons, List.any_nil, List.all_cons, List.all_nil, Bool.or_false, Bool.false_or, Bool.or_true, Bool.true_or, flatD, List.map_cons, List.map_nil, List.length_cons, List.length_nil, Nat.reduceAdd, Nat.reduceSub, List.reduceReplicate, List.cons_append, List.nil_append, List.append_nil, List.getElem?_cons_zero, List.getElem?_cons_succ, List.set_cons_zero, List.set_cons_succ, Option.map_some, Option.bind_some, ends0, ends1, endsF, ite_true, if_true, if_false, Bool.false_eq_true, reduceIte, true_and, and_true, Bool.not_true, Bool.not_false, Bool.not_eq_true', decide_eq_true_eq, decide_eq_false_iff_not]
    rw [allStr_map]
    simp only [e_var, e_c, e_bin, e_un, e_view, e_bnd, e_cons, e_nil, e_allD0, e_allD, e_allV0, e_allV1, e_allV2, e_cb, e_cf, e_on1, e_on2, e_test, e_truth, e_asB, e_asI, e_tup, e_lst, e_z, e_o, e_zg, e_og, e_ifE, e_and, e_or, e_not, e_andV, e_orV, e_notV, e_sm, e_smV, e_smf, e_call, e_callK, e_fnP, e_fnF, e_fnQ, e_next, e_seq, e_brk, e_cnt, e_drop, e_ret, e_if, e_asg, e_bname, e_btup, e_bsnil, e_bscons, e_par, e_fmt, e_js0, e_js, e_sl, e_nopart, e_part, e_frzd, e_frz1d, e_lc, e_for, e_seqI, e_rng1, e_rng2, e_enum, e_itT, e_itL, e_itS, e_start, e_yes, e_plain, o_add, o_addS, o_addT, o_addL, o_sub, o_mul, o_mulS, o_div, o_mod, o_pow, o_neg, o_lt, o_le, o_gt, o_ge, o_ltS, o_eqI, o_eqS, o_neI, o_neS, o_eqL, o_neL, o_lenS, o_lenT, o_lenL, o_lenR, o_int, o_intB, o_abs, o_max, o_min, o_st, o_ixL, o_ixT, o_ixR, o_ixS, o_tupL, o_tupT, o_all, o_slS, o_slT, o_slL, o_join, o_asT, o_asL, o_part, o_is, o_reprL, o_reprT, t_bl, t_lst, t_tup, e_asO, e_asL, e_stL, e_pure, v_o0, v_o1, at0, at1, at2, ix30, ix31, ix32, li_R, li_L, e_wp0, e_wp, e_ss, e_gnd, e_app, e_pop, o_isiI, o_isiS, o_isiT, o_isiL, o_isiB, o_isiN, o_isi2I, o_isi2S, o_isi2T, o_isi2L, o_isi2B, o_isi2N, o_inS1, o_inT, o_ninT, o_intT, o_split, e_chain, e_binF, o_cat, e_dictP, e_while, e_din0, e_dput, o_sortD, e_key, e_asD, e_asM, e_itO, v_o1d, isT, reduceCtorEq, List.any_cons, List.any_nil, List.all_cons, List.all_nil, Bool.or_false, Bool.false_or, Bool.or_true, Bool.true_or, flatD, List.map_cons, List.map_nil, List.length_cons, List.length_nil, Nat.reduceAdd, Nat.reduceSub, List.reduceReplicate, List.cons_append, List.nil_append, List.append_nil, List.getElem?_cons_zero, List.getElem?_cons_succ, List.set_cons_zero, List.set_cons_succ, Option.map_some, Option.bind_some, ends0, ends1, endsF, ite_true, if_true, if_false, Bool.false_eq_true, reduceIte, true_and, and_true, Bool.not_true, Bool.not_false, Bool.not_eq_true', decide_eq_true_eq, decide_eq_false_iff_not, List.length_map]
    split
    · rename_i hp
      rw [if_neg (by omega)] at h
      exact h
    · rename_i hp
      rw [if_pos (by omega)] at h
      exact ⟨by omega, h⟩
/-- the text of a book -/
def bookT (n : Nat) (ws : List (List Nat)) : List Nat := numT n ++ [58, 32] ++ joinN [32] ws
theorem num_small {n : Nat} (h : n ≤ 6) : (numT n).length ≤ 3 := numT_len (k := 2) (by decide) (by omega)
theorem log_small {n : Nat} (h : n ≤ 6) : (n : Int).natAbs.log2 < 1920 := log_sm (Nat.lt_of_le_of_lt (show (n : Int).natAbs ≤ 6 by omega) (by decide))
theorem Wins.sum {n : Nat} {ws : List (List Nat)} (h : Wins n ws) (hn : n ≤ 6) : (ws.map List.length).sum ≤ 240 := by
  have h1 := sum_le (ns := ws) (n := 6) fun s hs => by rw [h.len s hs]; exact hn
  have := h.few
  omega
theorem join_len : ∀ {sep : List Nat} {ns : List (List Nat)}, (joinN sep ns).length ≤ (ns.map List.length).sum + ns.length * sep.length
  | _, [] => Nat.zero_le _
  | sep, [x] => by
    show x.length ≤ (List.map List.length [x]).sum + _
    rw [List.map_cons, List.sum_cons]
    omega
  | sep, x :: y :: r => by
    have ih := join_len (sep := sep) (ns := y :: r)
    show (x ++ sep ++ joinN sep (y :: r)).length ≤ _
    rw [List.length_append, List.length_append, List.map_cons, List.sum_cons, List.length_cons, Nat.succ_mul]
    omega
theorem written_eq : ∀ {ws : List (List Nat)}, ws ≠ [] → (ws.map fun w => 32 :: w).flatten = 32 :: joinN [32] ws
  | [], h => absurd rfl h
  | [x], _ => by simp [joinN]
  | x :: y :: r, _ => by
    have ih := written_eq (ws := y :: r) (by simp)
    rw [List.map_cons, List.flatten_cons, ih]
    show _ = 32 :: (x ++ [32] ++ joinN [32] (y :: r))
    simp
theorem flat_len (ws : List (List Nat)) : (ws.map fun w => 32 :: w).flatten.length = (ws.map List.length).sum + ws.length := by
  induction ws with
  | nil => rfl
  | cons x r ih =>
    rw [List.map_cons, List.flatten_cons, List.length_append, ih, List.map_cons, List.sum_cons, List.length_cons, List.length_cons]
    omega
theorem written_ok {n : Nat} {ws : List (List Nat)} {P : D → Prop} (hn : n ≤ 6) (hw : Wins n ws) (h : P (.str (bookT n ws))) : g__law_written [.int n, .tup (ws.map .str)] P := by
  refine ⟨rfl, ?_⟩
  have h3 := num_small hn
  have hs := hw.sum hn
  have hf := hw.few
  simp only [r__law_written, e_var, e_c, e_bin, e_un, e_view, e_bnd, e_cons, e_nil, e_allD0, e_allD, e_allV0, e_allV1, e_allV2, e_cb, e_cf, e_on1, e_on2, e_test, e_truth, e_asB, e_asI, e_tup, e_lst, e_z, e_o, e_zg, e_og, e_ifE, e_and, e_or, e_not, e_andV, e_orV, e_notV, e_sm, e_smV, e_smf, e_call, e_callK, e_fnP, e_fnF, e_fnQ, e_next, e_seq, e_brk, e_cnt, e_drop, e_ret, e_if, e_asg, e_bname, e_btup, e_bsnil, e_bscons, e_par, e_fmt, e_js0, e_js, e_sl, e_nopart, e_part, e_frzd, e_frz1d, e_lc, e_for, e_seqI, e_rng1, e_rng2, e_enum, e_itT, e_itL, e_itS, e_start, e_yes, e_plain, o_add, o_addS, o_addT, o_addL, o_sub, o_mul, o_mulS, o_div, o_mod, o_pow, o_neg, o_lt, o_le, o_gt, o_ge, o_ltS, o_eqI, o_eqS, o_neI, o_neS, o_eqL, o_neL, o_lenS, o_lenT, o_lenL, o_lenR, o_int, o_intB, o_abs, o_max, o_min, o_st, o_ixL, o_ixT, o_ixR, o_ixS, o_tupL, o_tupT, o_all, o_slS, o_slT, o_slL, o_join, o_asT, o_asL, o_part, o_is, o_reprL, o_reprT, t_bl, t_lst, t_tup, e_asO, e_asL, e_stL, e_pure, v_o0, v_o1, at0, at1, at2, ix30, ix31, ix32, li_R, li_L, e_wp0, e_wp, e_ss, e_gnd, e_app, e_pop, o_isiI, o_isiS, o_isiT, o_isiL, o_isiB, o_isiN, o_isi2I, o_isi2S, o_isi2T, o_isi2L, o_isi2B, o_isi2N, o_inS1, o_inT, o_ninT, o_intT, o_split, e_chain, e_binF, o_cat, e_dictP, e_while, e_din0, e_dput, o_sortD, e_key, e_asD, e_asM, e_itO, v_o1d, isT, reduceCtorEq, List.any_cons, List.any_nil, List.all_cons, List.all_nil, Bool.or_false, Bool.false_or, Bool.or_true, Bool.true_or, flatD, List.map_cons, List.map_nil, List.length_cons, List.length_nil, Nat.reduceAdd, Nat.reduceSub, List.reduceReplicate, List.cons_append, List.nil_append, List.append_nil, List.getElem?_cons_zero, List.getElem?_cons_succ, List.set_cons_zero, List.set_cons_succ, Option.map_some, Option.bind_some, ends0, ends1, endsF, ite_true, if_true, if_false, Bool.false_eq_true, reduceIte, true_and, and_true, Bool.not_true, Bool.not_false, Bool.not_eq_true', decide_eq_true_eq, decide_eq_false_iff_not]
  refine ⟨log_small hn, by omega, ?_⟩
  refine for_inv (I := fun l ρ m => ∃ (as bs : List (List Nat)) (x : Option SV), ws = as ++ bs ∧ l = bs.map .str ∧ m = [] ∧ ρ = [some (.d (.int n)), some (.d (.tup (ws.map .str))), some (.d (.str (numT n ++ [58] ++ (as.map fun w => 32 :: w).flatten))), x])
    (fun d l ρ m Nx hI nx => ?_) (fun ρ m hI => ?_) _ _ _ ⟨[], ws, none, rfl, rfl, rfl, by simp⟩
  · obtain ⟨as, bs, x, e1, e2, rfl, rfl⟩ := hI
    cases bs with
    | nil => cases e2
    | cons b bs =>
      cases e2
      have l1 := flat_len as
      have l2 : (ws.map List.length).sum = (as.map List.length).sum + (b.length + (bs.map List.length).sum) := by rw [e1, List.map_append, List.sum_append, List.map_cons, List.sum_cons]
      have l3 : ws.length = as.length + (bs.length + 1) := by rw [e1, List.length_append, List.length_cons]
      simp only [e_var, e_c, e_bin, e_un, e_view, e_bnd, e_cons, e_nil, e_allD0, e_allD, e_allV0, e_allV1, e_allV2, e_cb, e_cf, e_on1, e_on2, e_test, e_truth, e_asB, e_asI, e_tup, e_lst, e_z, e_o, e_zg, e_og, e_ifE, e_and, e_or, e_not, e_andV, e_orV, e_notV, e_sm, e_smV, e_smf, e_call, e_callK, e_fnP, e_fnF, e_fnQ, e_next, e_seq, e_brk, e_cnt, e_drop, e_ret, e_if, e_asg, e_bname, e_btup, e_bsnil, e_bscons, e_par, e_fmt, e_js0, e_js, e_sl, e_nopart, e_part, e_frzd, e_frz1d, e_lc, e_for, e_seqI, e_rng1, e_rng2, e_enum, e_itT, e_itL, e_itS, e_start, e_yes, e_plain, o_add, o_addS, o_addT, o_addL, o_sub, o_mul, o_mulS, o_div, o_mod, o_pow, o_neg, o_lt, o_le, o_gt, o_ge, o_ltS, o_eqI, o_eqS, o_neI, o_neS, o_eqL, o_neL, o_lenS, o_lenT, o_lenL, o_lenR, o_int, o_intB, o_abs, o_max, o_min, o_st, o_ixL, o_ixT, o_ixR, o_ixS, o_tupL, o_tupT, o_all, o_slS, o_slT, o_slL, o_join, o_asT, o_asL, o_part, o_is, o_reprL, o_reprT, t_bl, t_lst, t_tup, e_asO, e_asL, e_stL, e_pure, v_o0, v_o1, at0, at1, at2, ix30, ix31, ix32, li_R, li_L, e_wp0, e_wp, e_ss, e_gnd, e_app, e_pop, o_isiI, o_isiS, o_isiT, o_isiL, o_isiB, o_isiN, o_isi2I, o_isi2S, o_isi2T, o_isi2L, o_isi2B, o_isi2N, o_inS1, o_inT, o_ninT, o_intT, o_split, e_chain, e_binF, o_cat, e_dictP, e_while, e_din0, e_dput, o_sortD, e_key, e_asD, e_asM, e_itO, v_o1d, isT, reduceCtorEq, List.any_cons, List.any_nil, List.all_cons, List.all_nil, Bool.or_false, Bool.false_or, Bool.or_true, Bool.true_or, flatD, List.map_cons, List.map_nil, List.length_cons, List.length_nil, Nat.reduceAdd, Nat.reduceSub, List.reduceReplicate, List.cons_append, List.nil_append, List.append_nil, List.getElem?_cons_zero, List.getElem?_cons_succ, List.set_cons_zero, List.set_cons_succ, Option.map_some, Option.bind_some, ends0, ends1, endsF, ite_true, if_true, if_false, Bool.false_eq_true, reduceIte, true_and, and_true, Bool.not_true, Bool.not_false, Bool.not_eq_true', decide_eq_true_eq, decide_eq_false_iff_not]
      refine ⟨?_, ?_, nx _ _ ⟨as ++ [b], bs, some (.d (.str b)), by rw [e1]; simp, rfl, rfl, by simp⟩⟩
      · simp only [List.length_append, List.length_cons, List.length_nil]
        omega
      · simp only [List.length_append, List.length_cons, List.length_nil]
        omega
  · obtain ⟨as, bs, x, e1, e2, rfl, rfl⟩ := hI
    have eb : bs = [] := by
      cases bs with
      | nil => rfl
      | cons b bs => cases e2
    subst eb
    rw [List.append_nil] at e1
    subst e1
    simp only [e_var, e_c, e_bin, e_un, e_view, e_bnd, e_cons, e_nil, e_allD0, e_allD, e_allV0, e_allV1, e_allV2, e_cb, e_cf, e_on1, e_on2, e_test, e_truth, e_asB, e_asI, e_tup, e_lst, e_z, e_o, e_zg, e_og, e_ifE, e_and, e_or, e_not, e_andV, e_orV, e_notV, e_sm, e_smV, e_smf, e_call, e_callK, e_fnP, e_fnF, e_fnQ, e_next, e_seq, e_brk, e_cnt, e_drop, e_ret, e_if, e_asg, e_bname, e_btup, e_bsnil, e_bscons, e_par, e_fmt, e_js0, e_js, e_sl, e_nopart, e_part, e_frzd, e_frz1d, e_lc, e_for, e_seqI, e_rng1, e_rng2, e_enum, e_itT, e_itL, e_itS, e_start, e_yes, e_plain, o_add, o_addS, o_addT, o_addL, o_sub, o_mul, o_mulS, o_div, o_mod, o_pow, o_neg, o_lt, o_le, o_gt, o_ge, o_ltS, o_eqI, o_eqS, o_neI, o_neS, o_eqL, o_neL, o_lenS, o_lenT, o_lenL, o_lenR, o_int, o_intB, o_abs, o_max, o_min, o_st, o_ixL, o_ixT, o_ixR, o_ixS, o_tupL, o_tupT, o_all, o_slS, o_slT, o_slL, o_join, o_asT, o_asL, o_part, o_is, o_reprL, o_reprT, t_bl, t_lst, t_tup, e_asO, e_asL, e_stL, e_pure, v_o0, v_o1, at0, at1, at2, ix30, ix31, ix32, li_R, li_L, e_wp0, e_wp, e_ss, e_gnd, e_app, e_pop, o_isiI, o_isiS, o_isiT, o_isiL, o_isiB, o_isiN, o_isi2I, o_isi2S, o_isi2T, o_isi2L, o_isi2B, o_isi2N, o_inS1, o_inT, o_ninT, o_intT, o_split, e_chain, e_binF, o_cat, e_dictP, e_while, e_din0, e_dput, o_sortD, e_key, e_asD, e_asM, e_itO, v_o1d, isT, reduceCtorEq, List.any_cons, List.any_nil, List.all_cons, List.all_nil, Bool.or_false, Bool.false_or, Bool.or_true, Bool.true_or, flatD, List.map_cons, List.map_nil, List.length_cons, List.length_nil, Nat.reduceAdd, Nat.reduceSub, List.reduceReplicate, List.cons_append, List.nil_append, List.append_nil, List.getElem?_cons_zero, List.getElem?_cons_succ, List.set_cons_zero, List.set_cons_succ, Option.map_some, Option.bind_some, ends0, ends1, endsF, ite_true, if_true, if_false, Bool.false_eq_true, reduceIte, true_and, and_true, Bool.not_true, Bool.not_false, Bool.not_eq_true', decide_eq_true_eq, decide_eq_false_iff_not]
    rw [written_eq hw.ne]
    have e : numT n ++ [58] ++ 32 :: joinN [32] ws = bookT n ws := by simp [bookT]
    rw [e]
    exact h
theorem show_book_ok {n : Nat} {ws : List (List Nat)} {P : D → Prop} (hn : n ≤ 6) (hw : Wins n ws) (h : P (.str (bookT n ws))) : g_show_book [.tup [.int n, .tup (ws.map .str)]] P := by
  refine ⟨rfl, ?_⟩
  have h3 := num_small hn
  have hs := hw.sum hn
  have hf := hw.few
  have hj := join_len (sep := [32]) (ns := ws)
  simp only [r_show_book, e_var, e_c, e_bin, e_un, e_view, e_bnd, e_cons, e_nil, e_allD0, e_allD, e_allV0, e_allV1, e_allV2, e_cb, e_cf, e_on1, e_on2, e_test, e_truth, e_asB, e_asI, e_tup, e_lst, e_z, e_o, e_zg, e_og, e_ifE, e_and, e_or, e_not, e_andV, e_orV, e_notV, e_sm, e_smV, e_smf, e_call, e_callK, e_fnP, e_fnF, e_fnQ, e_next, e_seq, e_brk, e_cnt, e_drop, e_ret, e_if, e_asg, e_bname, e_btup, e_bsnil, e_bscons, e_par, e_fmt, e_js0, e_js, e_sl, e_nopart, e_part, e_frzd, e_frz1d, e_lc, e_for, e_seqI, e_rng1, e_rng2, e_enum, e_itT, e_itL, e_itS, e_start, e_yes, e_plain, o_add, o_addS, o_addT, o_addL, o_sub, o_mul, o_mulS, o_div, o_mod, o_pow, o_neg, o_lt, o_le, o_gt, o_ge, o_ltS, o_eqI, o_eqS, o_neI, o_neS, o_eqL, o_neL, o_lenS, o_lenT, o_lenL, o_lenR, o_int, o_intB, o_abs, o_max, o_min, o_st, o_ixL, o_ixT, o_ixR, o_ixS, o_tupL, o_tupT, o_all, o_slS, o_slT, o_slL, o_join, o_asT, o_asL, o_part, o_is, o_reprL, o_reprT, t_bl, t_lst, t_tup, e_asO, e_asL, e_stL, e_pure, v_o0, v_o1, at0, at1, at2, ix30, ix31, ix32, li_R, li_L, e_wp0, e_wp, e_ss, e_gnd, e_app, e_pop, o_isiI, o_isiS, o_isiT, o_isiL, o_isiB, o_isiN, o_isi2I, o_isi2S, o_isi2T, o_isi2L, o_isi2B, o_isi2N, o_inS1, o_inT, o_ninT, o_intT, o_split, e_chain, e_binF, o_cat, e_dictP, e_while, e_din0, e_dput, o_sortD, e_key, e_asD, e_asM, e_itO, v_o1d, isT, reduceCtorEq, List.any_cons, List.any_nil, List.all_cons, List.all_nil, Bool.or_false, Bool.false_or, Bool.or_true, Bool.true_or, flatD, List.map_cons, List.map_nil, List.length_cons, List.length_nil, Nat.reduceAdd, Nat.reduceSub, List.reduceReplicate, List.cons_append, List.nil_append, List.append_nil, List.getElem?_cons_zero, List.getElem?_cons_succ, List.set_cons_zero, List.set_cons_succ, Option.map_some, Option.bind_some, ends0, ends1, endsF, ite_true, if_true, if_false, Bool.false_eq_true, reduceIte, true_and, and_true, Bool.not_true, Bool.not_false, Bool.not_eq_true', decide_eq_true_eq, decide_eq_false_iff_not]
  rw [allStr_map]
  simp only [e_var, e_c, e_bin, e_un, e_view, e_bnd, e_cons, e_nil, e_allD0, e_allD, e_allV0, e_allV1, e_allV2, e_cb, e_cf, e_on1, e_on2, e_test, e_truth, e_asB, e_asI, e_tup, e_lst, e_z, e_o, e_zg, e_og, e_ifE, e_and, e_or, e_not, e_andV, e_orV, e_notV, e_sm, e_smV, e_smf, e_call, e_callK, e_fnP, e_fnF, e_fnQ, e_next, e_seq, e_brk, e_cnt, e_drop, e_ret, e_if, e_asg, e_bname, e_btup, e_bsnil, e_bscons, e_par, e_fmt, e_js0, e_js, e_sl, e_nopart, e_part, e_frzd, e_frz1d, e_lc, e_for, e_seqI, e_rng1, e_rng2, e_enum, e_itT, e_itL, e_itS, e_start, e_yes, e_plain, o_add, o_addS, o_addT, o_addL, o_sub, o_mul, o_mulS, o_div, o_mod, o_pow, o_neg, o_lt, o_le, o_gt, o_ge, o_ltS, o_eqI, o_eqS, o_neI, o_neS, o_eqL, o_neL, o_lenS, o_lenT, o_lenL, o_lenR, o_int, o_intB, o_abs, o_max, o_min, o_st, o_ixL, o_ixT, o_ixR, o_ixS, o_tupL, o_tupT, o_all, o_slS, o_slT, o_slL, o_join, o_asT, o_asL, o_part, o_is, o_reprL, o_reprT, t_bl, t_lst, t_tup, e_asO, e_asL, e_stL, e_pure, v_o0, v_o1, at0, at1, at2, ix30, ix31, ix32, li_R, li_L, e_wp0, e_wp, e_ss, e_gnd, e_app, e_pop, o_isiI, o_isiS, o_isiT, o_isiL, o_isiB, o_isiN, o_isi2I, o_isi2S, o_isi2T, o_isi2L, o_isi2B, o_isi2N, o_inS1, o_inT, o_ninT, o_intT, o_split, e_chain, e_binF, o_cat, e_dictP, e_while, e_din0, e_dput, o_sortD, e_key, e_asD, e_asM, e_itO, v_o1d, isT, reduceCtorEq, List.any_cons, List.any_nil, List.all_cons, List.all_nil, Bool.or_false, Bool.false_or, Bool.or_true, Bool.true_or, flatD, List.map_cons, List.map_nil, List.length_cons, List.length_nil, Nat.reduceAdd, Nat.reduceSub, List.reduceReplicate, List.cons_append, List.nil_append, List.append_nil, List.getElem?_cons_zero, List.getElem?_cons_succ, List.set_cons_zero, List.set_cons_succ, Option.map_some, Option.bind_some, ends0, ends1, endsF, ite_true, if_true, if_false, Bool.false_eq_true, reduceIte, true_and, and_true, Bool.not_true, Bool.not_false, Bool.not_eq_true', decide_eq_true_eq, decide_eq_false_iff_not, List.length_append]
  rw [List.length_singleton] at hj
  exact ⟨log_small hn, by omega, by omega, by omega, by omega, h⟩
theorem is_word_ok {w : List Nat} {P : D → Prop} (az : ∀ c ∈ w, 97 ≤ c ∧ c ≤ 122) (hl : w.length ≤ 100) (h : P (.bl true)) : g_is_word [.str w] P := by
  refine ⟨rfl, ?_⟩
  simp only [r_is_word, e_var, e_c, e_bin, e_un, e_view, e_bnd, e_cons, e_nil, e_allD0, e_allD, e_allV0, e_allV1, e_allV2, e_cb, e_cf, e_on1, e_on2, e_test, e_truth, e_asB, e_asI, e_tup, e_lst, e_z, e_o, e_zg, e_og, e_ifE, e_and, e_or, e_not, e_andV, e_orV, e_notV, e_sm, e_smV, e_smf, e_call, e_callK, e_fnP, e_fnF, e_fnQ, e_next, e_seq, e_brk, e_cnt, e_drop, e_ret, e_if, e_asg, e_bname, e_btup, e_bsnil, e_bscons, e_par, e_fmt, e_js0, e_js, e_sl, e_nopart, e_part, e_frzd, e_frz1d, e_lc, e_for, e_seqI, e_rng1, e_rng2, e_enum, e_itT, e_itL, e_itS, e_start, e_yes, e_plain, o_add, o_addS, o_addT, o_addL, o_sub, o_mul, o_mulS, o_div, o_mod, o_pow, o_neg, o_lt, o_le, o_gt, o_ge, o_ltS, o_eqI, o_eqS, o_neI, o_neS, o_eqL, o_neL, o_lenS, o_lenT, o_lenL, o_lenR, o_int, o_intB, o_abs, o_max, o_min, o_st, o_ixL, o_ixT, o_ixR, o_ixS, o_tupL, o_tupT, o_all, o_slS, o_slT, o_slL, o_join, o_asT, o_asL, o_part, o_is, o_reprL, o_reprT, t_bl, t_lst, t_tup, e_asO, e_asL, e_stL, e_pure, v_o0, v_o1, at0, at1, at2, ix30, ix31, ix32, li_R, li_L, e_wp0, e_wp, e_ss, e_gnd, e_app, e_pop, o_isiI, o_isiS, o_isiT, o_isiL, o_isiB, o_isiN, o_isi2I, o_isi2S, o_isi2T, o_isi2L, o_isi2B, o_isi2N, o_inS1, o_inT, o_ninT, o_intT, o_split, e_chain, e_binF, o_cat, e_dictP, e_while, e_din0, e_dput, o_sortD, e_key, e_asD, e_asM, e_itO, v_o1d, isT, reduceCtorEq, List.any_cons, List.any_nil, List.all_cons, List.all_nil, Bool.or_false, Bool.false_or, Bool.or_true, Bool.true_or, flatD, List.map_cons, List.map_nil, List.length_cons, List.length_nil, Nat.reduceAdd, Nat.reduceSub, List.reduceReplicate, List.cons_append, List.nil_append, List.append_nil, List.getElem?_cons_zero, List.getElem?_cons_succ, List.set_cons_zero, List.set_cons_succ, Option.map_some, Option.bind_some, ends0, ends1, endsF, ite_true, if_true, if_false, Bool.false_eq_true, reduceIte, true_and, and_true, Bool.not_true, Bool.not_false, Bool.not_eq_true', decide_eq_true_eq, decide_eq_false_iff_not]
  refine lc_true (fun d hd Q Q' q => ?_) (by rw [List.length_map]; omega) ?_
  · obtain ⟨c, hc, rfl⟩ := List.mem_map.mp hd
    have hz := az c hc
    simp only [v_LETTERS, e_var, e_c, e_bin, e_un, e_view, e_bnd, e_cons, e_nil, e_allD0, e_allD, e_allV0, e_allV1, e_allV2, e_cb, e_cf, e_on1, e_on2, e_test, e_truth, e_asB, e_asI, e_tup, e_lst, e_z, e_o, e_zg, e_og, e_ifE, e_and, e_or, e_not, e_andV, e_orV, e_notV, e_sm, e_smV, e_smf, e_call, e_callK, e_fnP, e_fnF, e_fnQ, e_next, e_seq, e_brk, e_cnt, e_drop, e_ret, e_if, e_asg, e_bname, e_btup, e_bsnil, e_bscons, e_par, e_fmt, e_js0, e_js, e_sl, e_nopart, e_part, e_frzd, e_frz1d, e_lc, e_for, e_seqI, e_rng1, e_rng2, e_enum, e_itT, e_itL, e_itS, e_start, e_yes, e_plain, o_add, o_addS, o_addT, o_addL, o_sub, o_mul, o_mulS, o_div, o_mod, o_pow, o_neg, o_lt, o_le, o_gt, o_ge, o_ltS, o_eqI, o_eqS, o_neI, o_neS, o_eqL, o_neL, o_lenS, o_lenT, o_lenL, o_lenR, o_int, o_intB, o_abs, o_max, o_min, o_st, o_ixL, o_ixT, o_ixR, o_ixS, o_tupL, o_tupT, o_all, o_slS, o_slT, o_slL, o_join, o_asT, o_asL, o_part, o_is, o_reprL, o_reprT, t_bl, t_lst, t_tup, e_asO, e_asL, e_stL, e_pure, v_o0, v_o1, at0, at1, at2, ix30, ix31, ix32, li_R, li_L, e_wp0, e_wp, e_ss, e_gnd, e_app, e_pop, o_isiI, o_isiS, o_isiT, o_isiL, o_isiB, o_isiN, o_isi2I, o_isi2S, o_isi2T, o_isi2L, o_isi2B, o_isi2N, o_inS1, o_inT, o_ninT, o_intT, o_split, e_chain, e_binF, o_cat, e_dictP, e_while, e_din0, e_dput, o_sortD, e_key, e_asD, e_asM, e_itO, v_o1d, isT, reduceCtorEq, List.any_cons, List.any_nil, List.all_cons, List.all_nil, Bool.or_false, Bool.false_or, Bool.or_true, Bool.true_or, flatD, List.map_cons, List.map_nil, List.length_cons, List.length_nil, Nat.reduceAdd, Nat.reduceSub, List.reduceReplicate, List.cons_append, List.nil_append, List.append_nil, List.getElem?_cons_zero, List.getElem?_cons_succ, List.set_cons_zero, List.set_cons_succ, Option.map_some, Option.bind_some, ends0, ends1, endsF, ite_true, if_true, if_false, Bool.false_eq_true, reduceIte, true_and, and_true, Bool.not_true, Bool.not_false, Bool.not_eq_true', decide_eq_true_eq, decide_eq_false_iff_not]
    have : c ∈ [97, 98, 99, 100, 101, 102, 103, 104, 105, 106, 107, 108, 109, 110, 111, 112, 113, 114, 115, 116, 117, 118, 119, 120, 121, 122] := by
      simp only [List.mem_cons, List.not_mem_nil, or_false]
      omega
    rw [decide_eq_true this]
    exact q
  · rw [allBl_rep]
    simp only [e_var, e_c, e_bin, e_un, e_view, e_bnd, e_cons, e_nil, e_allD0, e_allD, e_allV0, e_allV1, e_allV2, e_cb, e_cf, e_on1, e_on2, e_test, e_truth, e_asB, e_asI, e_tup, e_lst, e_z, e_o, e_zg, e_og, e_ifE, e_and, e_or, e_not, e_andV, e_orV, e_notV, e_sm, e_smV, e_smf, e_call, e_callK, e_fnP, e_fnF, e_fnQ, e_next, e_seq, e_brk, e_cnt, e_drop, e_ret, e_if, e_asg, e_bname, e_btup, e_bsnil, e_bscons, e_par, e_fmt, e_js0, e_js, e_sl, e_nopart, e_part, e_frzd, e_frz1d, e_lc, e_for, e_seqI, e_rng1, e_rng2, e_enum, e_itT, e_itL, e_itS, e_start, e_yes, e_plain, o_add, o_addS, o_addT, o_addL, o_sub, o_mul, o_mulS, o_div, o_mod, o_pow, o_neg, o_lt, o_le, o_gt, o_ge, o_ltS, o_eqI, o_eqS, o_neI, o_neS, o_eqL, o_neL, o_lenS, o_lenT, o_lenL, o_lenR, o_int, o_intB, o_abs, o_max, o_min, o_st, o_ixL, o_ixT, o_ixR, o_ixS, o_tupL, o_tupT, o_all, o_slS, o_slT, o_slL, o_join, o_asT, o_asL, o_part, o_is, o_reprL, o_reprT, t_bl, t_lst, t_tup, e_asO, e_asL, e_stL, e_pure, v_o0, v_o1, at0, at1, at2, ix30, ix31, ix32, li_R, li_L, e_wp0, e_wp, e_ss, e_gnd, e_app, e_pop, o_isiI, o_isiS, o_isiT, o_isiL, o_isiB, o_isiN, o_isi2I, o_isi2S, o_isi2T, o_isi2L, o_isi2B, o_isi2N, o_inS1, o_inT, o_ninT, o_intT, o_split, e_chain, e_binF, o_cat, e_dictP, e_while, e_din0, e_dput, o_sortD, e_key, e_asD, e_asM, e_itO, v_o1d, isT, reduceCtorEq, List.any_cons, List.any_nil, List.all_cons, List.all_nil, Bool.or_false, Bool.false_or, Bool.or_true, Bool.true_or, flatD, List.map_cons, List.map_nil, List.length_cons, List.length_nil, Nat.reduceAdd, Nat.reduceSub, List.reduceReplicate, List.cons_append, List.nil_append, List.append_nil, List.getElem?_cons_zero, List.getElem?_cons_succ, List.set_cons_zero, List.set_cons_succ, Option.map_some, Option.bind_some, ends0, ends1, endsF, ite_true, if_true, if_false, Bool.false_eq_true, reduceIte, true_and, and_true, Bool.not_true, Bool.not_false, Bool.not_eq_true', decide_eq_true_eq, decide_eq_false_iff_not]
    rw [all_rep]
    exact h
theorem is_size_ok {n : Nat} {P : D → Prop} (h2 : 2 ≤ n) (hn : n ≤ 6) (h : P (.bl true)) : g_is_size [.int n] P := by
  refine ⟨rfl, ?_⟩
  simp only [r_is_size, e_var, e_c, e_bin, e_un, e_view, e_bnd, e_cons, e_nil, e_allD0, e_allD, e_allV0, e_allV1, e_allV2, e_cb, e_cf, e_on1, e_on2, e_test, e_truth, e_asB, e_asI, e_tup, e_lst, e_z, e_o, e_zg, e_og, e_ifE, e_and, e_or, e_not, e_andV, e_orV, e_notV, e_sm, e_smV, e_smf, e_call, e_callK, e_fnP, e_fnF, e_fnQ, e_next, e_seq, e_brk, e_cnt, e_drop, e_ret, e_if, e_asg, e_bname, e_btup, e_bsnil, e_bscons, e_par, e_fmt, e_js0, e_js, e_sl, e_nopart, e_part, e_frzd, e_frz1d, e_lc, e_for, e_seqI, e_rng1, e_rng2, e_enum, e_itT, e_itL, e_itS, e_start, e_yes, e_plain, o_add, o_addS, o_addT, o_addL, o_sub, o_mul, o_mulS, o_div, o_mod, o_pow, o_neg, o_lt, o_le, o_gt, o_ge, o_ltS, o_eqI, o_eqS, o_neI, o_neS, o_eqL, o_neL, o_lenS, o_lenT, o_lenL, o_lenR, o_int, o_intB, o_abs, o_max, o_min, o_st, o_ixL, o_ixT, o_ixR, o_ixS, o_tupL, o_tupT, o_all, o_slS, o_slT, o_slL, o_join, o_asT, o_asL, o_part, o_is, o_reprL, o_reprT, t_bl, t_lst, t_tup, e_asO, e_asL, e_stL, e_pure, v_o0, v_o1, at0, at1, at2, ix30, ix31, ix32, li_R, li_L, e_wp0, e_wp, e_ss, e_gnd, e_app, e_pop, o_isiI, o_isiS, o_isiT, o_isiL, o_isiB, o_isiN, o_isi2I, o_isi2S, o_isi2T, o_isi2L, o_isi2B, o_isi2N, o_inS1, o_inT, o_ninT, o_intT, o_split, e_chain, e_binF, o_cat, e_dictP, e_while, e_din0, e_dput, o_sortD, e_key, e_asD, e_asM, e_itO, v_o1d, isT, reduceCtorEq, List.any_cons, List.any_nil, List.all_cons, List.all_nil, Bool.or_false, Bool.false_or, Bool.or_true, Bool.true_or, flatD, List.map_cons, List.map_nil, List.length_cons, List.length_nil, Nat.reduceAdd, Nat.reduceSub, List.reduceReplicate, List.cons_append, List.nil_append, List.append_nil, List.getElem?_cons_zero, List.getElem?_cons_succ, List.set_cons_zero, List.set_cons_succ, Option.map_some, Option.bind_some, ends0, ends1, endsF, ite_true, if_true, if_false, Bool.false_eq_true, reduceIte, true_and, and_true, Bool.not_true, Bool.not_false, Bool.not_eq_true', decide_eq_true_eq, decide_eq_false_iff_not]
  refine ⟨rfl, ?_⟩
  simp only [r_is_integer, v_LEAST_SIZE, v_MOST_SIZE, e_var, e_c, e_bin, e_un, e_view, e_bnd, e_cons, e_nil, e_allD0, e_allD, e_allV0, e_allV1, e_allV2, e_cb, e_cf, e_on1, e_on2, e_test, e_truth, e_asB, e_asI, e_tup, e_lst, e_z, e_o, e_zg, e_og, e_ifE, e_and, e_or, e_not, e_andV, e_orV, e_notV, e_sm, e_smV, e_smf, e_call, e_callK, e_fnP, e_fnF, e_fnQ, e_next, e_seq, e_brk, e_cnt, e_drop, e_ret, e_if, e_asg, e_bname, e_btup, e_bsnil, e_bscons, e_par, e_fmt, e_js0, e_js, e_sl, e_nopart, e_part, e_frzd, e_frz1d, e_lc, e_for, e_seqI, e_rng1, e_rng2, e_enum, e_itT, e_itL, e_itS, e_start, e_yes, e_plain, o_add, o_addS, o_addT, o_addL, o_sub, o_mul, o_mulS, o_div, o_mod, o_pow, o_neg, o_lt, o_le, o_gt, o_ge, o_ltS, o_eqI, o_eqS, o_neI, o_neS, o_eqL, o_neL, o_lenS, o_lenT, o_lenL, o_lenR, o_int, o_intB, o_abs, o_max, o_min, o_st, o_ixL, o_ixT, o_ixR, o_ixS, o_tupL, o_tupT, o_all, o_slS, o_slT, o_slL, o_join, o_asT, o_asL, o_part, o_is, o_reprL, o_reprT, t_bl, t_lst, t_tup, e_asO, e_asL, e_stL, e_pure, v_o0, v_o1, at0, at1, at2, ix30, ix31, ix32, li_R, li_L, e_wp0, e_wp, e_ss, e_gnd, e_app, e_pop, o_isiI, o_isiS, o_isiT, o_isiL, o_isiB, o_isiN, o_isi2I, o_isi2S, o_isi2T, o_isi2L, o_isi2B, o_isi2N, o_inS1, o_inT, o_ninT, o_intT, o_split, e_chain, e_binF, o_cat, e_dictP, e_while, e_din0, e_dput, o_sortD, e_key, e_asD, e_asM, e_itO, v_o1d, isT, reduceCtorEq, List.any_cons, List.any_nil, List.all_cons, List.all_nil, Bool.or_false, Bool.false_or, Bool.or_true, Bool.true_or, flatD, List.map_cons, List.map_nil, List.length_cons, List.length_nil, Nat.reduceAdd, Nat.reduceSub, List.reduceReplicate, List.cons_append, List.nil_append, List.append_nil, List.getElem?_cons_zero, List.getElem?_cons_succ, List.set_cons_zero, List.set_cons_succ, Option.map_some, Option.bind_some, ends0, ends1, endsF, ite_true, if_true, if_false, Bool.false_eq_true, reduceIte, true_and, and_true, Bool.not_true, Bool.not_false, Bool.not_eq_true', decide_eq_true_eq, decide_eq_false_iff_not]
  rw [decide_eq_true (show (2 : Int) ≤ n by omega)]
  simp only [e_var, e_c, e_bin, e_un, e_view, e_bnd, e_cons, e_nil, e_allD0, e_allD, e_allV0, e_allV1, e_allV2, e_cb, e_cf, e_on1, e_on2, e_test, e_truth, e_asB, e_asI, e_tup, e_lst, e_z, e_o, e_zg, e_og, e_ifE, e_and, e_or, e_not, e_andV, e_orV, e_notV, e_sm, e_smV, e_smf, e_call, e_callK, e_fnP, e_fnF, e_fnQ, e_next, e_seq, e_brk, e_cnt, e_drop, e_ret, e_if, e_asg, e_bname, e_btup, e_bsnil, e_bscons, e_par, e_fmt, e_js0, e_js, e_sl, e_nopart, e_part, e_frzd, e_frz1d, e_lc, e_for, e_seqI, e_rng1, e_rng2, e_enum, e_itT, e_itL, e_itS, e_start, e_yes, e_plain, o_add, o_addS, o_addT, o_addL, o_sub, o_mul, o_mulS, o_div, o_mod, o_pow, o_neg, o_lt, o_le, o_gt, o_ge, o_ltS, o_eqI, o_eqS, o_neI, o_neS, o_eqL, o_neL, o_lenS, o_lenT, o_lenL, o_lenR, o_int, o_intB, o_abs, o_max, o_min, o_st, o_ixL, o_ixT, o_ixR, o_ixS, o_tupL, o_tupT, o_all, o_slS, o_slT, o_slL, o_join, o_asT, o_asL, o_part, o_is, o_reprL, o_reprT, t_bl, t_lst, t_tup, e_asO, e_asL, e_stL, e_pure, v_o0, v_o1, at0, at1, at2, ix30, ix31, ix32, li_R, li_L, e_wp0, e_wp, e_ss, e_gnd, e_app, e_pop, o_isiI, o_isiS, o_isiT, o_isiL, o_isiB, o_isiN, o_isi2I, o_isi2S, o_isi2T, o_isi2L, o_isi2B, o_isi2N, o_inS1, o_inT, o_ninT, o_intT, o_split, e_chain, e_binF, o_cat, e_dictP, e_while, e_din0, e_dput, o_sortD, e_key, e_asD, e_asM, e_itO, v_o1d, isT, reduceCtorEq, List.any_cons, List.any_nil, List.all_cons, List.all_nil, Bool.or_false, Bool.false_or, Bool.or_true, Bool.true_or, flatD, List.map_cons, List.map_nil, List.length_cons, List.length_nil, Nat.reduceAdd, Nat.reduceSub, List.reduceReplicate, List.cons_append, List.nil_append, List.append_nil, List.getElem?_cons_zero, List.getElem?_cons_succ, List.set_cons_zero, List.set_cons_succ, Option.map_some, Option.bind_some, ends0, ends1, endsF, ite_true, if_true, if_false, Bool.false_eq_true, reduceIte, true_and, and_true, Bool.not_true, Bool.not_false, Bool.not_eq_true', decide_eq_true_eq, decide_eq_false_iff_not]
  rw [decide_eq_true (show (n : Int) ≤ 6 by omega)]
  exact h
theorem pw_get {l : List (List Nat)} (h : l.Pairwise (· < ·)) {i : Nat} (hi : i + 1 < l.length) : l[i] < l[i + 1] := List.pairwise_iff_getElem.mp h i (i + 1) (by omega) hi (by omega)
theorem ascending_ok {ws : List (List Nat)} {P : D → Prop} (hl : ws.length ≤ 1000) (asc : ws.Pairwise (· < ·)) (h : P (.bl true)) : g_are_ascending [.tup (ws.map .str)] P := by
  refine ⟨rfl, ?_⟩
  simp only [r_are_ascending, e_var, e_c, e_bin, e_un, e_view, e_bnd, e_cons, e_nil, e_allD0, e_allD, e_allV0, e_allV1, e_allV2, e_cb, e_cf, e_on1, e_on2, e_test, e_truth, e_asB, e_asI, e_tup, e_lst, e_z, e_o, e_zg, e_og, e_ifE, e_and, e_or, e_not, e_andV, e_orV, e_notV, e_sm, e_smV, e_smf, e_call, e_callK, e_fnP, e_fnF, e_fnQ, e_next, e_seq, e_brk, e_cnt, e_drop, e_ret, e_if, e_asg, e_bname, e_btup, e_bsnil, e_bscons, e_par, e_fmt, e_js0, e_js, e_sl, e_nopart, e_part, e_frzd, e_frz1d, e_lc, e_for, e_seqI, e_rng1, e_rng2, e_enum, e_itT, e_itL, e_itS, e_start, e_yes, e_plain, o_add, o_addS, o_addT, o_addL, o_sub, o_mul, o_mulS, o_div, o_mod, o_pow, o_neg, o_lt, o_le, o_gt, o_ge, o_ltS, o_eqI, o_eqS, o_neI, o_neS, o_eqL, o_neL, o_lenS, o_lenT, o_lenL, o_lenR, o_int, o_intB, o_abs, o_max, o_min, o_st, o_ixL, o_ixT, o_ixR, o_ixS, o_tupL, o_tupT, o_all, o_slS, o_slT, o_slL, o_join, o_asT, o_asL, o_part, o_is, o_reprL, o_reprT, t_bl, t_lst, t_tup, e_asO, e_asL, e_stL, e_pure, v_o0, v_o1, at0, at1, at2, ix30, ix31, ix32, li_R, li_L, e_wp0, e_wp, e_ss, e_gnd, e_app, e_pop, o_isiI, o_isiS, o_isiT, o_isiL, o_isiB, o_isiN, o_isi2I, o_isi2S, o_isi2T, o_isi2L, o_isi2B, o_isi2N, o_inS1, o_inT, o_ninT, o_intT, o_split, e_chain, e_binF, o_cat, e_dictP, e_while, e_din0, e_dput, o_sortD, e_key, e_asD, e_asM, e_itO, v_o1d, isT, reduceCtorEq, List.any_cons, List.any_nil, List.all_cons, List.all_nil, Bool.or_false, Bool.false_or, Bool.or_true, Bool.true_or, flatD, List.map_cons, List.map_nil, List.length_cons, List.length_nil, Nat.reduceAdd, Nat.reduceSub, List.reduceReplicate, List.cons_append, List.nil_append, List.append_nil, List.getElem?_cons_zero, List.getElem?_cons_succ, List.set_cons_zero, List.set_cons_succ, Option.map_some, Option.bind_some, ends0, ends1, endsF, ite_true, if_true, if_false, Bool.false_eq_true, reduceIte, true_and, and_true, Bool.not_true, Bool.not_false, Bool.not_eq_true', decide_eq_true_eq, decide_eq_false_iff_not, List.length_map]
  refine ⟨by omega, by omega, lc_true (fun d hd Q Q' q => ?_) (by rw [intsOf_len]; omega) ?_⟩
  · obtain ⟨i, hi, rfl⟩ := intsOf_mem hd
    have e : ((i : Int) + 1) = ((i + 1 : Nat) : Int) := by omega
    have i1 : i + 1 < (ws.map D.str).length := by rw [List.length_map]; omega
    simp only [e_var, e_c, e_bin, e_un, e_view, e_bnd, e_cons, e_nil, e_allD0, e_allD, e_allV0, e_allV1, e_allV2, e_cb, e_cf, e_on1, e_on2, e_test, e_truth, e_asB, e_asI, e_tup, e_lst, e_z, e_o, e_zg, e_og, e_ifE, e_and, e_or, e_not, e_andV, e_orV, e_notV, e_sm, e_smV, e_smf, e_call, e_callK, e_fnP, e_fnF, e_fnQ, e_next, e_seq, e_brk, e_cnt, e_drop, e_ret, e_if, e_asg, e_bname, e_btup, e_bsnil, e_bscons, e_par, e_fmt, e_js0, e_js, e_sl, e_nopart, e_part, e_frzd, e_frz1d, e_lc, e_for, e_seqI, e_rng1, e_rng2, e_enum, e_itT, e_itL, e_itS, e_start, e_yes, e_plain, o_add, o_addS, o_addT, o_addL, o_sub, o_mul, o_mulS, o_div, o_mod, o_pow, o_neg, o_lt, o_le, o_gt, o_ge, o_ltS, o_eqI, o_eqS, o_neI, o_neS, o_eqL, o_neL, o_lenS, o_lenT, o_lenL, o_lenR, o_int, o_intB, o_abs, o_max, o_min, o_st, o_ixL, o_ixT, o_ixR, o_ixS, o_tupL, o_tupT, o_all, o_slS, o_slT, o_slL, o_join, o_asT, o_asL, o_part, o_is, o_reprL, o_reprT, t_bl, t_lst, t_tup, e_asO, e_asL, e_stL, e_pure, v_o0, v_o1, at0, at1, at2, ix30, ix31, ix32, li_R, li_L, e_wp0, e_wp, e_ss, e_gnd, e_app, e_pop, o_isiI, o_isiS, o_isiT, o_isiL, o_isiB, o_isiN, o_isi2I, o_isi2S, o_isi2T, o_isi2L, o_isi2B, o_isi2N, o_inS1, o_inT, o_ninT, o_intT, o_split, e_chain, e_binF, o_cat, e_dictP, e_while, e_din0, e_dput, o_sortD, e_key, e_asD, e_asM, e_itO, v_o1d, isT, reduceCtorEq, List.any_cons, List.any_nil, List.all_cons, List.all_nil, Bool.or_false, Bool.false_or, Bool.or_true, Bool.true_or, flatD, List.map_cons, List.map_nil, List.length_cons, List.length_nil, Nat.reduceAdd, Nat.reduceSub, List.reduceReplicate, List.cons_append, List.nil_append, List.append_nil, List.getElem?_cons_zero, List.getElem?_cons_succ, List.set_cons_zero, List.set_cons_succ, Option.map_some, Option.bind_some, ends0, ends1, endsF, ite_true, if_true, if_false, Bool.false_eq_true, reduceIte, true_and, and_true, Bool.not_true, Bool.not_false, Bool.not_eq_true', decide_eq_true_eq, decide_eq_false_iff_not]
    rw [e, at_nat i1, at_nat (Nat.lt_of_succ_lt i1)]
    simp only [e_var, e_c, e_bin, e_un, e_view, e_bnd, e_cons, e_nil, e_allD0, e_allD, e_allV0, e_allV1, e_allV2, e_cb, e_cf, e_on1, e_on2, e_test, e_truth, e_asB, e_asI, e_tup, e_lst, e_z, e_o, e_zg, e_og, e_ifE, e_and, e_or, e_not, e_andV, e_orV, e_notV, e_sm, e_smV, e_smf, e_call, e_callK, e_fnP, e_fnF, e_fnQ, e_next, e_seq, e_brk, e_cnt, e_drop, e_ret, e_if, e_asg, e_bname, e_btup, e_bsnil, e_bscons, e_par, e_fmt, e_js0, e_js, e_sl, e_nopart, e_part, e_frzd, e_frz1d, e_lc, e_for, e_seqI, e_rng1, e_rng2, e_enum, e_itT, e_itL, e_itS, e_start, e_yes, e_plain, o_add, o_addS, o_addT, o_addL, o_sub, o_mul, o_mulS, o_div, o_mod, o_pow, o_neg, o_lt, o_le, o_gt, o_ge, o_ltS, o_eqI, o_eqS, o_neI, o_neS, o_eqL, o_neL, o_lenS, o_lenT, o_lenL, o_lenR, o_int, o_intB, o_abs, o_max, o_min, o_st, o_ixL, o_ixT, o_ixR, o_ixS, o_tupL, o_tupT, o_all, o_slS, o_slT, o_slL, o_join, o_asT, o_asL, o_part, o_is, o_reprL, o_reprT, t_bl, t_lst, t_tup, e_asO, e_asL, e_stL, e_pure, v_o0, v_o1, at0, at1, at2, ix30, ix31, ix32, li_R, li_L, e_wp0, e_wp, e_ss, e_gnd, e_app, e_pop, o_isiI, o_isiS, o_isiT, o_isiL, o_isiB, o_isiN, o_isi2I, o_isi2S, o_isi2T, o_isi2L, o_isi2B, o_isi2N, o_inS1, o_inT, o_ninT, o_intT, o_split, e_chain, e_binF, o_cat, e_dictP, e_while, e_din0, e_dput, o_sortD, e_key, e_asD, e_asM, e_itO, v_o1d, isT, reduceCtorEq, List.any_cons, List.any_nil, List.all_cons, List.all_nil, Bool.or_false, Bool.false_or, Bool.or_true, Bool.true_or, flatD, List.map_cons, List.map_nil, List.length_cons, List.length_nil, Nat.reduceAdd, Nat.reduceSub, List.reduceReplicate, List.cons_append, List.nil_append, List.append_nil, List.getElem?_cons_zero, List.getElem?_cons_succ, List.set_cons_zero, List.set_cons_succ, Option.map_some, Option.bind_some, ends0, ends1, endsF, ite_true, if_true, if_false, Bool.false_eq_true, reduceIte, true_and, and_true, Bool.not_true, Bool.not_false, Bool.not_eq_true', decide_eq_true_eq, decide_eq_false_iff_not, List.getElem_map]
    rw [decide_eq_true (pw_get asc (by omega))]
    exact q
  · rw [allBl_rep]
    simp only [e_var, e_c, e_bin, e_un, e_view, e_bnd, e_cons, e_nil, e_allD0, e_allD, e_allV0, e_allV1, e_allV2, e_cb, e_cf, e_on1, e_on2, e_test, e_truth, e_asB, e_asI, e_tup, e_lst, e_z, e_o, e_zg, e_og, e_ifE, e_and, e_or, e_not, e_andV, e_orV, e_notV, e_sm, e_smV, e_smf, e_call, e_callK, e_fnP, e_fnF, e_fnQ, e_next, e_seq, e_brk, e_cnt, e_drop, e_ret, e_if, e_asg, e_bname, e_btup, e_bsnil, e_bscons, e_par, e_fmt, e_js0, e_js, e_sl, e_nopart, e_part, e_frzd, e_frz1d, e_lc, e_for, e_seqI, e_rng1, e_rng2, e_enum, e_itT, e_itL, e_itS, e_start, e_yes, e_plain, o_add, o_addS, o_addT, o_addL, o_sub, o_mul, o_mulS, o_div, o_mod, o_pow, o_neg, o_lt, o_le, o_gt, o_ge, o_ltS, o_eqI, o_eqS, o_neI, o_neS, o_eqL, o_neL, o_lenS, o_lenT, o_lenL, o_lenR, o_int, o_intB, o_abs, o_max, o_min, o_st, o_ixL, o_ixT, o_ixR, o_ixS, o_tupL, o_tupT, o_all, o_slS, o_slT, o_slL, o_join, o_asT, o_asL, o_part, o_is, o_reprL, o_reprT, t_bl, t_lst, t_tup, e_asO, e_asL, e_stL, e_pure, v_o0, v_o1, at0, at1, at2, ix30, ix31, ix32, li_R, li_L, e_wp0, e_wp, e_ss, e_gnd, e_app, e_pop, o_isiI, o_isiS, o_isiT, o_isiL, o_isiB, o_isiN, o_isi2I, o_isi2S, o_isi2T, o_isi2L, o_isi2B, o_isi2N, o_inS1, o_inT, o_ninT, o_intT, o_split, e_chain, e_binF, o_cat, e_dictP, e_while, e_din0, e_dput, o_sortD, e_key, e_asD, e_asM, e_itO, v_o1d, isT, reduceCtorEq, List.any_cons, List.any_nil, List.all_cons, List.all_nil, Bool.or_false, Bool.false_or, Bool.or_true, Bool.true_or, flatD, List.map_cons, List.map_nil, List.length_cons, List.length_nil, Nat.reduceAdd, Nat.reduceSub, List.reduceReplicate, List.cons_append, List.nil_append, List.append_nil, List.getElem?_cons_zero, List.getElem?_cons_succ, List.set_cons_zero, List.set_cons_succ, Option.map_some, Option.bind_some, ends0, ends1, endsF, ite_true, if_true, if_false, Bool.false_eq_true, reduceIte, true_and, and_true, Bool.not_true, Bool.not_false, Bool.not_eq_true', decide_eq_true_eq, decide_eq_false_iff_not]
    rw [all_rep]
    exact h
theorem are_windows_ok {n : Nat} {ws : List (List Nat)} {P : D → Prop} (hn : n ≤ 6) (hw : Wins n ws) (h : P (.bl true)) : g_are_windows [.int n, .tup (ws.map .str)] P := by
  refine ⟨rfl, ?_⟩
  have hf := hw.few
  simp only [r_are_windows, e_var, e_c, e_bin, e_un, e_view, e_bnd, e_cons, e_nil, e_allD0, e_allD, e_allV0, e_allV1, e_allV2, e_cb, e_cf, e_on1, e_on2, e_test, e_truth, e_asB, e_asI, e_tup, e_lst, e_z, e_o, e_zg, e_og, e_ifE, e_and, e_or, e_not, e_andV, e_orV, e_notV, e_sm, e_smV, e_smf, e_call, e_callK, e_fnP, e_fnF, e_fnQ, e_next, e_seq, e_brk, e_cnt, e_drop, e_ret, e_if, e_asg, e_bname, e_btup, e_bsnil, e_bscons, e_par, e_fmt, e_js0, e_js, e_sl, e_nopart, e_part, e_frzd, e_frz1d, e_lc, e_for, e_seqI, e_rng1, e_rng2, e_enum, e_itT, e_itL, e_itS, e_start, e_yes, e_plain, o_add, o_addS, o_addT, o_addL, o_sub, o_mul, o_mulS, o_div, o_mod, o_pow, o_neg, o_lt, o_le, o_gt, o_ge, o_ltS, o_eqI, o_eqS, o_neI, o_neS, o_eqL, o_neL, o_lenS, o_lenT, o_lenL, o_lenR, o_int, o_intB, o_abs, o_max, o_min, o_st, o_ixL, o_ixT, o_ixR, o_ixS, o_tupL, o_tupT, o_all, o_slS, o_slT, o_slL, o_join, o_asT, o_asL, o_part, o_is, o_reprL, o_reprT, t_bl, t_lst, t_tup, e_asO, e_asL, e_stL, e_pure, v_o0, v_o1, at0, at1, at2, ix30, ix31, ix32, li_R, li_L, e_wp0, e_wp, e_ss, e_gnd, e_app, e_pop, o_isiI, o_isiS, o_isiT, o_isiL, o_isiB, o_isiN, o_isi2I, o_isi2S, o_isi2T, o_isi2L, o_isi2B, o_isi2N, o_inS1, o_inT, o_ninT, o_intT, o_split, e_chain, e_binF, o_cat, e_dictP, e_while, e_din0, e_dput, o_sortD, e_key, e_asD, e_asM, e_itO, v_o1d, isT, reduceCtorEq, List.any_cons, List.any_nil, List.all_cons, List.all_nil, Bool.or_false, Bool.false_or, Bool.or_true, Bool.true_or, flatD, List.map_cons, List.map_nil, List.length_cons, List.length_nil, Nat.reduceAdd, Nat.reduceSub, List.reduceReplicate, List.cons_append, List.nil_append, List.append_nil, List.getElem?_cons_zero, List.getElem?_cons_succ, List.set_cons_zero, List.set_cons_succ, Option.map_some, Option.bind_some, ends0, ends1, endsF, ite_true, if_true, if_false, Bool.false_eq_true, reduceIte, true_and, and_true, Bool.not_true, Bool.not_false, Bool.not_eq_true', decide_eq_true_eq, decide_eq_false_iff_not]
  refine lc_true (fun d hd Q Q' q => ?_) (by rw [List.length_map]; omega) ?_
  · obtain ⟨w, hm, rfl⟩ := List.mem_map.mp hd
    have hl := hw.len w hm
    simp only [e_var, e_c, e_bin, e_un, e_view, e_bnd, e_cons, e_nil, e_allD0, e_allD, e_allV0, e_allV1, e_allV2, e_cb, e_cf, e_on1, e_on2, e_test, e_truth, e_asB, e_asI, e_tup, e_lst, e_z, e_o, e_zg, e_og, e_ifE, e_and, e_or, e_not, e_andV, e_orV, e_notV, e_sm, e_smV, e_smf, e_call, e_callK, e_fnP, e_fnF, e_fnQ, e_next, e_seq, e_brk, e_cnt, e_drop, e_ret, e_if, e_asg, e_bname, e_btup, e_bsnil, e_bscons, e_par, e_fmt, e_js0, e_js, e_sl, e_nopart, e_part, e_frzd, e_frz1d, e_lc, e_for, e_seqI, e_rng1, e_rng2, e_enum, e_itT, e_itL, e_itS, e_start, e_yes, e_plain, o_add, o_addS, o_addT, o_addL, o_sub, o_mul, o_mulS, o_div, o_mod, o_pow, o_neg, o_lt, o_le, o_gt, o_ge, o_ltS, o_eqI, o_eqS, o_neI, o_neS, o_eqL, o_neL, o_lenS, o_lenT, o_lenL, o_lenR, o_int, o_intB, o_abs, o_max, o_min, o_st, o_ixL, o_ixT, o_ixR, o_ixS, o_tupL, o_tupT, o_all, o_slS, o_slT, o_slL, o_join, o_asT, o_asL, o_part, o_is, o_reprL, o_reprT, t_bl, t_lst, t_tup, e_asO, e_asL, e_stL, e_pure, v_o0, v_o1, at0, at1, at2, ix30, ix31, ix32, li_R, li_L, e_wp0, e_wp, e_ss, e_gnd, e_app, e_pop, o_isiI, o_isiS, o_isiT, o_isiL, o_isiB, o_isiN, o_isi2I, o_isi2S, o_isi2T, o_isi2L, o_isi2B, o_isi2N, o_inS1, o_inT, o_ninT, o_intT, o_split, e_chain, e_binF, o_cat, e_dictP, e_while, e_din0, e_dput, o_sortD, e_key, e_asD, e_asM, e_itO, v_o1d, isT, reduceCtorEq, List.any_cons, List.any_nil, List.all_cons, List.all_nil, Bool.or_false, Bool.false_or, Bool.or_true, Bool.true_or, flatD, List.map_cons, List.map_nil, List.length_cons, List.length_nil, Nat.reduceAdd, Nat.reduceSub, List.reduceReplicate, List.cons_append, List.nil_append, List.append_nil, List.getElem?_cons_zero, List.getElem?_cons_succ, List.set_cons_zero, List.set_cons_succ, Option.map_some, Option.bind_some, ends0, ends1, endsF, ite_true, if_true, if_false, Bool.false_eq_true, reduceIte, true_and, and_true, Bool.not_true, Bool.not_false, Bool.not_eq_true', decide_eq_true_eq, decide_eq_false_iff_not]
    refine is_word_ok (hw.az w hm) (by omega) ?_
    simp only [e_var, e_c, e_bin, e_un, e_view, e_bnd, e_cons, e_nil, e_allD0, e_allD, e_allV0, e_allV1, e_allV2, e_cb, e_cf, e_on1, e_on2, e_test, e_truth, e_asB, e_asI, e_tup, e_lst, e_z, e_o, e_zg, e_og, e_ifE, e_and, e_or, e_not, e_andV, e_orV, e_notV, e_sm, e_smV, e_smf, e_call, e_callK, e_fnP, e_fnF, e_fnQ, e_next, e_seq, e_brk, e_cnt, e_drop, e_ret, e_if, e_asg, e_bname, e_btup, e_bsnil, e_bscons, e_par, e_fmt, e_js0, e_js, e_sl, e_nopart, e_part, e_frzd, e_frz1d, e_lc, e_for, e_seqI, e_rng1, e_rng2, e_enum, e_itT, e_itL, e_itS, e_start, e_yes, e_plain, o_add, o_addS, o_addT, o_addL, o_sub, o_mul, o_mulS, o_div, o_mod, o_pow, o_neg, o_lt, o_le, o_gt, o_ge, o_ltS, o_eqI, o_eqS, o_neI, o_neS, o_eqL, o_neL, o_lenS, o_lenT, o_lenL, o_lenR, o_int, o_intB, o_abs, o_max, o_min, o_st, o_ixL, o_ixT, o_ixR, o_ixS, o_tupL, o_tupT, o_all, o_slS, o_slT, o_slL, o_join, o_asT, o_asL, o_part, o_is, o_reprL, o_reprT, t_bl, t_lst, t_tup, e_asO, e_asL, e_stL, e_pure, v_o0, v_o1, at0, at1, at2, ix30, ix31, ix32, li_R, li_L, e_wp0, e_wp, e_ss, e_gnd, e_app, e_pop, o_isiI, o_isiS, o_isiT, o_isiL, o_isiB, o_isiN, o_isi2I, o_isi2S, o_isi2T, o_isi2L, o_isi2B, o_isi2N, o_inS1, o_inT, o_ninT, o_intT, o_split, e_chain, e_binF, o_cat, e_dictP, e_while, e_din0, e_dput, o_sortD, e_key, e_asD, e_asM, e_itO, v_o1d, isT, reduceCtorEq, List.any_cons, List.any_nil, List.all_cons, List.all_nil, Bool.or_false, Bool.false_or, Bool.or_true, Bool.true_or, flatD, List.map_cons, List.map_nil, List.length_cons, List.length_nil, Nat.reduceAdd, Nat.reduceSub, List.reduceReplicate, List.cons_append, List.nil_append, List.append_nil, List.getElem?_cons_zero, List.getElem?_cons_succ, List.set_cons_zero, List.set_cons_succ, Option.map_some, Option.bind_some, ends0, ends1, endsF, ite_true, if_true, if_false, Bool.false_eq_true, reduceIte, true_and, and_true, Bool.not_true, Bool.not_false, Bool.not_eq_true', decide_eq_true_eq, decide_eq_false_iff_not]
    refine ⟨by omega, ?_⟩
    rw [decide_eq_true (show (w.length : Int) = n by omega)]
    exact q
  · rw [allBl_rep]
    simp only [e_var, e_c, e_bin, e_un, e_view, e_bnd, e_cons, e_nil, e_allD0, e_allD, e_allV0, e_allV1, e_allV2, e_cb, e_cf, e_on1, e_on2, e_test, e_truth, e_asB, e_asI, e_tup, e_lst, e_z, e_o, e_zg, e_og, e_ifE, e_and, e_or, e_not, e_andV, e_orV, e_notV, e_sm, e_smV, e_smf, e_call, e_callK, e_fnP, e_fnF, e_fnQ, e_next, e_seq, e_brk, e_cnt, e_drop, e_ret, e_if, e_asg, e_bname, e_btup, e_bsnil, e_bscons, e_par, e_fmt, e_js0, e_js, e_sl, e_nopart, e_part, e_frzd, e_frz1d, e_lc, e_for, e_seqI, e_rng1, e_rng2, e_enum, e_itT, e_itL, e_itS, e_start, e_yes, e_plain, o_add, o_addS, o_addT, o_addL, o_sub, o_mul, o_mulS, o_div, o_mod, o_pow, o_neg, o_lt, o_le, o_gt, o_ge, o_ltS, o_eqI, o_eqS, o_neI, o_neS, o_eqL, o_neL, o_lenS, o_lenT, o_lenL, o_lenR, o_int, o_intB, o_abs, o_max, o_min, o_st, o_ixL, o_ixT, o_ixR, o_ixS, o_tupL, o_tupT, o_all, o_slS, o_slT, o_slL, o_join, o_asT, o_asL, o_part, o_is, o_reprL, o_reprT, t_bl, t_lst, t_tup, e_asO, e_asL, e_stL, e_pure, v_o0, v_o1, at0, at1, at2, ix30, ix31, ix32, li_R, li_L, e_wp0, e_wp, e_ss, e_gnd, e_app, e_pop, o_isiI, o_isiS, o_isiT, o_isiL, o_isiB, o_isiN, o_isi2I, o_isi2S, o_isi2T, o_isi2L, o_isi2B, o_isi2N, o_inS1, o_inT, o_ninT, o_intT, o_split, e_chain, e_binF, o_cat, e_dictP, e_while, e_din0, e_dput, o_sortD, e_key, e_asD, e_asM, e_itO, v_o1d, isT, reduceCtorEq, List.any_cons, List.any_nil, List.all_cons, List.all_nil, Bool.or_false, Bool.false_or, Bool.or_true, Bool.true_or, flatD, List.map_cons, List.map_nil, List.length_cons, List.length_nil, Nat.reduceAdd, Nat.reduceSub, List.reduceReplicate, List.cons_append, List.nil_append, List.append_nil, List.getElem?_cons_zero, List.getElem?_cons_succ, List.set_cons_zero, List.set_cons_succ, Option.map_some, Option.bind_some, ends0, ends1, endsF, ite_true, if_true, if_false, Bool.false_eq_true, reduceIte, true_and, and_true, Bool.not_true, Bool.not_false, Bool.not_eq_true', decide_eq_true_eq, decide_eq_false_iff_not]
    rw [all_rep]
    simp only [e_var, e_c, e_bin, e_un, e_view, e_bnd, e_cons, e_nil, e_allD0, e_allD, e_allV0, e_allV1, e_allV2, e_cb, e_cf, e_on1, e_on2, e_test, e_truth, e_asB, e_asI, e_tup, e_lst, e_z, e_o, e_zg, e_og, e_ifE, e_and, e_or, e_not, e_andV, e_orV, e_notV, e_sm, e_smV, e_smf, e_call, e_callK, e_fnP, e_fnF, e_fnQ, e_next, e_seq, e_brk, e_cnt, e_drop, e_ret, e_if, e_asg, e_bname, e_btup, e_bsnil, e_bscons, e_par, e_fmt, e_js0, e_js, e_sl, e_nopart, e_part, e_frzd, e_frz1d, e_lc, e_for, e_seqI, e_rng1, e_rng2, e_enum, e_itT, e_itL, e_itS, e_start, e_yes, e_plain, o_add, o_addS, o_addT, o_addL, o_sub, o_mul, o_mulS, o_div, o_mod, o_pow, o_neg, o_lt, o_le, o_gt, o_ge, o_ltS, o_eqI, o_eqS, o_neI, o_neS, o_eqL, o_neL, o_lenS, o_lenT, o_lenL, o_lenR, o_int, o_intB, o_abs, o_max, o_min, o_st, o_ixL, o_ixT, o_ixR, o_ixS, o_tupL, o_tupT, o_all, o_slS, o_slT, o_slL, o_join, o_asT, o_asL, o_part, o_is, o_reprL, o_reprT, t_bl, t_lst, t_tup, e_asO, e_asL, e_stL, e_pure, v_o0, v_o1, at0, at1, at2, ix30, ix31, ix32, li_R, li_L, e_wp0, e_wp, e_ss, e_gnd, e_app, e_pop, o_isiI, o_isiS, o_isiT, o_isiL, o_isiB, o_isiN, o_isi2I, o_isi2S, o_isi2T, o_isi2L, o_isi2B, o_isi2N, o_inS1, o_inT, o_ninT, o_intT, o_split, e_chain, e_binF, o_cat, e_dictP, e_while, e_din0, e_dput, o_sortD, e_key, e_asD, e_asM, e_itO, v_o1d, isT, reduceCtorEq, List.any_cons, List.any_nil, List.all_cons, List.all_nil, Bool.or_false, Bool.false_or, Bool.or_true, Bool.true_or, flatD, List.map_cons, List.map_nil, List.length_cons, List.length_nil, Nat.reduceAdd, Nat.reduceSub, List.reduceReplicate, List.cons_append, List.nil_append, List.append_nil, List.getElem?_cons_zero, List.getElem?_cons_succ, List.set_cons_zero, List.set_cons_succ, Option.map_some, Option.bind_some, ends0, ends1, endsF, ite_true, if_true, if_false, Bool.false_eq_true, reduceIte, true_and, and_true, Bool.not_true, Bool.not_false, Bool.not_eq_true', decide_eq_true_eq, decide_eq_false_iff_not]
    exact ascending_ok (by omega) hw.asc h
theorem is_a_book_ok {n : Nat} {ws : List (List Nat)} {P : D → Prop} (h2 : 2 ≤ n) (hn : n ≤ 6) (hw : Wins n ws) (h : P (.bl true)) : g_is_a_book [.tup [.int n, .tup (ws.map .str)]] P := by
  refine ⟨rfl, ?_⟩
  have a0 : atI [D.int n, D.tup (ws.map .str)] 0 = some (.int n) := rfl
  have a1 : atI [D.int n, D.tup (ws.map .str)] 1 = some (.tup (ws.map .str)) := rfl
  simp only [r_is_a_book, e_var, e_c, e_bin, e_un, e_view, e_bnd, e_cons, e_nil, e_allD0, e_allD, e_allV0, e_allV1, e_allV2, e_cb, e_cf, e_on1, e_on2, e_test, e_truth, e_asB, e_asI, e_tup, e_lst, e_z, e_o, e_zg, e_og, e_ifE, e_and, e_or, e_not, e_andV, e_orV, e_notV, e_sm, e_smV, e_smf, e_call, e_callK, e_fnP, e_fnF, e_fnQ, e_next, e_seq, e_brk, e_cnt, e_drop, e_ret, e_if, e_asg, e_bname, e_btup, e_bsnil, e_bscons, e_par, e_fmt, e_js0, e_js, e_sl, e_nopart, e_part, e_frzd, e_frz1d, e_lc, e_for, e_seqI, e_rng1, e_rng2, e_enum, e_itT, e_itL, e_itS, e_start, e_yes, e_plain, o_add, o_addS, o_addT, o_addL, o_sub, o_mul, o_mulS, o_div, o_mod, o_pow, o_neg, o_lt, o_le, o_gt, o_ge, o_ltS, o_eqI, o_eqS, o_neI, o_neS, o_eqL, o_neL, o_lenS, o_lenT, o_lenL, o_lenR, o_int, o_intB, o_abs, o_max, o_min, o_st, o_ixL, o_ixT, o_ixR, o_ixS, o_tupL, o_tupT, o_all, o_slS, o_slT, o_slL, o_join, o_asT, o_asL, o_part, o_is, o_reprL, o_reprT, t_bl, t_lst, t_tup, e_asO, e_asL, e_stL, e_pure, v_o0, v_o1, at0, at1, at2, ix30, ix31, ix32, li_R, li_L, e_wp0, e_wp, e_ss, e_gnd, e_app, e_pop, o_isiI, o_isiS, o_isiT, o_isiL, o_isiB, o_isiN, o_isi2I, o_isi2S, o_isi2T, o_isi2L, o_isi2B, o_isi2N, o_inS1, o_inT, o_ninT, o_intT, o_split, e_chain, e_binF, o_cat, e_dictP, e_while, e_din0, e_dput, o_sortD, e_key, e_asD, e_asM, e_itO, v_o1d, isT, reduceCtorEq, List.any_cons, List.any_nil, List.all_cons, List.all_nil, Bool.or_false, Bool.false_or, Bool.or_true, Bool.true_or, flatD, List.map_cons, List.map_nil, List.length_cons, List.length_nil, Nat.reduceAdd, Nat.reduceSub, List.reduceReplicate, List.cons_append, List.nil_append, List.append_nil, List.getElem?_cons_zero, List.getElem?_cons_succ, List.set_cons_zero, List.set_cons_succ, Option.map_some, Option.bind_some, ends0, ends1, endsF, ite_true, if_true, if_false, Bool.false_eq_true, reduceIte, true_and, and_true, Bool.not_true, Bool.not_false, Bool.not_eq_true', decide_eq_true_eq, decide_eq_false_iff_not]
  rw [if_neg (by decide), a0, a1]
  simp only [e_var, e_c, e_bin, e_un, e_view, e_bnd, e_cons, e_nil, e_allD0, e_allD, e_allV0, e_allV1, e_allV2, e_cb, e_cf, e_on1, e_on2, e_test, e_truth, e_asB, e_asI, e_tup, e_lst, e_z, e_o, e_zg, e_og, e_ifE, e_and, e_or, e_not, e_andV, e_orV, e_notV, e_sm, e_smV, e_smf, e_call, e_callK, e_fnP, e_fnF, e_fnQ, e_next, e_seq, e_brk, e_cnt, e_drop, e_ret, e_if, e_asg, e_bname, e_btup, e_bsnil, e_bscons, e_par, e_fmt, e_js0, e_js, e_sl, e_nopart, e_part, e_frzd, e_frz1d, e_lc, e_for, e_seqI, e_rng1, e_rng2, e_enum, e_itT, e_itL, e_itS, e_start, e_yes, e_plain, o_add, o_addS, o_addT, o_addL, o_sub, o_mul, o_mulS, o_div, o_mod, o_pow, o_neg, o_lt, o_le, o_gt, o_ge, o_ltS, o_eqI, o_eqS, o_neI, o_neS, o_eqL, o_neL, o_lenS, o_lenT, o_lenL, o_lenR, o_int, o_intB, o_abs, o_max, o_min, o_st, o_ixL, o_ixT, o_ixR, o_ixS, o_tupL, o_tupT, o_all, o_slS, o_slT, o_slL, o_join, o_asT, o_asL, o_part, o_is, o_reprL, o_reprT, t_bl, t_lst, t_tup, e_asO, e_asL, e_stL, e_pure, v_o0, v_o1, at0, at1, at2, ix30, ix31, ix32, li_R, li_L, e_wp0, e_wp, e_ss, e_gnd, e_app, e_pop, o_isiI, o_isiS, o_isiT, o_isiL, o_isiB, o_isiN, o_isi2I, o_isi2S, o_isi2T, o_isi2L, o_isi2B, o_isi2N, o_inS1, o_inT, o_ninT, o_intT, o_split, e_chain, e_binF, o_cat, e_dictP, e_while, e_din0, e_dput, o_sortD, e_key, e_asD, e_asM, e_itO, v_o1d, isT, reduceCtorEq, List.any_cons, List.any_nil, List.all_cons, List.all_nil, Bool.or_false, Bool.false_or, Bool.or_true, Bool.true_or, flatD, List.map_cons, List.map_nil, List.length_cons, List.length_nil, Nat.reduceAdd, Nat.reduceSub, List.reduceReplicate, List.cons_append, List.nil_append, List.append_nil, List.getElem?_cons_zero, List.getElem?_cons_succ, List.set_cons_zero, List.set_cons_succ, Option.map_some, Option.bind_some, ends0, ends1, endsF, ite_true, if_true, if_false, Bool.false_eq_true, reduceIte, true_and, and_true, Bool.not_true, Bool.not_false, Bool.not_eq_true', decide_eq_true_eq, decide_eq_false_iff_not]
  refine is_size_ok h2 hn ?_
  simp only [e_var, e_c, e_bin, e_un, e_view, e_bnd, e_cons, e_nil, e_allD0, e_allD, e_allV0, e_allV1, e_allV2, e_cb, e_cf, e_on1, e_on2, e_test, e_truth, e_asB, e_asI, e_tup, e_lst, e_z, e_o, e_zg, e_og, e_ifE, e_and, e_or, e_not, e_andV, e_orV, e_notV, e_sm, e_smV, e_smf, e_call, e_callK, e_fnP, e_fnF, e_fnQ, e_next, e_seq, e_brk, e_cnt, e_drop, e_ret, e_if, e_asg, e_bname, e_btup, e_bsnil, e_bscons, e_par, e_fmt, e_js0, e_js, e_sl, e_nopart, e_part, e_frzd, e_frz1d, e_lc, e_for, e_seqI, e_rng1, e_rng2, e_enum, e_itT, e_itL, e_itS, e_start, e_yes, e_plain, o_add, o_addS, o_addT, o_addL, o_sub, o_mul, o_mulS, o_div, o_mod, o_pow, o_neg, o_lt, o_le, o_gt, o_ge, o_ltS, o_eqI, o_eqS, o_neI, o_neS, o_eqL, o_neL, o_lenS, o_lenT, o_lenL, o_lenR, o_int, o_intB, o_abs, o_max, o_min, o_st, o_ixL, o_ixT, o_ixR, o_ixS, o_tupL, o_tupT, o_all, o_slS, o_slT, o_slL, o_join, o_asT, o_asL, o_part, o_is, o_reprL, o_reprT, t_bl, t_lst, t_tup, e_asO, e_asL, e_stL, e_pure, v_o0, v_o1, at0, at1, at2, ix30, ix31, ix32, li_R, li_L, e_wp0, e_wp, e_ss, e_gnd, e_app, e_pop, o_isiI, o_isiS, o_isiT, o_isiL, o_isiB, o_isiN, o_isi2I, o_isi2S, o_isi2T, o_isi2L, o_isi2B, o_isi2N, o_inS1, o_inT, o_ninT, o_intT, o_split, e_chain, e_binF, o_cat, e_dictP, e_while, e_din0, e_dput, o_sortD, e_key, e_asD, e_asM, e_itO, v_o1d, isT, reduceCtorEq, List.any_cons, List.any_nil, List.all_cons, List.all_nil, Bool.or_false, Bool.false_or, Bool.or_true, Bool.true_or, flatD, List.map_cons, List.map_nil, List.length_cons, List.length_nil, Nat.reduceAdd, Nat.reduceSub, List.reduceReplicate, List.cons_append, List.nil_append, List.append_nil, List.getElem?_cons_zero, List.getElem?_cons_succ, List.set_cons_zero, List.set_cons_succ, Option.map_some, Option.bind_some, ends0, ends1, endsF, ite_true, if_true, if_false, Bool.false_eq_true, reduceIte, true_and, and_true, Bool.not_true, Bool.not_false, Bool.not_eq_true', decide_eq_true_eq, decide_eq_false_iff_not]
  refine are_windows_ok hn hw ?_
  simp only [e_var, e_c, e_bin, e_un, e_view, e_bnd, e_cons, e_nil, e_allD0, e_allD, e_allV0, e_allV1, e_allV2, e_cb, e_cf, e_on1, e_on2, e_test, e_truth, e_asB, e_asI, e_tup, e_lst, e_z, e_o, e_zg, e_og, e_ifE, e_and, e_or, e_not, e_andV, e_orV, e_notV, e_sm, e_smV, e_smf, e_call, e_callK, e_fnP, e_fnF, e_fnQ, e_next, e_seq, e_brk, e_cnt, e_drop, e_ret, e_if, e_asg, e_bname, e_btup, e_bsnil, e_bscons, e_par, e_fmt, e_js0, e_js, e_sl, e_nopart, e_part, e_frzd, e_frz1d, e_lc, e_for, e_seqI, e_rng1, e_rng2, e_enum, e_itT, e_itL, e_itS, e_start, e_yes, e_plain, o_add, o_addS, o_addT, o_addL, o_sub, o_mul, o_mulS, o_div, o_mod, o_pow, o_neg, o_lt, o_le, o_gt, o_ge, o_ltS, o_eqI, o_eqS, o_neI, o_neS, o_eqL, o_neL, o_lenS, o_lenT, o_lenL, o_lenR, o_int, o_intB, o_abs, o_max, o_min, o_st, o_ixL, o_ixT, o_ixR, o_ixS, o_tupL, o_tupT, o_all, o_slS, o_slT, o_slL, o_join, o_asT, o_asL, o_part, o_is, o_reprL, o_reprT, t_bl, t_lst, t_tup, e_asO, e_asL, e_stL, e_pure, v_o0, v_o1, at0, at1, at2, ix30, ix31, ix32, li_R, li_L, e_wp0, e_wp, e_ss, e_gnd, e_app, e_pop, o_isiI, o_isiS, o_isiT, o_isiL, o_isiB, o_isiN, o_isi2I, o_isi2S, o_isi2T, o_isi2L, o_isi2B, o_isi2N, o_inS1, o_inT, o_ninT, o_intT, o_split, e_chain, e_binF, o_cat, e_dictP, e_while, e_din0, e_dput, o_sortD, e_key, e_asD, e_asM, e_itO, v_o1d, isT, reduceCtorEq, List.any_cons, List.any_nil, List.all_cons, List.all_nil, Bool.or_false, Bool.false_or, Bool.or_true, Bool.true_or, flatD, List.map_cons, List.map_nil, List.length_cons, List.length_nil, Nat.reduceAdd, Nat.reduceSub, List.reduceReplicate, List.cons_append, List.nil_append, List.append_nil, List.getElem?_cons_zero, List.getElem?_cons_succ, List.set_cons_zero, List.set_cons_succ, Option.map_some, Option.bind_some, ends0, ends1, endsF, ite_true, if_true, if_false, Bool.false_eq_true, reduceIte, true_and, and_true, Bool.not_true, Bool.not_false, Bool.not_eq_true', decide_eq_true_eq, decide_eq_false_iff_not]
  rw [decide_eq_true (show (0 : Int) < ((ws.map D.str).length : Nat) by
    rw [List.length_map]
    have := List.length_pos_iff.mpr hw.ne
    omega)]
  exact h
theorem partN_2 {c : Nat} {r : List Nat} (hc : c ≠ 58) : partN [58, 32] (c :: 58 :: 32 :: r) = some ([c], r) := by
  have e : ¬ ([58, 32].isPrefixOf (c :: 58 :: 32 :: r) = true) := by
    intro h
    have h2 : ((58 == c) && [32].isPrefixOf (58 :: 32 :: r)) = true := h
    rw [Bool.and_eq_true, beq_iff_eq] at h2
    exact hc h2.1.symm
  unfold partN
  rw [if_neg e]
  have e2 : partN [58, 32] (58 :: 32 :: r) = some ([], r) := by
    unfold partN
    have : [58, 32].isPrefixOf (58 :: 32 :: r) = true := by
      show ((58 == 58) && ((32 == 32) && true)) = true
      rfl
    rw [if_pos this]
    rfl
  rw [e2]
  rfl
theorem num_of {n : Nat} (h2 : 2 ≤ n) (hn : n ≤ 6) : numT n = [48 + n] ∧ PySem.intText? (txt [48 + n]) = some (n : Int) ∧ ([D.str [50], .str [51], .str [52], .str [53], .str [54]].any fun d => eqv d (.str [48 + n])) = true := by
  have : n = 2 ∨ n = 3 ∨ n = 4 ∨ n = 5 ∨ n = 6 := by omega
  rcases this with rfl | rfl | rfl | rfl | rfl
  all_goals exact ⟨by decide +kernel, by decide +kernel, by decide +kernel⟩
theorem book_in_ok {n : Nat} {ws : List (List Nat)} {P : D → Prop} (h2 : 2 ≤ n) (hn : n ≤ 6) (hw : Wins n ws) (h : P (.tup [.int n, .tup (ws.map .str)])) : g_book_in [.str (bookT n ws)] P := by
  refine ⟨rfl, ?_⟩
  obtain ⟨n1, n2, n3⟩ := num_of h2 hn
  have e : bookT n ws = (48 + n) :: 58 :: 32 :: joinN [32] ws := by
    unfold bookT
    rw [n1]
    rfl
  have hp : parts3 (bookT n ws) [58, 32] = [[48 + n], [58, 32], joinN [32] ws] := by
    unfold parts3
    rw [e, partN_2 (by omega)]
  have hs := hw.sum hn
  have hf := hw.few
  have hj := join_len (sep := [32]) (ns := ws)
  rw [List.length_singleton] at hj
  have hl : (bookT n ws).length ≤ 1000 := by
    rw [e]
    simp only [List.length_cons]
    omega
  simp only [r_book_in, e_var, e_c, e_bin, e_un, e_view, e_bnd, e_cons, e_nil, e_allD0, e_allD, e_allV0, e_allV1, e_allV2, e_cb, e_cf, e_on1, e_on2, e_test, e_truth, e_asB, e_asI, e_tup, e_lst, e_z, e_o, e_zg, e_og, e_ifE, e_and, e_or, e_not, e_andV, e_orV, e_notV, e_sm, e_smV, e_smf, e_call, e_callK, e_fnP, e_fnF, e_fnQ, e_next, e_seq, e_brk, e_cnt, e_drop, e_ret, e_if, e_asg, e_bname, e_btup, e_bsnil, e_bscons, e_par, e_fmt, e_js0, e_js, e_sl, e_nopart, e_part, e_frzd, e_frz1d, e_lc, e_for, e_seqI, e_rng1, e_rng2, e_enum, e_itT, e_itL, e_itS, e_start, e_yes, e_plain, o_add, o_addS, o_addT, o_addL, o_sub, o_mul, o_mulS, o_div, o_mod, o_pow, o_neg, o_lt, o_le, o_gt, o_ge, o_ltS, o_eqI, o_eqS, o_neI, o_neS, o_eqL, o_neL, o_lenS, o_lenT, o_lenL, o_lenR, o_int, o_intB, o_abs, o_max, o_min, o_st, o_ixL, o_ixT, o_ixR, o_ixS, o_tupL, o_tupT, o_all, o_slS, o_slT, o_slL, o_join, o_asT, o_asL, o_part, o_is, o_reprL, o_reprT, t_bl, t_lst, t_tup, e_asO, e_asL, e_stL, e_pure, v_o0, v_o1, at0, at1, at2, ix30, ix31, ix32, li_R, li_L, e_wp0, e_wp, e_ss, e_gnd, e_app, e_pop, o_isiI, o_isiS, o_isiT, o_isiL, o_isiB, o_isiN, o_isi2I, o_isi2S, o_isi2T, o_isi2L, o_isi2B, o_isi2N, o_inS1, o_inT, o_ninT, o_intT, o_split, e_chain, e_binF, o_cat, e_dictP, e_while, e_din0, e_dput, o_sortD, e_key, e_asD, e_asM, e_itO, v_o1d, isT, reduceCtorEq, List.any_cons, List.any_nil, List.all_cons, List.all_nil, Bool.or_false, Bool.false_or, Bool.or_true, Bool.true_or, flatD, List.map_cons, List.map_nil, List.length_cons, List.length_nil, Nat.reduceAdd, Nat.reduceSub, List.reduceReplicate, List.cons_append, List.nil_append, List.append_nil, List.getElem?_cons_zero, List.getElem?_cons_succ, List.set_cons_zero, List.set_cons_succ, Option.map_some, Option.bind_some, ends0, ends1, endsF, ite_true, if_true, if_false, Bool.false_eq_true, reduceIte, true_and, and_true, Bool.not_true, Bool.not_false, Bool.not_eq_true', decide_eq_true_eq, decide_eq_false_iff_not]
  rw [hp]
  simp only [List.any_cons, List.any_nil, Bool.or_false] at n3
  simp only [v_SIZES, e_var, e_c, e_bin, e_un, e_view, e_bnd, e_cons, e_nil, e_allD0, e_allD, e_allV0, e_allV1, e_allV2, e_cb, e_cf, e_on1, e_on2, e_test, e_truth, e_asB, e_asI, e_tup, e_lst, e_z, e_o, e_zg, e_og, e_ifE, e_and, e_or, e_not, e_andV, e_orV, e_notV, e_sm, e_smV, e_smf, e_call, e_callK, e_fnP, e_fnF, e_fnQ, e_next, e_seq, e_brk, e_cnt, e_drop, e_ret, e_if, e_asg, e_bname, e_btup, e_bsnil, e_bscons, e_par, e_fmt, e_js0, e_js, e_sl, e_nopart, e_part, e_frzd, e_frz1d, e_lc, e_for, e_seqI, e_rng1, e_rng2, e_enum, e_itT, e_itL, e_itS, e_start, e_yes, e_plain, o_add, o_addS, o_addT, o_addL, o_sub, o_mul, o_mulS, o_div, o_mod, o_pow, o_neg, o_lt, o_le, o_gt, o_ge, o_ltS, o_eqI, o_eqS, o_neI, o_neS, o_eqL, o_neL, o_lenS, o_lenT, o_lenL, o_lenR, o_int, o_intB, o_abs, o_max, o_min, o_st, o_ixL, o_ixT, o_ixR, o_ixS, o_tupL, o_tupT, o_all, o_slS, o_slT, o_slL, o_join, o_asT, o_asL, o_part, o_is, o_reprL, o_reprT, t_bl, t_lst, t_tup, e_asO, e_asL, e_stL, e_pure, v_o0, v_o1, at0, at1, at2, ix30, ix31, ix32, li_R, li_L, e_wp0, e_wp, e_ss, e_gnd, e_app, e_pop, o_isiI, o_isiS, o_isiT, o_isiL, o_isiB, o_isiN, o_isi2I, o_isi2S, o_isi2T, o_isi2L, o_isi2B, o_isi2N, o_inS1, o_inT, o_ninT, o_intT, o_split, e_chain, e_binF, o_cat, e_dictP, e_while, e_din0, e_dput, o_sortD, e_key, e_asD, e_asM, e_itO, v_o1d, isT, reduceCtorEq, List.any_cons, List.any_nil, List.all_cons, List.all_nil, Bool.or_false, Bool.false_or, Bool.or_true, Bool.true_or, flatD, List.map_cons, List.map_nil, List.length_cons, List.length_nil, Nat.reduceAdd, Nat.reduceSub, List.reduceReplicate, List.cons_append, List.nil_append, List.append_nil, List.getElem?_cons_zero, List.getElem?_cons_succ, List.set_cons_zero, List.set_cons_succ, Option.map_some, Option.bind_some, ends0, ends1, endsF, ite_true, if_true, if_false, Bool.false_eq_true, reduceIte, true_and, and_true, Bool.not_true, Bool.not_false, Bool.not_eq_true', decide_eq_true_eq, decide_eq_false_iff_not]
  rw [n3, n2]
  simp only [e_var, e_c, e_bin, e_un, e_view, e_bnd, e_cons, e_nil, e_allD0, e_allD, e_allV0, e_allV1, e_allV2, e_cb, e_cf, e_on1, e_on2, e_test, e_truth, e_asB, e_asI, e_tup, e_lst, e_z, e_o, e_zg, e_og, e_ifE, e_and, e_or, e_not, e_andV, e_orV, e_notV, e_sm, e_smV, e_smf, e_call, e_callK, e_fnP, e_fnF, e_fnQ, e_next, e_seq, e_brk, e_cnt, e_drop, e_ret, e_if, e_asg, e_bname, e_btup, e_bsnil, e_bscons, e_par, e_fmt, e_js0, e_js, e_sl, e_nopart, e_part, e_frzd, e_frz1d, e_lc, e_for, e_seqI, e_rng1, e_rng2, e_enum, e_itT, e_itL, e_itS, e_start, e_yes, e_plain, o_add, o_addS, o_addT, o_addL, o_sub, o_mul, o_mulS, o_div, o_mod, o_pow, o_neg, o_lt, o_le, o_gt, o_ge, o_ltS, o_eqI, o_eqS, o_neI, o_neS, o_eqL, o_neL, o_lenS, o_lenT, o_lenL, o_lenR, o_int, o_intB, o_abs, o_max, o_min, o_st, o_ixL, o_ixT, o_ixR, o_ixS, o_tupL, o_tupT, o_all, o_slS, o_slT, o_slL, o_join, o_asT, o_asL, o_part, o_is, o_reprL, o_reprT, t_bl, t_lst, t_tup, e_asO, e_asL, e_stL, e_pure, v_o0, v_o1, at0, at1, at2, ix30, ix31, ix32, li_R, li_L, e_wp0, e_wp, e_ss, e_gnd, e_app, e_pop, o_isiI, o_isiS, o_isiT, o_isiL, o_isiB, o_isiN, o_isi2I, o_isi2S, o_isi2T, o_isi2L, o_isi2B, o_isi2N, o_inS1, o_inT, o_ninT, o_intT, o_split, e_chain, e_binF, o_cat, e_dictP, e_while, e_din0, e_dput, o_sortD, e_key, e_asD, e_asM, e_itO, v_o1d, isT, reduceCtorEq, List.any_cons, List.any_nil, List.all_cons, List.all_nil, Bool.or_false, Bool.false_or, Bool.or_true, Bool.true_or, flatD, List.map_cons, List.map_nil, List.length_cons, List.length_nil, Nat.reduceAdd, Nat.reduceSub, List.reduceReplicate, List.cons_append, List.nil_append, List.append_nil, List.getElem?_cons_zero, List.getElem?_cons_succ, List.set_cons_zero, List.set_cons_succ, Option.map_some, Option.bind_some, ends0, ends1, endsF, ite_true, if_true, if_false, Bool.false_eq_true, reduceIte, true_and, and_true, Bool.not_true, Bool.not_false, Bool.not_eq_true', decide_eq_true_eq, decide_eq_false_iff_not]
  rw [splitN_join 32 ws hw.ne fun w hm hc => by have := hw.az w hm 32 hc; omega]
  refine ⟨?_, by omega, by decide, by decide, by omega, by decide, is_a_book_ok h2 hn hw ?_⟩
  · simp
  simp only [e_var, e_c, e_bin, e_un, e_view, e_bnd, e_cons, e_nil, e_allD0, e_allD, e_allV0, e_allV1, e_allV2, e_cb, e_cf, e_on1, e_on2, e_test, e_truth, e_asB, e_asI, e_tup, e_lst, e_z, e_o, e_zg, e_og, e_ifE, e_and, e_or, e_not, e_andV, e_orV, e_notV, e_sm, e_smV, e_smf, e_call, e_callK, e_fnP, e_fnF, e_fnQ, e_next, e_seq, e_brk, e_cnt, e_drop, e_ret, e_if, e_asg, e_bname, e_btup, e_bsnil, e_bscons, e_par, e_fmt, e_js0, e_js, e_sl, e_nopart, e_part, e_frzd, e_frz1d, e_lc, e_for, e_seqI, e_rng1, e_rng2, e_enum, e_itT, e_itL, e_itS, e_start, e_yes, e_plain, o_add, o_addS, o_addT, o_addL, o_sub, o_mul, o_mulS, o_div, o_mod, o_pow, o_neg, o_lt, o_le, o_gt, o_ge, o_ltS, o_eqI, o_eqS, o_neI, o_neS, o_eqL, o_neL, o_lenS, o_lenT, o_lenL, o_lenR, o_int, o_intB, o_abs, o_max, o_min, o_st, o_ixL, o_ixT, o_ixR, o_ixS, o_tupL, o_tupT, o_all, o_slS, o_slT, o_slL, o_join, o_asT, o_asL, o_part, o_is, o_reprL, o_reprT, t_bl, t_lst, t_tup, e_asO, e_asL, e_stL, e_pure, v_o0, v_o1, at0, at1, at2, ix30, ix31, ix32, li_R, li_L, e_wp0, e_wp, e_ss, e_gnd, e_app, e_pop, o_isiI, o_isiS, o_isiT, o_isiL, o_isiB, o_isiN, o_isi2I, o_isi2S, o_isi2T, o_isi2L, o_isi2B, o_isi2N, o_inS1, o_inT, o_ninT, o_intT, o_split, e_chain, e_binF, o_cat, e_dictP, e_while, e_din0, e_dput, o_sortD, e_key, e_asD, e_asM, e_itO, v_o1d, isT, reduceCtorEq, List.any_cons, List.any_nil, List.all_cons, List.all_nil, Bool.or_false, Bool.false_or, Bool.or_true, Bool.true_or, flatD, List.map_cons, List.map_nil, List.length_cons, List.length_nil, Nat.reduceAdd, Nat.reduceSub, List.reduceReplicate, List.cons_append, List.nil_append, List.append_nil, List.getElem?_cons_zero, List.getElem?_cons_succ, List.set_cons_zero, List.set_cons_succ, Option.map_some, Option.bind_some, ends0, ends1, endsF, ite_true, if_true, if_false, Bool.false_eq_true, reduceIte, true_and, and_true, Bool.not_true, Bool.not_false, Bool.not_eq_true', decide_eq_true_eq, decide_eq_false_iff_not]
  exact h
theorem read_book_ok {n : Nat} {ws : List (List Nat)} {P : D → Prop} (h2 : 2 ≤ n) (hn : n ≤ 6) (hw : Wins n ws) (h : P (.tup [.int n, .tup (ws.map .str)])) : g_read_book [.str (bookT n ws)] P := by
  refine ⟨rfl, ?_⟩
  simp only [r_read_book, e_var, e_c, e_bin, e_un, e_view, e_bnd, e_cons, e_nil, e_allD0, e_allD, e_allV0, e_allV1, e_allV2, e_cb, e_cf, e_on1, e_on2, e_test, e_truth, e_asB, e_asI, e_tup, e_lst, e_z, e_o, e_zg, e_og, e_ifE, e_and, e_or, e_not, e_andV, e_orV, e_notV, e_sm, e_smV, e_smf, e_call, e_callK, e_fnP, e_fnF, e_fnQ, e_next, e_seq, e_brk, e_cnt, e_drop, e_ret, e_if, e_asg, e_bname, e_btup, e_bsnil, e_bscons, e_par, e_fmt, e_js0, e_js, e_sl, e_nopart, e_part, e_frzd, e_frz1d, e_lc, e_for, e_seqI, e_rng1, e_rng2, e_enum, e_itT, e_itL, e_itS, e_start, e_yes, e_plain, o_add, o_addS, o_addT, o_addL, o_sub, o_mul, o_mulS, o_div, o_mod, o_pow, o_neg, o_lt, o_le, o_gt, o_ge, o_ltS, o_eqI, o_eqS, o_neI, o_neS, o_eqL, o_neL, o_lenS, o_lenT, o_lenL, o_lenR, o_int, o_intB, o_abs, o_max, o_min, o_st, o_ixL, o_ixT, o_ixR, o_ixS, o_tupL, o_tupT, o_all, o_slS, o_slT, o_slL, o_join, o_asT, o_asL, o_part, o_is, o_reprL, o_reprT, t_bl, t_lst, t_tup, e_asO, e_asL, e_stL, e_pure, v_o0, v_o1, at0, at1, at2, ix30, ix31, ix32, li_R, li_L, e_wp0, e_wp, e_ss, e_gnd, e_app, e_pop, o_isiI, o_isiS, o_isiT, o_isiL, o_isiB, o_isiN, o_isi2I, o_isi2S, o_isi2T, o_isi2L, o_isi2B, o_isi2N, o_inS1, o_inT, o_ninT, o_intT, o_split, e_chain, e_binF, o_cat, e_dictP, e_while, e_din0, e_dput, o_sortD, e_key, e_asD, e_asM, e_itO, v_o1d, isT, reduceCtorEq, List.any_cons, List.any_nil, List.all_cons, List.all_nil, Bool.or_false, Bool.false_or, Bool.or_true, Bool.true_or, flatD, List.map_cons, List.map_nil, List.length_cons, List.length_nil, Nat.reduceAdd, Nat.reduceSub, List.reduceReplicate, List.cons_append, List.nil_append, List.append_nil, List.getElem?_cons_zero, List.getElem?_cons_succ, List.set_cons_zero, List.set_cons_succ, Option.map_some, Option.bind_some, ends0, ends1, endsF, ite_true, if_true, if_false, Bool.false_eq_true, reduceIte, true_and, and_true, Bool.not_true, Bool.not_false, Bool.not_eq_true', decide_eq_true_eq, decide_eq_false_iff_not]
  refine book_in_ok h2 hn hw ?_
  simp only [isN, e_var, e_c, e_bin, e_un, e_view, e_bnd, e_cons, e_nil, e_allD0, e_allD, e_allV0, e_allV1, e_allV2, e_cb, e_cf, e_on1, e_on2, e_test, e_truth, e_asB, e_asI, e_tup, e_lst, e_z, e_o, e_zg, e_og, e_ifE, e_and, e_or, e_not, e_andV, e_orV, e_notV, e_sm, e_smV, e_smf, e_call, e_callK, e_fnP, e_fnF, e_fnQ, e_next, e_seq, e_brk, e_cnt, e_drop, e_ret, e_if, e_asg, e_bname, e_btup, e_bsnil, e_bscons, e_par, e_fmt, e_js0, e_js, e_sl, e_nopart, e_part, e_frzd, e_frz1d, e_lc, e_for, e_seqI, e_rng1, e_rng2, e_enum, e_itT, e_itL, e_itS, e_start, e_yes, e_plain, o_add, o_addS, o_addT, o_addL, o_sub, o_mul, o_mulS, o_div, o_mod, o_pow, o_neg, o_lt, o_le, o_gt, o_ge, o_ltS, o_eqI, o_eqS, o_neI, o_neS, o_eqL, o_neL, o_lenS, o_lenT, o_lenL, o_lenR, o_int, o_intB, o_abs, o_max, o_min, o_st, o_ixL, o_ixT, o_ixR, o_ixS, o_tupL, o_tupT, o_all, o_slS, o_slT, o_slL, o_join, o_asT, o_asL, o_part, o_is, o_reprL, o_reprT, t_bl, t_lst, t_tup, e_asO, e_asL, e_stL, e_pure, v_o0, v_o1, at0, at1, at2, ix30, ix31, ix32, li_R, li_L, e_wp0, e_wp, e_ss, e_gnd, e_app, e_pop, o_isiI, o_isiS, o_isiT, o_isiL, o_isiB, o_isiN, o_isi2I, o_isi2S, o_isi2T, o_isi2L, o_isi2B, o_isi2N, o_inS1, o_inT, o_ninT, o_intT, o_split, e_chain, e_binF, o_cat, e_dictP, e_while, e_din0, e_dput, o_sortD, e_key, e_asD, e_asM, e_itO, v_o1d, isT, reduceCtorEq, List.any_cons, List.any_nil, List.all_cons, List.all_nil, Bool.or_false, Bool.false_or, Bool.or_true, Bool.true_or, flatD, List.map_cons, List.map_nil, List.length_cons, List.length_nil, Nat.reduceAdd, Nat.reduceSub, List.reduceReplicate, List.cons_append, List.nil_append, List.append_nil, List.getElem?_cons_zero, List.getElem?_cons_succ, List.set_cons_zero, List.set_cons_succ, Option.map_some, Option.bind_some, ends0, ends1, endsF, ite_true, if_true, if_false, Bool.false_eq_true, reduceIte, true_and, and_true, Bool.not_true, Bool.not_false, Bool.not_eq_true', decide_eq_true_eq, decide_eq_false_iff_not]
  exact h
end K28
end

section
set_option maxRecDepth 100000
namespace K28
open PySem PySem.Spec L2 Dl
open PyProof.Rows hiding St
/-! ### counts -/
def cell (w : List Nat) (k : Int) : List Nat := w ++ [61] ++ numT k
def cells : List (List Nat) → List Int → List (List Nat)
  | w :: ws, k :: ks => if 0 < k then cell w k :: cells ws ks else cells ws ks
  | _, _ => []
def celF (d : D) : Option D := match d with
  | .tup [.str w, .int k] => if 0 < k then some (.str (cell w k)) else none
  | _ => none
theorem zip_cells : ∀ (ws : List (List Nat)) (ks : List Int), (zipD (ws.map .str) (ks.map .int)).filterMap celF = (cells ws ks).map .str
  | [], _ => by
    cases ‹List Int› <;> rfl
  | w :: ws, [] => rfl
  | w :: ws, k :: ks => by
    have ih := zip_cells ws ks
    show (D.tup [.str w, .int k] :: zipD (ws.map .str) (ks.map .int)).filterMap celF = (if 0 < k then cell w k :: cells ws ks else cells ws ks).map .str
    rw [List.filterMap_cons]
    unfold celF at ih ⊢
    dsimp only
    by_cases h : 0 < k
    · rw [if_pos h, if_pos h, ih]
      rfl
    · rw [if_neg h, if_neg h, ih]
theorem cells_few : ∀ (ws : List (List Nat)) (ks : List Int) (b : Nat), (∀ w ∈ ws, w.length ≤ 6) → (∀ k ∈ ks, 0 ≤ k ∧ k < 10 ^ 40) → ((cells ws ks).map List.length).sum + (cells ws ks).length * b ≤ (48 + b) * ws.length
  | [], _, b, _, _ => by
    show 0 + 0 * b ≤ _
    omega
  | w :: ws, [], b, _, _ => by
    show 0 + 0 * b ≤ _
    omega
  | w :: ws, k :: ks, b, h1, h2 => by
    have ih := cells_few ws ks b (fun x h => h1 x (List.mem_cons_of_mem _ h)) fun x h => h2 x (List.mem_cons_of_mem _ h)
    have hw := h1 w List.mem_cons_self
    have hk := h2 k List.mem_cons_self
    have hn : (numT k).length ≤ 41 := numT_len (k := 40) (by decide) (by omega)
    rw [List.length_cons, Nat.mul_succ]
    show ((if 0 < k then cell w k :: cells ws ks else cells ws ks).map List.length).sum + (if 0 < k then cell w k :: cells ws ks else cells ws ks).length * b ≤ _
    by_cases h : 0 < k
    · rw [if_pos h, List.map_cons, List.sum_cons, List.length_cons, Nat.succ_mul]
      have : (cell w k).length ≤ 48 := by
        unfold cell
        rw [List.length_append, List.length_append, List.length_singleton]
        omega
      omega
    · rw [if_neg h]
      omega
theorem log_cnt {k : Int} (h : 0 ≤ k ∧ k < 10 ^ 40) : k.natAbs.log2 < 1920 := log_sm (Nat.lt_of_lt_of_le (show k.natAbs < 10 ^ 40 by omega) (by decide))
theorem zip_mem : ∀ {ws : List (List Nat)} {ks : List Int} {d : D}, d ∈ zipD (ws.map .str) (ks.map .int) → ∃ w k, w ∈ ws ∧ k ∈ ks ∧ d = .tup [.str w, .int k]
  | [], _, d, h => by simp [zipD] at h
  | w :: ws, [], d, h => by simp [zipD] at h
  | w :: ws, k :: ks, d, h => by
    rcases List.mem_cons.mp h with rfl | h
    · exact ⟨w, k, List.mem_cons_self, List.mem_cons_self, rfl⟩
    · obtain ⟨a, b, h1, h2, h3⟩ := zip_mem h
      exact ⟨a, b, List.mem_cons_of_mem _ h1, List.mem_cons_of_mem _ h2, h3⟩
theorem zip_TT {l k : List D} {R : ER} {ρ : Rho} {m : Mu} {a b : ED} {P : List D → (Mu → Prop) → Mu → Prop} : dZip a b R ρ m P = a R ρ m fun s m1 => b R ρ m1 fun u m2 => match s, u with
  | .d (.tup l), .d (.tup k) => P (zipD l k) (fun _ => True) m2
  | s, u => lItems m2 s fun l c1 => lItems m2 u fun k c2 => P (zipD l k) (fun m => c1 m ∧ c2 m) m2 := rfl
structure Cnt (ks : List Int) (n : Nat) : Prop where
  len : ks.length = n
  each : ∀ k ∈ ks, 0 ≤ k ∧ k < 10 ^ 40
theorem show_counts_ok {n : Nat} {ws : List (List Nat)} {ks : List Int} {P : D → Prop} (hn : n ≤ 6) (hw : Wins n ws) (hk : Cnt ks ws.length) (h : P (.str (wrds (cells ws ks)))) : g_show_counts [.tup [.int n, .tup (ws.map .str)], .tup (ks.map .int)] P := by
  refine ⟨rfl, ?_⟩
  have hf := hw.few
  have a1 : atI [D.int n, D.tup (ws.map .str)] 1 = some (.tup (ws.map .str)) := rfl
  simp only [r_show_counts, zip_TT, e_var, e_c, e_bin, e_un, e_view, e_bnd, e_cons, e_nil, e_allD0, e_allD, e_allV0, e_allV1, e_allV2, e_cb, e_cf, e_on1, e_on2, e_test, e_truth, e_asB, e_asI, e_tup, e_lst, e_z, e_o, e_zg, e_og, e_ifE, e_and, e_or, e_not, e_andV, e_orV, e_notV, e_sm, e_smV, e_smf, e_call, e_callK, e_fnP, e_fnF, e_fnQ, e_next, e_seq, e_brk, e_cnt, e_drop, e_ret, e_if, e_asg, e_bname, e_btup, e_bsnil, e_bscons, e_par, e_fmt, e_js0, e_js, e_sl, e_nopart, e_part, e_frzd, e_frz1d, e_lc, e_for, e_seqI, e_rng1, e_rng2, e_enum, e_itT, e_itL, e_itS, e_start, e_yes, e_plain, o_add, o_addS, o_addT, o_addL, o_sub, o_mul, o_mulS, o_div, o_mod, o_pow, o_neg, o_lt, o_le, o_gt, o_ge, o_ltS, o_eqI, o_eqS, o_neI, o_neS, o_eqL, o_neL, o_lenS, o_lenT, o_lenL, o_lenR, o_int, o_intB, o_abs, o_max, o_min, o_st, o_ixL, o_ixT, o_ixR, o_ixS, o_tupL, o_tupT, o_all, o_slS, o_slT, o_slL, o_join, o_asT, o_asL, o_part, o_is, o_reprL, o_reprT, t_bl, t_lst, t_tup, e_asO, e_asL, e_stL, e_pure, v_o0, v_o1, at0, at1, at2, ix30, ix31, ix32, li_R, li_L, e_wp0, e_wp, e_ss, e_gnd, e_app, e_pop, o_isiI, o_isiS, o_isiT, o_isiL, o_isiB, o_isiN, o_isi2I, o_isi2S, o_isi2T, o_isi2L, o_isi2B, o_isi2N, o_inS1, o_inT, o_ninT, o_intT, o_split, e_chain, e_binF, o_cat, e_dictP, e_while, e_din0, e_dput, o_sortD, e_key, e_asD, e_asM, e_itO, v_o1d, isT, reduceCtorEq, List.any_cons, List.any_nil, List.all_cons, List.all_nil, Bool.or_false, Bool.false_or, Bool.or_true, Bool.true_or, flatD, List.map_cons, List.map_nil, List.length_cons, List.length_nil, Nat.reduceAdd, Nat.reduceSub, List.reduceReplicate, List.cons_append, List.nil_append, List.append_nil, List.getElem?_cons_zero, List.getElem?_cons_succ, List.set_cons_zero, List.set_cons_succ, Option.map_some, Option.bind_some, ends0, ends1, endsF, ite_true, if_true, if_false, Bool.false_eq_true, reduceIte, true_and, and_true, Bool.not_true, Bool.not_false, Bool.not_eq_true', decide_eq_true_eq, decide_eq_false_iff_not]
  rw [a1]
  simp only [e_var, e_c, e_bin, e_un, e_view, e_bnd, e_cons, e_nil, e_allD0, e_allD, e_allV0, e_allV1, e_allV2, e_cb, e_cf, e_on1, e_on2, e_test, e_truth, e_asB, e_asI, e_tup, e_lst, e_z, e_o, e_zg, e_og, e_ifE, e_and, e_or, e_not, e_andV, e_orV, e_notV, e_sm, e_smV, e_smf, e_call, e_callK, e_fnP, e_fnF, e_fnQ, e_next, e_seq, e_brk, e_cnt, e_drop, e_ret, e_if, e_asg, e_bname, e_btup, e_bsnil, e_bscons, e_par, e_fmt, e_js0, e_js, e_sl, e_nopart, e_part, e_frzd, e_frz1d, e_lc, e_for, e_seqI, e_rng1, e_rng2, e_enum, e_itT, e_itL, e_itS, e_start, e_yes, e_plain, o_add, o_addS, o_addT, o_addL, o_sub, o_mul, o_mulS, o_div, o_mod, o_pow, o_neg, o_lt, o_le, o_gt, o_ge, o_ltS, o_eqI, o_eqS, o_neI, o_neS, o_eqL, o_neL, o_lenS, o_lenT, o_lenL, o_lenR, o_int, o_intB, o_abs, o_max, o_min, o_st, o_ixL, o_ixT, o_ixR, o_ixS, o_tupL, o_tupT, o_all, o_slS, o_slT, o_slL, o_join, o_asT, o_asL, o_part, o_is, o_reprL, o_reprT, t_bl, t_lst, t_tup, e_asO, e_asL, e_stL, e_pure, v_o0, v_o1, at0, at1, at2, ix30, ix31, ix32, li_R, li_L, e_wp0, e_wp, e_ss, e_gnd, e_app, e_pop, o_isiI, o_isiS, o_isiT, o_isiL, o_isiB, o_isiN, o_isi2I, o_isi2S, o_isi2T, o_isi2L, o_isi2B, o_isi2N, o_inS1, o_inT, o_ninT, o_intT, o_split, e_chain, e_binF, o_cat, e_dictP, e_while, e_din0, e_dput, o_sortD, e_key, e_asD, e_asM, e_itO, v_o1d, isT, reduceCtorEq, List.any_cons, List.any_nil, List.all_cons, List.all_nil, Bool.or_false, Bool.false_or, Bool.or_true, Bool.true_or, flatD, List.map_cons, List.map_nil, List.length_cons, List.length_nil, Nat.reduceAdd, Nat.reduceSub, List.reduceReplicate, List.cons_append, List.nil_append, List.append_nil, List.getElem?_cons_zero, List.getElem?_cons_succ, List.set_cons_zero, List.set_cons_succ, Option.map_some, Option.bind_some, ends0, ends1, endsF, ite_true, if_true, if_false, Bool.false_eq_true, reduceIte, true_and, and_true, Bool.not_true, Bool.not_false, Bool.not_eq_true', decide_eq_true_eq, decide_eq_false_iff_not]
  refine lc_pure (f := celF) trivial _ _ (fun d hd Q Q' q => ?_) (by rw [zipD_len, List.length_map, List.length_nil]; omega) ?_
  · obtain ⟨w, k, h1, h2, rfl⟩ := zip_mem hd
    have hl := hw.len w h1
    have hk2 := hk.each k h2
    have hnl : (numT k).length ≤ 41 := numT_len (k := 40) (by decide) (by omega)
    simp only [celF] at q
    simp only [e_var, e_c, e_bin, e_un, e_view, e_bnd, e_cons, e_nil, e_allD0, e_allD, e_allV0, e_allV1, e_allV2, e_cb, e_cf, e_on1, e_on2, e_test, e_truth, e_asB, e_asI, e_tup, e_lst, e_z, e_o, e_zg, e_og, e_ifE, e_and, e_or, e_not, e_andV, e_orV, e_notV, e_sm, e_smV, e_smf, e_call, e_callK, e_fnP, e_fnF, e_fnQ, e_next, e_seq, e_brk, e_cnt, e_drop, e_ret, e_if, e_asg, e_bname, e_btup, e_bsnil, e_bscons, e_par, e_fmt, e_js0, e_js, e_sl, e_nopart, e_part, e_frzd, e_frz1d, e_lc, e_for, e_seqI, e_rng1, e_rng2, e_enum, e_itT, e_itL, e_itS, e_start, e_yes, e_plain, o_add, o_addS, o_addT, o_addL, o_sub, o_mul, o_mulS, o_div, o_mod, o_pow, o_neg, o_lt, o_le, o_gt, o_ge, o_ltS, o_eqI, o_eqS, o_neI, o_neS, o_eqL, o_neL, o_lenS, o_lenT, o_lenL, o_lenR, o_int, o_intB, o_abs, o_max, o_min, o_st, o_ixL, o_ixT, o_ixR, o_ixS, o_tupL, o_tupT, o_all, o_slS, o_slT, o_slL, o_join, o_asT, o_asL, o_part, o_is, o_reprL, o_reprT, t_bl, t_lst, t_tup, e_asO, e_asL, e_stL, e_pure, v_o0, v_o1, at0, at1, at2, ix30, ix31, ix32, li_R, li_L, e_wp0, e_wp, e_ss, e_gnd, e_app, e_pop, o_isiI, o_isiS, o_isiT, o_isiL, o_isiB, o_isiN, o_isi2I, o_isi2S, o_isi2T, o_isi2L, o_isi2B, o_isi2N, o_inS1, o_inT, o_ninT, o_intT, o_split, e_chain, e_binF, o_cat, e_dictP, e_while, e_din0, e_dput, o_sortD, e_key, e_asD, e_asM, e_itO, v_o1d, isT, reduceCtorEq, List.any_cons, List.any_nil, List.all_cons, List.all_nil, Bool.or_false, Bool.false_or, Bool.or_true, Bool.true_or, flatD, List.map_cons, List.map_nil, List.length_cons, List.length_nil, Nat.reduceAdd, Nat.reduceSub, List.reduceReplicate, List.cons_append, List.nil_append, List.append_nil, List.getElem?_cons_zero, List.getElem?_cons_succ, List.set_cons_zero, List.set_cons_succ, Option.map_some, Option.bind_some, ends0, ends1, endsF, ite_true, if_true, if_false, Bool.false_eq_true, reduceIte, true_and, and_true, Bool.not_true, Bool.not_false, Bool.not_eq_true', decide_eq_true_eq, decide_eq_false_iff_not, List.length_append]
    split
    · rename_i h0
      rw [if_pos h0] at q
      exact ⟨by omega, by omega, by omega, log_cnt hk2, by omega, q⟩
    · rename_i h0
      rw [if_neg h0] at q
      exact q
  · rw [List.nil_append, zip_cells]
    have := cells_few ws ks 1 (fun w hm => by rw [hw.len w hm]; exact hn) hk.each
    exact words_ok (.inl rfl) (by omega) h
theorem numbers_ok {N : Nat} {o : MO} {l : List D} {P : D → MO → Prop} (ho : Pl N o) (hN : N ≤ 2 ^ 59) (hl : l.length ≤ 40) (k : ∀ ks o', Cnt ks l.length → Pl (N + 50) o' → P (.tup (ks.map .int)) o') : g__law_numbers o [.tup l] P := by
  refine ⟨rfl, ?_⟩
  simp only [r__law_numbers, e_var, e_c, e_bin, e_un, e_view, e_bnd, e_cons, e_nil, e_allD0, e_allD, e_allV0, e_allV1, e_allV2, e_cb, e_cf, e_on1, e_on2, e_test, e_truth, e_asB, e_asI, e_tup, e_lst, e_z, e_o, e_zg, e_og, e_ifE, e_and, e_or, e_not, e_andV, e_orV, e_notV, e_sm, e_smV, e_smf, e_call, e_callK, e_fnP, e_fnF, e_fnQ, e_next, e_seq, e_brk, e_cnt, e_drop, e_ret, e_if, e_asg, e_bname, e_btup, e_bsnil, e_bscons, e_par, e_fmt, e_js0, e_js, e_sl, e_nopart, e_part, e_frzd, e_frz1d, e_lc, e_for, e_seqI, e_rng1, e_rng2, e_enum, e_itT, e_itL, e_itS, e_start, e_yes, e_plain, o_add, o_addS, o_addT, o_addL, o_sub, o_mul, o_mulS, o_div, o_mod, o_pow, o_neg, o_lt, o_le, o_gt, o_ge, o_ltS, o_eqI, o_eqS, o_neI, o_neS, o_eqL, o_neL, o_lenS, o_lenT, o_lenL, o_lenR, o_int, o_intB, o_abs, o_max, o_min, o_st, o_ixL, o_ixT, o_ixR, o_ixS, o_tupL, o_tupT, o_all, o_slS, o_slT, o_slL, o_join, o_asT, o_asL, o_part, o_is, o_reprL, o_reprT, t_bl, t_lst, t_tup, e_asO, e_asL, e_stL, e_pure, v_o0, v_o1, at0, at1, at2, ix30, ix31, ix32, li_R, li_L, e_wp0, e_wp, e_ss, e_gnd, e_app, e_pop, o_isiI, o_isiS, o_isiT, o_isiL, o_isiB, o_isiN, o_isi2I, o_isi2S, o_isi2T, o_isi2L, o_isi2B, o_isi2N, o_inS1, o_inT, o_ninT, o_intT, o_split, e_chain, e_binF, o_cat, e_dictP, e_while, e_din0, e_dput, o_sortD, e_key, e_asD, e_asM, e_itO, v_o1d, isT, reduceCtorEq, List.any_cons, List.any_nil, List.all_cons, List.all_nil, Bool.or_false, Bool.false_or, Bool.or_true, Bool.true_or, flatD, List.map_cons, List.map_nil, List.length_cons, List.length_nil, Nat.reduceAdd, Nat.reduceSub, List.reduceReplicate, List.cons_append, List.nil_append, List.append_nil, List.getElem?_cons_zero, List.getElem?_cons_succ, List.set_cons_zero, List.set_cons_succ, Option.map_some, Option.bind_some, ends0, ends1, endsF, ite_true, if_true, if_false, Bool.false_eq_true, reduceIte, true_and, and_true, Bool.not_true, Bool.not_false, Bool.not_eq_true', decide_eq_true_eq, decide_eq_false_iff_not]
  refine ⟨cpow (n := 4) (by decide) (by decide) (by decide), by decide, ho.pure, pick_ok ho (by omega) (by simp) (by simp) _ (.inl rfl) fun d o1 hd p1 => ?_⟩
  obtain ⟨mx, rfl, m0, m1⟩ : ∃ mx : Int, d = .int mx ∧ 0 ≤ mx ∧ mx ≤ 10 ^ 30 := by
    simp only [List.mem_cons, List.not_mem_nil, or_false] at hd
    rcases hd with rfl | rfl | rfl | rfl | rfl
    all_goals exact ⟨_, rfl, by decide, by decide⟩
  refine lc_inv (I := fun l2 acc m => ∃ (o' : MO) (ks : List Int), m = [o'] ∧ acc = ks.map .int ∧ Pl (N + 1 + acc.length) o' ∧ acc.length + l2.length = l.length ∧ ∀ x ∈ ks, 0 ≤ x ∧ x < 10 ^ 40) (fun d l2 acc m Q hI q => ?_) (fun acc m hI => ?_) _ _ _ ⟨o1, [], rfl, rfl, p1, by rw [List.length_nil]; omega, nofun⟩
  · obtain ⟨o', ks, rfl, rfl, po, hl2, hx⟩ := hI
    rw [List.length_cons] at hl2
    simp only [e_var, e_c, e_bin, e_un, e_view, e_bnd, e_cons, e_nil, e_allD0, e_allD, e_allV0, e_allV1, e_allV2, e_cb, e_cf, e_on1, e_on2, e_test, e_truth, e_asB, e_asI, e_tup, e_lst, e_z, e_o, e_zg, e_og, e_ifE, e_and, e_or, e_not, e_andV, e_orV, e_notV, e_sm, e_smV, e_smf, e_call, e_callK, e_fnP, e_fnF, e_fnQ, e_next, e_seq, e_brk, e_cnt, e_drop, e_ret, e_if, e_asg, e_bname, e_btup, e_bsnil, e_bscons, e_par, e_fmt, e_js0, e_js, e_sl, e_nopart, e_part, e_frzd, e_frz1d, e_lc, e_for, e_seqI, e_rng1, e_rng2, e_enum, e_itT, e_itL, e_itS, e_start, e_yes, e_plain, o_add, o_addS, o_addT, o_addL, o_sub, o_mul, o_mulS, o_div, o_mod, o_pow, o_neg, o_lt, o_le, o_gt, o_ge, o_ltS, o_eqI, o_eqS, o_neI, o_neS, o_eqL, o_neL, o_lenS, o_lenT, o_lenL, o_lenR, o_int, o_intB, o_abs, o_max, o_min, o_st, o_ixL, o_ixT, o_ixR, o_ixS, o_tupL, o_tupT, o_all, o_slS, o_slT, o_slL, o_join, o_asT, o_asL, o_part, o_is, o_reprL, o_reprT, t_bl, t_lst, t_tup, e_asO, e_asL, e_stL, e_pure, v_o0, v_o1, at0, at1, at2, ix30, ix31, ix32, li_R, li_L, e_wp0, e_wp, e_ss, e_gnd, e_app, e_pop, o_isiI, o_isiS, o_isiT, o_isiL, o_isiB, o_isiN, o_isi2I, o_isi2S, o_isi2T, o_isi2L, o_isi2B, o_isi2N, o_inS1, o_inT, o_ninT, o_intT, o_split, e_chain, e_binF, o_cat, e_dictP, e_while, e_din0, e_dput, o_sortD, e_key, e_asD, e_asM, e_itO, v_o1d, isT, reduceCtorEq, List.any_cons, List.any_nil, List.all_cons, List.all_nil, Bool.or_false, Bool.false_or, Bool.or_true, Bool.true_or, flatD, List.map_cons, List.map_nil, List.length_cons, List.length_nil, Nat.reduceAdd, Nat.reduceSub, List.reduceReplicate, List.cons_append, List.nil_append, List.append_nil, List.getElem?_cons_zero, List.getElem?_cons_succ, List.set_cons_zero, List.set_cons_succ, Option.map_some, Option.bind_some, ends0, ends1, endsF, ite_true, if_true, if_false, Bool.false_eq_true, reduceIte, true_and, and_true, Bool.not_true, Bool.not_false, Bool.not_eq_true', decide_eq_true_eq, decide_eq_false_iff_not]
    refine ⟨po.pure, scoop_ok po (by omega) (by omega) (by omega) fun c o2 c0 c1 p2 => ?_⟩
    refine ⟨by omega, q _ _ ⟨o2, ks ++ [c], rfl, by simp, by simp only [List.length_append, List.length_singleton]; exact p2, by simp only [List.length_append, List.length_singleton]; omega, fun x hm => ?_⟩⟩
    rcases List.mem_append.mp hm with h | h
    · exact hx x h
    · rw [List.mem_singleton.mp h]
      omega
  · obtain ⟨o', ks, rfl, rfl, po, hl2, hx⟩ := hI
    rw [List.length_nil, List.length_map, Nat.add_zero] at hl2
    rw [List.length_map] at po
    simp only [e_var, e_c, e_bin, e_un, e_view, e_bnd, e_cons, e_nil, e_allD0, e_allD, e_allV0, e_allV1, e_allV2, e_cb, e_cf, e_on1, e_on2, e_test, e_truth, e_asB, e_asI, e_tup, e_lst, e_z, e_o, e_zg, e_og, e_ifE, e_and, e_or, e_not, e_andV, e_orV, e_notV, e_sm, e_smV, e_smf, e_call, e_callK, e_fnP, e_fnF, e_fnQ, e_next, e_seq, e_brk, e_cnt, e_drop, e_ret, e_if, e_asg, e_bname, e_btup, e_bsnil, e_bscons, e_par, e_fmt, e_js0, e_js, e_sl, e_nopart, e_part, e_frzd, e_frz1d, e_lc, e_for, e_seqI, e_rng1, e_rng2, e_enum, e_itT, e_itL, e_itS, e_start, e_yes, e_plain, o_add, o_addS, o_addT, o_addL, o_sub, o_mul, o_mulS, o_div, o_mod, o_pow, o_neg, o_lt, o_le, o_gt, o_ge, o_ltS, o_eqI, o_eqS, o_neI, o_neS, o_eqL, o_neL, o_lenS, o_lenT, o_lenL, o_lenR, o_int, o_intB, o_abs, o_max, o_min, o_st, o_ixL, o_ixT, o_ixR, o_ixS, o_tupL, o_tupT, o_all, o_slS, o_slT, o_slL, o_join, o_asT, o_asL, o_part, o_is, o_reprL, o_reprT, t_bl, t_lst, t_tup, e_asO, e_asL, e_stL, e_pure, v_o0, v_o1, at0, at1, at2, ix30, ix31, ix32, li_R, li_L, e_wp0, e_wp, e_ss, e_gnd, e_app, e_pop, o_isiI, o_isiS, o_isiT, o_isiL, o_isiB, o_isiN, o_isi2I, o_isi2S, o_isi2T, o_isi2L, o_isi2B, o_isi2N, o_inS1, o_inT, o_ninT, o_intT, o_split, e_chain, e_binF, o_cat, e_dictP, e_while, e_din0, e_dput, o_sortD, e_key, e_asD, e_asM, e_itO, v_o1d, isT, reduceCtorEq, List.any_cons, List.any_nil, List.all_cons, List.all_nil, Bool.or_false, Bool.false_or, Bool.or_true, Bool.true_or, flatD, List.map_cons, List.map_nil, List.length_cons, List.length_nil, Nat.reduceAdd, Nat.reduceSub, List.reduceReplicate, List.cons_append, List.nil_append, List.append_nil, List.getElem?_cons_zero, List.getElem?_cons_succ, List.set_cons_zero, List.set_cons_succ, Option.map_some, Option.bind_some, ends0, ends1, endsF, ite_true, if_true, if_false, Bool.false_eq_true, reduceIte, true_and, and_true, Bool.not_true, Bool.not_false, Bool.not_eq_true', decide_eq_true_eq, decide_eq_false_iff_not]
    exact ⟨po.pure, k ks _ ⟨hl2, hx⟩ (po.up (by omega))⟩
/-! ### papers -/
abbrev lotD (l : List (List Nat)) : D := .tup (l.map .str)
/-- a lot of windows -/
structure Lot (n : Nat) (l : List (List Nat)) : Prop where
  few : l.length ≤ 63
  len : ∀ w ∈ l, w.length = n
  az : ∀ w ∈ l, ∀ c ∈ w, 97 ≤ c ∧ c ≤ 122
theorem Lot.sum {n : Nat} {l : List (List Nat)} (h : Lot n l) (hn : n ≤ 6) : (l.map List.length).sum ≤ 6 * 63 := by
  have h1 := sum_le (ns := l) (n := 6) fun s hs => by rw [h.len s hs]; exact hn
  have := h.few
  omega
theorem wrds_len {n : Nat} {l : List (List Nat)} (h : Lot n l) (hn : n ≤ 6) : (wrds l).length ≤ 500 := by
  unfold wrds
  split
  · have h1 := join_len (sep := [32]) (ns := l)
    have h2 := h.sum hn
    have h3 := h.few
    rw [List.length_singleton] at h1
    omega
  · decide
def paperT (ls : List (List (List Nat))) : List Nat := joinN [32, 59, 32] (ls.map wrds)
theorem show_paper_ok {n : Nat} {ls : List (List (List Nat))} {P : D → Prop} (hn : n ≤ 6) (hl : ls.length ≤ 1000) (h : ∀ l ∈ ls, Lot n l) (k : P (.str (paperT ls))) : g_show_paper [.tup (ls.map lotD)] P := by
  refine ⟨rfl, ?_⟩
  simp only [r_show_paper, e_var, e_c, e_bin, e_un, e_view, e_bnd, e_cons, e_nil, e_allD0, e_allD, e_allV0, e_allV1, e_allV2, e_cb, e_cf, e_on1, e_on2, e_test, e_truth, e_asB, e_asI, e_tup, e_lst, e_z, e_o, e_zg, e_og, e_ifE, e_and, e_or, e_not, e_andV, e_orV, e_notV, e_sm, e_smV, e_smf, e_call, e_callK, e_fnP, e_fnF, e_fnQ, e_next, e_seq, e_brk, e_cnt, e_drop, e_ret, e_if, e_asg, e_bname, e_btup, e_bsnil, e_bscons, e_par, e_fmt, e_js0, e_js, e_sl, e_nopart, e_part, e_frzd, e_frz1d, e_lc, e_for, e_seqI, e_rng1, e_rng2, e_enum, e_itT, e_itL, e_itS, e_start, e_yes, e_plain, o_add, o_addS, o_addT, o_addL, o_sub, o_mul, o_mulS, o_div, o_mod, o_pow, o_neg, o_lt, o_le, o_gt, o_ge, o_ltS, o_eqI, o_eqS, o_neI, o_neS, o_eqL, o_neL, o_lenS, o_lenT, o_lenL, o_lenR, o_int, o_intB, o_abs, o_max, o_min, o_st, o_ixL, o_ixT, o_ixR, o_ixS, o_tupL, o_tupT, o_all, o_slS, o_slT, o_slL, o_join, o_asT, o_asL, o_part, o_is, o_reprL, o_reprT, t_bl, t_lst, t_tup, e_asO, e_asL, e_stL, e_pure, v_o0, v_o1, at0, at1, at2, ix30, ix31, ix32, li_R, li_L, e_wp0, e_wp, e_ss, e_gnd, e_app, e_pop, o_isiI, o_isiS, o_isiT, o_isiL, o_isiB, o_isiN, o_isi2I, o_isi2S, o_isi2T, o_isi2L, o_isi2B, o_isi2N, o_inS1, o_inT, o_ninT, o_intT, o_split, e_chain, e_binF, o_cat, e_dictP, e_while, e_din0, e_dput, o_sortD, e_key, e_asD, e_asM, e_itO, v_o1d, isT, reduceCtorEq, List.any_cons, List.any_nil, List.all_cons, List.all_nil, Bool.or_false, Bool.false_or, Bool.or_true, Bool.true_or, flatD, List.map_cons, List.map_nil, List.length_cons, List.length_nil, Nat.reduceAdd, Nat.reduceSub, List.reduceReplicate, List.cons_append, List.nil_append, List.append_nil, List.getElem?_cons_zero, List.getElem?_cons_succ, List.set_cons_zero, List.set_cons_succ, Option.map_some, Option.bind_some, ends0, ends1, endsF, ite_true, if_true, if_false, Bool.false_eq_true, reduceIte, true_and, and_true, Bool.not_true, Bool.not_false, Bool.not_eq_true', decide_eq_true_eq, decide_eq_false_iff_not]
  refine lc_pure (f := fun d => match d with
    | .tup l => (allStr l).map fun ws => .str (wrds ws)
    | _ => none) trivial _ _ (fun d hd Q Q' q => ?_) (by rw [List.length_map, List.length_nil]; omega) ?_
  · obtain ⟨l, hm, rfl⟩ := List.mem_map.mp hd
    have hL := h l hm
    have h2 := hL.sum hn
    have h3 := hL.few
    simp only [lotD, allStr_map, e_var, e_c, e_bin, e_un, e_view, e_bnd, e_cons, e_nil, e_allD0, e_allD, e_allV0, e_allV1, e_allV2, e_cb, e_cf, e_on1, e_on2, e_test, e_truth, e_asB, e_asI, e_tup, e_lst, e_z, e_o, e_zg, e_og, e_ifE, e_and, e_or, e_not, e_andV, e_orV, e_notV, e_sm, e_smV, e_smf, e_call, e_callK, e_fnP, e_fnF, e_fnQ, e_next, e_seq, e_brk, e_cnt, e_drop, e_ret, e_if, e_asg, e_bname, e_btup, e_bsnil, e_bscons, e_par, e_fmt, e_js0, e_js, e_sl, e_nopart, e_part, e_frzd, e_frz1d, e_lc, e_for, e_seqI, e_rng1, e_rng2, e_enum, e_itT, e_itL, e_itS, e_start, e_yes, e_plain, o_add, o_addS, o_addT, o_addL, o_sub, o_mul, o_mulS, o_div, o_mod, o_pow, o_neg, o_lt, o_le, o_gt, o_ge, o_ltS, o_eqI, o_eqS, o_neI, o_neS, o_eqL, o_neL, o_lenS, o_lenT, o_lenL, o_lenR, o_int, o_intB, o_abs, o_max, o_min, o_st, o_ixL, o_ixT, o_ixR, o_ixS, o_tupL, o_tupT, o_all, o_slS, o_slT, o_slL, o_join, o_asT, o_asL, o_part, o_is, o_reprL, o_reprT, t_bl, t_lst, t_tup, e_asO, e_asL, e_stL, e_pure, v_o0, v_o1, at0, at1, at2, ix30, ix31, ix32, li_R, li_L, e_wp0, e_wp, e_ss, e_gnd, e_app, e_pop, o_isiI, o_isiS, o_isiT, o_isiL, o_isiB, o_isiN, o_isi2I, o_isi2S, o_isi2T, o_isi2L, o_isi2B, o_isi2N, o_inS1, o_inT, o_ninT, o_intT, o_split, e_chain, e_binF, o_cat, e_dictP, e_while, e_din0, e_dput, o_sortD, e_key, e_asD, e_asM, e_itO, v_o1d, isT, reduceCtorEq, List.any_cons, List.any_nil, List.all_cons, List.all_nil, Bool.or_false, Bool.false_or, Bool.or_true, Bool.true_or, flatD, List.map_cons, List.map_nil, List.length_cons, List.length_nil, Nat.reduceAdd, Nat.reduceSub, List.reduceReplicate, List.cons_append, List.nil_append, List.append_nil, List.getElem?_cons_zero, List.getElem?_cons_succ, List.set_cons_zero, List.set_cons_succ, Option.map_some, Option.bind_some, ends0, ends1, endsF, ite_true, if_true, if_false, Bool.false_eq_true, reduceIte, true_and, and_true, Bool.not_true, Bool.not_false, Bool.not_eq_true', decide_eq_true_eq, decide_eq_false_iff_not] at q
    simp only [e_var, e_c, e_bin, e_un, e_view, e_bnd, e_cons, e_nil, e_allD0, e_allD, e_allV0, e_allV1, e_allV2, e_cb, e_cf, e_on1, e_on2, e_test, e_truth, e_asB, e_asI, e_tup, e_lst, e_z, e_o, e_zg, e_og, e_ifE, e_and, e_or, e_not, e_andV, e_orV, e_notV, e_sm, e_smV, e_smf, e_call, e_callK, e_fnP, e_fnF, e_fnQ, e_next, e_seq, e_brk, e_cnt, e_drop, e_ret, e_if, e_asg, e_bname, e_btup, e_bsnil, e_bscons, e_par, e_fmt, e_js0, e_js, e_sl, e_nopart, e_part, e_frzd, e_frz1d, e_lc, e_for, e_seqI, e_rng1, e_rng2, e_enum, e_itT, e_itL, e_itS, e_start, e_yes, e_plain, o_add, o_addS, o_addT, o_addL, o_sub, o_mul, o_mulS, o_div, o_mod, o_pow, o_neg, o_lt, o_le, o_gt, o_ge, o_ltS, o_eqI, o_eqS, o_neI, o_neS, o_eqL, o_neL, o_lenS, o_lenT, o_lenL, o_lenR, o_int, o_intB, o_abs, o_max, o_min, o_st, o_ixL, o_ixT, o_ixR, o_ixS, o_tupL, o_tupT, o_all, o_slS, o_slT, o_slL, o_join, o_asT, o_asL, o_part, o_is, o_reprL, o_reprT, t_bl, t_lst, t_tup, e_asO, e_asL, e_stL, e_pure, v_o0, v_o1, at0, at1, at2, ix30, ix31, ix32, li_R, li_L, e_wp0, e_wp, e_ss, e_gnd, e_app, e_pop, o_isiI, o_isiS, o_isiT, o_isiL, o_isiB, o_isiN, o_isi2I, o_isi2S, o_isi2T, o_isi2L, o_isi2B, o_isi2N, o_inS1, o_inT, o_ninT, o_intT, o_split, e_chain, e_binF, o_cat, e_dictP, e_while, e_din0, e_dput, o_sortD, e_key, e_asD, e_asM, e_itO, v_o1d, isT, reduceCtorEq, List.any_cons, List.any_nil, List.all_cons, List.all_nil, Bool.or_false, Bool.false_or, Bool.or_true, Bool.true_or, flatD, List.map_cons, List.map_nil, List.length_cons, List.length_nil, Nat.reduceAdd, Nat.reduceSub, List.reduceReplicate, List.cons_append, List.nil_append, List.append_nil, List.getElem?_cons_zero, List.getElem?_cons_succ, List.set_cons_zero, List.set_cons_succ, Option.map_some, Option.bind_some, ends0, ends1, endsF, ite_true, if_true, if_false, Bool.false_eq_true, reduceIte, true_and, and_true, Bool.not_true, Bool.not_false, Bool.not_eq_true', decide_eq_true_eq, decide_eq_false_iff_not]
    exact words_ok (.inr rfl) (by omega) q
  · have e : (ls.map lotD).filterMap (fun d => match d with
      | .tup l => (allStr l).map fun ws => D.str (wrds ws)
      | _ => none) = (ls.map wrds).map .str := by
      rw [List.filterMap_map, List.map_map]
      have : ((fun d => match d with
        | .tup l => (allStr l).map fun ws => D.str (wrds ws)
        | _ => none) ∘ lotD) = fun l => some (D.str (wrds l)) := by
        funext l
        show (allStr (l.map D.str)).map _ = _
        rw [allStr_map]
        rfl
      rw [this, List.filterMap_eq_map']
      rfl
    rw [List.nil_append, e, allStr_map]
    have hs := sum_le (ns := ls.map wrds) (n := 500) fun s hs => by
      obtain ⟨l, hm, rfl⟩ := List.mem_map.mp hs
      exact wrds_len (h l hm) hn
    rw [List.length_map] at hs
    refine ⟨?_, k⟩
    rw [List.length_map]
    omega
end K28
end

section
set_option maxRecDepth 100000
namespace K28
open PySem PySem.Spec L2 Dl
open PyProof.Rows hiding St
/-- texts of so many letters each -/
structure Wds (n : Nat) (l : List (List Nat)) : Prop where
  len : ∀ w ∈ l, w.length = n
  az : ∀ w ∈ l, ∀ c ∈ w, 97 ≤ c ∧ c ≤ 122
theorem Wins.wds {n : Nat} {l : List (List Nat)} (h : Wins n l) : Wds n l := ⟨h.len, h.az⟩
theorem Lot.wds {n : Nat} {l : List (List Nat)} (h : Lot n l) : Wds n l := ⟨h.len, h.az⟩
theorem Wds.ok {n : Nat} {l : List (List Nat)} (h : Wds n l) : okD 64 (.lst (l.map .str)) = true := okL_map (n := 63) fun w hw => okS fun c hc => by have := h.az w hw c hc; omega
theorem Wds.sub {n : Nat} {l k : List (List Nat)} (h : Wds n l) (s : ∀ w ∈ k, w ∈ l) : Wds n k := ⟨fun w hw => h.len w (s w hw), fun w hw => h.az w (s w hw)⟩
theorem eqv_nil (l : List D) : eqv (.lst l) (.lst []) = l.isEmpty := by
  cases l <;> rfl
/-- [one for one in ws if c] -/
def pickF (c : List Nat → Bool) (d : D) : Option D := match d with
  | .str w => if c w = true then some (.str w) else none
  | _ => none
theorem pick_map (c : List Nat → Bool) : ∀ ws : List (List Nat), (ws.map D.str).filterMap (pickF c) = (ws.filter c).map .str
  | [] => rfl
  | w :: ws => by
    have ih := pick_map c ws
    rw [List.map_cons, List.filterMap_cons, List.filter_cons]
    unfold pickF at ih ⊢
    dsimp only
    by_cases h : c w = true
    · rw [if_pos h, if_pos h, ih]
      rfl
    · rw [if_neg h, if_neg h, ih]
theorem lc_filter {b : BD} {t : TD} {e : ED} {ρ : Rho} {m : Mu} {P : List D → Mu → Prop} {ws : List (List Nat)} (c : List Nat → Bool)
    (h : ∀ w ∈ ws, ∀ (Q : SV → Mu → Prop) (Q' : Mu → Prop), (if c w = true then Q (.d (.str w)) m else Q' m) → b (.d (.str w)) ρ m fun ρ1 => t noR ρ1 m fun c m1 => if c = true then e noR ρ1 m1 Q else Q' m1)
    (hl : ws.length ≤ 16777216) (hP : P ((ws.filter c).map .str) m) : lcGo (fun _ => True) b t e ρ P (ws.map .str) [] m := by
  refine lc_pure (f := pickF c) trivial _ [] (fun d hd Q Q' q => ?_) (by rw [List.length_nil, List.length_map]; omega) ?_
  · obtain ⟨w, hw, rfl⟩ := List.mem_map.mp hd
    refine h w hw Q Q' ?_
    simp only [pickF] at q
    by_cases hc : c w = true
    · rw [if_pos hc] at q ⊢
      exact q
    · rw [if_neg hc] at q ⊢
      exact q
  · rw [List.nil_append, pick_map]
    exact hP
theorem cut_one {α : Type} {l : List α} : cut l (some 1) none = l.drop 1 := cut_from (i := 1)
theorem is_open_ok {n : Nat} {ls steps inner : List (List Nat)} {i : Nat} {P : D → Prop} (hL : Lot n ls) (hn : n ≤ 6) (i1 : 1 ≤ i) (i2 : i ≤ steps.length) (i3 : i ≤ inner.length) (h : ∀ b, P (.bl b)) : g__law_is_open [lotD ls, .lst (steps.map .str), .lst (inner.map .str), .int i] P := by
  refine ⟨rfl, ?_⟩
  have e : ((i : Int) - 1) = ((i - 1 : Nat) : Int) := by omega
  have a1 := at_nat (l := inner.map D.str) (i := i - 1) (by rw [List.length_map]; omega)
  have a2 := at_nat (l := steps.map D.str) (i := i - 1) (by rw [List.length_map]; omega)
  have hf := hL.few
  simp only [lotD, r__law_is_open, e_var, e_c, e_bin, e_un, e_view, e_bnd, e_cons, e_nil, e_allD0, e_allD, e_allV0, e_allV1, e_allV2, e_cb, e_cf, e_on1, e_on2, e_test, e_truth, e_asB, e_asI, e_tup, e_lst, e_z, e_o, e_zg, e_og, e_ifE, e_and, e_or, e_not, e_andV, e_orV, e_notV, e_sm, e_smV, e_smf, e_call, e_callK, e_fnP, e_fnF, e_fnQ, e_next, e_seq, e_brk, e_cnt, e_drop, e_ret, e_if, e_asg, e_bname, e_btup, e_bsnil, e_bscons, e_par, e_fmt, e_js0, e_js, e_sl, e_nopart, e_part, e_frzd, e_frz1d, e_lc, e_for, e_seqI, e_rng1, e_rng2, e_enum, e_itT, e_itL, e_itS, e_start, e_yes, e_plain, o_add, o_addS, o_addT, o_addL, o_sub, o_mul, o_mulS, o_div, o_mod, o_pow, o_neg, o_lt, o_le, o_gt, o_ge, o_ltS, o_eqI, o_eqS, o_neI, o_neS, o_eqL, o_neL, o_lenS, o_lenT, o_lenL, o_lenR, o_int, o_intB, o_abs, o_max, o_min, o_st, o_ixL, o_ixT, o_ixR, o_ixS, o_tupL, o_tupT, o_all, o_slS, o_slT, o_slL, o_join, o_asT, o_asL, o_part, o_is, o_reprL, o_reprT, t_bl, t_lst, t_tup, e_asO, e_asL, e_stL, e_pure, v_o0, v_o1, at0, at1, at2, ix30, ix31, ix32, li_R, li_L, e_wp0, e_wp, e_ss, e_gnd, e_app, e_pop, o_isiI, o_isiS, o_isiT, o_isiL, o_isiB, o_isiN, o_isi2I, o_isi2S, o_isi2T, o_isi2L, o_isi2B, o_isi2N, o_inS1, o_inT, o_ninT, o_intT, o_split, e_chain, e_binF, o_cat, e_dictP, e_while, e_din0, e_dput, o_sortD, e_key, e_asD, e_asM, e_itO, v_o1d, isT, reduceCtorEq, List.any_cons, List.any_nil, List.all_cons, List.all_nil, Bool.or_false, Bool.false_or, Bool.or_true, Bool.true_or, flatD, List.map_cons, List.map_nil, List.length_cons, List.length_nil, Nat.reduceAdd, Nat.reduceSub, List.reduceReplicate, List.cons_append, List.nil_append, List.append_nil, List.getElem?_cons_zero, List.getElem?_cons_succ, List.set_cons_zero, List.set_cons_succ, Option.map_some, Option.bind_some, ends0, ends1, endsF, ite_true, if_true, if_false, Bool.false_eq_true, reduceIte, true_and, and_true, Bool.not_true, Bool.not_false, Bool.not_eq_true', decide_eq_true_eq, decide_eq_false_iff_not]
  refine lc_filter (fun w => decide (w.drop 1 = inner[i - 1]'(by omega)) && !decide (w = steps[i - 1]'(by omega))) (fun w hw Q Q' q => ?_) (by omega) ⟨by decide, (hL.wds.sub fun w hw => (List.mem_filter.mp hw).1).ok, rfl, h _⟩
  have hl := hL.len w hw
  simp only [e_var, e_c, e_bin, e_un, e_view, e_bnd, e_cons, e_nil, e_allD0, e_allD, e_allV0, e_allV1, e_allV2, e_cb, e_cf, e_on1, e_on2, e_test, e_truth, e_asB, e_asI, e_tup, e_lst, e_z, e_o, e_zg, e_og, e_ifE, e_and, e_or, e_not, e_andV, e_orV, e_notV, e_sm, e_smV, e_smf, e_call, e_callK, e_fnP, e_fnF, e_fnQ, e_next, e_seq, e_brk, e_cnt, e_drop, e_ret, e_if, e_asg, e_bname, e_btup, e_bsnil, e_bscons, e_par, e_fmt, e_js0, e_js, e_sl, e_nopart, e_part, e_frzd, e_frz1d, e_lc, e_for, e_seqI, e_rng1, e_rng2, e_enum, e_itT, e_itL, e_itS, e_start, e_yes, e_plain, o_add, o_addS, o_addT, o_addL, o_sub, o_mul, o_mulS, o_div, o_mod, o_pow, o_neg, o_lt, o_le, o_gt, o_ge, o_ltS, o_eqI, o_eqS, o_neI, o_neS, o_eqL, o_neL, o_lenS, o_lenT, o_lenL, o_lenR, o_int, o_intB, o_abs, o_max, o_min, o_st, o_ixL, o_ixT, o_ixR, o_ixS, o_tupL, o_tupT, o_all, o_slS, o_slT, o_slL, o_join, o_asT, o_asL, o_part, o_is, o_reprL, o_reprT, t_bl, t_lst, t_tup, e_asO, e_asL, e_stL, e_pure, v_o0, v_o1, at0, at1, at2, ix30, ix31, ix32, li_R, li_L, e_wp0, e_wp, e_ss, e_gnd, e_app, e_pop, o_isiI, o_isiS, o_isiT, o_isiL, o_isiB, o_isiN, o_isi2I, o_isi2S, o_isi2T, o_isi2L, o_isi2B, o_isi2N, o_inS1, o_inT, o_ninT, o_intT, o_split, e_chain, e_binF, o_cat, e_dictP, e_while, e_din0, e_dput, o_sortD, e_key, e_asD, e_asM, e_itO, v_o1d, isT, reduceCtorEq, List.any_cons, List.any_nil, List.all_cons, List.all_nil, Bool.or_false, Bool.false_or, Bool.or_true, Bool.true_or, flatD, List.map_cons, List.map_nil, List.length_cons, List.length_nil, Nat.reduceAdd, Nat.reduceSub, List.reduceReplicate, List.cons_append, List.nil_append, List.append_nil, List.getElem?_cons_zero, List.getElem?_cons_succ, List.set_cons_zero, List.set_cons_succ, Option.map_some, Option.bind_some, ends0, ends1, endsF, ite_true, if_true, if_false, Bool.false_eq_true, reduceIte, true_and, and_true, Bool.not_true, Bool.not_false, Bool.not_eq_true', decide_eq_true_eq, decide_eq_false_iff_not]
  rw [e, a1, a2, cut_one]
  simp only [e_var, e_c, e_bin, e_un, e_view, e_bnd, e_cons, e_nil, e_allD0, e_allD, e_allV0, e_allV1, e_allV2, e_cb, e_cf, e_on1, e_on2, e_test, e_truth, e_asB, e_asI, e_tup, e_lst, e_z, e_o, e_zg, e_og, e_ifE, e_and, e_or, e_not, e_andV, e_orV, e_notV, e_sm, e_smV, e_smf, e_call, e_callK, e_fnP, e_fnF, e_fnQ, e_next, e_seq, e_brk, e_cnt, e_drop, e_ret, e_if, e_asg, e_bname, e_btup, e_bsnil, e_bscons, e_par, e_fmt, e_js0, e_js, e_sl, e_nopart, e_part, e_frzd, e_frz1d, e_lc, e_for, e_seqI, e_rng1, e_rng2, e_enum, e_itT, e_itL, e_itS, e_start, e_yes, e_plain, o_add, o_addS, o_addT, o_addL, o_sub, o_mul, o_mulS, o_div, o_mod, o_pow, o_neg, o_lt, o_le, o_gt, o_ge, o_ltS, o_eqI, o_eqS, o_neI, o_neS, o_eqL, o_neL, o_lenS, o_lenT, o_lenL, o_lenR, o_int, o_intB, o_abs, o_max, o_min, o_st, o_ixL, o_ixT, o_ixR, o_ixS, o_tupL, o_tupT, o_all, o_slS, o_slT, o_slL, o_join, o_asT, o_asL, o_part, o_is, o_reprL, o_reprT, t_bl, t_lst, t_tup, e_asO, e_asL, e_stL, e_pure, v_o0, v_o1, at0, at1, at2, ix30, ix31, ix32, li_R, li_L, e_wp0, e_wp, e_ss, e_gnd, e_app, e_pop, o_isiI, o_isiS, o_isiT, o_isiL, o_isiB, o_isiN, o_isi2I, o_isi2S, o_isi2T, o_isi2L, o_isi2B, o_isi2N, o_inS1, o_inT, o_ninT, o_intT, o_split, e_chain, e_binF, o_cat, e_dictP, e_while, e_din0, e_dput, o_sortD, e_key, e_asD, e_asM, e_itO, v_o1d, isT, reduceCtorEq, List.any_cons, List.any_nil, List.all_cons, List.all_nil, Bool.or_false, Bool.false_or, Bool.or_true, Bool.true_or, flatD, List.map_cons, List.map_nil, List.length_cons, List.length_nil, Nat.reduceAdd, Nat.reduceSub, List.reduceReplicate, List.cons_append, List.nil_append, List.append_nil, List.getElem?_cons_zero, List.getElem?_cons_succ, List.set_cons_zero, List.set_cons_succ, Option.map_some, Option.bind_some, ends0, ends1, endsF, ite_true, if_true, if_false, Bool.false_eq_true, reduceIte, true_and, and_true, Bool.not_true, Bool.not_false, Bool.not_eq_true', decide_eq_true_eq, decide_eq_false_iff_not, List.getElem_map]
  refine ⟨by omega, ?_⟩
  simp only [Bool.and_eq_true, decide_eq_true_eq, Bool.not_eq_true', decide_eq_false_iff_not] at q
  by_cases h1 : w.drop 1 = inner[i - 1]'(by omega)
  · rw [if_pos h1]
    by_cases h2 : w = steps[i - 1]'(by omega)
    · rw [if_neg (fun z => z.2 h2)] at q
      rw [if_neg (fun z => z h2)]
      exact q
    · rw [if_pos ⟨h1, h2⟩] at q
      rw [if_pos h2]
      exact q
  · rw [if_neg (fun z => h1 z.1)] at q
    rw [if_neg h1]
    exact q
theorem inner_ok {n : Nat} {s : List Nat} {P : D → Prop} (n1 : 1 ≤ n) (hn : n ≤ 6) (h1 : n ≤ s.length) (h2 : s.length ≤ 1000)
    (k : ∀ steps inner : List (List Nat), steps.length = s.length - n + 1 → inner.length = s.length - n → P (.lst [.lst (steps.map .str), .lst (inner.map .str)])) : g__law_inner [.int n, .str s] P := by
  refine ⟨rfl, ?_⟩
  have e : ((s.length : Int) - (n : Int) + 1) = ((s.length - n + 1 : Nat) : Int) := by omega
  simp only [r__law_inner, e_var, e_c, e_bin, e_un, e_view, e_bnd, e_cons, e_nil, e_allD0, e_allD, e_allV0, e_allV1, e_allV2, e_cb, e_cf, e_on1, e_on2, e_test, e_truth, e_asB, e_asI, e_tup, e_lst, e_z, e_o, e_zg, e_og, e_ifE, e_and, e_or, e_not, e_andV, e_orV, e_notV, e_sm, e_smV, e_smf, e_call, e_callK, e_fnP, e_fnF, e_fnQ, e_next, e_seq, e_brk, e_cnt, e_drop, e_ret, e_if, e_asg, e_bname, e_btup, e_bsnil, e_bscons, e_par, e_fmt, e_js0, e_js, e_sl, e_nopart, e_part, e_frzd, e_frz1d, e_lc, e_for, e_seqI, e_rng1, e_rng2, e_enum, e_itT, e_itL, e_itS, e_start, e_yes, e_plain, o_add, o_addS, o_addT, o_addL, o_sub, o_mul, o_mulS, o_div, o_mod, o_pow, o_neg, o_lt, o_le, o_gt, o_ge, o_ltS, o_eqI, o_eqS, o_neI, o_neS, o_eqL, o_neL, o_lenS, o_lenT, o_lenL, o_lenR, o_int, o_intB, o_abs, o_max, o_min, o_st, o_ixL, o_ixT, o_ixR, o_ixS, o_tupL, o_tupT, o_all, o_slS, o_slT, o_slL, o_join, o_asT, o_asL, o_part, o_is, o_reprL, o_reprT, t_bl, t_lst, t_tup, e_asO, e_asL, e_stL, e_pure, v_o0, v_o1, at0, at1, at2, ix30, ix31, ix32, li_R, li_L, e_wp0, e_wp, e_ss, e_gnd, e_app, e_pop, o_isiI, o_isiS, o_isiT, o_isiL, o_isiB, o_isiN, o_isi2I, o_isi2S, o_isi2T, o_isi2L, o_isi2B, o_isi2N, o_inS1, o_inT, o_ninT, o_intT, o_split, e_chain, e_binF, o_cat, e_dictP, e_while, e_din0, e_dput, o_sortD, e_key, e_asD, e_asM, e_itO, v_o1d, isT, reduceCtorEq, List.any_cons, List.any_nil, List.all_cons, List.all_nil, Bool.or_false, Bool.false_or, Bool.or_true, Bool.true_or, flatD, List.map_cons, List.map_nil, List.length_cons, List.length_nil, Nat.reduceAdd, Nat.reduceSub, List.reduceReplicate, List.cons_append, List.nil_append, List.append_nil, List.getElem?_cons_zero, List.getElem?_cons_succ, List.set_cons_zero, List.set_cons_succ, Option.map_some, Option.bind_some, ends0, ends1, endsF, ite_true, if_true, if_false, Bool.false_eq_true, reduceIte, true_and, and_true, Bool.not_true, Bool.not_false, Bool.not_eq_true', decide_eq_true_eq, decide_eq_false_iff_not]
  rw [e, Int.toNat_natCast]
  refine ⟨by omega, by omega, by omega, ?_⟩
  refine lc_pure (f := fun d => match d with
    | .int i => some (.str ((s.drop i.toNat).take n))
    | _ => none) trivial _ _ (fun d hd Q Q' h => ?_) (by rw [intsOf_len, List.length_nil]; omega) ?_
  · obtain ⟨i, hi, rfl⟩ := intsOf_mem hd
    have e2 : ((i : Int) + (n : Int)) = ((i + n : Nat) : Int) := by omega
    simp only [e_var, e_c, e_bin, e_un, e_view, e_bnd, e_cons, e_nil, e_allD0, e_allD, e_allV0, e_allV1, e_allV2, e_cb, e_cf, e_on1, e_on2, e_test, e_truth, e_asB, e_asI, e_tup, e_lst, e_z, e_o, e_zg, e_og, e_ifE, e_and, e_or, e_not, e_andV, e_orV, e_notV, e_sm, e_smV, e_smf, e_call, e_callK, e_fnP, e_fnF, e_fnQ, e_next, e_seq, e_brk, e_cnt, e_drop, e_ret, e_if, e_asg, e_bname, e_btup, e_bsnil, e_bscons, e_par, e_fmt, e_js0, e_js, e_sl, e_nopart, e_part, e_frzd, e_frz1d, e_lc, e_for, e_seqI, e_rng1, e_rng2, e_enum, e_itT, e_itL, e_itS, e_start, e_yes, e_plain, o_add, o_addS, o_addT, o_addL, o_sub, o_mul, o_mulS, o_div, o_mod, o_pow, o_neg, o_lt, o_le, o_gt, o_ge, o_ltS, o_eqI, o_eqS, o_neI, o_neS, o_eqL, o_neL, o_lenS, o_lenT, o_lenL, o_lenR, o_int, o_intB, o_abs, o_max, o_min, o_st, o_ixL, o_ixT, o_ixR, o_ixS, o_tupL, o_tupT, o_all, o_slS, o_slT, o_slL, o_join, o_asT, o_asL, o_part, o_is, o_reprL, o_reprT, t_bl, t_lst, t_tup, e_asO, e_asL, e_stL, e_pure, v_o0, v_o1, at0, at1, at2, ix30, ix31, ix32, li_R, li_L, e_wp0, e_wp, e_ss, e_gnd, e_app, e_pop, o_isiI, o_isiS, o_isiT, o_isiL, o_isiB, o_isiN, o_isi2I, o_isi2S, o_isi2T, o_isi2L, o_isi2B, o_isi2N, o_inS1, o_inT, o_ninT, o_intT, o_split, e_chain, e_binF, o_cat, e_dictP, e_while, e_din0, e_dput, o_sortD, e_key, e_asD, e_asM, e_itO, v_o1d, isT, reduceCtorEq, List.any_cons, List.any_nil, List.all_cons, List.all_nil, Bool.or_false, Bool.false_or, Bool.or_true, Bool.true_or, flatD, List.map_cons, List.map_nil, List.length_cons, List.length_nil, Nat.reduceAdd, Nat.reduceSub, List.reduceReplicate, List.cons_append, List.nil_append, List.append_nil, List.getElem?_cons_zero, List.getElem?_cons_succ, List.set_cons_zero, List.set_cons_succ, Option.map_some, Option.bind_some, ends0, ends1, endsF, ite_true, if_true, if_false, Bool.false_eq_true, reduceIte, true_and, and_true, Bool.not_true, Bool.not_false, Bool.not_eq_true', decide_eq_true_eq, decide_eq_false_iff_not]
    rw [e2, cut_mid (by omega) (by omega), show i + n - i = n by omega]
    exact ⟨by omega, h⟩
  · rw [List.nil_append, fm_ints (f := fun i => .str ((s.drop i).take n)) (fun i => rfl)]
    have e3 : (List.range (s.length - n + 1)).map (fun i => D.str ((s.drop i).take n)) = ((List.range (s.length - n + 1)).map fun i => (s.drop i).take n).map .str := by
      rw [List.map_map]
      rfl
    rw [e3]
    generalize hst : (List.range (s.length - n + 1)).map (fun i => (s.drop i).take n) = steps
    have hl : steps.length = s.length - n + 1 := by rw [← hst, List.length_map, List.length_range]
    have hm : ∀ w ∈ steps, w.length ≤ 6 := fun w hw => by
      rw [← hst] at hw
      obtain ⟨i, _, rfl⟩ := List.mem_map.mp hw
      rw [List.length_take]
      omega
    rw [cut_but, ← List.map_dropLast]
    refine lc_pure (f := fun d => match d with
      | .str w => some (.str (w.drop 1))
      | _ => none) trivial _ _ (fun d hd Q Q' h => ?_) (by rw [List.length_map, List.length_dropLast, List.length_nil]; omega) ?_
    · obtain ⟨w, hw, rfl⟩ := List.mem_map.mp hd
      have := hm w (List.dropLast_subset _ hw)
      simp only [e_var, e_c, e_bin, e_un, e_view, e_bnd, e_cons, e_nil, e_allD0, e_allD, e_allV0, e_allV1, e_allV2, e_cb, e_cf, e_on1, e_on2, e_test, e_truth, e_asB, e_asI, e_tup, e_lst, e_z, e_o, e_zg, e_og, e_ifE, e_and, e_or, e_not, e_andV, e_orV, e_notV, e_sm, e_smV, e_smf, e_call, e_callK, e_fnP, e_fnF, e_fnQ, e_next, e_seq, e_brk, e_cnt, e_drop, e_ret, e_if, e_asg, e_bname, e_btup, e_bsnil, e_bscons, e_par, e_fmt, e_js0, e_js, e_sl, e_nopart, e_part, e_frzd, e_frz1d, e_lc, e_for, e_seqI, e_rng1, e_rng2, e_enum, e_itT, e_itL, e_itS, e_start, e_yes, e_plain, o_add, o_addS, o_addT, o_addL, o_sub, o_mul, o_mulS, o_div, o_mod, o_pow, o_neg, o_lt, o_le, o_gt, o_ge, o_ltS, o_eqI, o_eqS, o_neI, o_neS, o_eqL, o_neL, o_lenS, o_lenT, o_lenL, o_lenR, o_int, o_intB, o_abs, o_max, o_min, o_st, o_ixL, o_ixT, o_ixR, o_ixS, o_tupL, o_tupT, o_all, o_slS, o_slT, o_slL, o_join, o_asT, o_asL, o_part, o_is, o_reprL, o_reprT, t_bl, t_lst, t_tup, e_asO, e_asL, e_stL, e_pure, v_o0, v_o1, at0, at1, at2, ix30, ix31, ix32, li_R, li_L, e_wp0, e_wp, e_ss, e_gnd, e_app, e_pop, o_isiI, o_isiS, o_isiT, o_isiL, o_isiB, o_isiN, o_isi2I, o_isi2S, o_isi2T, o_isi2L, o_isi2B, o_isi2N, o_inS1, o_inT, o_ninT, o_intT, o_split, e_chain, e_binF, o_cat, e_dictP, e_while, e_din0, e_dput, o_sortD, e_key, e_asD, e_asM, e_itO, v_o1d, isT, reduceCtorEq, List.any_cons, List.any_nil, List.all_cons, List.all_nil, Bool.or_false, Bool.false_or, Bool.or_true, Bool.true_or, flatD, List.map_cons, List.map_nil, List.length_cons, List.length_nil, Nat.reduceAdd, Nat.reduceSub, List.reduceReplicate, List.cons_append, List.nil_append, List.append_nil, List.getElem?_cons_zero, List.getElem?_cons_succ, List.set_cons_zero, List.set_cons_succ, Option.map_some, Option.bind_some, ends0, ends1, endsF, ite_true, if_true, if_false, Bool.false_eq_true, reduceIte, true_and, and_true, Bool.not_true, Bool.not_false, Bool.not_eq_true', decide_eq_true_eq, decide_eq_false_iff_not]
      rw [cut_one]
      exact ⟨by omega, h⟩
    · have e4 : (steps.dropLast.map D.str).filterMap (fun d => match d with
        | .str w => some (D.str (w.drop 1))
        | _ => none) = (steps.dropLast.map (·.drop 1)).map .str := by
        rw [List.filterMap_map, List.map_map]
        have : ((fun d => match d with
          | .str w => some (D.str (w.drop 1))
          | _ => none) ∘ D.str) = fun w => some (D.str (w.drop 1)) := rfl
        rw [this, List.filterMap_eq_map']
        rfl
      rw [List.nil_append, e4]
      exact ⟨by decide, k steps (steps.dropLast.map (·.drop 1)) hl (by rw [List.length_map, List.length_dropLast]; omega)⟩
theorem walk_ok {N : Nat} {o : MO} {n : Nat} {ws : List (List Nat)} {most : Int} {P : D → MO → Prop} (ho : Pl N o) (hN : N ≤ 2 ^ 59) (n2 : 2 ≤ n) (hn : n ≤ 6) (hw : Wins n ws) (m1 : 1 ≤ most) (m2 : most ≤ 20)
    (k : ∀ s o', n ≤ s.length → s.length ≤ n + 20 → Pl (N + 50) o' → P (.str s) o') : g__law_walk o [.int n, .tup (ws.map .str), .int most] P := by
  refine ⟨rfl, ?_⟩
  have hf := hw.few
  simp only [r__law_walk, e_var, e_c, e_bin, e_un, e_view, e_bnd, e_cons, e_nil, e_allD0, e_allD, e_allV0, e_allV1, e_allV2, e_cb, e_cf, e_on1, e_on2, e_test, e_truth, e_asB, e_asI, e_tup, e_lst, e_z, e_o, e_zg, e_og, e_ifE, e_and, e_or, e_not, e_andV, e_orV, e_notV, e_sm, e_smV, e_smf, e_call, e_callK, e_fnP, e_fnF, e_fnQ, e_next, e_seq, e_brk, e_cnt, e_drop, e_ret, e_if, e_asg, e_bname, e_btup, e_bsnil, e_bscons, e_par, e_fmt, e_js0, e_js, e_sl, e_nopart, e_part, e_frzd, e_frz1d, e_lc, e_for, e_seqI, e_rng1, e_rng2, e_enum, e_itT, e_itL, e_itS, e_start, e_yes, e_plain, o_add, o_addS, o_addT, o_addL, o_sub, o_mul, o_mulS, o_div, o_mod, o_pow, o_neg, o_lt, o_le, o_gt, o_ge, o_ltS, o_eqI, o_eqS, o_neI, o_neS, o_eqL, o_neL, o_lenS, o_lenT, o_lenL, o_lenR, o_int, o_intB, o_abs, o_max, o_min, o_st, o_ixL, o_ixT, o_ixR, o_ixS, o_tupL, o_tupT, o_all, o_slS, o_slT, o_slL, o_join, o_asT, o_asL, o_part, o_is, o_reprL, o_reprT, t_bl, t_lst, t_tup, e_asO, e_asL, e_stL, e_pure, v_o0, v_o1, at0, at1, at2, ix30, ix31, ix32, li_R, li_L, e_wp0, e_wp, e_ss, e_gnd, e_app, e_pop, o_isiI, o_isiS, o_isiT, o_isiL, o_isiB, o_isiN, o_isi2I, o_isi2S, o_isi2T, o_isi2L, o_isi2B, o_isi2N, o_inS1, o_inT, o_ninT, o_intT, o_split, e_chain, e_binF, o_cat, e_dictP, e_while, e_din0, e_dput, o_sortD, e_key, e_asD, e_asM, e_itO, v_o1d, isT, reduceCtorEq, List.any_cons, List.any_nil, List.all_cons, List.all_nil, Bool.or_false, Bool.false_or, Bool.or_true, Bool.true_or, flatD, List.map_cons, List.map_nil, List.length_cons, List.length_nil, Nat.reduceAdd, Nat.reduceSub, List.reduceReplicate, List.cons_append, List.nil_append, List.append_nil, List.getElem?_cons_zero, List.getElem?_cons_succ, List.set_cons_zero, List.set_cons_succ, Option.map_some, Option.bind_some, ends0, ends1, endsF, ite_true, if_true, if_false, Bool.false_eq_true, reduceIte, true_and, and_true, Bool.not_true, Bool.not_false, Bool.not_eq_true', decide_eq_true_eq, decide_eq_false_iff_not]
  refine ⟨ho.pure, pick_ok ho (by omega) (by simpa using hw.ne) (by rw [List.length_map]; omega) _ (.inr rfl) fun d o1 hd p1 => ⟨p1.pure, scoop_ok p1 (by omega) (by omega) (by omega) fun j o2 j0 j1 p2 => ?_⟩⟩
  obtain ⟨w, hw1, rfl⟩ := List.mem_map.mp hd
  have hwl := hw.len w hw1
  simp only [e_var, e_c, e_bin, e_un, e_view, e_bnd, e_cons, e_nil, e_allD0, e_allD, e_allV0, e_allV1, e_allV2, e_cb, e_cf, e_on1, e_on2, e_test, e_truth, e_asB, e_asI, e_tup, e_lst, e_z, e_o, e_zg, e_og, e_ifE, e_and, e_or, e_not, e_andV, e_orV, e_notV, e_sm, e_smV, e_smf, e_call, e_callK, e_fnP, e_fnF, e_fnQ, e_next, e_seq, e_brk, e_cnt, e_drop, e_ret, e_if, e_asg, e_bname, e_btup, e_bsnil, e_bscons, e_par, e_fmt, e_js0, e_js, e_sl, e_nopart, e_part, e_frzd, e_frz1d, e_lc, e_for, e_seqI, e_rng1, e_rng2, e_enum, e_itT, e_itL, e_itS, e_start, e_yes, e_plain, o_add, o_addS, o_addT, o_addL, o_sub, o_mul, o_mulS, o_div, o_mod, o_pow, o_neg, o_lt, o_le, o_gt, o_ge, o_ltS, o_eqI, o_eqS, o_neI, o_neS, o_eqL, o_neL, o_lenS, o_lenT, o_lenL, o_lenR, o_int, o_intB, o_abs, o_max, o_min, o_st, o_ixL, o_ixT, o_ixR, o_ixS, o_tupL, o_tupT, o_all, o_slS, o_slT, o_slL, o_join, o_asT, o_asL, o_part, o_is, o_reprL, o_reprT, t_bl, t_lst, t_tup, e_asO, e_asL, e_stL, e_pure, v_o0, v_o1, at0, at1, at2, ix30, ix31, ix32, li_R, li_L, e_wp0, e_wp, e_ss, e_gnd, e_app, e_pop, o_isiI, o_isiS, o_isiT, o_isiL, o_isiB, o_isiN, o_isi2I, o_isi2S, o_isi2T, o_isi2L, o_isi2B, o_isi2N, o_inS1, o_inT, o_ninT, o_intT, o_split, e_chain, e_binF, o_cat, e_dictP, e_while, e_din0, e_dput, o_sortD, e_key, e_asD, e_asM, e_itO, v_o1d, isT, reduceCtorEq, List.any_cons, List.any_nil, List.all_cons, List.all_nil, Bool.or_false, Bool.false_or, Bool.or_true, Bool.true_or, flatD, List.map_cons, List.map_nil, List.length_cons, List.length_nil, Nat.reduceAdd, Nat.reduceSub, List.reduceReplicate, List.cons_append, List.nil_append, List.append_nil, List.getElem?_cons_zero, List.getElem?_cons_succ, List.set_cons_zero, List.set_cons_succ, Option.map_some, Option.bind_some, ends0, ends1, endsF, ite_true, if_true, if_false, Bool.false_eq_true, reduceIte, true_and, and_true, Bool.not_true, Bool.not_false, Bool.not_eq_true', decide_eq_true_eq, decide_eq_false_iff_not]
  refine ⟨by omega, by omega, ?_⟩
  refine for_inv (I := fun l ρ m => ∃ (o' : MO) (s : List Nat) (x y z : Option SV), m = [o'] ∧ ρ = [some (.o 0), some (.d (.int n)), some (.d (.tup (ws.map .str))), some (.d (.int most)), some (.d (.str s)), x, y, z] ∧ Pl (N + 22 - l.length) o' ∧ n ≤ s.length ∧ s.length + l.length ≤ n + 20 ∧ l.length ≤ 20)
    (fun d l ρ m Nx hI nx => ?_) (fun ρ m hI => ?_) _ _ _ ⟨o2, w, none, none, none, rfl, rfl, p2.up (by rw [intsOf_len]; omega), by omega, by rw [intsOf_len]; omega, by rw [intsOf_len]; omega⟩
  · obtain ⟨o', s, x, y, z, rfl, rfl, po, s1, s2, l2⟩ := hI
    rw [List.length_cons] at po s2 l2
    have e1 : ((s.length : Int) - (n : Int) + 1) = ((s.length - n + 1 : Nat) : Int) := by omega
    simp only [e_var, e_c, e_bin, e_un, e_view, e_bnd, e_cons, e_nil, e_allD0, e_allD, e_allV0, e_allV1, e_allV2, e_cb, e_cf, e_on1, e_on2, e_test, e_truth, e_asB, e_asI, e_tup, e_lst, e_z, e_o, e_zg, e_og, e_ifE, e_and, e_or, e_not, e_andV, e_orV, e_notV, e_sm, e_smV, e_smf, e_call, e_callK, e_fnP, e_fnF, e_fnQ, e_next, e_seq, e_brk, e_cnt, e_drop, e_ret, e_if, e_asg, e_bname, e_btup, e_bsnil, e_bscons, e_par, e_fmt, e_js0, e_js, e_sl, e_nopart, e_part, e_frzd, e_frz1d, e_lc, e_for, e_seqI, e_rng1, e_rng2, e_enum, e_itT, e_itL, e_itS, e_start, e_yes, e_plain, o_add, o_addS, o_addT, o_addL, o_sub, o_mul, o_mulS, o_div, o_mod, o_pow, o_neg, o_lt, o_le, o_gt, o_ge, o_ltS, o_eqI, o_eqS, o_neI, o_neS, o_eqL, o_neL, o_lenS, o_lenT, o_lenL, o_lenR, o_int, o_intB, o_abs, o_max, o_min, o_st, o_ixL, o_ixT, o_ixR, o_ixS, o_tupL, o_tupT, o_all, o_slS, o_slT, o_slL, o_join, o_asT, o_asL, o_part, o_is, o_reprL, o_reprT, t_bl, t_lst, t_tup, e_asO, e_asL, e_stL, e_pure, v_o0, v_o1, at0, at1, at2, ix30, ix31, ix32, li_R, li_L, e_wp0, e_wp, e_ss, e_gnd, e_app, e_pop, o_isiI, o_isiS, o_isiT, o_isiL, o_isiB, o_isiN, o_isi2I, o_isi2S, o_isi2T, o_isi2L, o_isi2B, o_isi2N, o_inS1, o_inT, o_ninT, o_intT, o_split, e_chain, e_binF, o_cat, e_dictP, e_while, e_din0, e_dput, o_sortD, e_key, e_asD, e_asM, e_itO, v_o1d, isT, reduceCtorEq, List.any_cons, List.any_nil, List.all_cons, List.all_nil, Bool.or_false, Bool.false_or, Bool.or_true, Bool.true_or, flatD, List.map_cons, List.map_nil, List.length_cons, List.length_nil, Nat.reduceAdd, Nat.reduceSub, List.reduceReplicate, List.cons_append, List.nil_append, List.append_nil, List.getElem?_cons_zero, List.getElem?_cons_succ, List.set_cons_zero, List.set_cons_succ, Option.map_some, Option.bind_some, ends0, ends1, endsF, ite_true, if_true, if_false, Bool.false_eq_true, reduceIte, true_and, and_true, Bool.not_true, Bool.not_false, Bool.not_eq_true', decide_eq_true_eq, decide_eq_false_iff_not]
    refine lc_filter (fun u => decide (u.dropLast = s.drop (s.length - n + 1))) (fun u hu Q Q' q => ?_) (by omega) ?_
    · have hl := hw.len u hu
      simp only [e_var, e_c, e_bin, e_un, e_view, e_bnd, e_cons, e_nil, e_allD0, e_allD, e_allV0, e_allV1, e_allV2, e_cb, e_cf, e_on1, e_on2, e_test, e_truth, e_asB, e_asI, e_tup, e_lst, e_z, e_o, e_zg, e_og, e_ifE, e_and, e_or, e_not, e_andV, e_orV, e_notV, e_sm, e_smV, e_smf, e_call, e_callK, e_fnP, e_fnF, e_fnQ, e_next, e_seq, e_brk, e_cnt, e_drop, e_ret, e_if, e_asg, e_bname, e_btup, e_bsnil, e_bscons, e_par, e_fmt, e_js0, e_js, e_sl, e_nopart, e_part, e_frzd, e_frz1d, e_lc, e_for, e_seqI, e_rng1, e_rng2, e_enum, e_itT, e_itL, e_itS, e_start, e_yes, e_plain, o_add, o_addS, o_addT, o_addL, o_sub, o_mul, o_mulS, o_div, o_mod, o_pow, o_neg, o_lt, o_le, o_gt, o_ge, o_ltS, o_eqI, o_eqS, o_neI, o_neS, o_eqL, o_neL, o_lenS, o_lenT, o_lenL, o_lenR, o_int, o_intB, o_abs, o_max, o_min, o_st, o_ixL, o_ixT, o_ixR, o_ixS, o_tupL, o_tupT, o_all, o_slS, o_slT, o_slL, o_join, o_asT, o_asL, o_part, o_is, o_reprL, o_reprT, t_bl, t_lst, t_tup, e_asO, e_asL, e_stL, e_pure, v_o0, v_o1, at0, at1, at2, ix30, ix31, ix32, li_R, li_L, e_wp0, e_wp, e_ss, e_gnd, e_app, e_pop, o_isiI, o_isiS, o_isiT, o_isiL, o_isiB, o_isiN, o_isi2I, o_isi2S, o_isi2T, o_isi2L, o_isi2B, o_isi2N, o_inS1, o_inT, o_ninT, o_intT, o_split, e_chain, e_binF, o_cat, e_dictP, e_while, e_din0, e_dput, o_sortD, e_key, e_asD, e_asM, e_itO, v_o1d, isT, reduceCtorEq, List.any_cons, List.any_nil, List.all_cons, List.all_nil, Bool.or_false, Bool.false_or, Bool.or_true, Bool.true_or, flatD, List.map_cons, List.map_nil, List.length_cons, List.length_nil, Nat.reduceAdd, Nat.reduceSub, List.reduceReplicate, List.cons_append, List.nil_append, List.append_nil, List.getElem?_cons_zero, List.getElem?_cons_succ, List.set_cons_zero, List.set_cons_succ, Option.map_some, Option.bind_some, ends0, ends1, endsF, ite_true, if_true, if_false, Bool.false_eq_true, reduceIte, true_and, and_true, Bool.not_true, Bool.not_false, Bool.not_eq_true', decide_eq_true_eq, decide_eq_false_iff_not]
      rw [e1, cut_from, cut_but]
      refine ⟨by omega, by omega, by omega, ?_⟩
      simp only [decide_eq_true_eq] at q
      exact q
    · have wb : Wds n (ws.filter fun u => decide (u.dropLast = s.drop (s.length - n + 1))) := hw.wds.sub fun u hu => (List.mem_filter.mp hu).1
      generalize hbe : ws.filter (fun u => decide (u.dropLast = s.drop (s.length - n + 1))) = be at wb
      have bl : be.length ≤ 40 := by
        rw [← hbe]
        exact Nat.le_trans (List.length_filter_le _ _) hf
      simp only [e_var, e_c, e_bin, e_un, e_view, e_bnd, e_cons, e_nil, e_allD0, e_allD, e_allV0, e_allV1, e_allV2, e_cb, e_cf, e_on1, e_on2, e_test, e_truth, e_asB, e_asI, e_tup, e_lst, e_z, e_o, e_zg, e_og, e_ifE, e_and, e_or, e_not, e_andV, e_orV, e_notV, e_sm, e_smV, e_smf, e_call, e_callK, e_fnP, e_fnF, e_fnQ, e_next, e_seq, e_brk, e_cnt, e_drop, e_ret, e_if, e_asg, e_bname, e_btup, e_bsnil, e_bscons, e_par, e_fmt, e_js0, e_js, e_sl, e_nopart, e_part, e_frzd, e_frz1d, e_lc, e_for, e_seqI, e_rng1, e_rng2, e_enum, e_itT, e_itL, e_itS, e_start, e_yes, e_plain, o_add, o_addS, o_addT, o_addL, o_sub, o_mul, o_mulS, o_div, o_mod, o_pow, o_neg, o_lt, o_le, o_gt, o_ge, o_ltS, o_eqI, o_eqS, o_neI, o_neS, o_eqL, o_neL, o_lenS, o_lenT, o_lenL, o_lenR, o_int, o_intB, o_abs, o_max, o_min, o_st, o_ixL, o_ixT, o_ixR, o_ixS, o_tupL, o_tupT, o_all, o_slS, o_slT, o_slL, o_join, o_asT, o_asL, o_part, o_is, o_reprL, o_reprT, t_bl, t_lst, t_tup, e_asO, e_asL, e_stL, e_pure, v_o0, v_o1, at0, at1, at2, ix30, ix31, ix32, li_R, li_L, e_wp0, e_wp, e_ss, e_gnd, e_app, e_pop, o_isiI, o_isiS, o_isiT, o_isiL, o_isiB, o_isiN, o_isi2I, o_isi2S, o_isi2T, o_isi2L, o_isi2B, o_isi2N, o_inS1, o_inT, o_ninT, o_intT, o_split, e_chain, e_binF, o_cat, e_dictP, e_while, e_din0, e_dput, o_sortD, e_key, e_asD, e_asM, e_itO, v_o1d, isT, reduceCtorEq, List.any_cons, List.any_nil, List.all_cons, List.all_nil, Bool.or_false, Bool.false_or, Bool.or_true, Bool.true_or, flatD, List.map_cons, List.map_nil, List.length_cons, List.length_nil, Nat.reduceAdd, Nat.reduceSub, List.reduceReplicate, List.cons_append, List.nil_append, List.append_nil, List.getElem?_cons_zero, List.getElem?_cons_succ, List.set_cons_zero, List.set_cons_succ, Option.map_some, Option.bind_some, ends0, ends1, endsF, ite_true, if_true, if_false, Bool.false_eq_true, reduceIte, true_and, and_true, Bool.not_true, Bool.not_false, Bool.not_eq_true', decide_eq_true_eq, decide_eq_false_iff_not]
      refine ⟨by decide, wb.ok, rfl, ?_⟩
      rw [eqv_nil]
      split
      · rename_i hne
        have bne : be ≠ [] := fun z => by
          rw [z] at hne
          cases hne
        refine ⟨po.pure, pick_ok po (by omega) (by simpa using bne) (by rw [List.length_map]; omega) _ (.inl rfl) fun d o3 hd p3 => ?_⟩
        obtain ⟨u, hu, rfl⟩ := List.mem_map.mp hd
        have ul := wb.len u hu
        have une : u ≠ [] := fun z => by
          rw [z, List.length_nil] at ul
          omega
        simp only [e_var, e_c, e_bin, e_un, e_view, e_bnd, e_cons, e_nil, e_allD0, e_allD, e_allV0, e_allV1, e_allV2, e_cb, e_cf, e_on1, e_on2, e_test, e_truth, e_asB, e_asI, e_tup, e_lst, e_z, e_o, e_zg, e_og, e_ifE, e_and, e_or, e_not, e_andV, e_orV, e_notV, e_sm, e_smV, e_smf, e_call, e_callK, e_fnP, e_fnF, e_fnQ, e_next, e_seq, e_brk, e_cnt, e_drop, e_ret, e_if, e_asg, e_bname, e_btup, e_bsnil, e_bscons, e_par, e_fmt, e_js0, e_js, e_sl, e_nopart, e_part, e_frzd, e_frz1d, e_lc, e_for, e_seqI, e_rng1, e_rng2, e_enum, e_itT, e_itL, e_itS, e_start, e_yes, e_plain, o_add, o_addS, o_addT, o_addL, o_sub, o_mul, o_mulS, o_div, o_mod, o_pow, o_neg, o_lt, o_le, o_gt, o_ge, o_ltS, o_eqI, o_eqS, o_neI, o_neS, o_eqL, o_neL, o_lenS, o_lenT, o_lenL, o_lenR, o_int, o_intB, o_abs, o_max, o_min, o_st, o_ixL, o_ixT, o_ixR, o_ixS, o_tupL, o_tupT, o_all, o_slS, o_slT, o_slL, o_join, o_asT, o_asL, o_part, o_is, o_reprL, o_reprT, t_bl, t_lst, t_tup, e_asO, e_asL, e_stL, e_pure, v_o0, v_o1, at0, at1, at2, ix30, ix31, ix32, li_R, li_L, e_wp0, e_wp, e_ss, e_gnd, e_app, e_pop, o_isiI, o_isiS, o_isiT, o_isiL, o_isiB, o_isiN, o_isi2I, o_isi2S, o_isi2T, o_isi2L, o_isi2B, o_isi2N, o_inS1, o_inT, o_ninT, o_intT, o_split, e_chain, e_binF, o_cat, e_dictP, e_while, e_din0, e_dput, o_sortD, e_key, e_asD, e_asM, e_itO, v_o1d, isT, reduceCtorEq, List.any_cons, List.any_nil, List.all_cons, List.all_nil, Bool.or_false, Bool.false_or, Bool.or_true, Bool.true_or, flatD, List.map_cons, List.map_nil, List.length_cons, List.length_nil, Nat.reduceAdd, Nat.reduceSub, List.reduceReplicate, List.cons_append, List.nil_append, List.append_nil, List.getElem?_cons_zero, List.getElem?_cons_succ, List.set_cons_zero, List.set_cons_succ, Option.map_some, Option.bind_some, ends0, ends1, endsF, ite_true, if_true, if_false, Bool.false_eq_true, reduceIte, true_and, and_true, Bool.not_true, Bool.not_false, Bool.not_eq_true', decide_eq_true_eq, decide_eq_false_iff_not]
        rw [at_last une]
        simp only [e_var, e_c, e_bin, e_un, e_view, e_bnd, e_cons, e_nil, e_allD0, e_allD, e_allV0, e_allV1, e_allV2, e_cb, e_cf, e_on1, e_on2, e_test, e_truth, e_asB, e_asI, e_tup, e_lst, e_z, e_o, e_zg, e_og, e_ifE, e_and, e_or, e_not, e_andV, e_orV, e_notV, e_sm, e_smV, e_smf, e_call, e_callK, e_fnP, e_fnF, e_fnQ, e_next, e_seq, e_brk, e_cnt, e_drop, e_ret, e_if, e_asg, e_bname, e_btup, e_bsnil, e_bscons, e_par, e_fmt, e_js0, e_js, e_sl, e_nopart, e_part, e_frzd, e_frz1d, e_lc, e_for, e_seqI, e_rng1, e_rng2, e_enum, e_itT, e_itL, e_itS, e_start, e_yes, e_plain, o_add, o_addS, o_addT, o_addL, o_sub, o_mul, o_mulS, o_div, o_mod, o_pow, o_neg, o_lt, o_le, o_gt, o_ge, o_ltS, o_eqI, o_eqS, o_neI, o_neS, o_eqL, o_neL, o_lenS, o_lenT, o_lenL, o_lenR, o_int, o_intB, o_abs, o_max, o_min, o_st, o_ixL, o_ixT, o_ixR, o_ixS, o_tupL, o_tupT, o_all, o_slS, o_slT, o_slL, o_join, o_asT, o_asL, o_part, o_is, o_reprL, o_reprT, t_bl, t_lst, t_tup, e_asO, e_asL, e_stL, e_pure, v_o0, v_o1, at0, at1, at2, ix30, ix31, ix32, li_R, li_L, e_wp0, e_wp, e_ss, e_gnd, e_app, e_pop, o_isiI, o_isiS, o_isiT, o_isiL, o_isiB, o_isiN, o_isi2I, o_isi2S, o_isi2T, o_isi2L, o_isi2B, o_isi2N, o_inS1, o_inT, o_ninT, o_intT, o_split, e_chain, e_binF, o_cat, e_dictP, e_while, e_din0, e_dput, o_sortD, e_key, e_asD, e_asM, e_itO, v_o1d, isT, reduceCtorEq, List.any_cons, List.any_nil, List.all_cons, List.all_nil, Bool.or_false, Bool.false_or, Bool.or_true, Bool.true_or, flatD, List.map_cons, List.map_nil, List.length_cons, List.length_nil, Nat.reduceAdd, Nat.reduceSub, List.reduceReplicate, List.cons_append, List.nil_append, List.append_nil, List.getElem?_cons_zero, List.getElem?_cons_succ, List.set_cons_zero, List.set_cons_succ, Option.map_some, Option.bind_some, ends0, ends1, endsF, ite_true, if_true, if_false, Bool.false_eq_true, reduceIte, true_and, and_true, Bool.not_true, Bool.not_false, Bool.not_eq_true', decide_eq_true_eq, decide_eq_false_iff_not]
        refine ⟨by omega, by omega, nx _ _ ⟨o3, _, _, _, _, rfl, rfl, p3.up (by omega), ?_, ?_, by omega⟩⟩
        · rw [List.length_append]
          omega
        · rw [List.length_append, List.length_singleton]
          omega
      · exact nx _ _ ⟨o', s, _, _, _, rfl, rfl, po.up (by omega), s1, by omega, by omega⟩
  · obtain ⟨o', s, x, y, z, rfl, rfl, po, s1, s2, l2⟩ := hI
    rw [List.length_nil] at po s2
    simp only [e_var, e_c, e_bin, e_un, e_view, e_bnd, e_cons, e_nil, e_allD0, e_allD, e_allV0, e_allV1, e_allV2, e_cb, e_cf, e_on1, e_on2, e_test, e_truth, e_asB, e_asI, e_tup, e_lst, e_z, e_o, e_zg, e_og, e_ifE, e_and, e_or, e_not, e_andV, e_orV, e_notV, e_sm, e_smV, e_smf, e_call, e_callK, e_fnP, e_fnF, e_fnQ, e_next, e_seq, e_brk, e_cnt, e_drop, e_ret, e_if, e_asg, e_bname, e_btup, e_bsnil, e_bscons, e_par, e_fmt, e_js0, e_js, e_sl, e_nopart, e_part, e_frzd, e_frz1d, e_lc, e_for, e_seqI, e_rng1, e_rng2, e_enum, e_itT, e_itL, e_itS, e_start, e_yes, e_plain, o_add, o_addS, o_addT, o_addL, o_sub, o_mul, o_mulS, o_div, o_mod, o_pow, o_neg, o_lt, o_le, o_gt, o_ge, o_ltS, o_eqI, o_eqS, o_neI, o_neS, o_eqL, o_neL, o_lenS, o_lenT, o_lenL, o_lenR, o_int, o_intB, o_abs, o_max, o_min, o_st, o_ixL, o_ixT, o_ixR, o_ixS, o_tupL, o_tupT, o_all, o_slS, o_slT, o_slL, o_join, o_asT, o_asL, o_part, o_is, o_reprL, o_reprT, t_bl, t_lst, t_tup, e_asO, e_asL, e_stL, e_pure, v_o0, v_o1, at0, at1, at2, ix30, ix31, ix32, li_R, li_L, e_wp0, e_wp, e_ss, e_gnd, e_app, e_pop, o_isiI, o_isiS, o_isiT, o_isiL, o_isiB, o_isiN, o_isi2I, o_isi2S, o_isi2T, o_isi2L, o_isi2B, o_isi2N, o_inS1, o_inT, o_ninT, o_intT, o_split, e_chain, e_binF, o_cat, e_dictP, e_while, e_din0, e_dput, o_sortD, e_key, e_asD, e_asM, e_itO, v_o1d, isT, reduceCtorEq, List.any_cons, List.any_nil, List.all_cons, List.all_nil, Bool.or_false, Bool.false_or, Bool.or_true, Bool.true_or, flatD, List.map_cons, List.map_nil, List.length_cons, List.length_nil, Nat.reduceAdd, Nat.reduceSub, List.reduceReplicate, List.cons_append, List.nil_append, List.append_nil, List.getElem?_cons_zero, List.getElem?_cons_succ, List.set_cons_zero, List.set_cons_succ, Option.map_some, Option.bind_some, ends0, ends1, endsF, ite_true, if_true, if_false, Bool.false_eq_true, reduceIte, true_and, and_true, Bool.not_true, Bool.not_false, Bool.not_eq_true', decide_eq_true_eq, decide_eq_false_iff_not]
    exact ⟨po.pure, k s _ s1 (by omega) (po.up (by omega))⟩
end K28
end

section
set_option maxRecDepth 100000
namespace K28
open PySem PySem.Spec L2 Dl
open PyProof.Rows hiding St
theorem lot_ok {n : Nat} {ws steps inner more : List (List Nat)} {i j : Nat} {P : D → Prop} (n1 : 1 ≤ n) (hn : n ≤ 6) (hw : Wins n ws) (hm : ∀ w ∈ more, w ∈ ws) (hm1 : more.length ≤ 1) (i1 : 1 ≤ i) (i2 : i ≤ inner.length) (j1 : 1 ≤ j) (j2 : j ≤ inner.length) (j3 : j < steps.length) (h : ∀ ls, Lot n ls → P (lotD ls)) :
    g__law_lot [.tup (ws.map .str), .lst (steps.map .str), .lst (inner.map .str), .int i, .int j, .lst (more.map .str)] P := by
  refine ⟨rfl, ?_⟩
  have ei : ((i : Int) - 1) = ((i - 1 : Nat) : Int) := by omega
  have ej : ((j : Int) - 1) = ((j - 1 : Nat) : Int) := by omega
  have a1 := at_nat (l := inner.map D.str) (i := i - 1) (by rw [List.length_map]; omega)
  have a2 := at_nat (l := inner.map D.str) (i := j - 1) (by rw [List.length_map]; omega)
  have a3 := at_nat (l := steps.map D.str) (i := j) (by rw [List.length_map]; omega)
  have hf := hw.few
  simp only [r__law_lot, e_var, e_c, e_bin, e_un, e_view, e_bnd, e_cons, e_nil, e_allD0, e_allD, e_allV0, e_allV1, e_allV2, e_cb, e_cf, e_on1, e_on2, e_test, e_truth, e_asB, e_asI, e_tup, e_lst, e_z, e_o, e_zg, e_og, e_ifE, e_and, e_or, e_not, e_andV, e_orV, e_notV, e_sm, e_smV, e_smf, e_call, e_callK, e_fnP, e_fnF, e_fnQ, e_next, e_seq, e_brk, e_cnt, e_drop, e_ret, e_if, e_asg, e_bname, e_btup, e_bsnil, e_bscons, e_par, e_fmt, e_js0, e_js, e_sl, e_nopart, e_part, e_frzd, e_frz1d, e_lc, e_for, e_seqI, e_rng1, e_rng2, e_enum, e_itT, e_itL, e_itS, e_start, e_yes, e_plain, o_add, o_addS, o_addT, o_addL, o_sub, o_mul, o_mulS, o_div, o_mod, o_pow, o_neg, o_lt, o_le, o_gt, o_ge, o_ltS, o_eqI, o_eqS, o_neI, o_neS, o_eqL, o_neL, o_lenS, o_lenT, o_lenL, o_lenR, o_int, o_intB, o_abs, o_max, o_min, o_st, o_ixL, o_ixT, o_ixR, o_ixS, o_tupL, o_tupT, o_all, o_slS, o_slT, o_slL, o_join, o_asT, o_asL, o_part, o_is, o_reprL, o_reprT, t_bl, t_lst, t_tup, e_asO, e_asL, e_stL, e_pure, v_o0, v_o1, at0, at1, at2, ix30, ix31, ix32, li_R, li_L, e_wp0, e_wp, e_ss, e_gnd, e_app, e_pop, o_isiI, o_isiS, o_isiT, o_isiL, o_isiB, o_isiN, o_isi2I, o_isi2S, o_isi2T, o_isi2L, o_isi2B, o_isi2N, o_inS1, o_inT, o_ninT, o_intT, o_split, e_chain, e_binF, o_cat, e_dictP, e_while, e_din0, e_dput, o_sortD, e_key, e_asD, e_asM, e_itO, v_o1d, isT, reduceCtorEq, List.any_cons, List.any_nil, List.all_cons, List.all_nil, Bool.or_false, Bool.false_or, Bool.or_true, Bool.true_or, flatD, List.map_cons, List.map_nil, List.length_cons, List.length_nil, Nat.reduceAdd, Nat.reduceSub, List.reduceReplicate, List.cons_append, List.nil_append, List.append_nil, List.getElem?_cons_zero, List.getElem?_cons_succ, List.set_cons_zero, List.set_cons_succ, Option.map_some, Option.bind_some, ends0, ends1, endsF, ite_true, if_true, if_false, Bool.false_eq_true, reduceIte, true_and, and_true, Bool.not_true, Bool.not_false, Bool.not_eq_true', decide_eq_true_eq, decide_eq_false_iff_not]
  refine lc_filter (fun w => decide (w.dropLast = inner[j - 1]'(by omega)) && !decide (w = steps[j]'(by omega))) (fun w hmw Q Q' q => ?_) (by omega) ?_
  · have hl := hw.len w hmw
    simp only [e_var, e_c, e_bin, e_un, e_view, e_bnd, e_cons, e_nil, e_allD0, e_allD, e_allV0, e_allV1, e_allV2, e_cb, e_cf, e_on1, e_on2, e_test, e_truth, e_asB, e_asI, e_tup, e_lst, e_z, e_o, e_zg, e_og, e_ifE, e_and, e_or, e_not, e_andV, e_orV, e_notV, e_sm, e_smV, e_smf, e_call, e_callK, e_fnP, e_fnF, e_fnQ, e_next, e_seq, e_brk, e_cnt, e_drop, e_ret, e_if, e_asg, e_bname, e_btup, e_bsnil, e_bscons, e_par, e_fmt, e_js0, e_js, e_sl, e_nopart, e_part, e_frzd, e_frz1d, e_lc, e_for, e_seqI, e_rng1, e_rng2, e_enum, e_itT, e_itL, e_itS, e_start, e_yes, e_plain, o_add, o_addS, o_addT, o_addL, o_sub, o_mul, o_mulS, o_div, o_mod, o_pow, o_neg, o_lt, o_le, o_gt, o_ge, o_ltS, o_eqI, o_eqS, o_neI, o_neS, o_eqL, o_neL, o_lenS, o_lenT, o_lenL, o_lenR, o_int, o_intB, o_abs, o_max, o_min, o_st, o_ixL, o_ixT, o_ixR, o_ixS, o_tupL, o_tupT, o_all, o_slS, o_slT, o_slL, o_join, o_asT, o_asL, o_part, o_is, o_reprL, o_reprT, t_bl, t_lst, t_tup, e_asO, e_asL, e_stL, e_pure, v_o0, v_o1, at0, at1, at2, ix30, ix31, ix32, li_R, li_L, e_wp0, e_wp, e_ss, e_gnd, e_app, e_pop, o_isiI, o_isiS, o_isiT, o_isiL, o_isiB, o_isiN, o_isi2I, o_isi2S, o_isi2T, o_isi2L, o_isi2B, o_isi2N, o_inS1, o_inT, o_ninT, o_intT, o_split, e_chain, e_binF, o_cat, e_dictP, e_while, e_din0, e_dput, o_sortD, e_key, e_asD, e_asM, e_itO, v_o1d, isT, reduceCtorEq, List.any_cons, List.any_nil, List.all_cons, List.all_nil, Bool.or_false, Bool.false_or, Bool.or_true, Bool.true_or, flatD, List.map_cons, List.map_nil, List.length_cons, List.length_nil, Nat.reduceAdd, Nat.reduceSub, List.reduceReplicate, List.cons_append, List.nil_append, List.append_nil, List.getElem?_cons_zero, List.getElem?_cons_succ, List.set_cons_zero, List.set_cons_succ, Option.map_some, Option.bind_some, ends0, ends1, endsF, ite_true, if_true, if_false, Bool.false_eq_true, reduceIte, true_and, and_true, Bool.not_true, Bool.not_false, Bool.not_eq_true', decide_eq_true_eq, decide_eq_false_iff_not]
    rw [ej, a2, a3, cut_but]
    simp only [e_var, e_c, e_bin, e_un, e_view, e_bnd, e_cons, e_nil, e_allD0, e_allD, e_allV0, e_allV1, e_allV2, e_cb, e_cf, e_on1, e_on2, e_test, e_truth, e_asB, e_asI, e_tup, e_lst, e_z, e_o, e_zg, e_og, e_ifE, e_and, e_or, e_not, e_andV, e_orV, e_notV, e_sm, e_smV, e_smf, e_call, e_callK, e_fnP, e_fnF, e_fnQ, e_next, e_seq, e_brk, e_cnt, e_drop, e_ret, e_if, e_asg, e_bname, e_btup, e_bsnil, e_bscons, e_par, e_fmt, e_js0, e_js, e_sl, e_nopart, e_part, e_frzd, e_frz1d, e_lc, e_for, e_seqI, e_rng1, e_rng2, e_enum, e_itT, e_itL, e_itS, e_start, e_yes, e_plain, o_add, o_addS, o_addT, o_addL, o_sub, o_mul, o_mulS, o_div, o_mod, o_pow, o_neg, o_lt, o_le, o_gt, o_ge, o_ltS, o_eqI, o_eqS, o_neI, o_neS, o_eqL, o_neL, o_lenS, o_lenT, o_lenL, o_lenR, o_int, o_intB, o_abs, o_max, o_min, o_st, o_ixL, o_ixT, o_ixR, o_ixS, o_tupL, o_tupT, o_all, o_slS, o_slT, o_slL, o_join, o_asT, o_asL, o_part, o_is, o_reprL, o_reprT, t_bl, t_lst, t_tup, e_asO, e_asL, e_stL, e_pure, v_o0, v_o1, at0, at1, at2, ix30, ix31, ix32, li_R, li_L, e_wp0, e_wp, e_ss, e_gnd, e_app, e_pop, o_isiI, o_isiS, o_isiT, o_isiL, o_isiB, o_isiN, o_isi2I, o_isi2S, o_isi2T, o_isi2L, o_isi2B, o_isi2N, o_inS1, o_inT, o_ninT, o_intT, o_split, e_chain, e_binF, o_cat, e_dictP, e_while, e_din0, e_dput, o_sortD, e_key, e_asD, e_asM, e_itO, v_o1d, isT, reduceCtorEq, List.any_cons, List.any_nil, List.all_cons, List.all_nil, Bool.or_false, Bool.false_or, Bool.or_true, Bool.true_or, flatD, List.map_cons, List.map_nil, List.length_cons, List.length_nil, Nat.reduceAdd, Nat.reduceSub, List.reduceReplicate, List.cons_append, List.nil_append, List.append_nil, List.getElem?_cons_zero, List.getElem?_cons_succ, List.set_cons_zero, List.set_cons_succ, Option.map_some, Option.bind_some, ends0, ends1, endsF, ite_true, if_true, if_false, Bool.false_eq_true, reduceIte, true_and, and_true, Bool.not_true, Bool.not_false, Bool.not_eq_true', decide_eq_true_eq, decide_eq_false_iff_not, List.getElem_map]
    refine ⟨by omega, ?_⟩
    simp only [Bool.and_eq_true, decide_eq_true_eq, Bool.not_eq_true', decide_eq_false_iff_not] at q
    by_cases h1 : w.dropLast = inner[j - 1]'(by omega)
    · rw [if_pos h1]
      by_cases h2 : w = steps[j]'(by omega)
      · rw [if_neg (fun z => z.2 h2)] at q
        rw [if_neg (fun z => z h2)]
        exact q
      · rw [if_pos ⟨h1, h2⟩] at q
        rw [if_pos h2]
        exact q
    · rw [if_neg (fun z => h1 z.1)] at q
      rw [if_neg h1]
      exact q
  · have rs : ∀ w ∈ ws.filter (fun w => decide (w.dropLast = inner[j - 1]'(by omega)) && !decide (w = steps[j]'(by omega))) ++ more, w ∈ ws := fun w hx => (List.mem_append.mp hx).elim (fun z => (List.mem_filter.mp z).1) (hm w)
    have rl : (ws.filter (fun w => decide (w.dropLast = inner[j - 1]'(by omega)) && !decide (w = steps[j]'(by omega))) ++ more).length ≤ 41 := by
      have := List.length_filter_le (fun w => decide (w.dropLast = inner[j - 1]'(by omega)) && !decide (w = steps[j]'(by omega))) ws
      rw [List.length_append]
      omega
    simp only [e_var, e_c, e_bin, e_un, e_view, e_bnd, e_cons, e_nil, e_allD0, e_allD, e_allV0, e_allV1, e_allV2, e_cb, e_cf, e_on1, e_on2, e_test, e_truth, e_asB, e_asI, e_tup, e_lst, e_z, e_o, e_zg, e_og, e_ifE, e_and, e_or, e_not, e_andV, e_orV, e_notV, e_sm, e_smV, e_smf, e_call, e_callK, e_fnP, e_fnF, e_fnQ, e_next, e_seq, e_brk, e_cnt, e_drop, e_ret, e_if, e_asg, e_bname, e_btup, e_bsnil, e_bscons, e_par, e_fmt, e_js0, e_js, e_sl, e_nopart, e_part, e_frzd, e_frz1d, e_lc, e_for, e_seqI, e_rng1, e_rng2, e_enum, e_itT, e_itL, e_itS, e_start, e_yes, e_plain, o_add, o_addS, o_addT, o_addL, o_sub, o_mul, o_mulS, o_div, o_mod, o_pow, o_neg, o_lt, o_le, o_gt, o_ge, o_ltS, o_eqI, o_eqS, o_neI, o_neS, o_eqL, o_neL, o_lenS, o_lenT, o_lenL, o_lenR, o_int, o_intB, o_abs, o_max, o_min, o_st, o_ixL, o_ixT, o_ixR, o_ixS, o_tupL, o_tupT, o_all, o_slS, o_slT, o_slL, o_join, o_asT, o_asL, o_part, o_is, o_reprL, o_reprT, t_bl, t_lst, t_tup, e_asO, e_asL, e_stL, e_pure, v_o0, v_o1, at0, at1, at2, ix30, ix31, ix32, li_R, li_L, e_wp0, e_wp, e_ss, e_gnd, e_app, e_pop, o_isiI, o_isiS, o_isiT, o_isiL, o_isiB, o_isiN, o_isi2I, o_isi2S, o_isi2T, o_isi2L, o_isi2B, o_isi2N, o_inS1, o_inT, o_ninT, o_intT, o_split, e_chain, e_binF, o_cat, e_dictP, e_while, e_din0, e_dput, o_sortD, e_key, e_asD, e_asM, e_itO, v_o1d, isT, reduceCtorEq, List.any_cons, List.any_nil, List.all_cons, List.all_nil, Bool.or_false, Bool.false_or, Bool.or_true, Bool.true_or, flatD, List.map_cons, List.map_nil, List.length_cons, List.length_nil, Nat.reduceAdd, Nat.reduceSub, List.reduceReplicate, List.cons_append, List.nil_append, List.append_nil, List.getElem?_cons_zero, List.getElem?_cons_succ, List.set_cons_zero, List.set_cons_succ, Option.map_some, Option.bind_some, ends0, ends1, endsF, ite_true, if_true, if_false, Bool.false_eq_true, reduceIte, true_and, and_true, Bool.not_true, Bool.not_false, Bool.not_eq_true', decide_eq_true_eq, decide_eq_false_iff_not]
    rw [← List.map_append]
    generalize hrow : ws.filter (fun w => decide (w.dropLast = inner[j - 1]'(by omega)) && !decide (w = steps[j]'(by omega))) ++ more = row0 at rs rl
    refine ⟨by have := congrArg List.length hrow; rw [List.length_append] at this; simp only [List.length_map]; omega, ?_⟩
    refine lc_pure (f := fun d => some (D.tup [d, D.bl true])) ?_ (row0.map D.str) [] (fun d hd Q Q' q => ?_) (by rw [List.length_map, List.length_nil]; omega) ?_
    · rfl
    · simp only [e_var, e_c, e_bin, e_un, e_view, e_bnd, e_cons, e_nil, e_allD0, e_allD, e_allV0, e_allV1, e_allV2, e_cb, e_cf, e_on1, e_on2, e_test, e_truth, e_asB, e_asI, e_tup, e_lst, e_z, e_o, e_zg, e_og, e_ifE, e_and, e_or, e_not, e_andV, e_orV, e_notV, e_sm, e_smV, e_smf, e_call, e_callK, e_fnP, e_fnF, e_fnQ, e_next, e_seq, e_brk, e_cnt, e_drop, e_ret, e_if, e_asg, e_bname, e_btup, e_bsnil, e_bscons, e_par, e_fmt, e_js0, e_js, e_sl, e_nopart, e_part, e_frzd, e_frz1d, e_lc, e_for, e_seqI, e_rng1, e_rng2, e_enum, e_itT, e_itL, e_itS, e_start, e_yes, e_plain, o_add, o_addS, o_addT, o_addL, o_sub, o_mul, o_mulS, o_div, o_mod, o_pow, o_neg, o_lt, o_le, o_gt, o_ge, o_ltS, o_eqI, o_eqS, o_neI, o_neS, o_eqL, o_neL, o_lenS, o_lenT, o_lenL, o_lenR, o_int, o_intB, o_abs, o_max, o_min, o_st, o_ixL, o_ixT, o_ixR, o_ixS, o_tupL, o_tupT, o_all, o_slS, o_slT, o_slL, o_join, o_asT, o_asL, o_part, o_is, o_reprL, o_reprT, t_bl, t_lst, t_tup, e_asO, e_asL, e_stL, e_pure, v_o0, v_o1, at0, at1, at2, ix30, ix31, ix32, li_R, li_L, e_wp0, e_wp, e_ss, e_gnd, e_app, e_pop, o_isiI, o_isiS, o_isiT, o_isiL, o_isiB, o_isiN, o_isi2I, o_isi2S, o_isi2T, o_isi2L, o_isi2B, o_isi2N, o_inS1, o_inT, o_ninT, o_intT, o_split, e_chain, e_binF, o_cat, e_dictP, e_while, e_din0, e_dput, o_sortD, e_key, e_asD, e_asM, e_itO, v_o1d, isT, reduceCtorEq, List.any_cons, List.any_nil, List.all_cons, List.all_nil, Bool.or_false, Bool.false_or, Bool.or_true, Bool.true_or, flatD, List.map_cons, List.map_nil, List.length_cons, List.length_nil, Nat.reduceAdd, Nat.reduceSub, List.reduceReplicate, List.cons_append, List.nil_append, List.append_nil, List.getElem?_cons_zero, List.getElem?_cons_succ, List.set_cons_zero, List.set_cons_succ, Option.map_some, Option.bind_some, ends0, ends1, endsF, ite_true, if_true, if_false, Bool.false_eq_true, reduceIte, true_and, and_true, Bool.not_true, Bool.not_false, Bool.not_eq_true', decide_eq_true_eq, decide_eq_false_iff_not]
      exact ⟨by decide, q⟩
    · have e : (row0.map D.str).filterMap (fun d => some (D.tup [d, .bl true])) = row0.map fun w => D.tup [D.str w, D.bl true] := by
        rw [List.filterMap_eq_map', List.map_map]
        rfl
      rw [List.nil_append, e, mkT_pairs]
      simp only [e_var, e_c, e_bin, e_un, e_view, e_bnd, e_cons, e_nil, e_allD0, e_allD, e_allV0, e_allV1, e_allV2, e_cb, e_cf, e_on1, e_on2, e_test, e_truth, e_asB, e_asI, e_tup, e_lst, e_z, e_o, e_zg, e_og, e_ifE, e_and, e_or, e_not, e_andV, e_orV, e_notV, e_sm, e_smV, e_smf, e_call, e_callK, e_fnP, e_fnF, e_fnQ, e_next, e_seq, e_brk, e_cnt, e_drop, e_ret, e_if, e_asg, e_bname, e_btup, e_bsnil, e_bscons, e_par, e_fmt, e_js0, e_js, e_sl, e_nopart, e_part, e_frzd, e_frz1d, e_lc, e_for, e_seqI, e_rng1, e_rng2, e_enum, e_itT, e_itL, e_itS, e_start, e_yes, e_plain, o_add, o_addS, o_addT, o_addL, o_sub, o_mul, o_mulS, o_div, o_mod, o_pow, o_neg, o_lt, o_le, o_gt, o_ge, o_ltS, o_eqI, o_eqS, o_neI, o_neS, o_eqL, o_neL, o_lenS, o_lenT, o_lenL, o_lenR, o_int, o_intB, o_abs, o_max, o_min, o_st, o_ixL, o_ixT, o_ixR, o_ixS, o_tupL, o_tupT, o_all, o_slS, o_slT, o_slL, o_join, o_asT, o_asL, o_part, o_is, o_reprL, o_reprT, t_bl, t_lst, t_tup, e_asO, e_asL, e_stL, e_pure, v_o0, v_o1, at0, at1, at2, ix30, ix31, ix32, li_R, li_L, e_wp0, e_wp, e_ss, e_gnd, e_app, e_pop, o_isiI, o_isiS, o_isiT, o_isiL, o_isiB, o_isiN, o_isi2I, o_isi2S, o_isi2T, o_isi2L, o_isi2B, o_isi2N, o_inS1, o_inT, o_ninT, o_intT, o_split, e_chain, e_binF, o_cat, e_dictP, e_while, e_din0, e_dput, o_sortD, e_key, e_asD, e_asM, e_itO, v_o1d, isT, reduceCtorEq, List.any_cons, List.any_nil, List.all_cons, List.all_nil, Bool.or_false, Bool.false_or, Bool.or_true, Bool.true_or, flatD, List.map_cons, List.map_nil, List.length_cons, List.length_nil, Nat.reduceAdd, Nat.reduceSub, List.reduceReplicate, List.cons_append, List.nil_append, List.append_nil, List.getElem?_cons_zero, List.getElem?_cons_succ, List.set_cons_zero, List.set_cons_succ, Option.map_some, Option.bind_some, ends0, ends1, endsF, ite_true, if_true, if_false, Bool.false_eq_true, reduceIte, true_and, and_true, Bool.not_true, Bool.not_false, Bool.not_eq_true', decide_eq_true_eq, decide_eq_false_iff_not]
      rw [mkT_merge]
      refine ⟨fun μ ρ m => ∃ (row ks : List (List Nat)) (x y : Option SV), m = [.lst (row.map .str), .dic (mkT ks)] ∧ ρ = [some (.d (.tup (ws.map .str))), some (.d (.lst (steps.map .str))), some (.d (.lst (inner.map .str))), some (.d (.int i)), some (.d (.int j)), some (.d (.lst (more.map .str))), some (.o 0), x, some (.o 1), y] ∧
        ks.Nodup ∧ (∀ k ∈ ks, k ∈ ws) ∧ (∀ r ∈ row, r ∈ ws) ∧ μ ≤ 200 ∧ 2 * (ws.length - ks.length) + row.length = μ, ⟨_, row0, ded row0, none, none, rfl, rfl, ded_nodup _, fun k hk => rs k (ded_mem.mp hk), rs, by omega, rfl⟩, fun μ ρ m hW => ?_⟩
      obtain ⟨row, ks, x, y, rfl, rfl, nd, kw, rw', rl', em⟩ := hW
      have rok : okD 64 (.lst (row.map .str)) = true := (hw.wds.sub rw').ok
      simp only [e_var, e_c, e_bin, e_un, e_view, e_bnd, e_cons, e_nil, e_allD0, e_allD, e_allV0, e_allV1, e_allV2, e_cb, e_cf, e_on1, e_on2, e_test, e_truth, e_asB, e_asI, e_tup, e_lst, e_z, e_o, e_zg, e_og, e_ifE, e_and, e_or, e_not, e_andV, e_orV, e_notV, e_sm, e_smV, e_smf, e_call, e_callK, e_fnP, e_fnF, e_fnQ, e_next, e_seq, e_brk, e_cnt, e_drop, e_ret, e_if, e_asg, e_bname, e_btup, e_bsnil, e_bscons, e_par, e_fmt, e_js0, e_js, e_sl, e_nopart, e_part, e_frzd, e_frz1d, e_lc, e_for, e_seqI, e_rng1, e_rng2, e_enum, e_itT, e_itL, e_itS, e_start, e_yes, e_plain, o_add, o_addS, o_addT, o_addL, o_sub, o_mul, o_mulS, o_div, o_mod, o_pow, o_neg, o_lt, o_le, o_gt, o_ge, o_ltS, o_eqI, o_eqS, o_neI, o_neS, o_eqL, o_neL, o_lenS, o_lenT, o_lenL, o_lenR, o_int, o_intB, o_abs, o_max, o_min, o_st, o_ixL, o_ixT, o_ixR, o_ixS, o_tupL, o_tupT, o_all, o_slS, o_slT, o_slL, o_join, o_asT, o_asL, o_part, o_is, o_reprL, o_reprT, t_bl, t_lst, t_tup, e_asO, e_asL, e_stL, e_pure, v_o0, v_o1, at0, at1, at2, ix30, ix31, ix32, li_R, li_L, e_wp0, e_wp, e_ss, e_gnd, e_app, e_pop, o_isiI, o_isiS, o_isiT, o_isiL, o_isiB, o_isiN, o_isi2I, o_isi2S, o_isi2T, o_isi2L, o_isi2B, o_isi2N, o_inS1, o_inT, o_ninT, o_intT, o_split, e_chain, e_binF, o_cat, e_dictP, e_while, e_din0, e_dput, o_sortD, e_key, e_asD, e_asM, e_itO, v_o1d, isT, reduceCtorEq, List.any_cons, List.any_nil, List.all_cons, List.all_nil, Bool.or_false, Bool.false_or, Bool.or_true, Bool.true_or, flatD, List.map_cons, List.map_nil, List.length_cons, List.length_nil, Nat.reduceAdd, Nat.reduceSub, List.reduceReplicate, List.cons_append, List.nil_append, List.append_nil, List.getElem?_cons_zero, List.getElem?_cons_succ, List.set_cons_zero, List.set_cons_succ, Option.map_some, Option.bind_some, ends0, ends1, endsF, ite_true, if_true, if_false, Bool.false_eq_true, reduceIte, true_and, and_true, Bool.not_true, Bool.not_false, Bool.not_eq_true', decide_eq_true_eq, decide_eq_false_iff_not]
      refine ⟨by decide, rok, rfl, ?_⟩
      rw [eqv_nil]
      split
      · rename_i hne
        have rne : row ≠ [] := fun z => by
          rw [z] at hne
          cases hne
        obtain ⟨r0, one, rfl⟩ : ∃ r0 one, row = r0 ++ [one] := ⟨row.dropLast, row.getLast rne, (List.dropLast_concat_getLast rne).symm⟩
        have ow : one ∈ ws := rw' one (List.mem_append_right _ (List.mem_singleton.mpr rfl))
        have ol := hw.len one ow
        have k40 := List.Nodup.length_le_of_subset nd kw
        rw [List.length_append, List.length_singleton] at em
        refine ⟨_, fun ρ' m' h => h, ?_⟩
        have gl : ((r0 ++ [one]).map D.str).getLast? = some (.str one) := by
          rw [List.map_append]
          exact List.getLast?_concat
        have gd : ((r0 ++ [one]).map D.str).dropLast = r0.map .str := by
          rw [List.map_append]
          exact List.dropLast_concat
        have ro : ∀ w ∈ r0, w ∈ ws := fun w hx => rw' w (List.mem_append_left _ hx)
        simp only [e_var, e_c, e_bin, e_un, e_view, e_bnd, e_cons, e_nil, e_allD0, e_allD, e_allV0, e_allV1, e_allV2, e_cb, e_cf, e_on1, e_on2, e_test, e_truth, e_asB, e_asI, e_tup, e_lst, e_z, e_o, e_zg, e_og, e_ifE, e_and, e_or, e_not, e_andV, e_orV, e_notV, e_sm, e_smV, e_smf, e_call, e_callK, e_fnP, e_fnF, e_fnQ, e_next, e_seq, e_brk, e_cnt, e_drop, e_ret, e_if, e_asg, e_bname, e_btup, e_bsnil, e_bscons, e_par, e_fmt, e_js0, e_js, e_sl, e_nopart, e_part, e_frzd, e_frz1d, e_lc, e_for, e_seqI, e_rng1, e_rng2, e_enum, e_itT, e_itL, e_itS, e_start, e_yes, e_plain, o_add, o_addS, o_addT, o_addL, o_sub, o_mul, o_mulS, o_div, o_mod, o_pow, o_neg, o_lt, o_le, o_gt, o_ge, o_ltS, o_eqI, o_eqS, o_neI, o_neS, o_eqL, o_neL, o_lenS, o_lenT, o_lenL, o_lenR, o_int, o_intB, o_abs, o_max, o_min, o_st, o_ixL, o_ixT, o_ixR, o_ixS, o_tupL, o_tupT, o_all, o_slS, o_slT, o_slL, o_join, o_asT, o_asL, o_part, o_is, o_reprL, o_reprT, t_bl, t_lst, t_tup, e_asO, e_asL, e_stL, e_pure, v_o0, v_o1, at0, at1, at2, ix30, ix31, ix32, li_R, li_L, e_wp0, e_wp, e_ss, e_gnd, e_app, e_pop, o_isiI, o_isiS, o_isiT, o_isiL, o_isiB, o_isiN, o_isi2I, o_isi2S, o_isi2T, o_isi2L, o_isi2B, o_isi2N, o_inS1, o_inT, o_ninT, o_intT, o_split, e_chain, e_binF, o_cat, e_dictP, e_while, e_din0, e_dput, o_sortD, e_key, e_asD, e_asM, e_itO, v_o1d, isT, reduceCtorEq, List.any_cons, List.any_nil, List.all_cons, List.all_nil, Bool.or_false, Bool.false_or, Bool.or_true, Bool.true_or, flatD, List.map_cons, List.map_nil, List.length_cons, List.length_nil, Nat.reduceAdd, Nat.reduceSub, List.reduceReplicate, List.cons_append, List.nil_append, List.append_nil, List.getElem?_cons_zero, List.getElem?_cons_succ, List.set_cons_zero, List.set_cons_succ, Option.map_some, Option.bind_some, ends0, ends1, endsF, ite_true, if_true, if_false, Bool.false_eq_true, reduceIte, true_and, and_true, Bool.not_true, Bool.not_false, Bool.not_eq_true', decide_eq_true_eq, decide_eq_false_iff_not, gl, gd, ei, ej, a1, a2, cut_one, List.getElem_map]
        refine ⟨by omega, by decide, rfl, ?_⟩
        split
        · refine for_inv (I := fun l ρ m => ∃ (row ks : List (List Nat)) (y : Option SV), m = [.lst (row.map .str), .dic (mkT ks)] ∧ ρ = [some (.d (.tup (ws.map .str))), some (.d (.lst (steps.map .str))), some (.d (.lst (inner.map .str))), some (.d (.int i)), some (.d (.int j)), some (.d (.lst (more.map .str))), some (.o 0), some (.d (.str one)), some (.o 1), y] ∧
            ks.Nodup ∧ (∀ k ∈ ks, k ∈ ws) ∧ (∀ r ∈ row, r ∈ ws) ∧ 2 * (ws.length - ks.length) + row.length < μ ∧ ∀ d ∈ l, ∃ w ∈ ws, d = .str w) (fun d l ρ m Nx hI nx => ?_) (fun ρ m hI => ?_) _ _ _ ⟨r0, ks, y, rfl, rfl, nd, kw, ro, by omega, fun d hd => by
              obtain ⟨w, hw, rfl⟩ := List.mem_map.mp hd
              exact ⟨w, hw, rfl⟩⟩
          · obtain ⟨row, ks, y, rfl, rfl, nd, kw, rw', em, hd⟩ := hI
            obtain ⟨w, hw2, rfl⟩ := hd d List.mem_cons_self
            have hd' : ∀ d ∈ l, ∃ w ∈ ws, d = .str w := fun d h => hd d (List.mem_cons_of_mem _ h)
            have wl := hw.len w hw2
            simp only [e_var, e_c, e_bin, e_un, e_view, e_bnd, e_cons, e_nil, e_allD0, e_allD, e_allV0, e_allV1, e_allV2, e_cb, e_cf, e_on1, e_on2, e_test, e_truth, e_asB, e_asI, e_tup, e_lst, e_z, e_o, e_zg, e_og, e_ifE, e_and, e_or, e_not, e_andV, e_orV, e_notV, e_sm, e_smV, e_smf, e_call, e_callK, e_fnP, e_fnF, e_fnQ, e_next, e_seq, e_brk, e_cnt, e_drop, e_ret, e_if, e_asg, e_bname, e_btup, e_bsnil, e_bscons, e_par, e_fmt, e_js0, e_js, e_sl, e_nopart, e_part, e_frzd, e_frz1d, e_lc, e_for, e_seqI, e_rng1, e_rng2, e_enum, e_itT, e_itL, e_itS, e_start, e_yes, e_plain, o_add, o_addS, o_addT, o_addL, o_sub, o_mul, o_mulS, o_div, o_mod, o_pow, o_neg, o_lt, o_le, o_gt, o_ge, o_ltS, o_eqI, o_eqS, o_neI, o_neS, o_eqL, o_neL, o_lenS, o_lenT, o_lenL, o_lenR, o_int, o_intB, o_abs, o_max, o_min, o_st, o_ixL, o_ixT, o_ixR, o_ixS, o_tupL, o_tupT, o_all, o_slS, o_slT, o_slL, o_join, o_asT, o_asL, o_part, o_is, o_reprL, o_reprT, t_bl, t_lst, t_tup, e_asO, e_asL, e_stL, e_pure, v_o0, v_o1, at0, at1, at2, ix30, ix31, ix32, li_R, li_L, e_wp0, e_wp, e_ss, e_gnd, e_app, e_pop, o_isiI, o_isiS, o_isiT, o_isiL, o_isiB, o_isiN, o_isi2I, o_isi2S, o_isi2T, o_isi2L, o_isi2B, o_isi2N, o_inS1, o_inT, o_ninT, o_intT, o_split, e_chain, e_binF, o_cat, e_dictP, e_while, e_din0, e_dput, o_sortD, e_key, e_asD, e_asM, e_itO, v_o1d, isT, reduceCtorEq, List.any_cons, List.any_nil, List.all_cons, List.all_nil, Bool.or_false, Bool.false_or, Bool.or_true, Bool.true_or, flatD, List.map_cons, List.map_nil, List.length_cons, List.length_nil, Nat.reduceAdd, Nat.reduceSub, List.reduceReplicate, List.cons_append, List.nil_append, List.append_nil, List.getElem?_cons_zero, List.getElem?_cons_succ, List.set_cons_zero, List.set_cons_succ, Option.map_some, Option.bind_some, ends0, ends1, endsF, ite_true, if_true, if_false, Bool.false_eq_true, reduceIte, true_and, and_true, Bool.not_true, Bool.not_false, Bool.not_eq_true', decide_eq_true_eq, decide_eq_false_iff_not, cut_one, cut_but, mkT_get, mkT_put]
            refine ⟨by omega, by omega, ?_⟩
            split
            · by_cases hk : w ∈ ks
              · rw [decide_eq_true hk]
                exact nx _ _ ⟨row, ks, _, rfl, rfl, nd, kw, rw', em, hd'⟩
              · rw [decide_eq_false hk]
                have nd2 : (ks ++ [w]).Nodup := by
                  rw [List.nodup_append]
                  exact ⟨nd, List.nodup_cons.mpr ⟨List.not_mem_nil, List.nodup_nil⟩, fun a ha b hb => by
                    rw [List.mem_singleton.mp hb]
                    exact fun c => hk (c ▸ ha)⟩
                have kw2 : ∀ k ∈ ks ++ [w], k ∈ ws := fun k h => (List.mem_append.mp h).elim (kw k) fun z => by
                  rw [List.mem_singleton.mp z]
                  exact hw2
                have k41 := List.Nodup.length_le_of_subset nd2 kw2
                rw [List.length_append, List.length_singleton] at k41
                have e1 : ded1 ks w = ks ++ [w] := by
                  unfold ded1
                  rw [if_neg hk]
                have ml : (mkT ks).length = ks.length := by
                  unfold mkT
                  rw [List.length_map]
                rw [e1]
                refine ⟨by omega, by rw [List.length_map]; omega, nx _ _ ⟨row ++ [w], ks ++ [w], _, by rw [List.map_append]; rfl, rfl, nd2, kw2, fun r h => (List.mem_append.mp h).elim (rw' r) fun z => by rw [List.mem_singleton.mp z]; exact hw2, ?_, hd'⟩⟩
                simp only [List.length_append, List.length_cons, List.length_nil]
                omega
            · exact nx _ _ ⟨row, ks, _, rfl, rfl, nd, kw, rw', em, hd'⟩
          · obtain ⟨row, ks, y, rfl, rfl, nd, kw, rw', em, hd⟩ := hI
            have k40 := List.Nodup.length_le_of_subset nd kw
            simp only [e_var, e_c, e_bin, e_un, e_view, e_bnd, e_cons, e_nil, e_allD0, e_allD, e_allV0, e_allV1, e_allV2, e_cb, e_cf, e_on1, e_on2, e_test, e_truth, e_asB, e_asI, e_tup, e_lst, e_z, e_o, e_zg, e_og, e_ifE, e_and, e_or, e_not, e_andV, e_orV, e_notV, e_sm, e_smV, e_smf, e_call, e_callK, e_fnP, e_fnF, e_fnQ, e_next, e_seq, e_brk, e_cnt, e_drop, e_ret, e_if, e_asg, e_bname, e_btup, e_bsnil, e_bscons, e_par, e_fmt, e_js0, e_js, e_sl, e_nopart, e_part, e_frzd, e_frz1d, e_lc, e_for, e_seqI, e_rng1, e_rng2, e_enum, e_itT, e_itL, e_itS, e_start, e_yes, e_plain, o_add, o_addS, o_addT, o_addL, o_sub, o_mul, o_mulS, o_div, o_mod, o_pow, o_neg, o_lt, o_le, o_gt, o_ge, o_ltS, o_eqI, o_eqS, o_neI, o_neS, o_eqL, o_neL, o_lenS, o_lenT, o_lenL, o_lenR, o_int, o_intB, o_abs, o_max, o_min, o_st, o_ixL, o_ixT, o_ixR, o_ixS, o_tupL, o_tupT, o_all, o_slS, o_slT, o_slL, o_join, o_asT, o_asL, o_part, o_is, o_reprL, o_reprT, t_bl, t_lst, t_tup, e_asO, e_asL, e_stL, e_pure, v_o0, v_o1, at0, at1, at2, ix30, ix31, ix32, li_R, li_L, e_wp0, e_wp, e_ss, e_gnd, e_app, e_pop, o_isiI, o_isiS, o_isiT, o_isiL, o_isiB, o_isiN, o_isi2I, o_isi2S, o_isi2T, o_isi2L, o_isi2B, o_isi2N, o_inS1, o_inT, o_ninT, o_intT, o_split, e_chain, e_binF, o_cat, e_dictP, e_while, e_din0, e_dput, o_sortD, e_key, e_asD, e_asM, e_itO, v_o1d, isT, reduceCtorEq, List.any_cons, List.any_nil, List.all_cons, List.all_nil, Bool.or_false, Bool.false_or, Bool.or_true, Bool.true_or, flatD, List.map_cons, List.map_nil, List.length_cons, List.length_nil, Nat.reduceAdd, Nat.reduceSub, List.reduceReplicate, List.cons_append, List.nil_append, List.append_nil, List.getElem?_cons_zero, List.getElem?_cons_succ, List.set_cons_zero, List.set_cons_succ, Option.map_some, Option.bind_some, ends0, ends1, endsF, ite_true, if_true, if_false, Bool.false_eq_true, reduceIte, true_and, and_true, Bool.not_true, Bool.not_false, Bool.not_eq_true', decide_eq_true_eq, decide_eq_false_iff_not]
            exact ⟨_, em, row, ks, _, _, rfl, rfl, nd, kw, rw', by omega, rfl⟩
        · exact ⟨_, by omega, r0, ks, _, _, rfl, rfl, nd, kw, ro, by omega, rfl⟩
      · rename_i hne
        rw [mkT_keys, allStr_map]
        simp only [e_var, e_c, e_bin, e_un, e_view, e_bnd, e_cons, e_nil, e_allD0, e_allD, e_allV0, e_allV1, e_allV2, e_cb, e_cf, e_on1, e_on2, e_test, e_truth, e_asB, e_asI, e_tup, e_lst, e_z, e_o, e_zg, e_og, e_ifE, e_and, e_or, e_not, e_andV, e_orV, e_notV, e_sm, e_smV, e_smf, e_call, e_callK, e_fnP, e_fnF, e_fnQ, e_next, e_seq, e_brk, e_cnt, e_drop, e_ret, e_if, e_asg, e_bname, e_btup, e_bsnil, e_bscons, e_par, e_fmt, e_js0, e_js, e_sl, e_nopart, e_part, e_frzd, e_frz1d, e_lc, e_for, e_seqI, e_rng1, e_rng2, e_enum, e_itT, e_itL, e_itS, e_start, e_yes, e_plain, o_add, o_addS, o_addT, o_addL, o_sub, o_mul, o_mulS, o_div, o_mod, o_pow, o_neg, o_lt, o_le, o_gt, o_ge, o_ltS, o_eqI, o_eqS, o_neI, o_neS, o_eqL, o_neL, o_lenS, o_lenT, o_lenL, o_lenR, o_int, o_intB, o_abs, o_max, o_min, o_st, o_ixL, o_ixT, o_ixR, o_ixS, o_tupL, o_tupT, o_all, o_slS, o_slT, o_slL, o_join, o_asT, o_asL, o_part, o_is, o_reprL, o_reprT, t_bl, t_lst, t_tup, e_asO, e_asL, e_stL, e_pure, v_o0, v_o1, at0, at1, at2, ix30, ix31, ix32, li_R, li_L, e_wp0, e_wp, e_ss, e_gnd, e_app, e_pop, o_isiI, o_isiS, o_isiT, o_isiL, o_isiB, o_isiN, o_isi2I, o_isi2S, o_isi2T, o_isi2L, o_isi2B, o_isi2N, o_inS1, o_inT, o_ninT, o_intT, o_split, e_chain, e_binF, o_cat, e_dictP, e_while, e_din0, e_dput, o_sortD, e_key, e_asD, e_asM, e_itO, v_o1d, isT, reduceCtorEq, List.any_cons, List.any_nil, List.all_cons, List.all_nil, Bool.or_false, Bool.false_or, Bool.or_true, Bool.true_or, flatD, List.map_cons, List.map_nil, List.length_cons, List.length_nil, Nat.reduceAdd, Nat.reduceSub, List.reduceReplicate, List.cons_append, List.nil_append, List.append_nil, List.getElem?_cons_zero, List.getElem?_cons_succ, List.set_cons_zero, List.set_cons_succ, Option.map_some, Option.bind_some, ends0, ends1, endsF, ite_true, if_true, if_false, Bool.false_eq_true, reduceIte, true_and, and_true, Bool.not_true, Bool.not_false, Bool.not_eq_true', decide_eq_true_eq, decide_eq_false_iff_not]
        have k40 := List.Nodup.length_le_of_subset nd kw
        refine ⟨by omega, h _ ⟨by rw [(srt_perm _).length_eq]; omega, fun w hx => hw.len w (kw w ((srt_perm _).mem_iff.mp hx)), fun w hx => hw.az w (kw w ((srt_perm _).mem_iff.mp hx))⟩⟩
end K28
end

section
set_option maxRecDepth 100000
namespace K28
open PySem PySem.Spec L2 Dl
open PyProof.Rows hiding St
theorem ints_cons (lo : Int) (n : Nat) : intsOf lo (n + 1) = .int lo :: intsOf (lo + 1) n := by
  unfold intsOf
  rw [List.range_succ_eq_map, List.map_cons, List.map_map]
  congr 1
  · show D.int (lo + 0) = _
    rw [Int.add_zero]
  · refine List.map_congr_left fun i _ => ?_
    show D.int (lo + ((i + 1 : Nat) : Int)) = D.int (lo + 1 + (i : Int))
    congr 1
    omega
theorem ints_at {d : D} {l : List D} {j c : Nat} (h : d :: l = intsOf j c) : ∃ c', c = c' + 1 ∧ d = .int j ∧ l = intsOf ((j + 1 : Nat) : Int) c' := by
  cases c with
  | zero => cases h
  | succ c =>
    rw [ints_cons] at h
    injection h with h1 h2
    exact ⟨c, rfl, h1, h2⟩
theorem own_paper_ok {N : Nat} {o : MO} {n : Nat} {ws : List (List Nat)} {s : List Nat} {P : D → MO → Prop} (ho : Pl N o) (hN : N ≤ 2 ^ 59) (n2 : 2 ≤ n) (hn : n ≤ 6) (hw : Wins n ws) (h1 : n ≤ s.length) (h2 : s.length ≤ n + 20)
    (k0 : ∀ o', Pl (N + 1000) o' → P (.lst []) o') (k1 : ∀ (ls : List (List (List Nat))) (o' : MO), ls.length ≤ 420 → (∀ l ∈ ls, Lot n l) → Pl (N + 1000) o' → P (.lst [.tup (ls.map lotD)]) o') : g__law_own_paper o [.int n, .tup (ws.map .str), .str s] P := by
  refine ⟨rfl, ?_⟩
  have hf := hw.few
  simp only [r__law_own_paper, e_var, e_c, e_bin, e_un, e_view, e_bnd, e_cons, e_nil, e_allD0, e_allD, e_allV0, e_allV1, e_allV2, e_cb, e_cf, e_on1, e_on2, e_test, e_truth, e_asB, e_asI, e_tup, e_lst, e_z, e_o, e_zg, e_og, e_ifE, e_and, e_or, e_not, e_andV, e_orV, e_notV, e_sm, e_smV, e_smf, e_call, e_callK, e_fnP, e_fnF, e_fnQ, e_next, e_seq, e_brk, e_cnt, e_drop, e_ret, e_if, e_asg, e_bname, e_btup, e_bsnil, e_bscons, e_par, e_fmt, e_js0, e_js, e_sl, e_nopart, e_part, e_frzd, e_frz1d, e_lc, e_for, e_seqI, e_rng1, e_rng2, e_enum, e_itT, e_itL, e_itS, e_start, e_yes, e_plain, o_add, o_addS, o_addT, o_addL, o_sub, o_mul, o_mulS, o_div, o_mod, o_pow, o_neg, o_lt, o_le, o_gt, o_ge, o_ltS, o_eqI, o_eqS, o_neI, o_neS, o_eqL, o_neL, o_lenS, o_lenT, o_lenL, o_lenR, o_int, o_intB, o_abs, o_max, o_min, o_st, o_ixL, o_ixT, o_ixR, o_ixS, o_tupL, o_tupT, o_all, o_slS, o_slT, o_slL, o_join, o_asT, o_asL, o_part, o_is, o_reprL, o_reprT, t_bl, t_lst, t_tup, e_asO, e_asL, e_stL, e_pure, v_o0, v_o1, at0, at1, at2, ix30, ix31, ix32, li_R, li_L, e_wp0, e_wp, e_ss, e_gnd, e_app, e_pop, o_isiI, o_isiS, o_isiT, o_isiL, o_isiB, o_isiN, o_isi2I, o_isi2S, o_isi2T, o_isi2L, o_isi2B, o_isi2N, o_inS1, o_inT, o_ninT, o_intT, o_split, e_chain, e_binF, o_cat, e_dictP, e_while, e_din0, e_dput, o_sortD, e_key, e_asD, e_asM, e_itO, v_o1d, isT, reduceCtorEq, List.any_cons, List.any_nil, List.all_cons, List.all_nil, Bool.or_false, Bool.false_or, Bool.or_true, Bool.true_or, flatD, List.map_cons, List.map_nil, List.length_cons, List.length_nil, Nat.reduceAdd, Nat.reduceSub, List.reduceReplicate, List.cons_append, List.nil_append, List.append_nil, List.getElem?_cons_zero, List.getElem?_cons_succ, List.set_cons_zero, List.set_cons_succ, Option.map_some, Option.bind_some, ends0, ends1, endsF, ite_true, if_true, if_false, Bool.false_eq_true, reduceIte, true_and, and_true, Bool.not_true, Bool.not_false, Bool.not_eq_true', decide_eq_true_eq, decide_eq_false_iff_not]
  refine inner_ok (by omega) hn h1 (by omega) fun steps inner l1 l2 => ?_
  simp only [e_var, e_c, e_bin, e_un, e_view, e_bnd, e_cons, e_nil, e_allD0, e_allD, e_allV0, e_allV1, e_allV2, e_cb, e_cf, e_on1, e_on2, e_test, e_truth, e_asB, e_asI, e_tup, e_lst, e_z, e_o, e_zg, e_og, e_ifE, e_and, e_or, e_not, e_andV, e_orV, e_notV, e_sm, e_smV, e_smf, e_call, e_callK, e_fnP, e_fnF, e_fnQ, e_next, e_seq, e_brk, e_cnt, e_drop, e_ret, e_if, e_asg, e_bname, e_btup, e_bsnil, e_bscons, e_par, e_fmt, e_js0, e_js, e_sl, e_nopart, e_part, e_frzd, e_frz1d, e_lc, e_for, e_seqI, e_rng1, e_rng2, e_enum, e_itT, e_itL, e_itS, e_start, e_yes, e_plain, o_add, o_addS, o_addT, o_addL, o_sub, o_mul, o_mulS, o_div, o_mod, o_pow, o_neg, o_lt, o_le, o_gt, o_ge, o_ltS, o_eqI, o_eqS, o_neI, o_neS, o_eqL, o_neL, o_lenS, o_lenT, o_lenL, o_lenR, o_int, o_intB, o_abs, o_max, o_min, o_st, o_ixL, o_ixT, o_ixR, o_ixS, o_tupL, o_tupT, o_all, o_slS, o_slT, o_slL, o_join, o_asT, o_asL, o_part, o_is, o_reprL, o_reprT, t_bl, t_lst, t_tup, e_asO, e_asL, e_stL, e_pure, v_o0, v_o1, at0, at1, at2, ix30, ix31, ix32, li_R, li_L, e_wp0, e_wp, e_ss, e_gnd, e_app, e_pop, o_isiI, o_isiS, o_isiT, o_isiL, o_isiB, o_isiN, o_isi2I, o_isi2S, o_isi2T, o_isi2L, o_isi2B, o_isi2N, o_inS1, o_inT, o_ninT, o_intT, o_split, e_chain, e_binF, o_cat, e_dictP, e_while, e_din0, e_dput, o_sortD, e_key, e_asD, e_asM, e_itO, v_o1d, isT, reduceCtorEq, List.any_cons, List.any_nil, List.all_cons, List.all_nil, Bool.or_false, Bool.false_or, Bool.or_true, Bool.true_or, flatD, List.map_cons, List.map_nil, List.length_cons, List.length_nil, Nat.reduceAdd, Nat.reduceSub, List.reduceReplicate, List.cons_append, List.nil_append, List.append_nil, List.getElem?_cons_zero, List.getElem?_cons_succ, List.set_cons_zero, List.set_cons_succ, Option.map_some, Option.bind_some, ends0, ends1, endsF, ite_true, if_true, if_false, Bool.false_eq_true, reduceIte, true_and, and_true, Bool.not_true, Bool.not_false, Bool.not_eq_true', decide_eq_true_eq, decide_eq_false_iff_not, List.length_map]
  refine ⟨by decide, ho.pure, scoop_ok ho (by omega) (by decide) (by decide) fun d o1 d0 d1 p1 => ?_⟩
  simp only [e_var, e_c, e_bin, e_un, e_view, e_bnd, e_cons, e_nil, e_allD0, e_allD, e_allV0, e_allV1, e_allV2, e_cb, e_cf, e_on1, e_on2, e_test, e_truth, e_asB, e_asI, e_tup, e_lst, e_z, e_o, e_zg, e_og, e_ifE, e_and, e_or, e_not, e_andV, e_orV, e_notV, e_sm, e_smV, e_smf, e_call, e_callK, e_fnP, e_fnF, e_fnQ, e_next, e_seq, e_brk, e_cnt, e_drop, e_ret, e_if, e_asg, e_bname, e_btup, e_bsnil, e_bscons, e_par, e_fmt, e_js0, e_js, e_sl, e_nopart, e_part, e_frzd, e_frz1d, e_lc, e_for, e_seqI, e_rng1, e_rng2, e_enum, e_itT, e_itL, e_itS, e_start, e_yes, e_plain, o_add, o_addS, o_addT, o_addL, o_sub, o_mul, o_mulS, o_div, o_mod, o_pow, o_neg, o_lt, o_le, o_gt, o_ge, o_ltS, o_eqI, o_eqS, o_neI, o_neS, o_eqL, o_neL, o_lenS, o_lenT, o_lenL, o_lenR, o_int, o_intB, o_abs, o_max, o_min, o_st, o_ixL, o_ixT, o_ixR, o_ixS, o_tupL, o_tupT, o_all, o_slS, o_slT, o_slL, o_join, o_asT, o_asL, o_part, o_is, o_reprL, o_reprT, t_bl, t_lst, t_tup, e_asO, e_asL, e_stL, e_pure, v_o0, v_o1, at0, at1, at2, ix30, ix31, ix32, li_R, li_L, e_wp0, e_wp, e_ss, e_gnd, e_app, e_pop, o_isiI, o_isiS, o_isiT, o_isiL, o_isiB, o_isiN, o_isi2I, o_isi2S, o_isi2T, o_isi2L, o_isi2B, o_isi2N, o_inS1, o_inT, o_ninT, o_intT, o_split, e_chain, e_binF, o_cat, e_dictP, e_while, e_din0, e_dput, o_sortD, e_key, e_asD, e_asM, e_itO, v_o1d, isT, reduceCtorEq, List.any_cons, List.any_nil, List.all_cons, List.all_nil, Bool.or_false, Bool.false_or, Bool.or_true, Bool.true_or, flatD, List.map_cons, List.map_nil, List.length_cons, List.length_nil, Nat.reduceAdd, Nat.reduceSub, List.reduceReplicate, List.cons_append, List.nil_append, List.append_nil, List.getElem?_cons_zero, List.getElem?_cons_succ, List.set_cons_zero, List.set_cons_succ, Option.map_some, Option.bind_some, ends0, ends1, endsF, ite_true, if_true, if_false, Bool.false_eq_true, reduceIte, true_and, and_true, Bool.not_true, Bool.not_false, Bool.not_eq_true', decide_eq_true_eq, decide_eq_false_iff_not]
  refine ⟨by decide, by decide, by omega, by omega, ?_⟩
  generalize decide (d = 0) = wide
  rw [show ((steps.length : Int) - 1).toNat = steps.length - 1 by omega]
  refine for_inv (I := fun l ρ m => ∃ (j c : Nat) (o' : MO) (ls : List (List (List Nat))) (x8 x9 x10 x11 : Option SV), l = intsOf (j : Int) c ∧ m = [o', .lst (ls.map lotD)] ∧ ρ = [some (.o 0), some (.d (.int n)), some (.d (.tup (ws.map .str))), some (.d (.str s)), some (.d (.lst (steps.map .str))), some (.d (.lst (inner.map .str))), some (.o 1), some (.d (.bl wide)), x8, x9, x10, x11] ∧
    1 ≤ j ∧ j + c = steps.length ∧ Pl (N + 1 + ls.length) o' ∧ (∀ l ∈ ls, Lot n l) ∧ ls.length ≤ 20 * (j - 1)) (fun d l ρ m Nx hI nx => ?_) (fun ρ m hI => ?_) _ _ _ ⟨1, steps.length - 1, o1, [], none, none, none, none, rfl, rfl, rfl, by decide, by omega, p1, nofun, Nat.zero_le _⟩
  · obtain ⟨j, c, o', ls, x8, x9, x10, x11, e, rfl, rfl, j1, jc, po, hL, hl⟩ := hI
    obtain ⟨c, rfl, rfl, rfl⟩ := ints_at e
    simp only [e_var, e_c, e_bin, e_un, e_view, e_bnd, e_cons, e_nil, e_allD0, e_allD, e_allV0, e_allV1, e_allV2, e_cb, e_cf, e_on1, e_on2, e_test, e_truth, e_asB, e_asI, e_tup, e_lst, e_z, e_o, e_zg, e_og, e_ifE, e_and, e_or, e_not, e_andV, e_orV, e_notV, e_sm, e_smV, e_smf, e_call, e_callK, e_fnP, e_fnF, e_fnQ, e_next, e_seq, e_brk, e_cnt, e_drop, e_ret, e_if, e_asg, e_bname, e_btup, e_bsnil, e_bscons, e_par, e_fmt, e_js0, e_js, e_sl, e_nopart, e_part, e_frzd, e_frz1d, e_lc, e_for, e_seqI, e_rng1, e_rng2, e_enum, e_itT, e_itL, e_itS, e_start, e_yes, e_plain, o_add, o_addS, o_addT, o_addL, o_sub, o_mul, o_mulS, o_div, o_mod, o_pow, o_neg, o_lt, o_le, o_gt, o_ge, o_ltS, o_eqI, o_eqS, o_neI, o_neS, o_eqL, o_neL, o_lenS, o_lenT, o_lenL, o_lenR, o_int, o_intB, o_abs, o_max, o_min, o_st, o_ixL, o_ixT, o_ixR, o_ixS, o_tupL, o_tupT, o_all, o_slS, o_slT, o_slL, o_join, o_asT, o_asL, o_part, o_is, o_reprL, o_reprT, t_bl, t_lst, t_tup, e_asO, e_asL, e_stL, e_pure, v_o0, v_o1, at0, at1, at2, ix30, ix31, ix32, li_R, li_L, e_wp0, e_wp, e_ss, e_gnd, e_app, e_pop, o_isiI, o_isiS, o_isiT, o_isiL, o_isiB, o_isiN, o_isi2I, o_isi2S, o_isi2T, o_isi2L, o_isi2B, o_isi2N, o_inS1, o_inT, o_ninT, o_intT, o_split, e_chain, e_binF, o_cat, e_dictP, e_while, e_din0, e_dput, o_sortD, e_key, e_asD, e_asM, e_itO, v_o1d, isT, reduceCtorEq, List.any_cons, List.any_nil, List.all_cons, List.all_nil, Bool.or_false, Bool.false_or, Bool.or_true, Bool.true_or, flatD, List.map_cons, List.map_nil, List.length_cons, List.length_nil, Nat.reduceAdd, Nat.reduceSub, List.reduceReplicate, List.cons_append, List.nil_append, List.append_nil, List.getElem?_cons_zero, List.getElem?_cons_succ, List.set_cons_zero, List.set_cons_succ, Option.map_some, Option.bind_some, ends0, ends1, endsF, ite_true, if_true, if_false, Bool.false_eq_true, reduceIte, true_and, and_true, Bool.not_true, Bool.not_false, Bool.not_eq_true', decide_eq_true_eq, decide_eq_false_iff_not]
    refine ⟨by decide, by decide, by omega, by omega, ?_⟩
    rw [show ((j : Int) + 1 - 1).toNat = j by omega]
    refine for_inv (I := fun l ρ m => ∃ (i b : Nat) (o' : MO) (ls : List (List (List Nat))) (x9 x10 x11 : Option SV), l = intsOf (i : Int) b ∧ m = [o', .lst (ls.map lotD)] ∧ ρ = [some (.o 0), some (.d (.int n)), some (.d (.tup (ws.map .str))), some (.d (.str s)), some (.d (.lst (steps.map .str))), some (.d (.lst (inner.map .str))), some (.o 1), some (.d (.bl wide)), some (.d (.int j)), x9, x10, x11] ∧
      1 ≤ i ∧ i + b = j + 1 ∧ Pl (N + 1 + ls.length) o' ∧ (∀ l ∈ ls, Lot n l) ∧ ls.length ≤ 20 * (j - 1) + (i - 1)) (fun d l ρ m Nx2 hI nx2 => ?_) (fun ρ m hI => ?_) _ _ _ ⟨1, j, o', ls, x9, x10, x11, rfl, rfl, rfl, by decide, by omega, po, hL, by omega⟩
    · obtain ⟨i, b, o', ls, x9, x10, x11, e, rfl, rfl, i1, ib, po, hL, hl⟩ := hI
      obtain ⟨b, rfl, rfl, rfl⟩ := ints_at e
      have step : ∀ (o2 : MO) (lot : List (List Nat)) (x11 : Option SV), Lot n lot → Pl (N + 1 + (ls.length + 1)) o2 → ls.length < 16777216 ∧ Nx2 [some (.o 0), some (.d (.int n)), some (.d (.tup (ws.map .str))), some (.d (.str s)), some (.d (.lst (steps.map .str))), some (.d (.lst (inner.map .str))), some (.o 1), some (.d (.bl wide)), some (.d (.int j)), some (.d (.int i)), some (.d (lotD lot)), x11] [o2, .lst (ls.map lotD ++ [lotD lot])] := fun o2 lot x11 hlot p => by
        refine ⟨by omega, nx2 _ _ ⟨i + 1, b, o2, ls ++ [lot], _, _, _, rfl, by rw [List.map_append]; rfl, rfl, by omega, by omega, ?_, ?_, ?_⟩⟩
        · rw [List.length_append]
          exact p
        · intro l hl
          rcases List.mem_append.mp hl with h | h
          · exact hL l h
          · rw [List.mem_singleton.mp h]
            exact hlot
        · rw [List.length_append, List.length_singleton]
          omega
      have none_ : ∀ w ∈ ([] : List (List Nat)), w ∈ ws := nofun
      simp only [e_var, e_c, e_bin, e_un, e_view, e_bnd, e_cons, e_nil, e_allD0, e_allD, e_allV0, e_allV1, e_allV2, e_cb, e_cf, e_on1, e_on2, e_test, e_truth, e_asB, e_asI, e_tup, e_lst, e_z, e_o, e_zg, e_og, e_ifE, e_and, e_or, e_not, e_andV, e_orV, e_notV, e_sm, e_smV, e_smf, e_call, e_callK, e_fnP, e_fnF, e_fnQ, e_next, e_seq, e_brk, e_cnt, e_drop, e_ret, e_if, e_asg, e_bname, e_btup, e_bsnil, e_bscons, e_par, e_fmt, e_js0, e_js, e_sl, e_nopart, e_part, e_frzd, e_frz1d, e_lc, e_for, e_seqI, e_rng1, e_rng2, e_enum, e_itT, e_itL, e_itS, e_start, e_yes, e_plain, o_add, o_addS, o_addT, o_addL, o_sub, o_mul, o_mulS, o_div, o_mod, o_pow, o_neg, o_lt, o_le, o_gt, o_ge, o_ltS, o_eqI, o_eqS, o_neI, o_neS, o_eqL, o_neL, o_lenS, o_lenT, o_lenL, o_lenR, o_int, o_intB, o_abs, o_max, o_min, o_st, o_ixL, o_ixT, o_ixR, o_ixS, o_tupL, o_tupT, o_all, o_slS, o_slT, o_slL, o_join, o_asT, o_asL, o_part, o_is, o_reprL, o_reprT, t_bl, t_lst, t_tup, e_asO, e_asL, e_stL, e_pure, v_o0, v_o1, at0, at1, at2, ix30, ix31, ix32, li_R, li_L, e_wp0, e_wp, e_ss, e_gnd, e_app, e_pop, o_isiI, o_isiS, o_isiT, o_isiL, o_isiB, o_isiN, o_isi2I, o_isi2S, o_isi2T, o_isi2L, o_isi2B, o_isi2N, o_inS1, o_inT, o_ninT, o_intT, o_split, e_chain, e_binF, o_cat, e_dictP, e_while, e_din0, e_dput, o_sortD, e_key, e_asD, e_asM, e_itO, v_o1d, isT, reduceCtorEq, List.any_cons, List.any_nil, List.all_cons, List.all_nil, Bool.or_false, Bool.false_or, Bool.or_true, Bool.true_or, flatD, List.map_cons, List.map_nil, List.length_cons, List.length_nil, Nat.reduceAdd, Nat.reduceSub, List.reduceReplicate, List.cons_append, List.nil_append, List.append_nil, List.getElem?_cons_zero, List.getElem?_cons_succ, List.set_cons_zero, List.set_cons_succ, Option.map_some, Option.bind_some, ends0, ends1, endsF, ite_true, if_true, if_false, Bool.false_eq_true, reduceIte, true_and, and_true, Bool.not_true, Bool.not_false, Bool.not_eq_true', decide_eq_true_eq, decide_eq_false_iff_not]
      refine ⟨by decide, lot_ok (more := []) (by omega) hn hw none_ (by decide) i1 (by omega) (by omega) (by omega) (by omega) fun lot hlot => ?_⟩
      refine is_open_ok hlot hn i1 (by omega) (by omega) fun op => ?_
      cases op with
      | true =>
        simp only [e_var, e_c, e_bin, e_un, e_view, e_bnd, e_cons, e_nil, e_allD0, e_allD, e_allV0, e_allV1, e_allV2, e_cb, e_cf, e_on1, e_on2, e_test, e_truth, e_asB, e_asI, e_tup, e_lst, e_z, e_o, e_zg, e_og, e_ifE, e_and, e_or, e_not, e_andV, e_orV, e_notV, e_sm, e_smV, e_smf, e_call, e_callK, e_fnP, e_fnF, e_fnQ, e_next, e_seq, e_brk, e_cnt, e_drop, e_ret, e_if, e_asg, e_bname, e_btup, e_bsnil, e_bscons, e_par, e_fmt, e_js0, e_js, e_sl, e_nopart, e_part, e_frzd, e_frz1d, e_lc, e_for, e_seqI, e_rng1, e_rng2, e_enum, e_itT, e_itL, e_itS, e_start, e_yes, e_plain, o_add, o_addS, o_addT, o_addL, o_sub, o_mul, o_mulS, o_div, o_mod, o_pow, o_neg, o_lt, o_le, o_gt, o_ge, o_ltS, o_eqI, o_eqS, o_neI, o_neS, o_eqL, o_neL, o_lenS, o_lenT, o_lenL, o_lenR, o_int, o_intB, o_abs, o_max, o_min, o_st, o_ixL, o_ixT, o_ixR, o_ixS, o_tupL, o_tupT, o_all, o_slS, o_slT, o_slL, o_join, o_asT, o_asL, o_part, o_is, o_reprL, o_reprT, t_bl, t_lst, t_tup, e_asO, e_asL, e_stL, e_pure, v_o0, v_o1, at0, at1, at2, ix30, ix31, ix32, li_R, li_L, e_wp0, e_wp, e_ss, e_gnd, e_app, e_pop, o_isiI, o_isiS, o_isiT, o_isiL, o_isiB, o_isiN, o_isi2I, o_isi2S, o_isi2T, o_isi2L, o_isi2B, o_isi2N, o_inS1, o_inT, o_ninT, o_intT, o_split, e_chain, e_binF, o_cat, e_dictP, e_while, e_din0, e_dput, o_sortD, e_key, e_asD, e_asM, e_itO, v_o1d, isT, reduceCtorEq, List.any_cons, List.any_nil, List.all_cons, List.all_nil, Bool.or_false, Bool.false_or, Bool.or_true, Bool.true_or, flatD, List.map_cons, List.map_nil, List.length_cons, List.length_nil, Nat.reduceAdd, Nat.reduceSub, List.reduceReplicate, List.cons_append, List.nil_append, List.append_nil, List.getElem?_cons_zero, List.getElem?_cons_succ, List.set_cons_zero, List.set_cons_succ, Option.map_some, Option.bind_some, ends0, ends1, endsF, ite_true, if_true, if_false, Bool.false_eq_true, reduceIte, true_and, and_true, Bool.not_true, Bool.not_false, Bool.not_eq_true', decide_eq_true_eq, decide_eq_false_iff_not]
        exact ⟨by decide, po.pure, k0 _ (po.up (by omega))⟩
      | false =>
        simp only [e_var, e_c, e_bin, e_un, e_view, e_bnd, e_cons, e_nil, e_allD0, e_allD, e_allV0, e_allV1, e_allV2, e_cb, e_cf, e_on1, e_on2, e_test, e_truth, e_asB, e_asI, e_tup, e_lst, e_z, e_o, e_zg, e_og, e_ifE, e_and, e_or, e_not, e_andV, e_orV, e_notV, e_sm, e_smV, e_smf, e_call, e_callK, e_fnP, e_fnF, e_fnQ, e_next, e_seq, e_brk, e_cnt, e_drop, e_ret, e_if, e_asg, e_bname, e_btup, e_bsnil, e_bscons, e_par, e_fmt, e_js0, e_js, e_sl, e_nopart, e_part, e_frzd, e_frz1d, e_lc, e_for, e_seqI, e_rng1, e_rng2, e_enum, e_itT, e_itL, e_itS, e_start, e_yes, e_plain, o_add, o_addS, o_addT, o_addL, o_sub, o_mul, o_mulS, o_div, o_mod, o_pow, o_neg, o_lt, o_le, o_gt, o_ge, o_ltS, o_eqI, o_eqS, o_neI, o_neS, o_eqL, o_neL, o_lenS, o_lenT, o_lenL, o_lenR, o_int, o_intB, o_abs, o_max, o_min, o_st, o_ixL, o_ixT, o_ixR, o_ixS, o_tupL, o_tupT, o_all, o_slS, o_slT, o_slL, o_join, o_asT, o_asL, o_part, o_is, o_reprL, o_reprT, t_bl, t_lst, t_tup, e_asO, e_asL, e_stL, e_pure, v_o0, v_o1, at0, at1, at2, ix30, ix31, ix32, li_R, li_L, e_wp0, e_wp, e_ss, e_gnd, e_app, e_pop, o_isiI, o_isiS, o_isiT, o_isiL, o_isiB, o_isiN, o_isi2I, o_isi2S, o_isi2T, o_isi2L, o_isi2B, o_isi2N, o_inS1, o_inT, o_ninT, o_intT, o_split, e_chain, e_binF, o_cat, e_dictP, e_while, e_din0, e_dput, o_sortD, e_key, e_asD, e_asM, e_itO, v_o1d, isT, reduceCtorEq, List.any_cons, List.any_nil, List.all_cons, List.all_nil, Bool.or_false, Bool.false_or, Bool.or_true, Bool.true_or, flatD, List.map_cons, List.map_nil, List.length_cons, List.length_nil, Nat.reduceAdd, Nat.reduceSub, List.reduceReplicate, List.cons_append, List.nil_append, List.append_nil, List.getElem?_cons_zero, List.getElem?_cons_succ, List.set_cons_zero, List.set_cons_succ, Option.map_some, Option.bind_some, ends0, ends1, endsF, ite_true, if_true, if_false, Bool.false_eq_true, reduceIte, true_and, and_true, Bool.not_true, Bool.not_false, Bool.not_eq_true', decide_eq_true_eq, decide_eq_false_iff_not]
        cases wide with
        | true =>
          simp only [e_var, e_c, e_bin, e_un, e_view, e_bnd, e_cons, e_nil, e_allD0, e_allD, e_allV0, e_allV1, e_allV2, e_cb, e_cf, e_on1, e_on2, e_test, e_truth, e_asB, e_asI, e_tup, e_lst, e_z, e_o, e_zg, e_og, e_ifE, e_and, e_or, e_not, e_andV, e_orV, e_notV, e_sm, e_smV, e_smf, e_call, e_callK, e_fnP, e_fnF, e_fnQ, e_next, e_seq, e_brk, e_cnt, e_drop, e_ret, e_if, e_asg, e_bname, e_btup, e_bsnil, e_bscons, e_par, e_fmt, e_js0, e_js, e_sl, e_nopart, e_part, e_frzd, e_frz1d, e_lc, e_for, e_seqI, e_rng1, e_rng2, e_enum, e_itT, e_itL, e_itS, e_start, e_yes, e_plain, o_add, o_addS, o_addT, o_addL, o_sub, o_mul, o_mulS, o_div, o_mod, o_pow, o_neg, o_lt, o_le, o_gt, o_ge, o_ltS, o_eqI, o_eqS, o_neI, o_neS, o_eqL, o_neL, o_lenS, o_lenT, o_lenL, o_lenR, o_int, o_intB, o_abs, o_max, o_min, o_st, o_ixL, o_ixT, o_ixR, o_ixS, o_tupL, o_tupT, o_all, o_slS, o_slT, o_slL, o_join, o_asT, o_asL, o_part, o_is, o_reprL, o_reprT, t_bl, t_lst, t_tup, e_asO, e_asL, e_stL, e_pure, v_o0, v_o1, at0, at1, at2, ix30, ix31, ix32, li_R, li_L, e_wp0, e_wp, e_ss, e_gnd, e_app, e_pop, o_isiI, o_isiS, o_isiT, o_isiL, o_isiB, o_isiN, o_isi2I, o_isi2S, o_isi2T, o_isi2L, o_isi2B, o_isi2N, o_inS1, o_inT, o_ninT, o_intT, o_split, e_chain, e_binF, o_cat, e_dictP, e_while, e_din0, e_dput, o_sortD, e_key, e_asD, e_asM, e_itO, v_o1d, isT, reduceCtorEq, List.any_cons, List.any_nil, List.all_cons, List.all_nil, Bool.or_false, Bool.false_or, Bool.or_true, Bool.true_or, flatD, List.map_cons, List.map_nil, List.length_cons, List.length_nil, Nat.reduceAdd, Nat.reduceSub, List.reduceReplicate, List.cons_append, List.nil_append, List.append_nil, List.getElem?_cons_zero, List.getElem?_cons_succ, List.set_cons_zero, List.set_cons_succ, Option.map_some, Option.bind_some, ends0, ends1, endsF, ite_true, if_true, if_false, Bool.false_eq_true, reduceIte, true_and, and_true, Bool.not_true, Bool.not_false, Bool.not_eq_true', decide_eq_true_eq, decide_eq_false_iff_not]
          refine ⟨po.pure, pick_ok po (by omega) (by simpa using hw.ne) (by rw [List.length_map]; omega) _ (.inr rfl) fun d o2 hd p2 => ?_⟩
          obtain ⟨w, hw1, rfl⟩ := List.mem_map.mp hd
          refine ⟨by decide, lot_ok (more := [w]) (by omega) hn hw (fun u hu => by rw [List.mem_singleton.mp hu]; exact hw1) (Nat.le_refl 1) i1 (by omega) (by omega) (by omega) (by omega) fun lot2 hlot2 => ?_⟩
          refine is_open_ok hlot2 hn i1 (by omega) (by omega) fun op => ?_
          cases op with
          | true =>
            simp only [e_var, e_c, e_bin, e_un, e_view, e_bnd, e_cons, e_nil, e_allD0, e_allD, e_allV0, e_allV1, e_allV2, e_cb, e_cf, e_on1, e_on2, e_test, e_truth, e_asB, e_asI, e_tup, e_lst, e_z, e_o, e_zg, e_og, e_ifE, e_and, e_or, e_not, e_andV, e_orV, e_notV, e_sm, e_smV, e_smf, e_call, e_callK, e_fnP, e_fnF, e_fnQ, e_next, e_seq, e_brk, e_cnt, e_drop, e_ret, e_if, e_asg, e_bname, e_btup, e_bsnil, e_bscons, e_par, e_fmt, e_js0, e_js, e_sl, e_nopart, e_part, e_frzd, e_frz1d, e_lc, e_for, e_seqI, e_rng1, e_rng2, e_enum, e_itT, e_itL, e_itS, e_start, e_yes, e_plain, o_add, o_addS, o_addT, o_addL, o_sub, o_mul, o_mulS, o_div, o_mod, o_pow, o_neg, o_lt, o_le, o_gt, o_ge, o_ltS, o_eqI, o_eqS, o_neI, o_neS, o_eqL, o_neL, o_lenS, o_lenT, o_lenL, o_lenR, o_int, o_intB, o_abs, o_max, o_min, o_st, o_ixL, o_ixT, o_ixR, o_ixS, o_tupL, o_tupT, o_all, o_slS, o_slT, o_slL, o_join, o_asT, o_asL, o_part, o_is, o_reprL, o_reprT, t_bl, t_lst, t_tup, e_asO, e_asL, e_stL, e_pure, v_o0, v_o1, at0, at1, at2, ix30, ix31, ix32, li_R, li_L, e_wp0, e_wp, e_ss, e_gnd, e_app, e_pop, o_isiI, o_isiS, o_isiT, o_isiL, o_isiB, o_isiN, o_isi2I, o_isi2S, o_isi2T, o_isi2L, o_isi2B, o_isi2N, o_inS1, o_inT, o_ninT, o_intT, o_split, e_chain, e_binF, o_cat, e_dictP, e_while, e_din0, e_dput, o_sortD, e_key, e_asD, e_asM, e_itO, v_o1d, isT, reduceCtorEq, List.any_cons, List.any_nil, List.all_cons, List.all_nil, Bool.or_false, Bool.false_or, Bool.or_true, Bool.true_or, flatD, List.map_cons, List.map_nil, List.length_cons, List.length_nil, Nat.reduceAdd, Nat.reduceSub, List.reduceReplicate, List.cons_append, List.nil_append, List.append_nil, List.getElem?_cons_zero, List.getElem?_cons_succ, List.set_cons_zero, List.set_cons_succ, Option.map_some, Option.bind_some, ends0, ends1, endsF, ite_true, if_true, if_false, Bool.false_eq_true, reduceIte, true_and, and_true, Bool.not_true, Bool.not_false, Bool.not_eq_true', decide_eq_true_eq, decide_eq_false_iff_not, List.length_map]
            exact step o2 lot _ hlot p2
          | false =>
            simp only [e_var, e_c, e_bin, e_un, e_view, e_bnd, e_cons, e_nil, e_allD0, e_allD, e_allV0, e_allV1, e_allV2, e_cb, e_cf, e_on1, e_on2, e_test, e_truth, e_asB, e_asI, e_tup, e_lst, e_z, e_o, e_zg, e_og, e_ifE, e_and, e_or, e_not, e_andV, e_orV, e_notV, e_sm, e_smV, e_smf, e_call, e_callK, e_fnP, e_fnF, e_fnQ, e_next, e_seq, e_brk, e_cnt, e_drop, e_ret, e_if, e_asg, e_bname, e_btup, e_bsnil, e_bscons, e_par, e_fmt, e_js0, e_js, e_sl, e_nopart, e_part, e_frzd, e_frz1d, e_lc, e_for, e_seqI, e_rng1, e_rng2, e_enum, e_itT, e_itL, e_itS, e_start, e_yes, e_plain, o_add, o_addS, o_addT, o_addL, o_sub, o_mul, o_mulS, o_div, o_mod, o_pow, o_neg, o_lt, o_le, o_gt, o_ge, o_ltS, o_eqI, o_eqS, o_neI, o_neS, o_eqL, o_neL, o_lenS, o_lenT, o_lenL, o_lenR, o_int, o_intB, o_abs, o_max, o_min, o_st, o_ixL, o_ixT, o_ixR, o_ixS, o_tupL, o_tupT, o_all, o_slS, o_slT, o_slL, o_join, o_asT, o_asL, o_part, o_is, o_reprL, o_reprT, t_bl, t_lst, t_tup, e_asO, e_asL, e_stL, e_pure, v_o0, v_o1, at0, at1, at2, ix30, ix31, ix32, li_R, li_L, e_wp0, e_wp, e_ss, e_gnd, e_app, e_pop, o_isiI, o_isiS, o_isiT, o_isiL, o_isiB, o_isiN, o_isi2I, o_isi2S, o_isi2T, o_isi2L, o_isi2B, o_isi2N, o_inS1, o_inT, o_ninT, o_intT, o_split, e_chain, e_binF, o_cat, e_dictP, e_while, e_din0, e_dput, o_sortD, e_key, e_asD, e_asM, e_itO, v_o1d, isT, reduceCtorEq, List.any_cons, List.any_nil, List.all_cons, List.all_nil, Bool.or_false, Bool.false_or, Bool.or_true, Bool.true_or, flatD, List.map_cons, List.map_nil, List.length_cons, List.length_nil, Nat.reduceAdd, Nat.reduceSub, List.reduceReplicate, List.cons_append, List.nil_append, List.append_nil, List.getElem?_cons_zero, List.getElem?_cons_succ, List.set_cons_zero, List.set_cons_succ, Option.map_some, Option.bind_some, ends0, ends1, endsF, ite_true, if_true, if_false, Bool.false_eq_true, reduceIte, true_and, and_true, Bool.not_true, Bool.not_false, Bool.not_eq_true', decide_eq_true_eq, decide_eq_false_iff_not, List.length_map]
            exact step o2 lot2 _ hlot2 p2
        | false =>
          simp only [e_var, e_c, e_bin, e_un, e_view, e_bnd, e_cons, e_nil, e_allD0, e_allD, e_allV0, e_allV1, e_allV2, e_cb, e_cf, e_on1, e_on2, e_test, e_truth, e_asB, e_asI, e_tup, e_lst, e_z, e_o, e_zg, e_og, e_ifE, e_and, e_or, e_not, e_andV, e_orV, e_notV, e_sm, e_smV, e_smf, e_call, e_callK, e_fnP, e_fnF, e_fnQ, e_next, e_seq, e_brk, e_cnt, e_drop, e_ret, e_if, e_asg, e_bname, e_btup, e_bsnil, e_bscons, e_par, e_fmt, e_js0, e_js, e_sl, e_nopart, e_part, e_frzd, e_frz1d, e_lc, e_for, e_seqI, e_rng1, e_rng2, e_enum, e_itT, e_itL, e_itS, e_start, e_yes, e_plain, o_add, o_addS, o_addT, o_addL, o_sub, o_mul, o_mulS, o_div, o_mod, o_pow, o_neg, o_lt, o_le, o_gt, o_ge, o_ltS, o_eqI, o_eqS, o_neI, o_neS, o_eqL, o_neL, o_lenS, o_lenT, o_lenL, o_lenR, o_int, o_intB, o_abs, o_max, o_min, o_st, o_ixL, o_ixT, o_ixR, o_ixS, o_tupL, o_tupT, o_all, o_slS, o_slT, o_slL, o_join, o_asT, o_asL, o_part, o_is, o_reprL, o_reprT, t_bl, t_lst, t_tup, e_asO, e_asL, e_stL, e_pure, v_o0, v_o1, at0, at1, at2, ix30, ix31, ix32, li_R, li_L, e_wp0, e_wp, e_ss, e_gnd, e_app, e_pop, o_isiI, o_isiS, o_isiT, o_isiL, o_isiB, o_isiN, o_isi2I, o_isi2S, o_isi2T, o_isi2L, o_isi2B, o_isi2N, o_inS1, o_inT, o_ninT, o_intT, o_split, e_chain, e_binF, o_cat, e_dictP, e_while, e_din0, e_dput, o_sortD, e_key, e_asD, e_asM, e_itO, v_o1d, isT, reduceCtorEq, List.any_cons, List.any_nil, List.all_cons, List.all_nil, Bool.or_false, Bool.false_or, Bool.or_true, Bool.true_or, flatD, List.map_cons, List.map_nil, List.length_cons, List.length_nil, Nat.reduceAdd, Nat.reduceSub, List.reduceReplicate, List.cons_append, List.nil_append, List.append_nil, List.getElem?_cons_zero, List.getElem?_cons_succ, List.set_cons_zero, List.set_cons_succ, Option.map_some, Option.bind_some, ends0, ends1, endsF, ite_true, if_true, if_false, Bool.false_eq_true, reduceIte, true_and, and_true, Bool.not_true, Bool.not_false, Bool.not_eq_true', decide_eq_true_eq, decide_eq_false_iff_not, List.length_map]
          exact step o' lot _ hlot (po.up (by omega))
    · obtain ⟨i, b, o', ls, x9, x10, x11, e, rfl, rfl, i1, ib, po, hL, hl⟩ := hI
      have hb : b = 0 := by
        cases b with
        | zero => rfl
        | succ b =>
          rw [ints_cons] at e
          cases e
      refine ⟨trivial, nx _ _ ⟨j + 1, c, o', ls, _, _, _, _, rfl, rfl, rfl, by omega, by omega, po, hL, by omega⟩⟩
  · obtain ⟨j, c, o', ls, x8, x9, x10, x11, e, rfl, rfl, j1, jc, po, hL, hl⟩ := hI
    have hc : c = 0 := by
      cases c with
      | zero => rfl
      | succ c =>
        rw [ints_cons] at e
        cases e
    simp only [e_var, e_c, e_bin, e_un, e_view, e_bnd, e_cons, e_nil, e_allD0, e_allD, e_allV0, e_allV1, e_allV2, e_cb, e_cf, e_on1, e_on2, e_test, e_truth, e_asB, e_asI, e_tup, e_lst, e_z, e_o, e_zg, e_og, e_ifE, e_and, e_or, e_not, e_andV, e_orV, e_notV, e_sm, e_smV, e_smf, e_call, e_callK, e_fnP, e_fnF, e_fnQ, e_next, e_seq, e_brk, e_cnt, e_drop, e_ret, e_if, e_asg, e_bname, e_btup, e_bsnil, e_bscons, e_par, e_fmt, e_js0, e_js, e_sl, e_nopart, e_part, e_frzd, e_frz1d, e_lc, e_for, e_seqI, e_rng1, e_rng2, e_enum, e_itT, e_itL, e_itS, e_start, e_yes, e_plain, o_add, o_addS, o_addT, o_addL, o_sub, o_mul, o_mulS, o_div, o_mod, o_pow, o_neg, o_lt, o_le, o_gt, o_ge, o_ltS, o_eqI, o_eqS, o_neI, o_neS, o_eqL, o_neL, o_lenS, o_lenT, o_lenL, o_lenR, o_int, o_intB, o_abs, o_max, o_min, o_st, o_ixL, o_ixT, o_ixR, o_ixS, o_tupL, o_tupT, o_all, o_slS, o_slT, o_slL, o_join, o_asT, o_asL, o_part, o_is, o_reprL, o_reprT, t_bl, t_lst, t_tup, e_asO, e_asL, e_stL, e_pure, v_o0, v_o1, at0, at1, at2, ix30, ix31, ix32, li_R, li_L, e_wp0, e_wp, e_ss, e_gnd, e_app, e_pop, o_isiI, o_isiS, o_isiT, o_isiL, o_isiB, o_isiN, o_isi2I, o_isi2S, o_isi2T, o_isi2L, o_isi2B, o_isi2N, o_inS1, o_inT, o_ninT, o_intT, o_split, e_chain, e_binF, o_cat, e_dictP, e_while, e_din0, e_dput, o_sortD, e_key, e_asD, e_asM, e_itO, v_o1d, isT, reduceCtorEq, List.any_cons, List.any_nil, List.all_cons, List.all_nil, Bool.or_false, Bool.false_or, Bool.or_true, Bool.true_or, flatD, List.map_cons, List.map_nil, List.length_cons, List.length_nil, Nat.reduceAdd, Nat.reduceSub, List.reduceReplicate, List.cons_append, List.nil_append, List.append_nil, List.getElem?_cons_zero, List.getElem?_cons_succ, List.set_cons_zero, List.set_cons_succ, Option.map_some, Option.bind_some, ends0, ends1, endsF, ite_true, if_true, if_false, Bool.false_eq_true, reduceIte, true_and, and_true, Bool.not_true, Bool.not_false, Bool.not_eq_true', decide_eq_true_eq, decide_eq_false_iff_not]
    exact ⟨by decide, po.pure, k1 ls _ (by omega) hL (po.up (by omega))⟩
end K28
end

section
set_option maxRecDepth 100000
namespace K28
open PySem PySem.Spec L2 Dl
open PyProof.Rows hiding St
/-- one statement, then the rest -/
theorem seq_in {a b : SD} {R : ER} {DD : DEnds} {ρ : Rho} {m : Mu} (I : Rho → Mu → Prop) (h : ∀ Nx : Rho → Mu → Prop, (∀ ρ m, I ρ m → Nx ρ m) → a R { DD with nx := Nx } ρ m) (k : ∀ ρ m, I ρ m → b R DD ρ m) : dSeq a b R DD ρ m := h _ k
theorem num_cp {n : Nat} : ∀ c ∈ numT n, c < 1114112 := fun c hc => by
  have e : numT n = TL.numL n := TL.tl_num n
  rw [e] at hc
  have := TL.numL_digits n c hc
  omega
theorem join_cp {sep : List Nat} {b : Nat} (hs : ∀ c ∈ sep, c < b) : ∀ {ns : List (List Nat)}, (∀ s ∈ ns, ∀ c ∈ s, c < b) → ∀ c ∈ joinN sep ns, c < b
  | [], _, c, hc => by cases hc
  | [x], h, c, hc => h x List.mem_cons_self c hc
  | x :: y :: r, h, c, hc => by
    have hc2 : c ∈ x ++ sep ++ joinN sep (y :: r) := hc
    rw [List.mem_append, List.mem_append] at hc2
    rcases hc2 with (h1 | h1) | h1
    · exact h x List.mem_cons_self c h1
    · exact hs c h1
    · exact join_cp hs (fun s hm => h s (List.mem_cons_of_mem _ hm)) c h1
theorem wds_cp {n : Nat} {l : List (List Nat)} (h : Wds n l) : ∀ s ∈ l, ∀ c ∈ s, c < 1114112 := fun s hs c hc => by have := h.az s hs c hc; omega
theorem wrds_cp {l : List (List Nat)} (h : ∀ s ∈ l, ∀ c ∈ s, c < 1114112) : ∀ c ∈ wrds l, c < 1114112 := fun c hc => by
  unfold wrds at hc
  split at hc
  · exact join_cp (fun c hc => by rw [List.mem_singleton.mp hc]; decide) h c hc
  · rw [List.mem_singleton.mp hc]
    decide
theorem paper_cp {n : Nat} {ls : List (List (List Nat))} (h : ∀ l ∈ ls, Lot n l) : ∀ c ∈ paperT ls, c < 1114112 := join_cp (fun c hc => by
    simp only [List.mem_cons, List.not_mem_nil, or_false] at hc
    omega) fun s hs c hc => by
  obtain ⟨l, hl, rfl⟩ := List.mem_map.mp hs
  exact wrds_cp (wds_cp (h l hl).wds) c hc
theorem book_cp {n m : Nat} {ws : List (List Nat)} (h : Wds m ws) : ∀ c ∈ bookT n ws, c < 1114112 := fun c hc => by
  unfold bookT at hc
  rw [List.mem_append, List.mem_append] at hc
  rcases hc with (h1 | h1) | h1
  · exact num_cp c h1
  · simp only [List.mem_cons, List.not_mem_nil, or_false] at h1
    omega
  · exact join_cp (fun c hc => by rw [List.mem_singleton.mp hc]; decide) (wds_cp h) c h1
/-- repr of one text twice -/
theorem repr_2 {t : List Nat} {P : D → Prop} (hc : ∀ c ∈ t, c < 1114112) (hl : t.length ≤ 800000) (h : P (.str (shw (.lst [.str t, .str t])))) : oRepr (.lst [.str t, .str t]) P := by
  refine repr_ok (.inl ⟨_, rfl⟩) ?_ rfl ?_ h
  · show (okD 63 (.str t) && (okD 63 (.str t) && true)) = true
    rw [okS hc]
    rfl
  · show (10 * t.length + 2) + 2 + ((10 * t.length + 2) + 2 + 0) + 4 ≤ _
    omega
theorem lots_ok {n : Nat} {ls : List (List (List Nat))} (h : ∀ l ∈ ls, Lot n l) (hn : n ≤ 6) (hl : ls.length ≤ 1000) : okD 64 (.tup (ls.map lotD)) = true ∧ smD (.tup (ls.map lotD)) = true ∧ wtD (.tup (ls.map lotD)) ≤ 16777216 := by
  refine ⟨okL_map (n := 63) fun l hm => okL_map (n := 62) fun w hw => okS fun c hc => by have := (h l hm).az w hw c hc; omega, smL_map fun l hm => smL_map fun w hw => rfl, ?_⟩
  have h1 : wtL (ls.map lotD) ≤ (5000 + 2) * ls.length := wtL_map fun l hm => by
    have hL := h l hm
    have h2 : wtL (l.map .str) ≤ (62 + 2) * l.length := wtL_map fun w hw => by
      show 10 * w.length + 2 ≤ 62
      have := hL.len w hw
      omega
    have := hL.few
    show wtL (l.map .str) + 4 ≤ 5000
    omega
  show wtL (ls.map lotD) + 4 ≤ _
  omega
theorem paper_len {n : Nat} {ls : List (List (List Nat))} (h : ∀ l ∈ ls, Lot n l) (hn : n ≤ 6) (hl : ls.length ≤ 1000) : (paperT ls).length ≤ 600000 := by
  have hs := sum_le (ns := ls.map wrds) (n := 500) fun s hs => by
    obtain ⟨l, hm, rfl⟩ := List.mem_map.mp hs
    exact wrds_len (h l hm) hn
  have hj := join_len (sep := [32, 59, 32]) (ns := ls.map wrds)
  rw [List.length_map] at hs hj
  have e3 : [32, 59, 32].length = 3 := rfl
  rw [e3] at hj
  unfold paperT
  omega
theorem paper_right_ok {N : Nat} {o : MO} {n : Nat} {ws : List (List Nat)} {P : D → MO → Prop} (ho : Pl N o) (hN : N ≤ 2 ^ 58) (n2 : 2 ≤ n) (hn : n ≤ 6) (hw : Wins n ws) (k : ∀ o', Pl (N + 2000) o' → P (.bl true) o') : g__law_paper_right o [.int n, .tup (ws.map .str)] P := by
  refine ⟨rfl, ?_⟩
  have hf := hw.few
  unfold r__law_paper_right
  refine seq_in (fun ρ m => ∃ (o' : MO) (s : List Nat), Pl (N + 60) o' ∧ n ≤ s.length ∧ s.length ≤ n + 20 ∧ m = [o'] ∧ ρ = [some (.o 0), some (.d (.int n)), some (.d (.tup (ws.map .str))), some (.d (.str s)), none, none, none, none]) (fun Nx nx => ?_) (fun ρ m hI => ?_)
  · have fin : ∀ x : Int, 1 ≤ x → x ≤ 20 → g__law_pick o [D.lst [D.int 3, D.int 9, D.int x]] fun d o' => pureM o' = true ∧ g__law_walk o' [D.int ↑n, D.tup (List.map D.str ws), d] fun d o' => Nx [some (.o 0), some (.d (.int n)), some (.d (.tup (ws.map .str))), some (.d d), none, none, none, none] [o'] := fun x x1 x2 =>
      pick_ok ho (by omega) (by simp) (by simp) _ (.inl rfl) fun d o1 hd p1 => by
        obtain ⟨j, rfl, j1, j2⟩ : ∃ j : Int, d = .int j ∧ 1 ≤ j ∧ j ≤ 20 := by
          simp only [List.mem_cons, List.not_mem_nil, or_false] at hd
          rcases hd with rfl | rfl | rfl
          · exact ⟨_, rfl, by decide, by decide⟩
          · exact ⟨_, rfl, by decide, by decide⟩
          · exact ⟨_, rfl, x1, x2⟩
        exact ⟨p1.pure, walk_ok p1 (by omega) n2 hn hw j1 j2 fun s o2 s1 s2 p2 => nx _ _ ⟨o2, s, p2.up (by omega), s1, s2, rfl, rfl⟩⟩
    simp only [e_var, e_c, e_bin, e_un, e_view, e_bnd, e_cons, e_nil, e_allD0, e_allD, e_allV0, e_allV1, e_allV2, e_cb, e_cf, e_on1, e_on2, e_test, e_truth, e_asB, e_asI, e_tup, e_lst, e_z, e_o, e_zg, e_og, e_ifE, e_and, e_or, e_not, e_andV, e_orV, e_notV, e_sm, e_smV, e_smf, e_call, e_callK, e_fnP, e_fnF, e_fnQ, e_next, e_seq, e_brk, e_cnt, e_drop, e_ret, e_if, e_asg, e_bname, e_btup, e_bsnil, e_bscons, e_par, e_fmt, e_js0, e_js, e_sl, e_nopart, e_part, e_frzd, e_frz1d, e_lc, e_for, e_seqI, e_rng1, e_rng2, e_enum, e_itT, e_itL, e_itS, e_start, e_yes, e_plain, o_add, o_addS, o_addT, o_addL, o_sub, o_mul, o_mulS, o_div, o_mod, o_pow, o_neg, o_lt, o_le, o_gt, o_ge, o_ltS, o_eqI, o_eqS, o_neI, o_neS, o_eqL, o_neL, o_lenS, o_lenT, o_lenL, o_lenR, o_int, o_intB, o_abs, o_max, o_min, o_st, o_ixL, o_ixT, o_ixR, o_ixS, o_tupL, o_tupT, o_all, o_slS, o_slT, o_slL, o_join, o_asT, o_asL, o_part, o_is, t_bl, t_lst, t_tup, e_asO, e_asL, e_stL, e_pure, v_o0, v_o1, at0, at1, at2, ix30, ix31, ix32, li_R, li_L, e_wp0, e_wp, e_ss, e_gnd, e_app, e_pop, o_isiI, o_isiS, o_isiT, o_isiL, o_isiB, o_isiN, o_isi2I, o_isi2S, o_isi2T, o_isi2L, o_isi2B, o_isi2N, o_inS1, o_inT, o_ninT, o_intT, o_split, e_chain, e_binF, o_cat, e_dictP, e_while, e_din0, e_dput, o_sortD, e_key, e_asD, e_asM, e_itO, v_o1d, isT, reduceCtorEq, List.any_cons, List.any_nil, List.all_cons, List.all_nil, Bool.or_false, Bool.false_or, Bool.or_true, Bool.true_or, flatD, List.map_cons, List.map_nil, List.length_cons, List.length_nil, Nat.reduceAdd, Nat.reduceSub, List.reduceReplicate, List.cons_append, List.nil_append, List.append_nil, List.getElem?_cons_zero, List.getElem?_cons_succ, List.set_cons_zero, List.set_cons_succ, Option.map_some, Option.bind_some, ends0, ends1, endsF, ite_true, if_true, if_false, Bool.false_eq_true, reduceIte, true_and, and_true, Bool.not_true, Bool.not_false, Bool.not_eq_true', decide_eq_true_eq, decide_eq_false_iff_not]
    split
    · exact ⟨by decide, ho.pure, fin 20 (by decide) (by decide)⟩
    · exact ⟨by decide, ho.pure, fin 9 (by decide) (by decide)⟩
  · obtain ⟨o', s, po, s1, s2, rfl, rfl⟩ := hI
    refine seq_in (fun ρ m => ∃ o' ρ', Pl (N + 1060) o' ∧ m = [o'] ∧ ρ = ρ') (fun Nx nx => ?_) (fun ρ m hI => ?_)
    · simp only [e_var, e_c, e_bin, e_un, e_view, e_bnd, e_cons, e_nil, e_allD0, e_allD, e_allV0, e_allV1, e_allV2, e_cb, e_cf, e_on1, e_on2, e_test, e_truth, e_asB, e_asI, e_tup, e_lst, e_z, e_o, e_zg, e_og, e_ifE, e_and, e_or, e_not, e_andV, e_orV, e_notV, e_sm, e_smV, e_smf, e_call, e_callK, e_fnP, e_fnF, e_fnQ, e_next, e_seq, e_brk, e_cnt, e_drop, e_ret, e_if, e_asg, e_bname, e_btup, e_bsnil, e_bscons, e_par, e_fmt, e_js0, e_js, e_sl, e_nopart, e_part, e_frzd, e_frz1d, e_lc, e_for, e_seqI, e_rng1, e_rng2, e_enum, e_itT, e_itL, e_itS, e_start, e_yes, e_plain, o_add, o_addS, o_addT, o_addL, o_sub, o_mul, o_mulS, o_div, o_mod, o_pow, o_neg, o_lt, o_le, o_gt, o_ge, o_ltS, o_eqI, o_eqS, o_neI, o_neS, o_eqL, o_neL, o_lenS, o_lenT, o_lenL, o_lenR, o_int, o_intB, o_abs, o_max, o_min, o_st, o_ixL, o_ixT, o_ixR, o_ixS, o_tupL, o_tupT, o_all, o_slS, o_slT, o_slL, o_join, o_asT, o_asL, o_part, o_is, t_bl, t_lst, t_tup, e_asO, e_asL, e_stL, e_pure, v_o0, v_o1, at0, at1, at2, ix30, ix31, ix32, li_R, li_L, e_wp0, e_wp, e_ss, e_gnd, e_app, e_pop, o_isiI, o_isiS, o_isiT, o_isiL, o_isiB, o_isiN, o_isi2I, o_isi2S, o_isi2T, o_isi2L, o_isi2B, o_isi2N, o_inS1, o_inT, o_ninT, o_intT, o_split, e_chain, e_binF, o_cat, e_dictP, e_while, e_din0, e_dput, o_sortD, e_key, e_asD, e_asM, e_itO, v_o1d, isT, reduceCtorEq, List.any_cons, List.any_nil, List.all_cons, List.all_nil, Bool.or_false, Bool.false_or, Bool.or_true, Bool.true_or, flatD, List.map_cons, List.map_nil, List.length_cons, List.length_nil, Nat.reduceAdd, Nat.reduceSub, List.reduceReplicate, List.cons_append, List.nil_append, List.append_nil, List.getElem?_cons_zero, List.getElem?_cons_succ, List.set_cons_zero, List.set_cons_succ, Option.map_some, Option.bind_some, ends0, ends1, endsF, ite_true, if_true, if_false, Bool.false_eq_true, reduceIte, true_and, and_true, Bool.not_true, Bool.not_false, Bool.not_eq_true', decide_eq_true_eq, decide_eq_false_iff_not]
      refine ⟨po.pure, own_paper_ok po (by omega) n2 hn hw s1 s2 (fun o2 p2 => ?_) (fun ls o2 l1 hL p2 => ?_)⟩
      · simp only [e_var, e_c, e_bin, e_un, e_view, e_bnd, e_cons, e_nil, e_allD0, e_allD, e_allV0, e_allV1, e_allV2, e_cb, e_cf, e_on1, e_on2, e_test, e_truth, e_asB, e_asI, e_tup, e_lst, e_z, e_o, e_zg, e_og, e_ifE, e_and, e_or, e_not, e_andV, e_orV, e_notV, e_sm, e_smV, e_smf, e_call, e_callK, e_fnP, e_fnF, e_fnQ, e_next, e_seq, e_brk, e_cnt, e_drop, e_ret, e_if, e_asg, e_bname, e_btup, e_bsnil, e_bscons, e_par, e_fmt, e_js0, e_js, e_sl, e_nopart, e_part, e_frzd, e_frz1d, e_lc, e_for, e_seqI, e_rng1, e_rng2, e_enum, e_itT, e_itL, e_itS, e_start, e_yes, e_plain, o_add, o_addS, o_addT, o_addL, o_sub, o_mul, o_mulS, o_div, o_mod, o_pow, o_neg, o_lt, o_le, o_gt, o_ge, o_ltS, o_eqI, o_eqS, o_neI, o_neS, o_eqL, o_neL, o_lenS, o_lenT, o_lenL, o_lenR, o_int, o_intB, o_abs, o_max, o_min, o_st, o_ixL, o_ixT, o_ixR, o_ixS, o_tupL, o_tupT, o_all, o_slS, o_slT, o_slL, o_join, o_asT, o_asL, o_part, o_is, t_bl, t_lst, t_tup, e_asO, e_asL, e_stL, e_pure, v_o0, v_o1, at0, at1, at2, ix30, ix31, ix32, li_R, li_L, e_wp0, e_wp, e_ss, e_gnd, e_app, e_pop, o_isiI, o_isiS, o_isiT, o_isiL, o_isiB, o_isiN, o_isi2I, o_isi2S, o_isi2T, o_isi2L, o_isi2B, o_isi2N, o_inS1, o_inT, o_ninT, o_intT, o_split, e_chain, e_binF, o_cat, e_dictP, e_while, e_din0, e_dput, o_sortD, e_key, e_asD, e_asM, e_itO, v_o1d, isT, reduceCtorEq, List.any_cons, List.any_nil, List.all_cons, List.all_nil, Bool.or_false, Bool.false_or, Bool.or_true, Bool.true_or, flatD, List.map_cons, List.map_nil, List.length_cons, List.length_nil, Nat.reduceAdd, Nat.reduceSub, List.reduceReplicate, List.cons_append, List.nil_append, List.append_nil, List.getElem?_cons_zero, List.getElem?_cons_succ, List.set_cons_zero, List.set_cons_succ, Option.map_some, Option.bind_some, ends0, ends1, endsF, ite_true, if_true, if_false, Bool.false_eq_true, reduceIte, true_and, and_true, Bool.not_true, Bool.not_false, Bool.not_eq_true', decide_eq_true_eq, decide_eq_false_iff_not, e_go0]
        exact nx _ _ ⟨o2, _, p2.up (by omega), rfl, rfl⟩
      · simp only [e_var, e_c, e_bin, e_un, e_view, e_bnd, e_cons, e_nil, e_allD0, e_allD, e_allV0, e_allV1, e_allV2, e_cb, e_cf, e_on1, e_on2, e_test, e_truth, e_asB, e_asI, e_tup, e_lst, e_z, e_o, e_zg, e_og, e_ifE, e_and, e_or, e_not, e_andV, e_orV, e_notV, e_sm, e_smV, e_smf, e_call, e_callK, e_fnP, e_fnF, e_fnQ, e_next, e_seq, e_brk, e_cnt, e_drop, e_ret, e_if, e_asg, e_bname, e_btup, e_bsnil, e_bscons, e_par, e_fmt, e_js0, e_js, e_sl, e_nopart, e_part, e_frzd, e_frz1d, e_lc, e_for, e_seqI, e_rng1, e_rng2, e_enum, e_itT, e_itL, e_itS, e_start, e_yes, e_plain, o_add, o_addS, o_addT, o_addL, o_sub, o_mul, o_mulS, o_div, o_mod, o_pow, o_neg, o_lt, o_le, o_gt, o_ge, o_ltS, o_eqI, o_eqS, o_neI, o_neS, o_eqL, o_neL, o_lenS, o_lenT, o_lenL, o_lenR, o_int, o_intB, o_abs, o_max, o_min, o_st, o_ixL, o_ixT, o_ixR, o_ixS, o_tupL, o_tupT, o_all, o_slS, o_slT, o_slL, o_join, o_asT, o_asL, o_part, o_is, t_bl, t_lst, t_tup, e_asO, e_asL, e_stL, e_pure, v_o0, v_o1, at0, at1, at2, ix30, ix31, ix32, li_R, li_L, e_wp0, e_wp, e_ss, e_gnd, e_app, e_pop, o_isiI, o_isiS, o_isiT, o_isiL, o_isiB, o_isiN, o_isi2I, o_isi2S, o_isi2T, o_isi2L, o_isi2B, o_isi2N, o_inS1, o_inT, o_ninT, o_intT, o_split, e_chain, e_binF, o_cat, e_dictP, e_while, e_din0, e_dput, o_sortD, e_key, e_asD, e_asM, e_itO, v_o1d, isT, reduceCtorEq, List.any_cons, List.any_nil, List.all_cons, List.all_nil, Bool.or_false, Bool.false_or, Bool.or_true, Bool.true_or, flatD, List.map_cons, List.map_nil, List.length_cons, List.length_nil, Nat.reduceAdd, Nat.reduceSub, List.reduceReplicate, List.cons_append, List.nil_append, List.append_nil, List.getElem?_cons_zero, List.getElem?_cons_succ, List.set_cons_zero, List.set_cons_succ, Option.map_some, Option.bind_some, ends0, ends1, endsF, ite_true, if_true, if_false, Bool.false_eq_true, reduceIte, true_and, and_true, Bool.not_true, Bool.not_false, Bool.not_eq_true', decide_eq_true_eq, decide_eq_false_iff_not, e_go, e_go0]
        have e : (ls.map lotD).filterMap (fun d => match d with
          | .tup l => (allStr l).map fun ws => D.str (wrds ws)
          | _ => none) = (ls.map wrds).map .str := by
          rw [List.filterMap_map, List.map_map]
          have : ((fun d => match d with
            | .tup l => (allStr l).map fun ws => D.str (wrds ws)
            | _ => none) ∘ lotD) = fun l => some (D.str (wrds l)) := by
            funext l
            show (allStr (l.map D.str)).map _ = _
            rw [allStr_map]
            rfl
          rw [this, List.filterMap_eq_map']
          rfl
        refine lc_pure (f := fun d => match d with
          | .tup l => (allStr l).map fun ws => D.str (wrds ws)
          | _ => none) trivial (ls.map lotD) [] (fun d hd Q Q' q => ?_) (by rw [List.length_map, List.length_nil]; omega) ?_
        · obtain ⟨l, hm, rfl⟩ := List.mem_map.mp hd
          have hl := hL l hm
          have h2 := hl.sum hn
          have h3 := hl.few
          simp only [lotD, allStr_map, e_var, e_c, e_bin, e_un, e_view, e_bnd, e_cons, e_nil, e_allD0, e_allD, e_allV0, e_allV1, e_allV2, e_cb, e_cf, e_on1, e_on2, e_test, e_truth, e_asB, e_asI, e_tup, e_lst, e_z, e_o, e_zg, e_og, e_ifE, e_and, e_or, e_not, e_andV, e_orV, e_notV, e_sm, e_smV, e_smf, e_call, e_callK, e_fnP, e_fnF, e_fnQ, e_next, e_seq, e_brk, e_cnt, e_drop, e_ret, e_if, e_asg, e_bname, e_btup, e_bsnil, e_bscons, e_par, e_fmt, e_js0, e_js, e_sl, e_nopart, e_part, e_frzd, e_frz1d, e_lc, e_for, e_seqI, e_rng1, e_rng2, e_enum, e_itT, e_itL, e_itS, e_start, e_yes, e_plain, o_add, o_addS, o_addT, o_addL, o_sub, o_mul, o_mulS, o_div, o_mod, o_pow, o_neg, o_lt, o_le, o_gt, o_ge, o_ltS, o_eqI, o_eqS, o_neI, o_neS, o_eqL, o_neL, o_lenS, o_lenT, o_lenL, o_lenR, o_int, o_intB, o_abs, o_max, o_min, o_st, o_ixL, o_ixT, o_ixR, o_ixS, o_tupL, o_tupT, o_all, o_slS, o_slT, o_slL, o_join, o_asT, o_asL, o_part, o_is, t_bl, t_lst, t_tup, e_asO, e_asL, e_stL, e_pure, v_o0, v_o1, at0, at1, at2, ix30, ix31, ix32, li_R, li_L, e_wp0, e_wp, e_ss, e_gnd, e_app, e_pop, o_isiI, o_isiS, o_isiT, o_isiL, o_isiB, o_isiN, o_isi2I, o_isi2S, o_isi2T, o_isi2L, o_isi2B, o_isi2N, o_inS1, o_inT, o_ninT, o_intT, o_split, e_chain, e_binF, o_cat, e_dictP, e_while, e_din0, e_dput, o_sortD, e_key, e_asD, e_asM, e_itO, v_o1d, isT, reduceCtorEq, List.any_cons, List.any_nil, List.all_cons, List.all_nil, Bool.or_false, Bool.false_or, Bool.or_true, Bool.true_or, flatD, List.map_cons, List.map_nil, List.length_cons, List.length_nil, Nat.reduceAdd, Nat.reduceSub, List.reduceReplicate, List.cons_append, List.nil_append, List.append_nil, List.getElem?_cons_zero, List.getElem?_cons_succ, List.set_cons_zero, List.set_cons_succ, Option.map_some, Option.bind_some, ends0, ends1, endsF, ite_true, if_true, if_false, Bool.false_eq_true, reduceIte, true_and, and_true, Bool.not_true, Bool.not_false, Bool.not_eq_true', decide_eq_true_eq, decide_eq_false_iff_not] at q
          simp only [e_var, e_c, e_bin, e_un, e_view, e_bnd, e_cons, e_nil, e_allD0, e_allD, e_allV0, e_allV1, e_allV2, e_cb, e_cf, e_on1, e_on2, e_test, e_truth, e_asB, e_asI, e_tup, e_lst, e_z, e_o, e_zg, e_og, e_ifE, e_and, e_or, e_not, e_andV, e_orV, e_notV, e_sm, e_smV, e_smf, e_call, e_callK, e_fnP, e_fnF, e_fnQ, e_next, e_seq, e_brk, e_cnt, e_drop, e_ret, e_if, e_asg, e_bname, e_btup, e_bsnil, e_bscons, e_par, e_fmt, e_js0, e_js, e_sl, e_nopart, e_part, e_frzd, e_frz1d, e_lc, e_for, e_seqI, e_rng1, e_rng2, e_enum, e_itT, e_itL, e_itS, e_start, e_yes, e_plain, o_add, o_addS, o_addT, o_addL, o_sub, o_mul, o_mulS, o_div, o_mod, o_pow, o_neg, o_lt, o_le, o_gt, o_ge, o_ltS, o_eqI, o_eqS, o_neI, o_neS, o_eqL, o_neL, o_lenS, o_lenT, o_lenL, o_lenR, o_int, o_intB, o_abs, o_max, o_min, o_st, o_ixL, o_ixT, o_ixR, o_ixS, o_tupL, o_tupT, o_all, o_slS, o_slT, o_slL, o_join, o_asT, o_asL, o_part, o_is, t_bl, t_lst, t_tup, e_asO, e_asL, e_stL, e_pure, v_o0, v_o1, at0, at1, at2, ix30, ix31, ix32, li_R, li_L, e_wp0, e_wp, e_ss, e_gnd, e_app, e_pop, o_isiI, o_isiS, o_isiT, o_isiL, o_isiB, o_isiN, o_isi2I, o_isi2S, o_isi2T, o_isi2L, o_isi2B, o_isi2N, o_inS1, o_inT, o_ninT, o_intT, o_split, e_chain, e_binF, o_cat, e_dictP, e_while, e_din0, e_dput, o_sortD, e_key, e_asD, e_asM, e_itO, v_o1d, isT, reduceCtorEq, List.any_cons, List.any_nil, List.all_cons, List.all_nil, Bool.or_false, Bool.false_or, Bool.or_true, Bool.true_or, flatD, List.map_cons, List.map_nil, List.length_cons, List.length_nil, Nat.reduceAdd, Nat.reduceSub, List.reduceReplicate, List.cons_append, List.nil_append, List.append_nil, List.getElem?_cons_zero, List.getElem?_cons_succ, List.set_cons_zero, List.set_cons_succ, Option.map_some, Option.bind_some, ends0, ends1, endsF, ite_true, if_true, if_false, Bool.false_eq_true, reduceIte, true_and, and_true, Bool.not_true, Bool.not_false, Bool.not_eq_true', decide_eq_true_eq, decide_eq_false_iff_not]
          exact parts_ok (.inr rfl) (by omega) q
        · rw [List.nil_append, e, allStr_map]
          have hs := sum_le (ns := ls.map wrds) (n := 500) fun s hs => by
            obtain ⟨l, hm, rfl⟩ := List.mem_map.mp hs
            exact wrds_len (hL l hm) hn
          have hl1 : (ls.map wrds).length ≤ 420 := by rw [List.length_map]; exact l1
          have pk : pick [0] [SV.d (D.tup (ls.map lotD))] = [SV.d (D.tup (ls.map lotD))] := rfl
          have rp : ∀ {Q : D → Prop}, Q (.str (shw (.tup (ls.map lotD)))) → oRepr (.tup (ls.map lotD)) Q := fun q => by
            obtain ⟨q1, q2, q3⟩ := lots_ok hL hn (by omega)
            exact repr_ok (.inr ⟨_, rfl⟩) q1 q2 q3 q
          have r2 : ∀ {Q : D → Prop}, Q (.str (shw (.lst [.str (paperT ls), .str (paperT ls)]))) → oRepr (.lst [.str (paperT ls), .str (paperT ls)]) Q := fun q => repr_2 (paper_cp hL) (Nat.le_trans (paper_len hL hn (by omega)) (by decide)) q
          simp only [e_var, e_c, e_bin, e_un, e_view, e_bnd, e_cons, e_nil, e_allD0, e_allD, e_allV0, e_allV1, e_allV2, e_cb, e_cf, e_on1, e_on2, e_test, e_truth, e_asB, e_asI, e_tup, e_lst, e_z, e_o, e_zg, e_og, e_ifE, e_and, e_or, e_not, e_andV, e_orV, e_notV, e_sm, e_smV, e_smf, e_call, e_callK, e_fnP, e_fnF, e_fnQ, e_next, e_seq, e_brk, e_cnt, e_drop, e_ret, e_if, e_asg, e_bname, e_btup, e_bsnil, e_bscons, e_par, e_fmt, e_js0, e_js, e_sl, e_nopart, e_part, e_frzd, e_frz1d, e_lc, e_for, e_seqI, e_rng1, e_rng2, e_enum, e_itT, e_itL, e_itS, e_start, e_yes, e_plain, o_add, o_addS, o_addT, o_addL, o_sub, o_mul, o_mulS, o_div, o_mod, o_pow, o_neg, o_lt, o_le, o_gt, o_ge, o_ltS, o_eqI, o_eqS, o_neI, o_neS, o_eqL, o_neL, o_lenS, o_lenT, o_lenL, o_lenR, o_int, o_intB, o_abs, o_max, o_min, o_st, o_ixL, o_ixT, o_ixR, o_ixS, o_tupL, o_tupT, o_all, o_slS, o_slT, o_slL, o_join, o_asT, o_asL, o_part, o_is, t_bl, t_lst, t_tup, e_asO, e_asL, e_stL, e_pure, v_o0, v_o1, at0, at1, at2, ix30, ix31, ix32, li_R, li_L, e_wp0, e_wp, e_ss, e_gnd, e_app, e_pop, o_isiI, o_isiS, o_isiT, o_isiL, o_isiB, o_isiN, o_isi2I, o_isi2S, o_isi2T, o_isi2L, o_isi2B, o_isi2N, o_inS1, o_inT, o_ninT, o_intT, o_split, e_chain, e_binF, o_cat, e_dictP, e_while, e_din0, e_dput, o_sortD, e_key, e_asD, e_asM, e_itO, v_o1d, isT, reduceCtorEq, List.any_cons, List.any_nil, List.all_cons, List.all_nil, Bool.or_false, Bool.false_or, Bool.or_true, Bool.true_or, flatD, List.map_cons, List.map_nil, List.length_cons, List.length_nil, Nat.reduceAdd, Nat.reduceSub, List.reduceReplicate, List.cons_append, List.nil_append, List.append_nil, List.getElem?_cons_zero, List.getElem?_cons_succ, List.set_cons_zero, List.set_cons_succ, Option.map_some, Option.bind_some, ends0, ends1, endsF, ite_true, if_true, if_false, Bool.false_eq_true, reduceIte, true_and, and_true, Bool.not_true, Bool.not_false, Bool.not_eq_true', decide_eq_true_eq, decide_eq_false_iff_not, pk]
          refine ⟨by omega, rp ?_⟩
          refine show_paper_ok hn (by omega) hL ?_
          refine show_paper_ok hn (by omega) hL ?_
          refine ⟨by decide, r2 ?_⟩
          refine ⟨by decide, r2 ?_⟩
          simp only [e_var, e_c, e_bin, e_un, e_view, e_bnd, e_cons, e_nil, e_allD0, e_allD, e_allV0, e_allV1, e_allV2, e_cb, e_cf, e_on1, e_on2, e_test, e_truth, e_asB, e_asI, e_tup, e_lst, e_z, e_o, e_zg, e_og, e_ifE, e_and, e_or, e_not, e_andV, e_orV, e_notV, e_sm, e_smV, e_smf, e_call, e_callK, e_fnP, e_fnF, e_fnQ, e_next, e_seq, e_brk, e_cnt, e_drop, e_ret, e_if, e_asg, e_bname, e_btup, e_bsnil, e_bscons, e_par, e_fmt, e_js0, e_js, e_sl, e_nopart, e_part, e_frzd, e_frz1d, e_lc, e_for, e_seqI, e_rng1, e_rng2, e_enum, e_itT, e_itL, e_itS, e_start, e_yes, e_plain, o_add, o_addS, o_addT, o_addL, o_sub, o_mul, o_mulS, o_div, o_mod, o_pow, o_neg, o_lt, o_le, o_gt, o_ge, o_ltS, o_eqI, o_eqS, o_neI, o_neS, o_eqL, o_neL, o_lenS, o_lenT, o_lenL, o_lenR, o_int, o_intB, o_abs, o_max, o_min, o_st, o_ixL, o_ixT, o_ixR, o_ixS, o_tupL, o_tupT, o_all, o_slS, o_slT, o_slL, o_join, o_asT, o_asL, o_part, o_is, t_bl, t_lst, t_tup, e_asO, e_asL, e_stL, e_pure, v_o0, v_o1, at0, at1, at2, ix30, ix31, ix32, li_R, li_L, e_wp0, e_wp, e_ss, e_gnd, e_app, e_pop, o_isiI, o_isiS, o_isiT, o_isiL, o_isiB, o_isiN, o_isi2I, o_isi2S, o_isi2T, o_isi2L, o_isi2B, o_isi2N, o_inS1, o_inT, o_ninT, o_intT, o_split, e_chain, e_binF, o_cat, e_dictP, e_while, e_din0, e_dput, o_sortD, e_key, e_asD, e_asM, e_itO, v_o1d, isT, reduceCtorEq, List.any_cons, List.any_nil, List.all_cons, List.all_nil, Bool.or_false, Bool.false_or, Bool.or_true, Bool.true_or, flatD, List.map_cons, List.map_nil, List.length_cons, List.length_nil, Nat.reduceAdd, Nat.reduceSub, List.reduceReplicate, List.cons_append, List.nil_append, List.append_nil, List.getElem?_cons_zero, List.getElem?_cons_succ, List.set_cons_zero, List.set_cons_succ, Option.map_some, Option.bind_some, ends0, ends1, endsF, ite_true, if_true, if_false, Bool.false_eq_true, reduceIte, true_and, and_true, Bool.not_true, Bool.not_false, Bool.not_eq_true', decide_eq_true_eq, decide_eq_false_iff_not]
          rw [if_neg (fun z => z trivial)]
          refine rp ?_
          simp only [e_var, e_c, e_bin, e_un, e_view, e_bnd, e_cons, e_nil, e_allD0, e_allD, e_allV0, e_allV1, e_allV2, e_cb, e_cf, e_on1, e_on2, e_test, e_truth, e_asB, e_asI, e_tup, e_lst, e_z, e_o, e_zg, e_og, e_ifE, e_and, e_or, e_not, e_andV, e_orV, e_notV, e_sm, e_smV, e_smf, e_call, e_callK, e_fnP, e_fnF, e_fnQ, e_next, e_seq, e_brk, e_cnt, e_drop, e_ret, e_if, e_asg, e_bname, e_btup, e_bsnil, e_bscons, e_par, e_fmt, e_js0, e_js, e_sl, e_nopart, e_part, e_frzd, e_frz1d, e_lc, e_for, e_seqI, e_rng1, e_rng2, e_enum, e_itT, e_itL, e_itS, e_start, e_yes, e_plain, o_add, o_addS, o_addT, o_addL, o_sub, o_mul, o_mulS, o_div, o_mod, o_pow, o_neg, o_lt, o_le, o_gt, o_ge, o_ltS, o_eqI, o_eqS, o_neI, o_neS, o_eqL, o_neL, o_lenS, o_lenT, o_lenL, o_lenR, o_int, o_intB, o_abs, o_max, o_min, o_st, o_ixL, o_ixT, o_ixR, o_ixS, o_tupL, o_tupT, o_all, o_slS, o_slT, o_slL, o_join, o_asT, o_asL, o_part, o_is, t_bl, t_lst, t_tup, e_asO, e_asL, e_stL, e_pure, v_o0, v_o1, at0, at1, at2, ix30, ix31, ix32, li_R, li_L, e_wp0, e_wp, e_ss, e_gnd, e_app, e_pop, o_isiI, o_isiS, o_isiT, o_isiL, o_isiB, o_isiN, o_isi2I, o_isi2S, o_isi2T, o_isi2L, o_isi2B, o_isi2N, o_inS1, o_inT, o_ninT, o_intT, o_split, e_chain, e_binF, o_cat, e_dictP, e_while, e_din0, e_dput, o_sortD, e_key, e_asD, e_asM, e_itO, v_o1d, isT, reduceCtorEq, List.any_cons, List.any_nil, List.all_cons, List.all_nil, Bool.or_false, Bool.false_or, Bool.or_true, Bool.true_or, flatD, List.map_cons, List.map_nil, List.length_cons, List.length_nil, Nat.reduceAdd, Nat.reduceSub, List.reduceReplicate, List.cons_append, List.nil_append, List.append_nil, List.getElem?_cons_zero, List.getElem?_cons_succ, List.set_cons_zero, List.set_cons_succ, Option.map_some, Option.bind_some, ends0, ends1, endsF, ite_true, if_true, if_false, Bool.false_eq_true, reduceIte, true_and, and_true, Bool.not_true, Bool.not_false, Bool.not_eq_true', decide_eq_true_eq, decide_eq_false_iff_not]
          rw [if_neg (fun z => z trivial)]
          exact nx _ _ ⟨o2, _, p2.up (by omega), rfl, rfl⟩
    · obtain ⟨o', ρ', po, rfl, rfl⟩ := hI
      simp only [e_var, e_c, e_bin, e_un, e_view, e_bnd, e_cons, e_nil, e_allD0, e_allD, e_allV0, e_allV1, e_allV2, e_cb, e_cf, e_on1, e_on2, e_test, e_truth, e_asB, e_asI, e_tup, e_lst, e_z, e_o, e_zg, e_og, e_ifE, e_and, e_or, e_not, e_andV, e_orV, e_notV, e_sm, e_smV, e_smf, e_call, e_callK, e_fnP, e_fnF, e_fnQ, e_next, e_seq, e_brk, e_cnt, e_drop, e_ret, e_if, e_asg, e_bname, e_btup, e_bsnil, e_bscons, e_par, e_fmt, e_js0, e_js, e_sl, e_nopart, e_part, e_frzd, e_frz1d, e_lc, e_for, e_seqI, e_rng1, e_rng2, e_enum, e_itT, e_itL, e_itS, e_start, e_yes, e_plain, o_add, o_addS, o_addT, o_addL, o_sub, o_mul, o_mulS, o_div, o_mod, o_pow, o_neg, o_lt, o_le, o_gt, o_ge, o_ltS, o_eqI, o_eqS, o_neI, o_neS, o_eqL, o_neL, o_lenS, o_lenT, o_lenL, o_lenR, o_int, o_intB, o_abs, o_max, o_min, o_st, o_ixL, o_ixT, o_ixR, o_ixS, o_tupL, o_tupT, o_all, o_slS, o_slT, o_slL, o_join, o_asT, o_asL, o_part, o_is, t_bl, t_lst, t_tup, e_asO, e_asL, e_stL, e_pure, v_o0, v_o1, at0, at1, at2, ix30, ix31, ix32, li_R, li_L, e_wp0, e_wp, e_ss, e_gnd, e_app, e_pop, o_isiI, o_isiS, o_isiT, o_isiL, o_isiB, o_isiN, o_isi2I, o_isi2S, o_isi2T, o_isi2L, o_isi2B, o_isi2N, o_inS1, o_inT, o_ninT, o_intT, o_split, e_chain, e_binF, o_cat, e_dictP, e_while, e_din0, e_dput, o_sortD, e_key, e_asD, e_asM, e_itO, v_o1d, isT, reduceCtorEq, List.any_cons, List.any_nil, List.all_cons, List.all_nil, Bool.or_false, Bool.false_or, Bool.or_true, Bool.true_or, flatD, List.map_cons, List.map_nil, List.length_cons, List.length_nil, Nat.reduceAdd, Nat.reduceSub, List.reduceReplicate, List.cons_append, List.nil_append, List.append_nil, List.getElem?_cons_zero, List.getElem?_cons_succ, List.set_cons_zero, List.set_cons_succ, Option.map_some, Option.bind_some, ends0, ends1, endsF, ite_true, if_true, if_false, Bool.false_eq_true, reduceIte, true_and, and_true, Bool.not_true, Bool.not_false, Bool.not_eq_true', decide_eq_true_eq, decide_eq_false_iff_not]
      exact ⟨po.pure, k _ (po.up (by omega))⟩
theorem cells_mem : ∀ {ws : List (List Nat)} {ks : List Int} {s : List Nat}, s ∈ cells ws ks → ∃ w k, w ∈ ws ∧ k ∈ ks ∧ s = cell w k
  | [], _, s, h => by cases h
  | w :: ws, [], s, h => by cases h
  | w :: ws, k :: ks, s, h => by
    have h2 : s ∈ (if 0 < k then cell w k :: cells ws ks else cells ws ks) := h
    have rest : s ∈ cells ws ks → ∃ w' k', w' ∈ w :: ws ∧ k' ∈ k :: ks ∧ s = cell w' k' := fun h => by
      obtain ⟨a, b, h1, h2, h3⟩ := cells_mem h
      exact ⟨a, b, List.mem_cons_of_mem _ h1, List.mem_cons_of_mem _ h2, h3⟩
    split at h2
    · rcases List.mem_cons.mp h2 with rfl | h3
      · exact ⟨w, k, List.mem_cons_self, List.mem_cons_self, rfl⟩
      · exact rest h3
    · exact rest h2
theorem turn_right_ok {N : Nat} {o : MO} {P : D → MO → Prop} (ho : Pl N o) (hN : N ≤ 2 ^ 57) (k : ∀ o', Pl (N + 7000) o' → P (.bl true) o') : g__law_turn_right o [] P := by
  refine ⟨rfl, ?_⟩
  unfold r__law_turn_right
  refine seq_in (fun ρ m => ∃ (o' : MO) (n : Nat), Pl (N + 1) o' ∧ 2 ≤ n ∧ n ≤ 6 ∧ m = [o'] ∧ ρ = [some (.o 0), some (.d (.int n)), none, none, none, none, none, none, none, none]) (fun Nx nx => ?_) (fun ρ m hI => ?_)
  · simp only [e_var, e_c, e_bin, e_un, e_view, e_bnd, e_cons, e_nil, e_allD0, e_allD, e_allV0, e_allV1, e_allV2, e_cb, e_cf, e_on1, e_on2, e_test, e_truth, e_asB, e_asI, e_tup, e_lst, e_z, e_o, e_zg, e_og, e_ifE, e_and, e_or, e_not, e_andV, e_orV, e_notV, e_sm, e_smV, e_smf, e_call, e_callK, e_fnP, e_fnF, e_fnQ, e_next, e_seq, e_brk, e_cnt, e_drop, e_ret, e_if, e_asg, e_bname, e_btup, e_bsnil, e_bscons, e_par, e_fmt, e_js0, e_js, e_sl, e_nopart, e_part, e_frzd, e_frz1d, e_lc, e_for, e_seqI, e_rng1, e_rng2, e_enum, e_itT, e_itL, e_itS, e_start, e_yes, e_plain, o_add, o_addS, o_addT, o_addL, o_sub, o_mul, o_mulS, o_div, o_mod, o_pow, o_neg, o_lt, o_le, o_gt, o_ge, o_ltS, o_eqI, o_eqS, o_neI, o_neS, o_eqL, o_neL, o_lenS, o_lenT, o_lenL, o_lenR, o_int, o_intB, o_abs, o_max, o_min, o_st, o_ixL, o_ixT, o_ixR, o_ixS, o_tupL, o_tupT, o_all, o_slS, o_slT, o_slL, o_join, o_asT, o_asL, o_part, o_is, t_bl, t_lst, t_tup, e_asO, e_asL, e_stL, e_pure, v_o0, v_o1, at0, at1, at2, ix30, ix31, ix32, li_R, li_L, e_wp0, e_wp, e_ss, e_gnd, e_app, e_pop, o_isiI, o_isiS, o_isiT, o_isiL, o_isiB, o_isiN, o_isi2I, o_isi2S, o_isi2T, o_isi2L, o_isi2B, o_isi2N, o_inS1, o_inT, o_ninT, o_intT, o_split, e_chain, e_binF, o_cat, e_dictP, e_while, e_din0, e_dput, o_sortD, e_key, e_asD, e_asM, e_itO, v_o1d, isT, reduceCtorEq, List.any_cons, List.any_nil, List.all_cons, List.all_nil, Bool.or_false, Bool.false_or, Bool.or_true, Bool.true_or, flatD, List.map_cons, List.map_nil, List.length_cons, List.length_nil, Nat.reduceAdd, Nat.reduceSub, List.reduceReplicate, List.cons_append, List.nil_append, List.append_nil, List.getElem?_cons_zero, List.getElem?_cons_succ, List.set_cons_zero, List.set_cons_succ, Option.map_some, Option.bind_some, ends0, ends1, endsF, ite_true, if_true, if_false, Bool.false_eq_true, reduceIte, true_and, and_true, Bool.not_true, Bool.not_false, Bool.not_eq_true', decide_eq_true_eq, decide_eq_false_iff_not]
    refine ⟨ho.pure, scoop_ok ho (by omega) (by decide) (by decide) fun d o1 d0 d1 p1 => ?_⟩
    simp only [e_var, e_c, e_bin, e_un, e_view, e_bnd, e_cons, e_nil, e_allD0, e_allD, e_allV0, e_allV1, e_allV2, e_cb, e_cf, e_on1, e_on2, e_test, e_truth, e_asB, e_asI, e_tup, e_lst, e_z, e_o, e_zg, e_og, e_ifE, e_and, e_or, e_not, e_andV, e_orV, e_notV, e_sm, e_smV, e_smf, e_call, e_callK, e_fnP, e_fnF, e_fnQ, e_next, e_seq, e_brk, e_cnt, e_drop, e_ret, e_if, e_asg, e_bname, e_btup, e_bsnil, e_bscons, e_par, e_fmt, e_js0, e_js, e_sl, e_nopart, e_part, e_frzd, e_frz1d, e_lc, e_for, e_seqI, e_rng1, e_rng2, e_enum, e_itT, e_itL, e_itS, e_start, e_yes, e_plain, o_add, o_addS, o_addT, o_addL, o_sub, o_mul, o_mulS, o_div, o_mod, o_pow, o_neg, o_lt, o_le, o_gt, o_ge, o_ltS, o_eqI, o_eqS, o_neI, o_neS, o_eqL, o_neL, o_lenS, o_lenT, o_lenL, o_lenR, o_int, o_intB, o_abs, o_max, o_min, o_st, o_ixL, o_ixT, o_ixR, o_ixS, o_tupL, o_tupT, o_all, o_slS, o_slT, o_slL, o_join, o_asT, o_asL, o_part, o_is, t_bl, t_lst, t_tup, e_asO, e_asL, e_stL, e_pure, v_o0, v_o1, at0, at1, at2, ix30, ix31, ix32, li_R, li_L, e_wp0, e_wp, e_ss, e_gnd, e_app, e_pop, o_isiI, o_isiS, o_isiT, o_isiL, o_isiB, o_isiN, o_isi2I, o_isi2S, o_isi2T, o_isi2L, o_isi2B, o_isi2N, o_inS1, o_inT, o_ninT, o_intT, o_split, e_chain, e_binF, o_cat, e_dictP, e_while, e_din0, e_dput, o_sortD, e_key, e_asD, e_asM, e_itO, v_o1d, isT, reduceCtorEq, List.any_cons, List.any_nil, List.all_cons, List.all_nil, Bool.or_false, Bool.false_or, Bool.or_true, Bool.true_or, flatD, List.map_cons, List.map_nil, List.length_cons, List.length_nil, Nat.reduceAdd, Nat.reduceSub, List.reduceReplicate, List.cons_append, List.nil_append, List.append_nil, List.getElem?_cons_zero, List.getElem?_cons_succ, List.set_cons_zero, List.set_cons_succ, Option.map_some, Option.bind_some, ends0, ends1, endsF, ite_true, if_true, if_false, Bool.false_eq_true, reduceIte, true_and, and_true, Bool.not_true, Bool.not_false, Bool.not_eq_true', decide_eq_true_eq, decide_eq_false_iff_not]
    exact nx _ _ ⟨o1, (2 + d).toNat, p1, by omega, by omega, rfl, by rw [show (((2 + d).toNat : Nat) : Int) = 2 + d by omega]⟩
  obtain ⟨o1, n, p1, n2, hn, rfl, rfl⟩ := hI
  refine seq_in (fun ρ m => ∃ (o' : MO) (ws : List (List Nat)), Pl (N + 300) o' ∧ Wins n ws ∧ m = [o'] ∧ ρ = [some (.o 0), some (.d (.int n)), some (.d (.tup (ws.map .str))), none, none, none, none, none, none, none]) (fun Nx nx => ?_) (fun ρ m hI => ?_)
  · simp only [e_var, e_c, e_bin, e_un, e_view, e_bnd, e_cons, e_nil, e_allD0, e_allD, e_allV0, e_allV1, e_allV2, e_cb, e_cf, e_on1, e_on2, e_test, e_truth, e_asB, e_asI, e_tup, e_lst, e_z, e_o, e_zg, e_og, e_ifE, e_and, e_or, e_not, e_andV, e_orV, e_notV, e_sm, e_smV, e_smf, e_call, e_callK, e_fnP, e_fnF, e_fnQ, e_next, e_seq, e_brk, e_cnt, e_drop, e_ret, e_if, e_asg, e_bname, e_btup, e_bsnil, e_bscons, e_par, e_fmt, e_js0, e_js, e_sl, e_nopart, e_part, e_frzd, e_frz1d, e_lc, e_for, e_seqI, e_rng1, e_rng2, e_enum, e_itT, e_itL, e_itS, e_start, e_yes, e_plain, o_add, o_addS, o_addT, o_addL, o_sub, o_mul, o_mulS, o_div, o_mod, o_pow, o_neg, o_lt, o_le, o_gt, o_ge, o_ltS, o_eqI, o_eqS, o_neI, o_neS, o_eqL, o_neL, o_lenS, o_lenT, o_lenL, o_lenR, o_int, o_intB, o_abs, o_max, o_min, o_st, o_ixL, o_ixT, o_ixR, o_ixS, o_tupL, o_tupT, o_all, o_slS, o_slT, o_slL, o_join, o_asT, o_asL, o_part, o_is, t_bl, t_lst, t_tup, e_asO, e_asL, e_stL, e_pure, v_o0, v_o1, at0, at1, at2, ix30, ix31, ix32, li_R, li_L, e_wp0, e_wp, e_ss, e_gnd, e_app, e_pop, o_isiI, o_isiS, o_isiT, o_isiL, o_isiB, o_isiN, o_isi2I, o_isi2S, o_isi2T, o_isi2L, o_isi2B, o_isi2N, o_inS1, o_inT, o_ninT, o_intT, o_split, e_chain, e_binF, o_cat, e_dictP, e_while, e_din0, e_dput, o_sortD, e_key, e_asD, e_asM, e_itO, v_o1d, isT, reduceCtorEq, List.any_cons, List.any_nil, List.all_cons, List.all_nil, Bool.or_false, Bool.false_or, Bool.or_true, Bool.true_or, flatD, List.map_cons, List.map_nil, List.length_cons, List.length_nil, Nat.reduceAdd, Nat.reduceSub, List.reduceReplicate, List.cons_append, List.nil_append, List.append_nil, List.getElem?_cons_zero, List.getElem?_cons_succ, List.set_cons_zero, List.set_cons_succ, Option.map_some, Option.bind_some, ends0, ends1, endsF, ite_true, if_true, if_false, Bool.false_eq_true, reduceIte, true_and, and_true, Bool.not_true, Bool.not_false, Bool.not_eq_true', decide_eq_true_eq, decide_eq_false_iff_not]
    refine ⟨by decide, p1.pure, pick_ok p1 (by omega) (by simp) (by simp) _ (.inl rfl) fun d o2 hd p2 => ?_⟩
    obtain ⟨j, rfl, j1, j2⟩ : ∃ j : Nat, d = .int j ∧ 3 ≤ j ∧ j ≤ 40 := by
      simp only [List.mem_cons, List.not_mem_nil, or_false] at hd
      rcases hd with rfl | rfl | rfl
      · exact ⟨3, rfl, by decide, by decide⟩
      · exact ⟨8, rfl, by decide, by decide⟩
      · exact ⟨40, rfl, by decide, by decide⟩
    refine ⟨p2.pure, loop_ok p2 (by omega) j1 j2 fun s o3 hs p3 => ?_⟩
    refine windows_ok hs.ne (by have := hs.few; omega) hn hs.az fun ws hw => ?_
    exact nx _ _ ⟨o3, ws, p3.up (by omega), hw, rfl, rfl⟩
  obtain ⟨o2, ws, p2, hw, rfl, rfl⟩ := hI
  have hf := hw.few
  refine seq_in (fun ρ m => ∃ (o' : MO) (x : Option SV), Pl (N + 6500) o' ∧ m = [o'] ∧ ρ = [some (.o 0), some (.d (.int n)), some (.d (.tup (ws.map .str))), x, none, none, none, none, none, none]) (fun Nx nx => ?_) (fun ρ m hI => ?_)
  · simp only [e_var, e_c, e_bin, e_un, e_view, e_bnd, e_cons, e_nil, e_allD0, e_allD, e_allV0, e_allV1, e_allV2, e_cb, e_cf, e_on1, e_on2, e_test, e_truth, e_asB, e_asI, e_tup, e_lst, e_z, e_o, e_zg, e_og, e_ifE, e_and, e_or, e_not, e_andV, e_orV, e_notV, e_sm, e_smV, e_smf, e_call, e_callK, e_fnP, e_fnF, e_fnQ, e_next, e_seq, e_brk, e_cnt, e_drop, e_ret, e_if, e_asg, e_bname, e_btup, e_bsnil, e_bscons, e_par, e_fmt, e_js0, e_js, e_sl, e_nopart, e_part, e_frzd, e_frz1d, e_lc, e_for, e_seqI, e_rng1, e_rng2, e_enum, e_itT, e_itL, e_itS, e_start, e_yes, e_plain, o_add, o_addS, o_addT, o_addL, o_sub, o_mul, o_mulS, o_div, o_mod, o_pow, o_neg, o_lt, o_le, o_gt, o_ge, o_ltS, o_eqI, o_eqS, o_neI, o_neS, o_eqL, o_neL, o_lenS, o_lenT, o_lenL, o_lenR, o_int, o_intB, o_abs, o_max, o_min, o_st, o_ixL, o_ixT, o_ixR, o_ixS, o_tupL, o_tupT, o_all, o_slS, o_slT, o_slL, o_join, o_asT, o_asL, o_part, o_is, t_bl, t_lst, t_tup, e_asO, e_asL, e_stL, e_pure, v_o0, v_o1, at0, at1, at2, ix30, ix31, ix32, li_R, li_L, e_wp0, e_wp, e_ss, e_gnd, e_app, e_pop, o_isiI, o_isiS, o_isiT, o_isiL, o_isiB, o_isiN, o_isi2I, o_isi2S, o_isi2T, o_isi2L, o_isi2B, o_isi2N, o_inS1, o_inT, o_ninT, o_intT, o_split, e_chain, e_binF, o_cat, e_dictP, e_while, e_din0, e_dput, o_sortD, e_key, e_asD, e_asM, e_itO, v_o1d, isT, reduceCtorEq, List.any_cons, List.any_nil, List.all_cons, List.all_nil, Bool.or_false, Bool.false_or, Bool.or_true, Bool.true_or, flatD, List.map_cons, List.map_nil, List.length_cons, List.length_nil, Nat.reduceAdd, Nat.reduceSub, List.reduceReplicate, List.cons_append, List.nil_append, List.append_nil, List.getElem?_cons_zero, List.getElem?_cons_succ, List.set_cons_zero, List.set_cons_succ, Option.map_some, Option.bind_some, ends0, ends1, endsF, ite_true, if_true, if_false, Bool.false_eq_true, reduceIte, true_and, and_true, Bool.not_true, Bool.not_false, Bool.not_eq_true', decide_eq_true_eq, decide_eq_false_iff_not]
    refine ⟨by decide, by decide, ?_⟩
    refine for_inv (I := fun l ρ m => ∃ (o' : MO) (x : Option SV), Pl (N + 300 + (3 - l.length) * 2000) o' ∧ l.length ≤ 3 ∧ m = [o'] ∧ ρ = [some (.o 0), some (.d (.int n)), some (.d (.tup (ws.map .str))), x, none, none, none, none, none, none]) (fun d l ρ m Nx2 hI nx2 => ?_) (fun ρ m hI => ?_) _ _ _ ⟨o2, none, p2.up (by omega), by rw [intsOf_len]; decide, rfl, rfl⟩
    · obtain ⟨o', x, po, hl, rfl, rfl⟩ := hI
      rw [List.length_cons] at po hl
      simp only [e_var, e_c, e_bin, e_un, e_view, e_bnd, e_cons, e_nil, e_allD0, e_allD, e_allV0, e_allV1, e_allV2, e_cb, e_cf, e_on1, e_on2, e_test, e_truth, e_asB, e_asI, e_tup, e_lst, e_z, e_o, e_zg, e_og, e_ifE, e_and, e_or, e_not, e_andV, e_orV, e_notV, e_sm, e_smV, e_smf, e_call, e_callK, e_fnP, e_fnF, e_fnQ, e_next, e_seq, e_brk, e_cnt, e_drop, e_ret, e_if, e_asg, e_bname, e_btup, e_bsnil, e_bscons, e_par, e_fmt, e_js0, e_js, e_sl, e_nopart, e_part, e_frzd, e_frz1d, e_lc, e_for, e_seqI, e_rng1, e_rng2, e_enum, e_itT, e_itL, e_itS, e_start, e_yes, e_plain, o_add, o_addS, o_addT, o_addL, o_sub, o_mul, o_mulS, o_div, o_mod, o_pow, o_neg, o_lt, o_le, o_gt, o_ge, o_ltS, o_eqI, o_eqS, o_neI, o_neS, o_eqL, o_neL, o_lenS, o_lenT, o_lenL, o_lenR, o_int, o_intB, o_abs, o_max, o_min, o_st, o_ixL, o_ixT, o_ixR, o_ixS, o_tupL, o_tupT, o_all, o_slS, o_slT, o_slL, o_join, o_asT, o_asL, o_part, o_is, t_bl, t_lst, t_tup, e_asO, e_asL, e_stL, e_pure, v_o0, v_o1, at0, at1, at2, ix30, ix31, ix32, li_R, li_L, e_wp0, e_wp, e_ss, e_gnd, e_app, e_pop, o_isiI, o_isiS, o_isiT, o_isiL, o_isiB, o_isiN, o_isi2I, o_isi2S, o_isi2T, o_isi2L, o_isi2B, o_isi2N, o_inS1, o_inT, o_ninT, o_intT, o_split, e_chain, e_binF, o_cat, e_dictP, e_while, e_din0, e_dput, o_sortD, e_key, e_asD, e_asM, e_itO, v_o1d, isT, reduceCtorEq, List.any_cons, List.any_nil, List.all_cons, List.all_nil, Bool.or_false, Bool.false_or, Bool.or_true, Bool.true_or, flatD, List.map_cons, List.map_nil, List.length_cons, List.length_nil, Nat.reduceAdd, Nat.reduceSub, List.reduceReplicate, List.cons_append, List.nil_append, List.append_nil, List.getElem?_cons_zero, List.getElem?_cons_succ, List.set_cons_zero, List.set_cons_succ, Option.map_some, Option.bind_some, ends0, ends1, endsF, ite_true, if_true, if_false, Bool.false_eq_true, reduceIte, true_and, and_true, Bool.not_true, Bool.not_false, Bool.not_eq_true', decide_eq_true_eq, decide_eq_false_iff_not]
      refine ⟨po.pure, paper_right_ok po (by omega) n2 hn hw fun o3 p3 => ?_⟩
      simp only [e_var, e_c, e_bin, e_un, e_view, e_bnd, e_cons, e_nil, e_allD0, e_allD, e_allV0, e_allV1, e_allV2, e_cb, e_cf, e_on1, e_on2, e_test, e_truth, e_asB, e_asI, e_tup, e_lst, e_z, e_o, e_zg, e_og, e_ifE, e_and, e_or, e_not, e_andV, e_orV, e_notV, e_sm, e_smV, e_smf, e_call, e_callK, e_fnP, e_fnF, e_fnQ, e_next, e_seq, e_brk, e_cnt, e_drop, e_ret, e_if, e_asg, e_bname, e_btup, e_bsnil, e_bscons, e_par, e_fmt, e_js0, e_js, e_sl, e_nopart, e_part, e_frzd, e_frz1d, e_lc, e_for, e_seqI, e_rng1, e_rng2, e_enum, e_itT, e_itL, e_itS, e_start, e_yes, e_plain, o_add, o_addS, o_addT, o_addL, o_sub, o_mul, o_mulS, o_div, o_mod, o_pow, o_neg, o_lt, o_le, o_gt, o_ge, o_ltS, o_eqI, o_eqS, o_neI, o_neS, o_eqL, o_neL, o_lenS, o_lenT, o_lenL, o_lenR, o_int, o_intB, o_abs, o_max, o_min, o_st, o_ixL, o_ixT, o_ixR, o_ixS, o_tupL, o_tupT, o_all, o_slS, o_slT, o_slL, o_join, o_asT, o_asL, o_part, o_is, t_bl, t_lst, t_tup, e_asO, e_asL, e_stL, e_pure, v_o0, v_o1, at0, at1, at2, ix30, ix31, ix32, li_R, li_L, e_wp0, e_wp, e_ss, e_gnd, e_app, e_pop, o_isiI, o_isiS, o_isiT, o_isiL, o_isiB, o_isiN, o_isi2I, o_isi2S, o_isi2T, o_isi2L, o_isi2B, o_isi2N, o_inS1, o_inT, o_ninT, o_intT, o_split, e_chain, e_binF, o_cat, e_dictP, e_while, e_din0, e_dput, o_sortD, e_key, e_asD, e_asM, e_itO, v_o1d, isT, reduceCtorEq, List.any_cons, List.any_nil, List.all_cons, List.all_nil, Bool.or_false, Bool.false_or, Bool.or_true, Bool.true_or, flatD, List.map_cons, List.map_nil, List.length_cons, List.length_nil, Nat.reduceAdd, Nat.reduceSub, List.reduceReplicate, List.cons_append, List.nil_append, List.append_nil, List.getElem?_cons_zero, List.getElem?_cons_succ, List.set_cons_zero, List.set_cons_succ, Option.map_some, Option.bind_some, ends0, ends1, endsF, ite_true, if_true, if_false, Bool.false_eq_true, reduceIte, true_and, and_true, Bool.not_true, Bool.not_false, Bool.not_eq_true', decide_eq_true_eq, decide_eq_false_iff_not]
      exact nx2 _ _ ⟨o3, _, p3.up (by omega), by omega, rfl, rfl⟩
    · obtain ⟨o', x, po, hl, rfl, rfl⟩ := hI
      exact ⟨trivial, nx _ _ ⟨o', x, po.up (by simp only [List.length_nil]; omega), rfl, rfl⟩⟩
  obtain ⟨o3, x3, p3, rfl, rfl⟩ := hI
  refine seq_in (fun ρ m => ∃ (o' : MO) (ws' : List (List Nat)), Pl (N + 6600) o' ∧ Wins n ws' ∧ m = [o'] ∧ ρ = [some (.o 0), some (.d (.int n)), some (.d (.tup (ws'.map .str))), x3, none, none, none, none, none, none]) (fun Nx nx => ?_) (fun ρ m hI => ?_)
  · simp only [e_var, e_c, e_bin, e_un, e_view, e_bnd, e_cons, e_nil, e_allD0, e_allD, e_allV0, e_allV1, e_allV2, e_cb, e_cf, e_on1, e_on2, e_test, e_truth, e_asB, e_asI, e_tup, e_lst, e_z, e_o, e_zg, e_og, e_ifE, e_and, e_or, e_not, e_andV, e_orV, e_notV, e_sm, e_smV, e_smf, e_call, e_callK, e_fnP, e_fnF, e_fnQ, e_next, e_seq, e_brk, e_cnt, e_drop, e_ret, e_if, e_asg, e_bname, e_btup, e_bsnil, e_bscons, e_par, e_fmt, e_js0, e_js, e_sl, e_nopart, e_part, e_frzd, e_frz1d, e_lc, e_for, e_seqI, e_rng1, e_rng2, e_enum, e_itT, e_itL, e_itS, e_start, e_yes, e_plain, o_add, o_addS, o_addT, o_addL, o_sub, o_mul, o_mulS, o_div, o_mod, o_pow, o_neg, o_lt, o_le, o_gt, o_ge, o_ltS, o_eqI, o_eqS, o_neI, o_neS, o_eqL, o_neL, o_lenS, o_lenT, o_lenL, o_lenR, o_int, o_intB, o_abs, o_max, o_min, o_st, o_ixL, o_ixT, o_ixR, o_ixS, o_tupL, o_tupT, o_all, o_slS, o_slT, o_slL, o_join, o_asT, o_asL, o_part, o_is, t_bl, t_lst, t_tup, e_asO, e_asL, e_stL, e_pure, v_o0, v_o1, at0, at1, at2, ix30, ix31, ix32, li_R, li_L, e_wp0, e_wp, e_ss, e_gnd, e_app, e_pop, o_isiI, o_isiS, o_isiT, o_isiL, o_isiB, o_isiN, o_isi2I, o_isi2S, o_isi2T, o_isi2L, o_isi2B, o_isi2N, o_inS1, o_inT, o_ninT, o_intT, o_split, e_chain, e_binF, o_cat, e_dictP, e_while, e_din0, e_dput, o_sortD, e_key, e_asD, e_asM, e_itO, v_o1d, isT, reduceCtorEq, List.any_cons, List.any_nil, List.all_cons, List.all_nil, Bool.or_false, Bool.false_or, Bool.or_true, Bool.true_or, flatD, List.map_cons, List.map_nil, List.length_cons, List.length_nil, Nat.reduceAdd, Nat.reduceSub, List.reduceReplicate, List.cons_append, List.nil_append, List.append_nil, List.getElem?_cons_zero, List.getElem?_cons_succ, List.set_cons_zero, List.set_cons_succ, Option.map_some, Option.bind_some, ends0, ends1, endsF, ite_true, if_true, if_false, Bool.false_eq_true, reduceIte, true_and, and_true, Bool.not_true, Bool.not_false, Bool.not_eq_true', decide_eq_true_eq, decide_eq_false_iff_not]
    split
    · refine ⟨p3.pure, scoop_ok p3 (by omega) (by decide) (by decide) fun d o4 d0 d1 p4 => ?_⟩
      simp only [e_var, e_c, e_bin, e_un, e_view, e_bnd, e_cons, e_nil, e_allD0, e_allD, e_allV0, e_allV1, e_allV2, e_cb, e_cf, e_on1, e_on2, e_test, e_truth, e_asB, e_asI, e_tup, e_lst, e_z, e_o, e_zg, e_og, e_ifE, e_and, e_or, e_not, e_andV, e_orV, e_notV, e_sm, e_smV, e_smf, e_call, e_callK, e_fnP, e_fnF, e_fnQ, e_next, e_seq, e_brk, e_cnt, e_drop, e_ret, e_if, e_asg, e_bname, e_btup, e_bsnil, e_bscons, e_par, e_fmt, e_js0, e_js, e_sl, e_nopart, e_part, e_frzd, e_frz1d, e_lc, e_for, e_seqI, e_rng1, e_rng2, e_enum, e_itT, e_itL, e_itS, e_start, e_yes, e_plain, o_add, o_addS, o_addT, o_addL, o_sub, o_mul, o_mulS, o_div, o_mod, o_pow, o_neg, o_lt, o_le, o_gt, o_ge, o_ltS, o_eqI, o_eqS, o_neI, o_neS, o_eqL, o_neL, o_lenS, o_lenT, o_lenL, o_lenR, o_int, o_intB, o_abs, o_max, o_min, o_st, o_ixL, o_ixT, o_ixR, o_ixS, o_tupL, o_tupT, o_all, o_slS, o_slT, o_slL, o_join, o_asT, o_asL, o_part, o_is, t_bl, t_lst, t_tup, e_asO, e_asL, e_stL, e_pure, v_o0, v_o1, at0, at1, at2, ix30, ix31, ix32, li_R, li_L, e_wp0, e_wp, e_ss, e_gnd, e_app, e_pop, o_isiI, o_isiS, o_isiT, o_isiL, o_isiB, o_isiN, o_isi2I, o_isi2S, o_isi2T, o_isi2L, o_isi2B, o_isi2N, o_inS1, o_inT, o_ninT, o_intT, o_split, e_chain, e_binF, o_cat, e_dictP, e_while, e_din0, e_dput, o_sortD, e_key, e_asD, e_asM, e_itO, v_o1d, isT, reduceCtorEq, List.any_cons, List.any_nil, List.all_cons, List.all_nil, Bool.or_false, Bool.false_or, Bool.or_true, Bool.true_or, flatD, List.map_cons, List.map_nil, List.length_cons, List.length_nil, Nat.reduceAdd, Nat.reduceSub, List.reduceReplicate, List.cons_append, List.nil_append, List.append_nil, List.getElem?_cons_zero, List.getElem?_cons_succ, List.set_cons_zero, List.set_cons_succ, Option.map_some, Option.bind_some, ends0, ends1, endsF, ite_true, if_true, if_false, Bool.false_eq_true, reduceIte, true_and, and_true, Bool.not_true, Bool.not_false, Bool.not_eq_true', decide_eq_true_eq, decide_eq_false_iff_not]
      split
      · rw [cut_but, cut_last, ← List.map_dropLast, List.length_map, ← List.map_drop]
        refine lc_inv (I := fun l acc m => ∃ (o' : MO) (us vs : List (List Nat)), m = [o'] ∧ l = us.map .str ∧ acc = vs.map .str ∧ Pl (N + 6501 + (40 - us.length)) o' ∧ (vs ++ us).Sublist ws.dropLast) (fun d l acc m Q hI q => ?_) (fun acc m hI => ?_) _ _ _ ⟨o4, ws.dropLast, [], rfl, rfl, rfl, p4.up (by omega), List.Sublist.refl _⟩
        · obtain ⟨o', us, vs, rfl, e, rfl, po, sb⟩ := hI
          cases us with
          | nil => cases e
          | cons u us =>
            injection e with e1 e2
            subst e1 e2
            have ul : us.length + 1 ≤ 40 := by
              have h1 := sb.length_le
              rw [List.length_append, List.length_cons, List.length_dropLast] at h1
              omega
            have vl : vs.length ≤ 40 := by
              have h1 := sb.length_le
              rw [List.length_append, List.length_cons, List.length_dropLast] at h1
              omega
            rw [List.length_cons] at po
            simp only [e_var, e_c, e_bin, e_un, e_view, e_bnd, e_cons, e_nil, e_allD0, e_allD, e_allV0, e_allV1, e_allV2, e_cb, e_cf, e_on1, e_on2, e_test, e_truth, e_asB, e_asI, e_tup, e_lst, e_z, e_o, e_zg, e_og, e_ifE, e_and, e_or, e_not, e_andV, e_orV, e_notV, e_sm, e_smV, e_smf, e_call, e_callK, e_fnP, e_fnF, e_fnQ, e_next, e_seq, e_brk, e_cnt, e_drop, e_ret, e_if, e_asg, e_bname, e_btup, e_bsnil, e_bscons, e_par, e_fmt, e_js0, e_js, e_sl, e_nopart, e_part, e_frzd, e_frz1d, e_lc, e_for, e_seqI, e_rng1, e_rng2, e_enum, e_itT, e_itL, e_itS, e_start, e_yes, e_plain, o_add, o_addS, o_addT, o_addL, o_sub, o_mul, o_mulS, o_div, o_mod, o_pow, o_neg, o_lt, o_le, o_gt, o_ge, o_ltS, o_eqI, o_eqS, o_neI, o_neS, o_eqL, o_neL, o_lenS, o_lenT, o_lenL, o_lenR, o_int, o_intB, o_abs, o_max, o_min, o_st, o_ixL, o_ixT, o_ixR, o_ixS, o_tupL, o_tupT, o_all, o_slS, o_slT, o_slL, o_join, o_asT, o_asL, o_part, o_is, t_bl, t_lst, t_tup, e_asO, e_asL, e_stL, e_pure, v_o0, v_o1, at0, at1, at2, ix30, ix31, ix32, li_R, li_L, e_wp0, e_wp, e_ss, e_gnd, e_app, e_pop, o_isiI, o_isiS, o_isiT, o_isiL, o_isiB, o_isiN, o_isi2I, o_isi2S, o_isi2T, o_isi2L, o_isi2B, o_isi2N, o_inS1, o_inT, o_ninT, o_intT, o_split, e_chain, e_binF, o_cat, e_dictP, e_while, e_din0, e_dput, o_sortD, e_key, e_asD, e_asM, e_itO, v_o1d, isT, reduceCtorEq, List.any_cons, List.any_nil, List.all_cons, List.all_nil, Bool.or_false, Bool.false_or, Bool.or_true, Bool.true_or, flatD, List.map_cons, List.map_nil, List.length_cons, List.length_nil, Nat.reduceAdd, Nat.reduceSub, List.reduceReplicate, List.cons_append, List.nil_append, List.append_nil, List.getElem?_cons_zero, List.getElem?_cons_succ, List.set_cons_zero, List.set_cons_succ, Option.map_some, Option.bind_some, ends0, ends1, endsF, ite_true, if_true, if_false, Bool.false_eq_true, reduceIte, true_and, and_true, Bool.not_true, Bool.not_false, Bool.not_eq_true', decide_eq_true_eq, decide_eq_false_iff_not]
            refine ⟨po.pure, scoop_ok po (by omega) (by decide) (by decide) fun d o5 d0 d1 p5 => ?_⟩
            simp only [e_var, e_c, e_bin, e_un, e_view, e_bnd, e_cons, e_nil, e_allD0, e_allD, e_allV0, e_allV1, e_allV2, e_cb, e_cf, e_on1, e_on2, e_test, e_truth, e_asB, e_asI, e_tup, e_lst, e_z, e_o, e_zg, e_og, e_ifE, e_and, e_or, e_not, e_andV, e_orV, e_notV, e_sm, e_smV, e_smf, e_call, e_callK, e_fnP, e_fnF, e_fnQ, e_next, e_seq, e_brk, e_cnt, e_drop, e_ret, e_if, e_asg, e_bname, e_btup, e_bsnil, e_bscons, e_par, e_fmt, e_js0, e_js, e_sl, e_nopart, e_part, e_frzd, e_frz1d, e_lc, e_for, e_seqI, e_rng1, e_rng2, e_enum, e_itT, e_itL, e_itS, e_start, e_yes, e_plain, o_add, o_addS, o_addT, o_addL, o_sub, o_mul, o_mulS, o_div, o_mod, o_pow, o_neg, o_lt, o_le, o_gt, o_ge, o_ltS, o_eqI, o_eqS, o_neI, o_neS, o_eqL, o_neL, o_lenS, o_lenT, o_lenL, o_lenR, o_int, o_intB, o_abs, o_max, o_min, o_st, o_ixL, o_ixT, o_ixR, o_ixS, o_tupL, o_tupT, o_all, o_slS, o_slT, o_slL, o_join, o_asT, o_asL, o_part, o_is, t_bl, t_lst, t_tup, e_asO, e_asL, e_stL, e_pure, v_o0, v_o1, at0, at1, at2, ix30, ix31, ix32, li_R, li_L, e_wp0, e_wp, e_ss, e_gnd, e_app, e_pop, o_isiI, o_isiS, o_isiT, o_isiL, o_isiB, o_isiN, o_isi2I, o_isi2S, o_isi2T, o_isi2L, o_isi2B, o_isi2N, o_inS1, o_inT, o_ninT, o_intT, o_split, e_chain, e_binF, o_cat, e_dictP, e_while, e_din0, e_dput, o_sortD, e_key, e_asD, e_asM, e_itO, v_o1d, isT, reduceCtorEq, List.any_cons, List.any_nil, List.all_cons, List.all_nil, Bool.or_false, Bool.false_or, Bool.or_true, Bool.true_or, flatD, List.map_cons, List.map_nil, List.length_cons, List.length_nil, Nat.reduceAdd, Nat.reduceSub, List.reduceReplicate, List.cons_append, List.nil_append, List.append_nil, List.getElem?_cons_zero, List.getElem?_cons_succ, List.set_cons_zero, List.set_cons_succ, Option.map_some, Option.bind_some, ends0, ends1, endsF, ite_true, if_true, if_false, Bool.false_eq_true, reduceIte, true_and, and_true, Bool.not_true, Bool.not_false, Bool.not_eq_true', decide_eq_true_eq, decide_eq_false_iff_not]
            split
            · refine ⟨by rw [List.length_map]; omega, q _ _ ⟨o5, us, vs ++ [u], rfl, rfl, by rw [List.map_append]; rfl, p5.up (by omega), ?_⟩⟩
              rw [List.append_assoc]
              exact sb
            · exact q _ _ ⟨o5, us, vs, rfl, rfl, rfl, p5.up (by omega), (List.Sublist.append_left (List.sublist_cons_self u us) vs).trans sb⟩
        · obtain ⟨o', us, vs, rfl, e, rfl, po, sb⟩ := hI
          have eu : us = [] := by
            cases us with
            | nil => rfl
            | cons u us => cases e
          subst eu
          rw [List.append_nil] at sb
          have full : ws.dropLast ++ ws.drop (ws.length - 1) = ws := by
            rw [List.dropLast_eq_take]
            exact List.take_append_drop _ _
          have sub : (vs ++ ws.drop (ws.length - 1)).Sublist ws := by
            have h1 := List.Sublist.append_right sb (ws.drop (ws.length - 1))
            rw [full] at h1
            exact h1
          have wpos := List.length_pos_iff.mpr hw.ne
          have vl := sub.length_le
          have dl : (ws.drop (ws.length - 1)).length = 1 := by rw [List.length_drop]; omega
          rw [List.length_append, dl] at vl
          refine ⟨trivial, by rw [List.length_map, List.length_map, dl]; omega, nx _ _ ⟨o', vs ++ ws.drop (ws.length - 1), po.up (by omega), ⟨?_, ?_, hw.asc.sublist sub, fun w hx => hw.len w (sub.subset hx), fun w hx => hw.az w (sub.subset hx)⟩, rfl, by rw [List.map_append]⟩⟩
          · intro z
            have h1 := congrArg List.length z
            rw [List.length_append, dl, List.length_nil] at h1
            omega
          · rw [List.length_append, dl]
            omega
      · exact nx _ _ ⟨o4, ws, p4.up (by omega), hw, rfl, rfl⟩
    · exact nx _ _ ⟨o3, ws, p3.up (by omega), hw, rfl, rfl⟩
  clear hw hf
  obtain ⟨o4, ws, p4, hw, rfl, rfl⟩ := hI
  have hf := hw.few
  have hwl : ∀ w ∈ ws, w.length ≤ 6 := fun w hx => by rw [hw.len w hx]; exact hn
  have bl : (bookT n ws).length ≤ 1000 := by
    have h3 := num_small hn
    have hs := hw.sum hn
    have hj := join_len (sep := [32]) (ns := ws)
    rw [List.length_singleton] at hj
    unfold bookT
    simp only [List.length_append, List.length_cons, List.length_nil]
    omega
  refine seq_in (fun ρ m => m = [o4] ∧ ρ = [some (.o 0), some (.d (.int n)), some (.d (.tup (ws.map .str))), x3, none, some (.d (.tup [.int n, .tup (ws.map .str)])), some (.d (.str (bookT n ws))), none, none, none]) (fun Nx nx => ?_) (fun ρ m hI => ?_)
  · simp only [e_var, e_c, e_bin, e_un, e_view, e_bnd, e_cons, e_nil, e_allD0, e_allD, e_allV0, e_allV1, e_allV2, e_cb, e_cf, e_on1, e_on2, e_test, e_truth, e_asB, e_asI, e_tup, e_lst, e_z, e_o, e_zg, e_og, e_ifE, e_and, e_or, e_not, e_andV, e_orV, e_notV, e_sm, e_smV, e_smf, e_call, e_callK, e_fnP, e_fnF, e_fnQ, e_next, e_seq, e_brk, e_cnt, e_drop, e_ret, e_if, e_asg, e_bname, e_btup, e_bsnil, e_bscons, e_par, e_fmt, e_js0, e_js, e_sl, e_nopart, e_part, e_frzd, e_frz1d, e_lc, e_for, e_seqI, e_rng1, e_rng2, e_enum, e_itT, e_itL, e_itS, e_start, e_yes, e_plain, o_add, o_addS, o_addT, o_addL, o_sub, o_mul, o_mulS, o_div, o_mod, o_pow, o_neg, o_lt, o_le, o_gt, o_ge, o_ltS, o_eqI, o_eqS, o_neI, o_neS, o_eqL, o_neL, o_lenS, o_lenT, o_lenL, o_lenR, o_int, o_intB, o_abs, o_max, o_min, o_st, o_ixL, o_ixT, o_ixR, o_ixS, o_tupL, o_tupT, o_all, o_slS, o_slT, o_slL, o_join, o_asT, o_asL, o_part, o_is, t_bl, t_lst, t_tup, e_asO, e_asL, e_stL, e_pure, v_o0, v_o1, at0, at1, at2, ix30, ix31, ix32, li_R, li_L, e_wp0, e_wp, e_ss, e_gnd, e_app, e_pop, o_isiI, o_isiS, o_isiT, o_isiL, o_isiB, o_isiN, o_isi2I, o_isi2S, o_isi2T, o_isi2L, o_isi2B, o_isi2N, o_inS1, o_inT, o_ninT, o_intT, o_split, e_chain, e_binF, o_cat, e_dictP, e_while, e_din0, e_dput, o_sortD, e_key, e_asD, e_asM, e_itO, v_o1d, isT, reduceCtorEq, List.any_cons, List.any_nil, List.all_cons, List.all_nil, Bool.or_false, Bool.false_or, Bool.or_true, Bool.true_or, flatD, List.map_cons, List.map_nil, List.length_cons, List.length_nil, Nat.reduceAdd, Nat.reduceSub, List.reduceReplicate, List.cons_append, List.nil_append, List.append_nil, List.getElem?_cons_zero, List.getElem?_cons_succ, List.set_cons_zero, List.set_cons_succ, Option.map_some, Option.bind_some, ends0, ends1, endsF, ite_true, if_true, if_false, Bool.false_eq_true, reduceIte, true_and, and_true, Bool.not_true, Bool.not_false, Bool.not_eq_true', decide_eq_true_eq, decide_eq_false_iff_not]
    exact ⟨by decide, written_ok hn hw (nx _ _ ⟨rfl, rfl⟩)⟩
  obtain ⟨rfl, rfl⟩ := hI
  have bookOk : okD 62 (.tup [.int n, .tup (ws.map .str)]) = true := by
    show (okD 61 (.int n) && (okD 61 (.tup (ws.map .str)) && true)) = true
    rw [show okD 61 (.tup (ws.map .str)) = true from okL_map (n := 60) fun w hx => okS fun c hc => by have := hw.az w hx c hc; omega]
    rfl
  have bookSm : smD (.tup [.int n, .tup (ws.map .str)]) = true := by
    show (decide ((n : Int).natAbs < 10 ^ 60) && (smL (ws.map .str) && true)) = true
    rw [smL_map fun w hx => rfl, decide_eq_true (show (n : Int).natAbs < 10 ^ 60 from Nat.lt_of_le_of_lt (show (n : Int).natAbs ≤ 6 by omega) (by decide))]
    rfl
  have bookWt : wtD (.tup [.int n, .tup (ws.map .str)]) ≤ 10000 := by
    have h2 : wtL (ws.map .str) ≤ (62 + 2) * ws.length := wtL_map fun w hx => by
      show 10 * w.length + 2 ≤ 62
      have := hwl w hx
      omega
    have h3 := num_small hn
    show ((numT n).length + 2 + ((wtL (ws.map .str) + 4) + 2 + 0)) + 4 ≤ _
    omega
  refine seq_in (fun ρ m => ∃ x, m = [o4] ∧ ρ = [some (.o 0), some (.d (.int n)), some (.d (.tup (ws.map .str))), x, none, some (.d (.tup [.int n, .tup (ws.map .str)])), some (.d (.str (bookT n ws))), none, none, none]) (fun Nx nx => ?_) (fun ρ m hI => ?_)
  · simp only [e_var, e_c, e_bin, e_un, e_view, e_bnd, e_cons, e_nil, e_allD0, e_allD, e_allV0, e_allV1, e_allV2, e_cb, e_cf, e_on1, e_on2, e_test, e_truth, e_asB, e_asI, e_tup, e_lst, e_z, e_o, e_zg, e_og, e_ifE, e_and, e_or, e_not, e_andV, e_orV, e_notV, e_sm, e_smV, e_smf, e_call, e_callK, e_fnP, e_fnF, e_fnQ, e_next, e_seq, e_brk, e_cnt, e_drop, e_ret, e_if, e_asg, e_bname, e_btup, e_bsnil, e_bscons, e_par, e_fmt, e_js0, e_js, e_sl, e_nopart, e_part, e_frzd, e_frz1d, e_lc, e_for, e_seqI, e_rng1, e_rng2, e_enum, e_itT, e_itL, e_itS, e_start, e_yes, e_plain, o_add, o_addS, o_addT, o_addL, o_sub, o_mul, o_mulS, o_div, o_mod, o_pow, o_neg, o_lt, o_le, o_gt, o_ge, o_ltS, o_eqI, o_eqS, o_neI, o_neS, o_eqL, o_neL, o_lenS, o_lenT, o_lenL, o_lenR, o_int, o_intB, o_abs, o_max, o_min, o_st, o_ixL, o_ixT, o_ixR, o_ixS, o_tupL, o_tupT, o_all, o_slS, o_slT, o_slL, o_join, o_asT, o_asL, o_part, o_is, t_bl, t_lst, t_tup, e_asO, e_asL, e_stL, e_pure, v_o0, v_o1, at0, at1, at2, ix30, ix31, ix32, li_R, li_L, e_wp0, e_wp, e_ss, e_gnd, e_app, e_pop, o_isiI, o_isiS, o_isiT, o_isiL, o_isiB, o_isiN, o_isi2I, o_isi2S, o_isi2T, o_isi2L, o_isi2B, o_isi2N, o_inS1, o_inT, o_ninT, o_intT, o_split, e_chain, e_binF, o_cat, e_dictP, e_while, e_din0, e_dput, o_sortD, e_key, e_asD, e_asM, e_itO, v_o1d, isT, reduceCtorEq, List.any_cons, List.any_nil, List.all_cons, List.all_nil, Bool.or_false, Bool.false_or, Bool.or_true, Bool.true_or, flatD, List.map_cons, List.map_nil, List.length_cons, List.length_nil, Nat.reduceAdd, Nat.reduceSub, List.reduceReplicate, List.cons_append, List.nil_append, List.append_nil, List.getElem?_cons_zero, List.getElem?_cons_succ, List.set_cons_zero, List.set_cons_succ, Option.map_some, Option.bind_some, ends0, ends1, endsF, ite_true, if_true, if_false, Bool.false_eq_true, reduceIte, true_and, and_true, Bool.not_true, Bool.not_false, Bool.not_eq_true', decide_eq_true_eq, decide_eq_false_iff_not]
    refine ⟨by decide, by decide, ?_⟩
    refine for_inv (I := fun l ρ m => ∃ x, m = [o4] ∧ ρ = [some (.o 0), some (.d (.int n)), some (.d (.tup (ws.map .str))), x, none, some (.d (.tup [.int n, .tup (ws.map .str)])), some (.d (.str (bookT n ws))), none, none, none]) (fun d l ρ m Nx2 hI nx2 => ?_) (fun ρ m hI => ?_) _ _ _ ⟨x3, rfl, rfl⟩
    · obtain ⟨x, rfl, rfl⟩ := hI
      simp only [e_var, e_c, e_bin, e_un, e_view, e_bnd, e_cons, e_nil, e_allD0, e_allD, e_allV0, e_allV1, e_allV2, e_cb, e_cf, e_on1, e_on2, e_test, e_truth, e_asB, e_asI, e_tup, e_lst, e_z, e_o, e_zg, e_og, e_ifE, e_and, e_or, e_not, e_andV, e_orV, e_notV, e_sm, e_smV, e_smf, e_call, e_callK, e_fnP, e_fnF, e_fnQ, e_next, e_seq, e_brk, e_cnt, e_drop, e_ret, e_if, e_asg, e_bname, e_btup, e_bsnil, e_bscons, e_par, e_fmt, e_js0, e_js, e_sl, e_nopart, e_part, e_frzd, e_frz1d, e_lc, e_for, e_seqI, e_rng1, e_rng2, e_enum, e_itT, e_itL, e_itS, e_start, e_yes, e_plain, o_add, o_addS, o_addT, o_addL, o_sub, o_mul, o_mulS, o_div, o_mod, o_pow, o_neg, o_lt, o_le, o_gt, o_ge, o_ltS, o_eqI, o_eqS, o_neI, o_neS, o_eqL, o_neL, o_lenS, o_lenT, o_lenL, o_lenR, o_int, o_intB, o_abs, o_max, o_min, o_st, o_ixL, o_ixT, o_ixR, o_ixS, o_tupL, o_tupT, o_all, o_slS, o_slT, o_slL, o_join, o_asT, o_asL, o_part, o_is, t_bl, t_lst, t_tup, e_asO, e_asL, e_stL, e_pure, v_o0, v_o1, at0, at1, at2, ix30, ix31, ix32, li_R, li_L, e_wp0, e_wp, e_ss, e_gnd, e_app, e_pop, o_isiI, o_isiS, o_isiT, o_isiL, o_isiB, o_isiN, o_isi2I, o_isi2S, o_isi2T, o_isi2L, o_isi2B, o_isi2N, o_inS1, o_inT, o_ninT, o_intT, o_split, e_chain, e_binF, o_cat, e_dictP, e_while, e_din0, e_dput, o_sortD, e_key, e_asD, e_asM, e_itO, v_o1d, isT, reduceCtorEq, List.any_cons, List.any_nil, List.all_cons, List.all_nil, Bool.or_false, Bool.false_or, Bool.or_true, Bool.true_or, flatD, List.map_cons, List.map_nil, List.length_cons, List.length_nil, Nat.reduceAdd, Nat.reduceSub, List.reduceReplicate, List.cons_append, List.nil_append, List.append_nil, List.getElem?_cons_zero, List.getElem?_cons_succ, List.set_cons_zero, List.set_cons_succ, Option.map_some, Option.bind_some, ends0, ends1, endsF, ite_true, if_true, if_false, Bool.false_eq_true, reduceIte, true_and, and_true, Bool.not_true, Bool.not_false, Bool.not_eq_true', decide_eq_true_eq, decide_eq_false_iff_not]
      refine show_book_ok hn hw ?_
      have pk : ∀ s : SV, pick [0] [s] = [s] := fun s => rfl
      simp only [e_var, e_c, e_bin, e_un, e_view, e_bnd, e_cons, e_nil, e_allD0, e_allD, e_allV0, e_allV1, e_allV2, e_cb, e_cf, e_on1, e_on2, e_test, e_truth, e_asB, e_asI, e_tup, e_lst, e_z, e_o, e_zg, e_og, e_ifE, e_and, e_or, e_not, e_andV, e_orV, e_notV, e_sm, e_smV, e_smf, e_call, e_callK, e_fnP, e_fnF, e_fnQ, e_next, e_seq, e_brk, e_cnt, e_drop, e_ret, e_if, e_asg, e_bname, e_btup, e_bsnil, e_bscons, e_par, e_fmt, e_js0, e_js, e_sl, e_nopart, e_part, e_frzd, e_frz1d, e_lc, e_for, e_seqI, e_rng1, e_rng2, e_enum, e_itT, e_itL, e_itS, e_start, e_yes, e_plain, o_add, o_addS, o_addT, o_addL, o_sub, o_mul, o_mulS, o_div, o_mod, o_pow, o_neg, o_lt, o_le, o_gt, o_ge, o_ltS, o_eqI, o_eqS, o_neI, o_neS, o_eqL, o_neL, o_lenS, o_lenT, o_lenL, o_lenR, o_int, o_intB, o_abs, o_max, o_min, o_st, o_ixL, o_ixT, o_ixR, o_ixS, o_tupL, o_tupT, o_all, o_slS, o_slT, o_slL, o_join, o_asT, o_asL, o_part, o_is, t_bl, t_lst, t_tup, e_asO, e_asL, e_stL, e_pure, v_o0, v_o1, at0, at1, at2, ix30, ix31, ix32, li_R, li_L, e_wp0, e_wp, e_ss, e_gnd, e_app, e_pop, o_isiI, o_isiS, o_isiT, o_isiL, o_isiB, o_isiN, o_isi2I, o_isi2S, o_isi2T, o_isi2L, o_isi2B, o_isi2N, o_inS1, o_inT, o_ninT, o_intT, o_split, e_chain, e_binF, o_cat, e_dictP, e_while, e_din0, e_dput, o_sortD, e_key, e_asD, e_asM, e_itO, v_o1d, isT, reduceCtorEq, List.any_cons, List.any_nil, List.all_cons, List.all_nil, Bool.or_false, Bool.false_or, Bool.or_true, Bool.true_or, flatD, List.map_cons, List.map_nil, List.length_cons, List.length_nil, Nat.reduceAdd, Nat.reduceSub, List.reduceReplicate, List.cons_append, List.nil_append, List.append_nil, List.getElem?_cons_zero, List.getElem?_cons_succ, List.set_cons_zero, List.set_cons_succ, Option.map_some, Option.bind_some, ends0, ends1, endsF, ite_true, if_true, if_false, Bool.false_eq_true, reduceIte, true_and, and_true, Bool.not_true, Bool.not_false, Bool.not_eq_true', decide_eq_true_eq, decide_eq_false_iff_not, pk]
      refine show_book_ok hn hw ⟨by decide, repr_2 (book_cp hw.wds) (by omega) ⟨by decide, repr_2 (book_cp hw.wds) (by omega) ?_⟩⟩
      simp only [e_var, e_c, e_bin, e_un, e_view, e_bnd, e_cons, e_nil, e_allD0, e_allD, e_allV0, e_allV1, e_allV2, e_cb, e_cf, e_on1, e_on2, e_test, e_truth, e_asB, e_asI, e_tup, e_lst, e_z, e_o, e_zg, e_og, e_ifE, e_and, e_or, e_not, e_andV, e_orV, e_notV, e_sm, e_smV, e_smf, e_call, e_callK, e_fnP, e_fnF, e_fnQ, e_next, e_seq, e_brk, e_cnt, e_drop, e_ret, e_if, e_asg, e_bname, e_btup, e_bsnil, e_bscons, e_par, e_fmt, e_js0, e_js, e_sl, e_nopart, e_part, e_frzd, e_frz1d, e_lc, e_for, e_seqI, e_rng1, e_rng2, e_enum, e_itT, e_itL, e_itS, e_start, e_yes, e_plain, o_add, o_addS, o_addT, o_addL, o_sub, o_mul, o_mulS, o_div, o_mod, o_pow, o_neg, o_lt, o_le, o_gt, o_ge, o_ltS, o_eqI, o_eqS, o_neI, o_neS, o_eqL, o_neL, o_lenS, o_lenT, o_lenL, o_lenR, o_int, o_intB, o_abs, o_max, o_min, o_st, o_ixL, o_ixT, o_ixR, o_ixS, o_tupL, o_tupT, o_all, o_slS, o_slT, o_slL, o_join, o_asT, o_asL, o_part, o_is, t_bl, t_lst, t_tup, e_asO, e_asL, e_stL, e_pure, v_o0, v_o1, at0, at1, at2, ix30, ix31, ix32, li_R, li_L, e_wp0, e_wp, e_ss, e_gnd, e_app, e_pop, o_isiI, o_isiS, o_isiT, o_isiL, o_isiB, o_isiN, o_isi2I, o_isi2S, o_isi2T, o_isi2L, o_isi2B, o_isi2N, o_inS1, o_inT, o_ninT, o_intT, o_split, e_chain, e_binF, o_cat, e_dictP, e_while, e_din0, e_dput, o_sortD, e_key, e_asD, e_asM, e_itO, v_o1d, isT, reduceCtorEq, List.any_cons, List.any_nil, List.all_cons, List.all_nil, Bool.or_false, Bool.false_or, Bool.or_true, Bool.true_or, flatD, List.map_cons, List.map_nil, List.length_cons, List.length_nil, Nat.reduceAdd, Nat.reduceSub, List.reduceReplicate, List.cons_append, List.nil_append, List.append_nil, List.getElem?_cons_zero, List.getElem?_cons_succ, List.set_cons_zero, List.set_cons_succ, Option.map_some, Option.bind_some, ends0, ends1, endsF, ite_true, if_true, if_false, Bool.false_eq_true, reduceIte, true_and, and_true, Bool.not_true, Bool.not_false, Bool.not_eq_true', decide_eq_true_eq, decide_eq_false_iff_not]
      rw [if_neg (fun z => z trivial)]
      refine read_book_ok n2 hn hw (read_book_ok n2 hn hw ⟨by decide, ?_⟩)
      have rp : ∀ {Q : D → Prop}, Q (.str (shw (.lst [.tup [.int n, .tup (ws.map .str)], .tup [.int n, .tup (ws.map .str)]]))) → oRepr (.lst [.tup [.int n, .tup (ws.map .str)], .tup [.int n, .tup (ws.map .str)]]) Q := fun q => by
        refine repr_ok (.inl ⟨_, rfl⟩) ?_ ?_ ?_ q
        · show (okD 63 (.tup [.int n, .tup (ws.map .str)]) && (okD 63 (.tup [.int n, .tup (ws.map .str)]) && true)) = true
          have : okD 63 (.tup [.int n, .tup (ws.map .str)]) = true := by
            show (okD 62 (.int n) && (okD 62 (.tup (ws.map .str)) && true)) = true
            rw [show okD 62 (.tup (ws.map .str)) = true from okL_map (n := 61) fun w hx => okS fun c hc => by have := hw.az w hx c hc; omega]
            rfl
          rw [this]
          rfl
        · show (smD (.tup [.int n, .tup (ws.map .str)]) && (smD (.tup [.int n, .tup (ws.map .str)]) && true)) = true
          rw [bookSm]
          rfl
        · show (wtD (.tup [.int n, .tup (ws.map .str)]) + 2 + (wtD (.tup [.int n, .tup (ws.map .str)]) + 2 + 0)) + 4 ≤ _
          omega
      refine rp ⟨by decide, rp ?_⟩
      simp only [e_var, e_c, e_bin, e_un, e_view, e_bnd, e_cons, e_nil, e_allD0, e_allD, e_allV0, e_allV1, e_allV2, e_cb, e_cf, e_on1, e_on2, e_test, e_truth, e_asB, e_asI, e_tup, e_lst, e_z, e_o, e_zg, e_og, e_ifE, e_and, e_or, e_not, e_andV, e_orV, e_notV, e_sm, e_smV, e_smf, e_call, e_callK, e_fnP, e_fnF, e_fnQ, e_next, e_seq, e_brk, e_cnt, e_drop, e_ret, e_if, e_asg, e_bname, e_btup, e_bsnil, e_bscons, e_par, e_fmt, e_js0, e_js, e_sl, e_nopart, e_part, e_frzd, e_frz1d, e_lc, e_for, e_seqI, e_rng1, e_rng2, e_enum, e_itT, e_itL, e_itS, e_start, e_yes, e_plain, o_add, o_addS, o_addT, o_addL, o_sub, o_mul, o_mulS, o_div, o_mod, o_pow, o_neg, o_lt, o_le, o_gt, o_ge, o_ltS, o_eqI, o_eqS, o_neI, o_neS, o_eqL, o_neL, o_lenS, o_lenT, o_lenL, o_lenR, o_int, o_intB, o_abs, o_max, o_min, o_st, o_ixL, o_ixT, o_ixR, o_ixS, o_tupL, o_tupT, o_all, o_slS, o_slT, o_slL, o_join, o_asT, o_asL, o_part, o_is, t_bl, t_lst, t_tup, e_asO, e_asL, e_stL, e_pure, v_o0, v_o1, at0, at1, at2, ix30, ix31, ix32, li_R, li_L, e_wp0, e_wp, e_ss, e_gnd, e_app, e_pop, o_isiI, o_isiS, o_isiT, o_isiL, o_isiB, o_isiN, o_isi2I, o_isi2S, o_isi2T, o_isi2L, o_isi2B, o_isi2N, o_inS1, o_inT, o_ninT, o_intT, o_split, e_chain, e_binF, o_cat, e_dictP, e_while, e_din0, e_dput, o_sortD, e_key, e_asD, e_asM, e_itO, v_o1d, isT, reduceCtorEq, List.any_cons, List.any_nil, List.all_cons, List.all_nil, Bool.or_false, Bool.false_or, Bool.or_true, Bool.true_or, flatD, List.map_cons, List.map_nil, List.length_cons, List.length_nil, Nat.reduceAdd, Nat.reduceSub, List.reduceReplicate, List.cons_append, List.nil_append, List.append_nil, List.getElem?_cons_zero, List.getElem?_cons_succ, List.set_cons_zero, List.set_cons_succ, Option.map_some, Option.bind_some, ends0, ends1, endsF, ite_true, if_true, if_false, Bool.false_eq_true, reduceIte, true_and, and_true, Bool.not_true, Bool.not_false, Bool.not_eq_true', decide_eq_true_eq, decide_eq_false_iff_not]
      rw [if_neg (fun z => z trivial)]
      exact nx2 _ _ ⟨_, rfl, rfl⟩
    · exact ⟨trivial, nx _ _ hI⟩
  obtain ⟨x, rfl, rfl⟩ := hI
  refine seq_in (fun ρ m => ∃ (o' : MO) (ks : List Int), Pl (N + 6700) o' ∧ Cnt ks ws.length ∧ m = [o'] ∧ ρ = [some (.o 0), some (.d (.int n)), some (.d (.tup (ws.map .str))), x, none, some (.d (.tup [.int n, .tup (ws.map .str)])), some (.d (.str (bookT n ws))), some (.d (.tup (ks.map .int))), none, none]) (fun Nx nx => ?_) (fun ρ m hI => ?_)
  · simp only [e_var, e_c, e_bin, e_un, e_view, e_bnd, e_cons, e_nil, e_allD0, e_allD, e_allV0, e_allV1, e_allV2, e_cb, e_cf, e_on1, e_on2, e_test, e_truth, e_asB, e_asI, e_tup, e_lst, e_z, e_o, e_zg, e_og, e_ifE, e_and, e_or, e_not, e_andV, e_orV, e_notV, e_sm, e_smV, e_smf, e_call, e_callK, e_fnP, e_fnF, e_fnQ, e_next, e_seq, e_brk, e_cnt, e_drop, e_ret, e_if, e_asg, e_bname, e_btup, e_bsnil, e_bscons, e_par, e_fmt, e_js0, e_js, e_sl, e_nopart, e_part, e_frzd, e_frz1d, e_lc, e_for, e_seqI, e_rng1, e_rng2, e_enum, e_itT, e_itL, e_itS, e_start, e_yes, e_plain, o_add, o_addS, o_addT, o_addL, o_sub, o_mul, o_mulS, o_div, o_mod, o_pow, o_neg, o_lt, o_le, o_gt, o_ge, o_ltS, o_eqI, o_eqS, o_neI, o_neS, o_eqL, o_neL, o_lenS, o_lenT, o_lenL, o_lenR, o_int, o_intB, o_abs, o_max, o_min, o_st, o_ixL, o_ixT, o_ixR, o_ixS, o_tupL, o_tupT, o_all, o_slS, o_slT, o_slL, o_join, o_asT, o_asL, o_part, o_is, t_bl, t_lst, t_tup, e_asO, e_asL, e_stL, e_pure, v_o0, v_o1, at0, at1, at2, ix30, ix31, ix32, li_R, li_L, e_wp0, e_wp, e_ss, e_gnd, e_app, e_pop, o_isiI, o_isiS, o_isiT, o_isiL, o_isiB, o_isiN, o_isi2I, o_isi2S, o_isi2T, o_isi2L, o_isi2B, o_isi2N, o_inS1, o_inT, o_ninT, o_intT, o_split, e_chain, e_binF, o_cat, e_dictP, e_while, e_din0, e_dput, o_sortD, e_key, e_asD, e_asM, e_itO, v_o1d, isT, reduceCtorEq, List.any_cons, List.any_nil, List.all_cons, List.all_nil, Bool.or_false, Bool.false_or, Bool.or_true, Bool.true_or, flatD, List.map_cons, List.map_nil, List.length_cons, List.length_nil, Nat.reduceAdd, Nat.reduceSub, List.reduceReplicate, List.cons_append, List.nil_append, List.append_nil, List.getElem?_cons_zero, List.getElem?_cons_succ, List.set_cons_zero, List.set_cons_succ, Option.map_some, Option.bind_some, ends0, ends1, endsF, ite_true, if_true, if_false, Bool.false_eq_true, reduceIte, true_and, and_true, Bool.not_true, Bool.not_false, Bool.not_eq_true', decide_eq_true_eq, decide_eq_false_iff_not]
    exact ⟨p4.pure, numbers_ok p4 (by omega) (by rw [List.length_map]; omega) fun ks o5 hk p5 => nx _ _ ⟨o5, ks, p5.up (by omega), by rw [List.length_map] at hk; exact hk, rfl, rfl⟩⟩
  obtain ⟨o5, ks, p5, hk, rfl, rfl⟩ := hI
  refine seq_in (fun ρ m => m = [o5] ∧ ρ = [some (.o 0), some (.d (.int n)), some (.d (.tup (ws.map .str))), x, none, some (.d (.tup [.int n, .tup (ws.map .str)])), some (.d (.str (bookT n ws))), some (.d (.tup (ks.map .int))), some (.d (.str (wrds (cells ws ks)))), none]) (fun Nx nx => ?_) (fun ρ m hI => ?_)
  · simp only [zip_TT, e_var, e_c, e_bin, e_un, e_view, e_bnd, e_cons, e_nil, e_allD0, e_allD, e_allV0, e_allV1, e_allV2, e_cb, e_cf, e_on1, e_on2, e_test, e_truth, e_asB, e_asI, e_tup, e_lst, e_z, e_o, e_zg, e_og, e_ifE, e_and, e_or, e_not, e_andV, e_orV, e_notV, e_sm, e_smV, e_smf, e_call, e_callK, e_fnP, e_fnF, e_fnQ, e_next, e_seq, e_brk, e_cnt, e_drop, e_ret, e_if, e_asg, e_bname, e_btup, e_bsnil, e_bscons, e_par, e_fmt, e_js0, e_js, e_sl, e_nopart, e_part, e_frzd, e_frz1d, e_lc, e_for, e_seqI, e_rng1, e_rng2, e_enum, e_itT, e_itL, e_itS, e_start, e_yes, e_plain, o_add, o_addS, o_addT, o_addL, o_sub, o_mul, o_mulS, o_div, o_mod, o_pow, o_neg, o_lt, o_le, o_gt, o_ge, o_ltS, o_eqI, o_eqS, o_neI, o_neS, o_eqL, o_neL, o_lenS, o_lenT, o_lenL, o_lenR, o_int, o_intB, o_abs, o_max, o_min, o_st, o_ixL, o_ixT, o_ixR, o_ixS, o_tupL, o_tupT, o_all, o_slS, o_slT, o_slL, o_join, o_asT, o_asL, o_part, o_is, t_bl, t_lst, t_tup, e_asO, e_asL, e_stL, e_pure, v_o0, v_o1, at0, at1, at2, ix30, ix31, ix32, li_R, li_L, e_wp0, e_wp, e_ss, e_gnd, e_app, e_pop, o_isiI, o_isiS, o_isiT, o_isiL, o_isiB, o_isiN, o_isi2I, o_isi2S, o_isi2T, o_isi2L, o_isi2B, o_isi2N, o_inS1, o_inT, o_ninT, o_intT, o_split, e_chain, e_binF, o_cat, e_dictP, e_while, e_din0, e_dput, o_sortD, e_key, e_asD, e_asM, e_itO, v_o1d, isT, reduceCtorEq, List.any_cons, List.any_nil, List.all_cons, List.all_nil, Bool.or_false, Bool.false_or, Bool.or_true, Bool.true_or, flatD, List.map_cons, List.map_nil, List.length_cons, List.length_nil, Nat.reduceAdd, Nat.reduceSub, List.reduceReplicate, List.cons_append, List.nil_append, List.append_nil, List.getElem?_cons_zero, List.getElem?_cons_succ, List.set_cons_zero, List.set_cons_succ, Option.map_some, Option.bind_some, ends0, ends1, endsF, ite_true, if_true, if_false, Bool.false_eq_true, reduceIte, true_and, and_true, Bool.not_true, Bool.not_false, Bool.not_eq_true', decide_eq_true_eq, decide_eq_false_iff_not]
    refine lc_pure (f := celF) trivial (zipD (ws.map .str) (ks.map .int)) [] (fun d hd Q Q' q => ?_) (by rw [zipD_len, List.length_map, List.length_nil]; omega) ?_
    · obtain ⟨w, k, h1, h2, rfl⟩ := zip_mem hd
      have hl := hw.len w h1
      have hk2 := hk.each k h2
      have hnl : (numT k).length ≤ 41 := numT_len (k := 40) (by decide) (by omega)
      simp only [celF] at q
      simp only [e_var, e_c, e_bin, e_un, e_view, e_bnd, e_cons, e_nil, e_allD0, e_allD, e_allV0, e_allV1, e_allV2, e_cb, e_cf, e_on1, e_on2, e_test, e_truth, e_asB, e_asI, e_tup, e_lst, e_z, e_o, e_zg, e_og, e_ifE, e_and, e_or, e_not, e_andV, e_orV, e_notV, e_sm, e_smV, e_smf, e_call, e_callK, e_fnP, e_fnF, e_fnQ, e_next, e_seq, e_brk, e_cnt, e_drop, e_ret, e_if, e_asg, e_bname, e_btup, e_bsnil, e_bscons, e_par, e_fmt, e_js0, e_js, e_sl, e_nopart, e_part, e_frzd, e_frz1d, e_lc, e_for, e_seqI, e_rng1, e_rng2, e_enum, e_itT, e_itL, e_itS, e_start, e_yes, e_plain, o_add, o_addS, o_addT, o_addL, o_sub, o_mul, o_mulS, o_div, o_mod, o_pow, o_neg, o_lt, o_le, o_gt, o_ge, o_ltS, o_eqI, o_eqS, o_neI, o_neS, o_eqL, o_neL, o_lenS, o_lenT, o_lenL, o_lenR, o_int, o_intB, o_abs, o_max, o_min, o_st, o_ixL, o_ixT, o_ixR, o_ixS, o_tupL, o_tupT, o_all, o_slS, o_slT, o_slL, o_join, o_asT, o_asL, o_part, o_is, t_bl, t_lst, t_tup, e_asO, e_asL, e_stL, e_pure, v_o0, v_o1, at0, at1, at2, ix30, ix31, ix32, li_R, li_L, e_wp0, e_wp, e_ss, e_gnd, e_app, e_pop, o_isiI, o_isiS, o_isiT, o_isiL, o_isiB, o_isiN, o_isi2I, o_isi2S, o_isi2T, o_isi2L, o_isi2B, o_isi2N, o_inS1, o_inT, o_ninT, o_intT, o_split, e_chain, e_binF, o_cat, e_dictP, e_while, e_din0, e_dput, o_sortD, e_key, e_asD, e_asM, e_itO, v_o1d, isT, reduceCtorEq, List.any_cons, List.any_nil, List.all_cons, List.all_nil, Bool.or_false, Bool.false_or, Bool.or_true, Bool.true_or, flatD, List.map_cons, List.map_nil, List.length_cons, List.length_nil, Nat.reduceAdd, Nat.reduceSub, List.reduceReplicate, List.cons_append, List.nil_append, List.append_nil, List.getElem?_cons_zero, List.getElem?_cons_succ, List.set_cons_zero, List.set_cons_succ, Option.map_some, Option.bind_some, ends0, ends1, endsF, ite_true, if_true, if_false, Bool.false_eq_true, reduceIte, true_and, and_true, Bool.not_true, Bool.not_false, Bool.not_eq_true', decide_eq_true_eq, decide_eq_false_iff_not, List.length_append]
      split
      · rename_i h0
        rw [if_pos h0] at q
        exact ⟨by omega, log_cnt hk2, by omega, q⟩
      · rename_i h0
        rw [if_neg h0] at q
        exact q
    · rw [List.nil_append, zip_cells]
      have := cells_few ws ks 1 hwl hk.each
      exact parts_ok (.inl rfl) (by omega) (nx _ _ ⟨rfl, rfl⟩)
  obtain ⟨rfl, rfl⟩ := hI
  have cellcp : ∀ s ∈ cells ws ks, ∀ c ∈ s, c < 1114112 := fun s hs c hc => by
    obtain ⟨w, k, h1, h2, rfl⟩ := cells_mem hs
    have hk2 := hk.each k h2
    unfold cell at hc
    rw [List.mem_append, List.mem_append] at hc
    rcases hc with (h | h) | h
    · have := hw.az w h1 c h
      omega
    · rw [List.mem_singleton.mp h]
      decide
    · rw [show k = ((k.toNat : Nat) : Int) by omega] at h
      exact num_cp c h
  have cl : (wrds (cells ws ks)).length ≤ 10000 := by
    have h1 := cells_few ws ks 1 hwl hk.each
    have hj := join_len (sep := [32]) (ns := cells ws ks)
    rw [List.length_singleton] at hj
    unfold wrds
    split
    · omega
    · decide
  refine seq_in (fun ρ m => m = [o5] ∧ ρ = [some (.o 0), some (.d (.int n)), some (.d (.tup (ws.map .str))), x, none, some (.d (.tup [.int n, .tup (ws.map .str)])), some (.d (.str (bookT n ws))), some (.d (.tup (ks.map .int))), some (.d (.str (wrds (cells ws ks)))), none]) (fun Nx nx => ?_) (fun ρ m hI => ?_)
  · simp only [e_var, e_c, e_bin, e_un, e_view, e_bnd, e_cons, e_nil, e_allD0, e_allD, e_allV0, e_allV1, e_allV2, e_cb, e_cf, e_on1, e_on2, e_test, e_truth, e_asB, e_asI, e_tup, e_lst, e_z, e_o, e_zg, e_og, e_ifE, e_and, e_or, e_not, e_andV, e_orV, e_notV, e_sm, e_smV, e_smf, e_call, e_callK, e_fnP, e_fnF, e_fnQ, e_next, e_seq, e_brk, e_cnt, e_drop, e_ret, e_if, e_asg, e_bname, e_btup, e_bsnil, e_bscons, e_par, e_fmt, e_js0, e_js, e_sl, e_nopart, e_part, e_frzd, e_frz1d, e_lc, e_for, e_seqI, e_rng1, e_rng2, e_enum, e_itT, e_itL, e_itS, e_start, e_yes, e_plain, o_add, o_addS, o_addT, o_addL, o_sub, o_mul, o_mulS, o_div, o_mod, o_pow, o_neg, o_lt, o_le, o_gt, o_ge, o_ltS, o_eqI, o_eqS, o_neI, o_neS, o_eqL, o_neL, o_lenS, o_lenT, o_lenL, o_lenR, o_int, o_intB, o_abs, o_max, o_min, o_st, o_ixL, o_ixT, o_ixR, o_ixS, o_tupL, o_tupT, o_all, o_slS, o_slT, o_slL, o_join, o_asT, o_asL, o_part, o_is, t_bl, t_lst, t_tup, e_asO, e_asL, e_stL, e_pure, v_o0, v_o1, at0, at1, at2, ix30, ix31, ix32, li_R, li_L, e_wp0, e_wp, e_ss, e_gnd, e_app, e_pop, o_isiI, o_isiS, o_isiT, o_isiL, o_isiB, o_isiN, o_isi2I, o_isi2S, o_isi2T, o_isi2L, o_isi2B, o_isi2N, o_inS1, o_inT, o_ninT, o_intT, o_split, e_chain, e_binF, o_cat, e_dictP, e_while, e_din0, e_dput, o_sortD, e_key, e_asD, e_asM, e_itO, v_o1d, isT, reduceCtorEq, List.any_cons, List.any_nil, List.all_cons, List.all_nil, Bool.or_false, Bool.false_or, Bool.or_true, Bool.true_or, flatD, List.map_cons, List.map_nil, List.length_cons, List.length_nil, Nat.reduceAdd, Nat.reduceSub, List.reduceReplicate, List.cons_append, List.nil_append, List.append_nil, List.getElem?_cons_zero, List.getElem?_cons_succ, List.set_cons_zero, List.set_cons_succ, Option.map_some, Option.bind_some, ends0, ends1, endsF, ite_true, if_true, if_false, Bool.false_eq_true, reduceIte, true_and, and_true, Bool.not_true, Bool.not_false, Bool.not_eq_true', decide_eq_true_eq, decide_eq_false_iff_not]
    refine show_counts_ok hn hw hk ?_
    have pk : ∀ s t : SV, pick [1, 0] [s, t] = [t, s] := fun s t => rfl
    simp only [e_var, e_c, e_bin, e_un, e_view, e_bnd, e_cons, e_nil, e_allD0, e_allD, e_allV0, e_allV1, e_allV2, e_cb, e_cf, e_on1, e_on2, e_test, e_truth, e_asB, e_asI, e_tup, e_lst, e_z, e_o, e_zg, e_og, e_ifE, e_and, e_or, e_not, e_andV, e_orV, e_notV, e_sm, e_smV, e_smf, e_call, e_callK, e_fnP, e_fnF, e_fnQ, e_next, e_seq, e_brk, e_cnt, e_drop, e_ret, e_if, e_asg, e_bname, e_btup, e_bsnil, e_bscons, e_par, e_fmt, e_js0, e_js, e_sl, e_nopart, e_part, e_frzd, e_frz1d, e_lc, e_for, e_seqI, e_rng1, e_rng2, e_enum, e_itT, e_itL, e_itS, e_start, e_yes, e_plain, o_add, o_addS, o_addT, o_addL, o_sub, o_mul, o_mulS, o_div, o_mod, o_pow, o_neg, o_lt, o_le, o_gt, o_ge, o_ltS, o_eqI, o_eqS, o_neI, o_neS, o_eqL, o_neL, o_lenS, o_lenT, o_lenL, o_lenR, o_int, o_intB, o_abs, o_max, o_min, o_st, o_ixL, o_ixT, o_ixR, o_ixS, o_tupL, o_tupT, o_all, o_slS, o_slT, o_slL, o_join, o_asT, o_asL, o_part, o_is, t_bl, t_lst, t_tup, e_asO, e_asL, e_stL, e_pure, v_o0, v_o1, at0, at1, at2, ix30, ix31, ix32, li_R, li_L, e_wp0, e_wp, e_ss, e_gnd, e_app, e_pop, o_isiI, o_isiS, o_isiT, o_isiL, o_isiB, o_isiN, o_isi2I, o_isi2S, o_isi2T, o_isi2L, o_isi2B, o_isi2N, o_inS1, o_inT, o_ninT, o_intT, o_split, e_chain, e_binF, o_cat, e_dictP, e_while, e_din0, e_dput, o_sortD, e_key, e_asD, e_asM, e_itO, v_o1d, isT, reduceCtorEq, List.any_cons, List.any_nil, List.all_cons, List.all_nil, Bool.or_false, Bool.false_or, Bool.or_true, Bool.true_or, flatD, List.map_cons, List.map_nil, List.length_cons, List.length_nil, Nat.reduceAdd, Nat.reduceSub, List.reduceReplicate, List.cons_append, List.nil_append, List.append_nil, List.getElem?_cons_zero, List.getElem?_cons_succ, List.set_cons_zero, List.set_cons_succ, Option.map_some, Option.bind_some, ends0, ends1, endsF, ite_true, if_true, if_false, Bool.false_eq_true, reduceIte, true_and, and_true, Bool.not_true, Bool.not_false, Bool.not_eq_true', decide_eq_true_eq, decide_eq_false_iff_not, pk]
    refine show_counts_ok hn hw hk ⟨by decide, repr_2 (wrds_cp cellcp) (by omega) ⟨by decide, repr_2 (wrds_cp cellcp) (by omega) ?_⟩⟩
    simp only [e_var, e_c, e_bin, e_un, e_view, e_bnd, e_cons, e_nil, e_allD0, e_allD, e_allV0, e_allV1, e_allV2, e_cb, e_cf, e_on1, e_on2, e_test, e_truth, e_asB, e_asI, e_tup, e_lst, e_z, e_o, e_zg, e_og, e_ifE, e_and, e_or, e_not, e_andV, e_orV, e_notV, e_sm, e_smV, e_smf, e_call, e_callK, e_fnP, e_fnF, e_fnQ, e_next, e_seq, e_brk, e_cnt, e_drop, e_ret, e_if, e_asg, e_bname, e_btup, e_bsnil, e_bscons, e_par, e_fmt, e_js0, e_js, e_sl, e_nopart, e_part, e_frzd, e_frz1d, e_lc, e_for, e_seqI, e_rng1, e_rng2, e_enum, e_itT, e_itL, e_itS, e_start, e_yes, e_plain, o_add, o_addS, o_addT, o_addL, o_sub, o_mul, o_mulS, o_div, o_mod, o_pow, o_neg, o_lt, o_le, o_gt, o_ge, o_ltS, o_eqI, o_eqS, o_neI, o_neS, o_eqL, o_neL, o_lenS, o_lenT, o_lenL, o_lenR, o_int, o_intB, o_abs, o_max, o_min, o_st, o_ixL, o_ixT, o_ixR, o_ixS, o_tupL, o_tupT, o_all, o_slS, o_slT, o_slL, o_join, o_asT, o_asL, o_part, o_is, t_bl, t_lst, t_tup, e_asO, e_asL, e_stL, e_pure, v_o0, v_o1, at0, at1, at2, ix30, ix31, ix32, li_R, li_L, e_wp0, e_wp, e_ss, e_gnd, e_app, e_pop, o_isiI, o_isiS, o_isiT, o_isiL, o_isiB, o_isiN, o_isi2I, o_isi2S, o_isi2T, o_isi2L, o_isi2B, o_isi2N, o_inS1, o_inT, o_ninT, o_intT, o_split, e_chain, e_binF, o_cat, e_dictP, e_while, e_din0, e_dput, o_sortD, e_key, e_asD, e_asM, e_itO, v_o1d, isT, reduceCtorEq, List.any_cons, List.any_nil, List.all_cons, List.all_nil, Bool.or_false, Bool.false_or, Bool.or_true, Bool.true_or, flatD, List.map_cons, List.map_nil, List.length_cons, List.length_nil, Nat.reduceAdd, Nat.reduceSub, List.reduceReplicate, List.cons_append, List.nil_append, List.append_nil, List.getElem?_cons_zero, List.getElem?_cons_succ, List.set_cons_zero, List.set_cons_succ, Option.map_some, Option.bind_some, ends0, ends1, endsF, ite_true, if_true, if_false, Bool.false_eq_true, reduceIte, true_and, and_true, Bool.not_true, Bool.not_false, Bool.not_eq_true', decide_eq_true_eq, decide_eq_false_iff_not]
    rw [if_neg (fun z => z trivial)]
    exact nx _ _ ⟨rfl, rfl⟩
  obtain ⟨rfl, rfl⟩ := hI
  have rb : ∀ {Q : D → Prop}, Q (.str (shw (.tup [.int n, .tup (ws.map .str)]))) → oRepr (.tup [.int n, .tup (ws.map .str)]) Q := fun q => by
    refine repr_ok (.inr ⟨_, rfl⟩) ?_ bookSm (by omega) q
    show (okD 63 (.int n) && (okD 63 (.tup (ws.map .str)) && true)) = true
    rw [show okD 63 (.tup (ws.map .str)) = true from okL_map (n := 62) fun w hx => okS fun c hc => by have := hw.az w hx c hc; omega]
    rfl
  simp only [e_var, e_c, e_bin, e_un, e_view, e_bnd, e_cons, e_nil, e_allD0, e_allD, e_allV0, e_allV1, e_allV2, e_cb, e_cf, e_on1, e_on2, e_test, e_truth, e_asB, e_asI, e_tup, e_lst, e_z, e_o, e_zg, e_og, e_ifE, e_and, e_or, e_not, e_andV, e_orV, e_notV, e_sm, e_smV, e_smf, e_call, e_callK, e_fnP, e_fnF, e_fnQ, e_next, e_seq, e_brk, e_cnt, e_drop, e_ret, e_if, e_asg, e_bname, e_btup, e_bsnil, e_bscons, e_par, e_fmt, e_js0, e_js, e_sl, e_nopart, e_part, e_frzd, e_frz1d, e_lc, e_for, e_seqI, e_rng1, e_rng2, e_enum, e_itT, e_itL, e_itS, e_start, e_yes, e_plain, o_add, o_addS, o_addT, o_addL, o_sub, o_mul, o_mulS, o_div, o_mod, o_pow, o_neg, o_lt, o_le, o_gt, o_ge, o_ltS, o_eqI, o_eqS, o_neI, o_neS, o_eqL, o_neL, o_lenS, o_lenT, o_lenL, o_lenR, o_int, o_intB, o_abs, o_max, o_min, o_st, o_ixL, o_ixT, o_ixR, o_ixS, o_tupL, o_tupT, o_all, o_slS, o_slT, o_slL, o_join, o_asT, o_asL, o_part, o_is, t_bl, t_lst, t_tup, e_asO, e_asL, e_stL, e_pure, v_o0, v_o1, at0, at1, at2, ix30, ix31, ix32, li_R, li_L, e_wp0, e_wp, e_ss, e_gnd, e_app, e_pop, o_isiI, o_isiS, o_isiT, o_isiL, o_isiB, o_isiN, o_isi2I, o_isi2S, o_isi2T, o_isi2L, o_isi2B, o_isi2N, o_inS1, o_inT, o_ninT, o_intT, o_split, e_chain, e_binF, o_cat, e_dictP, e_while, e_din0, e_dput, o_sortD, e_key, e_asD, e_asM, e_itO, v_o1d, isT, reduceCtorEq, List.any_cons, List.any_nil, List.all_cons, List.all_nil, Bool.or_false, Bool.false_or, Bool.or_true, Bool.true_or, flatD, List.map_cons, List.map_nil, List.length_cons, List.length_nil, Nat.reduceAdd, Nat.reduceSub, List.reduceReplicate, List.cons_append, List.nil_append, List.append_nil, List.getElem?_cons_zero, List.getElem?_cons_succ, List.set_cons_zero, List.set_cons_succ, Option.map_some, Option.bind_some, ends0, ends1, endsF, ite_true, if_true, if_false, Bool.false_eq_true, reduceIte, true_and, and_true, Bool.not_true, Bool.not_false, Bool.not_eq_true', decide_eq_true_eq, decide_eq_false_iff_not]
  refine rb ⟨by decide, rb ?_⟩
  simp only [e_var, e_c, e_bin, e_un, e_view, e_bnd, e_cons, e_nil, e_allD0, e_allD, e_allV0, e_allV1, e_allV2, e_cb, e_cf, e_on1, e_on2, e_test, e_truth, e_asB, e_asI, e_tup, e_lst, e_z, e_o, e_zg, e_og, e_ifE, e_and, e_or, e_not, e_andV, e_orV, e_notV, e_sm, e_smV, e_smf, e_call, e_callK, e_fnP, e_fnF, e_fnQ, e_next, e_seq, e_brk, e_cnt, e_drop, e_ret, e_if, e_asg, e_bname, e_btup, e_bsnil, e_bscons, e_par, e_fmt, e_js0, e_js, e_sl, e_nopart, e_part, e_frzd, e_frz1d, e_lc, e_for, e_seqI, e_rng1, e_rng2, e_enum, e_itT, e_itL, e_itS, e_start, e_yes, e_plain, o_add, o_addS, o_addT, o_addL, o_sub, o_mul, o_mulS, o_div, o_mod, o_pow, o_neg, o_lt, o_le, o_gt, o_ge, o_ltS, o_eqI, o_eqS, o_neI, o_neS, o_eqL, o_neL, o_lenS, o_lenT, o_lenL, o_lenR, o_int, o_intB, o_abs, o_max, o_min, o_st, o_ixL, o_ixT, o_ixR, o_ixS, o_tupL, o_tupT, o_all, o_slS, o_slT, o_slL, o_join, o_asT, o_asL, o_part, o_is, t_bl, t_lst, t_tup, e_asO, e_asL, e_stL, e_pure, v_o0, v_o1, at0, at1, at2, ix30, ix31, ix32, li_R, li_L, e_wp0, e_wp, e_ss, e_gnd, e_app, e_pop, o_isiI, o_isiS, o_isiT, o_isiL, o_isiB, o_isiN, o_isi2I, o_isi2S, o_isi2T, o_isi2L, o_isi2B, o_isi2N, o_inS1, o_inT, o_ninT, o_intT, o_split, e_chain, e_binF, o_cat, e_dictP, e_while, e_din0, e_dput, o_sortD, e_key, e_asD, e_asM, e_itO, v_o1d, isT, reduceCtorEq, List.any_cons, List.any_nil, List.all_cons, List.all_nil, Bool.or_false, Bool.false_or, Bool.or_true, Bool.true_or, flatD, List.map_cons, List.map_nil, List.length_cons, List.length_nil, Nat.reduceAdd, Nat.reduceSub, List.reduceReplicate, List.cons_append, List.nil_append, List.append_nil, List.getElem?_cons_zero, List.getElem?_cons_succ, List.set_cons_zero, List.set_cons_succ, Option.map_some, Option.bind_some, ends0, ends1, endsF, ite_true, if_true, if_false, Bool.false_eq_true, reduceIte, true_and, and_true, Bool.not_true, Bool.not_false, Bool.not_eq_true', decide_eq_true_eq, decide_eq_false_iff_not]
  rw [decide_eq_true trivial]
  exact ⟨p5.pure, k _ (p5.up (by omega))⟩
theorem law_true : ∀ ns : List Int, ns.length ≤ 63 → g_law [.scr ns] fun d => d = .bl true := by
  intro ns hn
  refine ⟨rfl, ?_⟩
  simp only [r_law, e_var, e_c, e_bin, e_un, e_view, e_bnd, e_cons, e_nil, e_allD0, e_allD, e_allV0, e_allV1, e_allV2, e_cb, e_cf, e_on1, e_on2, e_test, e_truth, e_asB, e_asI, e_tup, e_lst, e_z, e_o, e_zg, e_og, e_ifE, e_and, e_or, e_not, e_andV, e_orV, e_notV, e_sm, e_smV, e_smf, e_call, e_callK, e_fnP, e_fnF, e_fnQ, e_next, e_seq, e_brk, e_cnt, e_drop, e_ret, e_if, e_asg, e_bname, e_btup, e_bsnil, e_bscons, e_par, e_fmt, e_js0, e_js, e_sl, e_nopart, e_part, e_frzd, e_frz1d, e_lc, e_for, e_seqI, e_rng1, e_rng2, e_enum, e_itT, e_itL, e_itS, e_start, e_yes, e_plain, o_add, o_addS, o_addT, o_addL, o_sub, o_mul, o_mulS, o_div, o_mod, o_pow, o_neg, o_lt, o_le, o_gt, o_ge, o_ltS, o_eqI, o_eqS, o_neI, o_neS, o_eqL, o_neL, o_lenS, o_lenT, o_lenL, o_lenR, o_int, o_intB, o_abs, o_max, o_min, o_st, o_ixL, o_ixT, o_ixR, o_ixS, o_tupL, o_tupT, o_all, o_slS, o_slT, o_slL, o_join, o_asT, o_asL, o_part, o_is, t_bl, t_lst, t_tup, e_asO, e_asL, e_stL, e_pure, v_o0, v_o1, at0, at1, at2, ix30, ix31, ix32, li_R, li_L, e_wp0, e_wp, e_ss, e_gnd, e_app, e_pop, o_isiI, o_isiS, o_isiT, o_isiL, o_isiB, o_isiN, o_isi2I, o_isi2S, o_isi2T, o_isi2L, o_isi2B, o_isi2N, o_inS1, o_inT, o_ninT, o_intT, o_split, e_chain, e_binF, o_cat, e_dictP, e_while, e_din0, e_dput, o_sortD, e_key, e_asD, e_asM, e_itO, v_o1d, isT, reduceCtorEq, List.any_cons, List.any_nil, List.all_cons, List.all_nil, Bool.or_false, Bool.false_or, Bool.or_true, Bool.true_or, flatD, List.map_cons, List.map_nil, List.length_cons, List.length_nil, Nat.reduceAdd, Nat.reduceSub, List.reduceReplicate, List.cons_append, List.nil_append, List.append_nil, List.getElem?_cons_zero, List.getElem?_cons_succ, List.set_cons_zero, List.set_cons_succ, Option.map_some, Option.bind_some, ends0, ends1, endsF, ite_true, if_true, if_false, Bool.false_eq_true, reduceIte, true_and, and_true, Bool.not_true, Bool.not_false, Bool.not_eq_true', decide_eq_true_eq, decide_eq_false_iff_not]
  have hb : ∃ c : Nat, (if (if (ns.length : Int) < 4 then (ns.length : Int) else 4) > 1 then (if (ns.length : Int) < 4 then (ns.length : Int) else 4) else 1) = (c : Int) ∧ c ≤ 4 := by
    by_cases h : (ns.length : Int) < 4
    · rw [if_pos h]
      by_cases h2 : (ns.length : Int) > 1
      · rw [if_pos h2]
        exact ⟨ns.length, rfl, by omega⟩
      · rw [if_neg h2]
        exact ⟨1, rfl, by decide⟩
    · rw [if_neg h]
      exact ⟨4, rfl, by decide⟩
  obtain ⟨c, ec, hc⟩ := hb
  rw [ec]
  refine ⟨by omega, by omega, ?_⟩
  rw [Int.toNat_natCast]
  refine for_inv (I := fun l ρ m => ∃ (i b : Nat) (x : Option SV) (q : Mu), l = intsOf (i : Int) b ∧ i + b ≤ 4 ∧ ρ = [some (.d (.scr ns)), x]) (fun d l ρ m Nx hI nx => ?_) (fun ρ m hI => ?_) _ _ _ ⟨0, c, none, [], rfl, by omega, rfl⟩
  · obtain ⟨i, b, x, q, e, hi, rfl⟩ := hI
    obtain ⟨b, rfl, rfl, rfl⟩ := ints_at e
    simp only [e_var, e_c, e_bin, e_un, e_view, e_bnd, e_cons, e_nil, e_allD0, e_allD, e_allV0, e_allV1, e_allV2, e_cb, e_cf, e_on1, e_on2, e_test, e_truth, e_asB, e_asI, e_tup, e_lst, e_z, e_o, e_zg, e_og, e_ifE, e_and, e_or, e_not, e_andV, e_orV, e_notV, e_sm, e_smV, e_smf, e_call, e_callK, e_fnP, e_fnF, e_fnQ, e_next, e_seq, e_brk, e_cnt, e_drop, e_ret, e_if, e_asg, e_bname, e_btup, e_bsnil, e_bscons, e_par, e_fmt, e_js0, e_js, e_sl, e_nopart, e_part, e_frzd, e_frz1d, e_lc, e_for, e_seqI, e_rng1, e_rng2, e_enum, e_itT, e_itL, e_itS, e_start, e_yes, e_plain, o_add, o_addS, o_addT, o_addL, o_sub, o_mul, o_mulS, o_div, o_mod, o_pow, o_neg, o_lt, o_le, o_gt, o_ge, o_ltS, o_eqI, o_eqS, o_neI, o_neS, o_eqL, o_neL, o_lenS, o_lenT, o_lenL, o_lenR, o_int, o_intB, o_abs, o_max, o_min, o_st, o_ixL, o_ixT, o_ixR, o_ixS, o_tupL, o_tupT, o_all, o_slS, o_slT, o_slL, o_join, o_asT, o_asL, o_part, o_is, t_bl, t_lst, t_tup, e_asO, e_asL, e_stL, e_pure, v_o0, v_o1, at0, at1, at2, ix30, ix31, ix32, li_R, li_L, e_wp0, e_wp, e_ss, e_gnd, e_app, e_pop, o_isiI, o_isiS, o_isiT, o_isiL, o_isiB, o_isiN, o_isi2I, o_isi2S, o_isi2T, o_isi2L, o_isi2B, o_isi2N, o_inS1, o_inT, o_ninT, o_intT, o_split, e_chain, e_binF, o_cat, e_dictP, e_while, e_din0, e_dput, o_sortD, e_key, e_asD, e_asM, e_itO, v_o1d, isT, reduceCtorEq, List.any_cons, List.any_nil, List.all_cons, List.all_nil, Bool.or_false, Bool.false_or, Bool.or_true, Bool.true_or, flatD, List.map_cons, List.map_nil, List.length_cons, List.length_nil, Nat.reduceAdd, Nat.reduceSub, List.reduceReplicate, List.cons_append, List.nil_append, List.append_nil, List.getElem?_cons_zero, List.getElem?_cons_succ, List.set_cons_zero, List.set_cons_succ, Option.map_some, Option.bind_some, ends0, ends1, endsF, ite_true, if_true, if_false, Bool.false_eq_true, reduceIte, true_and, and_true, Bool.not_true, Bool.not_false, Bool.not_eq_true', decide_eq_true_eq, decide_eq_false_iff_not]
    refine pail_ok hn (by omega) (by omega) fun l pl => ?_
    rw [snoc_get]
    refine ⟨pl.pure, turn_right_ok pl (by decide) fun o' p' => ?_⟩
    simp only [e_var, e_c, e_bin, e_un, e_view, e_bnd, e_cons, e_nil, e_allD0, e_allD, e_allV0, e_allV1, e_allV2, e_cb, e_cf, e_on1, e_on2, e_test, e_truth, e_asB, e_asI, e_tup, e_lst, e_z, e_o, e_zg, e_og, e_ifE, e_and, e_or, e_not, e_andV, e_orV, e_notV, e_sm, e_smV, e_smf, e_call, e_callK, e_fnP, e_fnF, e_fnQ, e_next, e_seq, e_brk, e_cnt, e_drop, e_ret, e_if, e_asg, e_bname, e_btup, e_bsnil, e_bscons, e_par, e_fmt, e_js0, e_js, e_sl, e_nopart, e_part, e_frzd, e_frz1d, e_lc, e_for, e_seqI, e_rng1, e_rng2, e_enum, e_itT, e_itL, e_itS, e_start, e_yes, e_plain, o_add, o_addS, o_addT, o_addL, o_sub, o_mul, o_mulS, o_div, o_mod, o_pow, o_neg, o_lt, o_le, o_gt, o_ge, o_ltS, o_eqI, o_eqS, o_neI, o_neS, o_eqL, o_neL, o_lenS, o_lenT, o_lenL, o_lenR, o_int, o_intB, o_abs, o_max, o_min, o_st, o_ixL, o_ixT, o_ixR, o_ixS, o_tupL, o_tupT, o_all, o_slS, o_slT, o_slL, o_join, o_asT, o_asL, o_part, o_is, t_bl, t_lst, t_tup, e_asO, e_asL, e_stL, e_pure, v_o0, v_o1, at0, at1, at2, ix30, ix31, ix32, li_R, li_L, e_wp0, e_wp, e_ss, e_gnd, e_app, e_pop, o_isiI, o_isiS, o_isiT, o_isiL, o_isiB, o_isiN, o_isi2I, o_isi2S, o_isi2T, o_isi2L, o_isi2B, o_isi2N, o_inS1, o_inT, o_ninT, o_intT, o_split, e_chain, e_binF, o_cat, e_dictP, e_while, e_din0, e_dput, o_sortD, e_key, e_asD, e_asM, e_itO, v_o1d, isT, reduceCtorEq, List.any_cons, List.any_nil, List.all_cons, List.all_nil, Bool.or_false, Bool.false_or, Bool.or_true, Bool.true_or, flatD, List.map_cons, List.map_nil, List.length_cons, List.length_nil, Nat.reduceAdd, Nat.reduceSub, List.reduceReplicate, List.cons_append, List.nil_append, List.append_nil, List.getElem?_cons_zero, List.getElem?_cons_succ, List.set_cons_zero, List.set_cons_succ, Option.map_some, Option.bind_some, ends0, ends1, endsF, ite_true, if_true, if_false, Bool.false_eq_true, reduceIte, true_and, and_true, Bool.not_true, Bool.not_false, Bool.not_eq_true', decide_eq_true_eq, decide_eq_false_iff_not]
    exact nx _ _ ⟨i + 1, b, _, q, rfl, by omega, rfl⟩
  · obtain ⟨i, b, x, q, e, hi, rfl⟩ := hI
    simp only [e_var, e_c, e_bin, e_un, e_view, e_bnd, e_cons, e_nil, e_allD0, e_allD, e_allV0, e_allV1, e_allV2, e_cb, e_cf, e_on1, e_on2, e_test, e_truth, e_asB, e_asI, e_tup, e_lst, e_z, e_o, e_zg, e_og, e_ifE, e_and, e_or, e_not, e_andV, e_orV, e_notV, e_sm, e_smV, e_smf, e_call, e_callK, e_fnP, e_fnF, e_fnQ, e_next, e_seq, e_brk, e_cnt, e_drop, e_ret, e_if, e_asg, e_bname, e_btup, e_bsnil, e_bscons, e_par, e_fmt, e_js0, e_js, e_sl, e_nopart, e_part, e_frzd, e_frz1d, e_lc, e_for, e_seqI, e_rng1, e_rng2, e_enum, e_itT, e_itL, e_itS, e_start, e_yes, e_plain, o_add, o_addS, o_addT, o_addL, o_sub, o_mul, o_mulS, o_div, o_mod, o_pow, o_neg, o_lt, o_le, o_gt, o_ge, o_ltS, o_eqI, o_eqS, o_neI, o_neS, o_eqL, o_neL, o_lenS, o_lenT, o_lenL, o_lenR, o_int, o_intB, o_abs, o_max, o_min, o_st, o_ixL, o_ixT, o_ixR, o_ixS, o_tupL, o_tupT, o_all, o_slS, o_slT, o_slL, o_join, o_asT, o_asL, o_part, o_is, t_bl, t_lst, t_tup, e_asO, e_asL, e_stL, e_pure, v_o0, v_o1, at0, at1, at2, ix30, ix31, ix32, li_R, li_L, e_wp0, e_wp, e_ss, e_gnd, e_app, e_pop, o_isiI, o_isiS, o_isiT, o_isiL, o_isiB, o_isiN, o_isi2I, o_isi2S, o_isi2T, o_isi2L, o_isi2B, o_isi2N, o_inS1, o_inT, o_ninT, o_intT, o_split, e_chain, e_binF, o_cat, e_dictP, e_while, e_din0, e_dput, o_sortD, e_key, e_asD, e_asM, e_itO, v_o1d, isT, reduceCtorEq, List.any_cons, List.any_nil, List.all_cons, List.all_nil, Bool.or_false, Bool.false_or, Bool.or_true, Bool.true_or, flatD, List.map_cons, List.map_nil, List.length_cons, List.length_nil, Nat.reduceAdd, Nat.reduceSub, List.reduceReplicate, List.cons_append, List.nil_append, List.append_nil, List.getElem?_cons_zero, List.getElem?_cons_succ, List.set_cons_zero, List.set_cons_succ, Option.map_some, Option.bind_some, ends0, ends1, endsF, ite_true, if_true, if_false, Bool.false_eq_true, reduceIte, true_and, and_true, Bool.not_true, Bool.not_false, Bool.not_eq_true', decide_eq_true_eq, decide_eq_false_iff_not]
end K28
end

set_option maxRecDepth 100000
set_option maxHeartbeats 4000000
namespace K28
open PySem PySem.Spec L2 Dl
open PyProof.Rows hiding St
/-! ### the top -/
theorem all_mk {l : PySem.W.OpenLaw} {w : World} {K : Fr} {h : Heap} {mg : Str → Option Value} {fa : Addr} (X : K.In h) (G : h.Ns mainGlobals mg) (hfa : mg "law" = some (.ref fa))
    {fwords_of : Addr} {odwords_of anwords_of : Option Addr} {slwords_of : Array (Option Value)} {ocwords_of kVwords_of dcwords_of pmwords_of cdwords_of ctwords_of : Value}
    (awords_of : PySem.W.nsIn K mainGlobals "words_of" = some (some (.ref fwords_of))) (lwords_of : K.lookup fwords_of = some ⟨ocwords_of, odwords_of, .func (PySem.W.fnOf "words_of" "words_of" (defArgs s_words_of) (defBody s_words_of) (defScope s_words_of) .none kVwords_of dcwords_of pmwords_of anwords_of cdwords_of ctwords_of), slwords_of⟩) (cwords_of : PySem.W.codeIn K cdwords_of "words_of" = true) (kwords_of : PySem.W.keepIn K (.ref fwords_of) = true)
    {fshow_book : Addr} {odshow_book anshow_book : Option Addr} {slshow_book : Array (Option Value)} {ocshow_book kVshow_book dcshow_book pmshow_book cdshow_book ctshow_book : Value}
    (ashow_book : PySem.W.nsIn K mainGlobals "show_book" = some (some (.ref fshow_book))) (lshow_book : K.lookup fshow_book = some ⟨ocshow_book, odshow_book, .func (PySem.W.fnOf "show_book" "show_book" (defArgs s_show_book) (defBody s_show_book) (defScope s_show_book) .none kVshow_book dcshow_book pmshow_book anshow_book cdshow_book ctshow_book), slshow_book⟩) (cshow_book : PySem.W.codeIn K cdshow_book "show_book" = true) (kshow_book : PySem.W.keepIn K (.ref fshow_book) = true)
    {fshow_counts : Addr} {odshow_counts anshow_counts : Option Addr} {slshow_counts : Array (Option Value)} {ocshow_counts kVshow_counts dcshow_counts pmshow_counts cdshow_counts ctshow_counts : Value}
    (ashow_counts : PySem.W.nsIn K mainGlobals "show_counts" = some (some (.ref fshow_counts))) (lshow_counts : K.lookup fshow_counts = some ⟨ocshow_counts, odshow_counts, .func (PySem.W.fnOf "show_counts" "show_counts" (defArgs s_show_counts) (defBody s_show_counts) (defScope s_show_counts) .none kVshow_counts dcshow_counts pmshow_counts anshow_counts cdshow_counts ctshow_counts), slshow_counts⟩) (cshow_counts : PySem.W.codeIn K cdshow_counts "show_counts" = true) (kshow_counts : PySem.W.keepIn K (.ref fshow_counts) = true)
    {fshow_paper : Addr} {odshow_paper anshow_paper : Option Addr} {slshow_paper : Array (Option Value)} {ocshow_paper kVshow_paper dcshow_paper pmshow_paper cdshow_paper ctshow_paper : Value}
    (ashow_paper : PySem.W.nsIn K mainGlobals "show_paper" = some (some (.ref fshow_paper))) (lshow_paper : K.lookup fshow_paper = some ⟨ocshow_paper, odshow_paper, .func (PySem.W.fnOf "show_paper" "show_paper" (defArgs s_show_paper) (defBody s_show_paper) (defScope s_show_paper) .none kVshow_paper dcshow_paper pmshow_paper anshow_paper cdshow_paper ctshow_paper), slshow_paper⟩) (cshow_paper : PySem.W.codeIn K cdshow_paper "show_paper" = true) (kshow_paper : PySem.W.keepIn K (.ref fshow_paper) = true)
    {fis_integer : Addr} {odis_integer anis_integer : Option Addr} {slis_integer : Array (Option Value)} {ocis_integer kVis_integer dcis_integer pmis_integer cdis_integer ctis_integer : Value}
    (ais_integer : PySem.W.nsIn K mainGlobals "is_integer" = some (some (.ref fis_integer))) (lis_integer : K.lookup fis_integer = some ⟨ocis_integer, odis_integer, .func (PySem.W.fnOf "is_integer" "is_integer" (defArgs s_is_integer) (defBody s_is_integer) (defScope s_is_integer) .none kVis_integer dcis_integer pmis_integer anis_integer cdis_integer ctis_integer), slis_integer⟩) (cis_integer : PySem.W.codeIn K cdis_integer "is_integer" = true) (kis_integer : PySem.W.keepIn K (.ref fis_integer) = true)
    {fare_ascending : Addr} {odare_ascending anare_ascending : Option Addr} {slare_ascending : Array (Option Value)} {ocare_ascending kVare_ascending dcare_ascending pmare_ascending cdare_ascending ctare_ascending : Value}
    (aare_ascending : PySem.W.nsIn K mainGlobals "are_ascending" = some (some (.ref fare_ascending))) (lare_ascending : K.lookup fare_ascending = some ⟨ocare_ascending, odare_ascending, .func (PySem.W.fnOf "are_ascending" "are_ascending" (defArgs s_are_ascending) (defBody s_are_ascending) (defScope s_are_ascending) .none kVare_ascending dcare_ascending pmare_ascending anare_ascending cdare_ascending ctare_ascending), slare_ascending⟩) (care_ascending : PySem.W.codeIn K cdare_ascending "are_ascending" = true) (kare_ascending : PySem.W.keepIn K (.ref fare_ascending) = true)
    {fis_word : Addr} {odis_word anis_word : Option Addr} {slis_word : Array (Option Value)} {ocis_word kVis_word dcis_word pmis_word cdis_word ctis_word : Value}
    (ais_word : PySem.W.nsIn K mainGlobals "is_word" = some (some (.ref fis_word))) (lis_word : K.lookup fis_word = some ⟨ocis_word, odis_word, .func (PySem.W.fnOf "is_word" "is_word" (defArgs s_is_word) (defBody s_is_word) (defScope s_is_word) .none kVis_word dcis_word pmis_word anis_word cdis_word ctis_word), slis_word⟩) (cis_word : PySem.W.codeIn K cdis_word "is_word" = true) (kis_word : PySem.W.keepIn K (.ref fis_word) = true)
    {fis_size : Addr} {odis_size anis_size : Option Addr} {slis_size : Array (Option Value)} {ocis_size kVis_size dcis_size pmis_size cdis_size ctis_size : Value}
    (ais_size : PySem.W.nsIn K mainGlobals "is_size" = some (some (.ref fis_size))) (lis_size : K.lookup fis_size = some ⟨ocis_size, odis_size, .func (PySem.W.fnOf "is_size" "is_size" (defArgs s_is_size) (defBody s_is_size) (defScope s_is_size) .none kVis_size dcis_size pmis_size anis_size cdis_size ctis_size), slis_size⟩) (cis_size : PySem.W.codeIn K cdis_size "is_size" = true) (kis_size : PySem.W.keepIn K (.ref fis_size) = true)
    {fare_windows : Addr} {odare_windows anare_windows : Option Addr} {slare_windows : Array (Option Value)} {ocare_windows kVare_windows dcare_windows pmare_windows cdare_windows ctare_windows : Value}
    (aare_windows : PySem.W.nsIn K mainGlobals "are_windows" = some (some (.ref fare_windows))) (lare_windows : K.lookup fare_windows = some ⟨ocare_windows, odare_windows, .func (PySem.W.fnOf "are_windows" "are_windows" (defArgs s_are_windows) (defBody s_are_windows) (defScope s_are_windows) .none kVare_windows dcare_windows pmare_windows anare_windows cdare_windows ctare_windows), slare_windows⟩) (care_windows : PySem.W.codeIn K cdare_windows "are_windows" = true) (kare_windows : PySem.W.keepIn K (.ref fare_windows) = true)
    {fis_a_book : Addr} {odis_a_book anis_a_book : Option Addr} {slis_a_book : Array (Option Value)} {ocis_a_book kVis_a_book dcis_a_book pmis_a_book cdis_a_book ctis_a_book : Value}
    (ais_a_book : PySem.W.nsIn K mainGlobals "is_a_book" = some (some (.ref fis_a_book))) (lis_a_book : K.lookup fis_a_book = some ⟨ocis_a_book, odis_a_book, .func (PySem.W.fnOf "is_a_book" "is_a_book" (defArgs s_is_a_book) (defBody s_is_a_book) (defScope s_is_a_book) .none kVis_a_book dcis_a_book pmis_a_book anis_a_book cdis_a_book ctis_a_book), slis_a_book⟩) (cis_a_book : PySem.W.codeIn K cdis_a_book "is_a_book" = true) (kis_a_book : PySem.W.keepIn K (.ref fis_a_book) = true)
    {fbook_in : Addr} {odbook_in anbook_in : Option Addr} {slbook_in : Array (Option Value)} {ocbook_in kVbook_in dcbook_in pmbook_in cdbook_in ctbook_in : Value}
    (abook_in : PySem.W.nsIn K mainGlobals "book_in" = some (some (.ref fbook_in))) (lbook_in : K.lookup fbook_in = some ⟨ocbook_in, odbook_in, .func (PySem.W.fnOf "book_in" "book_in" (defArgs s_book_in) (defBody s_book_in) (defScope s_book_in) .none kVbook_in dcbook_in pmbook_in anbook_in cdbook_in ctbook_in), slbook_in⟩) (cbook_in : PySem.W.codeIn K cdbook_in "book_in" = true) (kbook_in : PySem.W.keepIn K (.ref fbook_in) = true)
    {fread_book : Addr} {odread_book anread_book : Option Addr} {slread_book : Array (Option Value)} {ocread_book kVread_book dcread_book pmread_book cdread_book ctread_book : Value}
    (aread_book : PySem.W.nsIn K mainGlobals "read_book" = some (some (.ref fread_book))) (lread_book : K.lookup fread_book = some ⟨ocread_book, odread_book, .func (PySem.W.fnOf "read_book" "read_book" (defArgs s_read_book) (defBody s_read_book) (defScope s_read_book) .none kVread_book dcread_book pmread_book anread_book cdread_book ctread_book), slread_book⟩) (cread_book : PySem.W.codeIn K cdread_book "read_book" = true) (kread_book : PySem.W.keepIn K (.ref fread_book) = true)
    {f_law_pail : Addr} {od_law_pail an_law_pail : Option Addr} {sl_law_pail : Array (Option Value)} {oc_law_pail kV_law_pail dc_law_pail pm_law_pail cd_law_pail ct_law_pail : Value}
    (a_law_pail : PySem.W.nsIn K mainGlobals "_law_pail" = some (some (.ref f_law_pail))) (l_law_pail : K.lookup f_law_pail = some ⟨oc_law_pail, od_law_pail, .func (PySem.W.fnOf "_law_pail" "_law_pail" (defArgs s__law_pail) (defBody s__law_pail) (defScope s__law_pail) .none kV_law_pail dc_law_pail pm_law_pail an_law_pail cd_law_pail ct_law_pail), sl_law_pail⟩) (c_law_pail : PySem.W.codeIn K cd_law_pail "_law_pail" = true) (k_law_pail : PySem.W.keepIn K (.ref f_law_pail) = true)
    {f_law_scoop : Addr} {od_law_scoop an_law_scoop : Option Addr} {sl_law_scoop : Array (Option Value)} {oc_law_scoop kV_law_scoop dc_law_scoop pm_law_scoop cd_law_scoop ct_law_scoop : Value}
    (a_law_scoop : PySem.W.nsIn K mainGlobals "_law_scoop" = some (some (.ref f_law_scoop))) (l_law_scoop : K.lookup f_law_scoop = some ⟨oc_law_scoop, od_law_scoop, .func (PySem.W.fnOf "_law_scoop" "_law_scoop" (defArgs s__law_scoop) (defBody s__law_scoop) (defScope s__law_scoop) .none kV_law_scoop dc_law_scoop pm_law_scoop an_law_scoop cd_law_scoop ct_law_scoop), sl_law_scoop⟩) (c_law_scoop : PySem.W.codeIn K cd_law_scoop "_law_scoop" = true) (k_law_scoop : PySem.W.keepIn K (.ref f_law_scoop) = true)
    {f_law_pick : Addr} {od_law_pick an_law_pick : Option Addr} {sl_law_pick : Array (Option Value)} {oc_law_pick kV_law_pick dc_law_pick pm_law_pick cd_law_pick ct_law_pick : Value}
    (a_law_pick : PySem.W.nsIn K mainGlobals "_law_pick" = some (some (.ref f_law_pick))) (l_law_pick : K.lookup f_law_pick = some ⟨oc_law_pick, od_law_pick, .func (PySem.W.fnOf "_law_pick" "_law_pick" (defArgs s__law_pick) (defBody s__law_pick) (defScope s__law_pick) .none kV_law_pick dc_law_pick pm_law_pick an_law_pick cd_law_pick ct_law_pick), sl_law_pick⟩) (c_law_pick : PySem.W.codeIn K cd_law_pick "_law_pick" = true) (k_law_pick : PySem.W.keepIn K (.ref f_law_pick) = true)
    {f_law_own_windows : Addr} {od_law_own_windows an_law_own_windows : Option Addr} {sl_law_own_windows : Array (Option Value)} {oc_law_own_windows kV_law_own_windows dc_law_own_windows pm_law_own_windows cd_law_own_windows ct_law_own_windows : Value}
    (a_law_own_windows : PySem.W.nsIn K mainGlobals "_law_own_windows" = some (some (.ref f_law_own_windows))) (l_law_own_windows : K.lookup f_law_own_windows = some ⟨oc_law_own_windows, od_law_own_windows, .func (PySem.W.fnOf "_law_own_windows" "_law_own_windows" (defArgs s__law_own_windows) (defBody s__law_own_windows) (defScope s__law_own_windows) .none kV_law_own_windows dc_law_own_windows pm_law_own_windows an_law_own_windows cd_law_own_windows ct_law_own_windows), sl_law_own_windows⟩) (c_law_own_windows : PySem.W.codeIn K cd_law_own_windows "_law_own_windows" = true) (k_law_own_windows : PySem.W.keepIn K (.ref f_law_own_windows) = true)
    {f_law_loop : Addr} {od_law_loop an_law_loop : Option Addr} {sl_law_loop : Array (Option Value)} {oc_law_loop kV_law_loop dc_law_loop pm_law_loop cd_law_loop ct_law_loop : Value}
    (a_law_loop : PySem.W.nsIn K mainGlobals "_law_loop" = some (some (.ref f_law_loop))) (l_law_loop : K.lookup f_law_loop = some ⟨oc_law_loop, od_law_loop, .func (PySem.W.fnOf "_law_loop" "_law_loop" (defArgs s__law_loop) (defBody s__law_loop) (defScope s__law_loop) .none kV_law_loop dc_law_loop pm_law_loop an_law_loop cd_law_loop ct_law_loop), sl_law_loop⟩) (c_law_loop : PySem.W.codeIn K cd_law_loop "_law_loop" = true) (k_law_loop : PySem.W.keepIn K (.ref f_law_loop) = true)
    {f_law_walk : Addr} {od_law_walk an_law_walk : Option Addr} {sl_law_walk : Array (Option Value)} {oc_law_walk kV_law_walk dc_law_walk pm_law_walk cd_law_walk ct_law_walk : Value}
    (a_law_walk : PySem.W.nsIn K mainGlobals "_law_walk" = some (some (.ref f_law_walk))) (l_law_walk : K.lookup f_law_walk = some ⟨oc_law_walk, od_law_walk, .func (PySem.W.fnOf "_law_walk" "_law_walk" (defArgs s__law_walk) (defBody s__law_walk) (defScope s__law_walk) .none kV_law_walk dc_law_walk pm_law_walk an_law_walk cd_law_walk ct_law_walk), sl_law_walk⟩) (c_law_walk : PySem.W.codeIn K cd_law_walk "_law_walk" = true) (k_law_walk : PySem.W.keepIn K (.ref f_law_walk) = true)
    {f_law_inner : Addr} {od_law_inner an_law_inner : Option Addr} {sl_law_inner : Array (Option Value)} {oc_law_inner kV_law_inner dc_law_inner pm_law_inner cd_law_inner ct_law_inner : Value}
    (a_law_inner : PySem.W.nsIn K mainGlobals "_law_inner" = some (some (.ref f_law_inner))) (l_law_inner : K.lookup f_law_inner = some ⟨oc_law_inner, od_law_inner, .func (PySem.W.fnOf "_law_inner" "_law_inner" (defArgs s__law_inner) (defBody s__law_inner) (defScope s__law_inner) .none kV_law_inner dc_law_inner pm_law_inner an_law_inner cd_law_inner ct_law_inner), sl_law_inner⟩) (c_law_inner : PySem.W.codeIn K cd_law_inner "_law_inner" = true) (k_law_inner : PySem.W.keepIn K (.ref f_law_inner) = true)
    {f_law_lot : Addr} {od_law_lot an_law_lot : Option Addr} {sl_law_lot : Array (Option Value)} {oc_law_lot kV_law_lot dc_law_lot pm_law_lot cd_law_lot ct_law_lot : Value}
    (a_law_lot : PySem.W.nsIn K mainGlobals "_law_lot" = some (some (.ref f_law_lot))) (l_law_lot : K.lookup f_law_lot = some ⟨oc_law_lot, od_law_lot, .func (PySem.W.fnOf "_law_lot" "_law_lot" (defArgs s__law_lot) (defBody s__law_lot) (defScope s__law_lot) .none kV_law_lot dc_law_lot pm_law_lot an_law_lot cd_law_lot ct_law_lot), sl_law_lot⟩) (c_law_lot : PySem.W.codeIn K cd_law_lot "_law_lot" = true) (k_law_lot : PySem.W.keepIn K (.ref f_law_lot) = true)
    {f_law_is_open : Addr} {od_law_is_open an_law_is_open : Option Addr} {sl_law_is_open : Array (Option Value)} {oc_law_is_open kV_law_is_open dc_law_is_open pm_law_is_open cd_law_is_open ct_law_is_open : Value}
    (a_law_is_open : PySem.W.nsIn K mainGlobals "_law_is_open" = some (some (.ref f_law_is_open))) (l_law_is_open : K.lookup f_law_is_open = some ⟨oc_law_is_open, od_law_is_open, .func (PySem.W.fnOf "_law_is_open" "_law_is_open" (defArgs s__law_is_open) (defBody s__law_is_open) (defScope s__law_is_open) .none kV_law_is_open dc_law_is_open pm_law_is_open an_law_is_open cd_law_is_open ct_law_is_open), sl_law_is_open⟩) (c_law_is_open : PySem.W.codeIn K cd_law_is_open "_law_is_open" = true) (k_law_is_open : PySem.W.keepIn K (.ref f_law_is_open) = true)
    {f_law_own_paper : Addr} {od_law_own_paper an_law_own_paper : Option Addr} {sl_law_own_paper : Array (Option Value)} {oc_law_own_paper kV_law_own_paper dc_law_own_paper pm_law_own_paper cd_law_own_paper ct_law_own_paper : Value}
    (a_law_own_paper : PySem.W.nsIn K mainGlobals "_law_own_paper" = some (some (.ref f_law_own_paper))) (l_law_own_paper : K.lookup f_law_own_paper = some ⟨oc_law_own_paper, od_law_own_paper, .func (PySem.W.fnOf "_law_own_paper" "_law_own_paper" (defArgs s__law_own_paper) (defBody s__law_own_paper) (defScope s__law_own_paper) .none kV_law_own_paper dc_law_own_paper pm_law_own_paper an_law_own_paper cd_law_own_paper ct_law_own_paper), sl_law_own_paper⟩) (c_law_own_paper : PySem.W.codeIn K cd_law_own_paper "_law_own_paper" = true) (k_law_own_paper : PySem.W.keepIn K (.ref f_law_own_paper) = true)
    {f_law_parts : Addr} {od_law_parts an_law_parts : Option Addr} {sl_law_parts : Array (Option Value)} {oc_law_parts kV_law_parts dc_law_parts pm_law_parts cd_law_parts ct_law_parts : Value}
    (a_law_parts : PySem.W.nsIn K mainGlobals "_law_parts" = some (some (.ref f_law_parts))) (l_law_parts : K.lookup f_law_parts = some ⟨oc_law_parts, od_law_parts, .func (PySem.W.fnOf "_law_parts" "_law_parts" (defArgs s__law_parts) (defBody s__law_parts) (defScope s__law_parts) .none kV_law_parts dc_law_parts pm_law_parts an_law_parts cd_law_parts ct_law_parts), sl_law_parts⟩) (c_law_parts : PySem.W.codeIn K cd_law_parts "_law_parts" = true) (k_law_parts : PySem.W.keepIn K (.ref f_law_parts) = true)
    {f_law_written : Addr} {od_law_written an_law_written : Option Addr} {sl_law_written : Array (Option Value)} {oc_law_written kV_law_written dc_law_written pm_law_written cd_law_written ct_law_written : Value}
    (a_law_written : PySem.W.nsIn K mainGlobals "_law_written" = some (some (.ref f_law_written))) (l_law_written : K.lookup f_law_written = some ⟨oc_law_written, od_law_written, .func (PySem.W.fnOf "_law_written" "_law_written" (defArgs s__law_written) (defBody s__law_written) (defScope s__law_written) .none kV_law_written dc_law_written pm_law_written an_law_written cd_law_written ct_law_written), sl_law_written⟩) (c_law_written : PySem.W.codeIn K cd_law_written "_law_written" = true) (k_law_written : PySem.W.keepIn K (.ref f_law_written) = true)
    {f_law_numbers : Addr} {od_law_numbers an_law_numbers : Option Addr} {sl_law_numbers : Array (Option Value)} {oc_law_numbers kV_law_numbers dc_law_numbers pm_law_numbers cd_law_numbers ct_law_numbers : Value}
    (a_law_numbers : PySem.W.nsIn K mainGlobals "_law_numbers" = some (some (.ref f_law_numbers))) (l_law_numbers : K.lookup f_law_numbers = some ⟨oc_law_numbers, od_law_numbers, .func (PySem.W.fnOf "_law_numbers" "_law_numbers" (defArgs s__law_numbers) (defBody s__law_numbers) (defScope s__law_numbers) .none kV_law_numbers dc_law_numbers pm_law_numbers an_law_numbers cd_law_numbers ct_law_numbers), sl_law_numbers⟩) (c_law_numbers : PySem.W.codeIn K cd_law_numbers "_law_numbers" = true) (k_law_numbers : PySem.W.keepIn K (.ref f_law_numbers) = true)
    {f_law_paper_right : Addr} {od_law_paper_right an_law_paper_right : Option Addr} {sl_law_paper_right : Array (Option Value)} {oc_law_paper_right kV_law_paper_right dc_law_paper_right pm_law_paper_right cd_law_paper_right ct_law_paper_right : Value}
    (a_law_paper_right : PySem.W.nsIn K mainGlobals "_law_paper_right" = some (some (.ref f_law_paper_right))) (l_law_paper_right : K.lookup f_law_paper_right = some ⟨oc_law_paper_right, od_law_paper_right, .func (PySem.W.fnOf "_law_paper_right" "_law_paper_right" (defArgs s__law_paper_right) (defBody s__law_paper_right) (defScope s__law_paper_right) .none kV_law_paper_right dc_law_paper_right pm_law_paper_right an_law_paper_right cd_law_paper_right ct_law_paper_right), sl_law_paper_right⟩) (c_law_paper_right : PySem.W.codeIn K cd_law_paper_right "_law_paper_right" = true) (k_law_paper_right : PySem.W.keepIn K (.ref f_law_paper_right) = true)
    {f_law_turn_right : Addr} {od_law_turn_right an_law_turn_right : Option Addr} {sl_law_turn_right : Array (Option Value)} {oc_law_turn_right kV_law_turn_right dc_law_turn_right pm_law_turn_right cd_law_turn_right ct_law_turn_right : Value}
    (a_law_turn_right : PySem.W.nsIn K mainGlobals "_law_turn_right" = some (some (.ref f_law_turn_right))) (l_law_turn_right : K.lookup f_law_turn_right = some ⟨oc_law_turn_right, od_law_turn_right, .func (PySem.W.fnOf "_law_turn_right" "_law_turn_right" (defArgs s__law_turn_right) (defBody s__law_turn_right) (defScope s__law_turn_right) .none kV_law_turn_right dc_law_turn_right pm_law_turn_right an_law_turn_right cd_law_turn_right ct_law_turn_right), sl_law_turn_right⟩) (c_law_turn_right : PySem.W.codeIn K cd_law_turn_right "_law_turn_right" = true) (k_law_turn_right : PySem.W.keepIn K (.ref f_law_turn_right) = true)
    {flaw : Addr} {odlaw anlaw : Option Addr} {sllaw : Array (Option Value)} {oclaw kVlaw dclaw pmlaw cdlaw ctlaw : Value}
    (alaw : PySem.W.nsIn K mainGlobals "law" = some (some (.ref flaw))) (llaw : K.lookup flaw = some ⟨oclaw, odlaw, .func (PySem.W.fnOf "law" "law" (defArgs s_law) (defBody s_law) (defScope s_law) .none kVlaw dclaw pmlaw anlaw cdlaw ctlaw), sllaw⟩) (claw : PySem.W.codeIn K cdlaw "law" = true) (klaw : PySem.W.keepIn K (.ref flaw) = true)
    (zabs : PySem.W.nsIn K mainGlobals "abs" = some none)
    (zall : PySem.W.nsIn K mainGlobals "all" = some none)
    (zbool : PySem.W.nsIn K mainGlobals "bool" = some none)
    (zdict : PySem.W.nsIn K mainGlobals "dict" = some none)
    (zenumerate : PySem.W.nsIn K mainGlobals "enumerate" = some none)
    (zint : PySem.W.nsIn K mainGlobals "int" = some none)
    (zisinstance : PySem.W.nsIn K mainGlobals "isinstance" = some none)
    (zlen : PySem.W.nsIn K mainGlobals "len" = some none)
    (zmax : PySem.W.nsIn K mainGlobals "max" = some none)
    (zmin : PySem.W.nsIn K mainGlobals "min" = some none)
    (zrange : PySem.W.nsIn K mainGlobals "range" = some none)
    (zrepr : PySem.W.nsIn K mainGlobals "repr" = some none)
    (zset : PySem.W.nsIn K mainGlobals "set" = some none)
    (zsorted : PySem.W.nsIn K mainGlobals "sorted" = some none)
    (zstr : PySem.W.nsIn K mainGlobals "str" = some none)
    (ztuple : PySem.W.nsIn K mainGlobals "tuple" = some none)
    (zzip : PySem.W.nsIn K mainGlobals "zip" = some none)
    {tLETTERS : Tok} (uLETTERS : PySem.W.nsIn K mainGlobals "LETTERS" = some (some (.str (txt [97, 98, 99, 100, 101, 102, 103, 104, 105, 106, 107, 108, 109, 110, 111, 112, 113, 114, 115, 116, 117, 118, 119, 120, 121, 122]) tLETTERS)))
    {tLEAST_SIZE : Tok} (uLEAST_SIZE : PySem.W.nsIn K mainGlobals "LEAST_SIZE" = some (some (.int 2 tLEAST_SIZE)))
    {tMOST_SIZE : Tok} (uMOST_SIZE : PySem.W.nsIn K mainGlobals "MOST_SIZE" = some (some (.int 6 tMOST_SIZE)))
    {pSIZES : Addr} {pdSIZES : Option Addr} {piSIZES : List Value} {pnSIZES : Nat} {psSIZES : Array (Option Value)} (uSIZES : PySem.W.nsIn K mainGlobals "SIZES" = some (some (.ref pSIZES))) (vSIZES : K.lookup pSIZES = some ⟨.type "tuple", pdSIZES, .seq piSIZES.toArray pnSIZES, psSIZES⟩) (wSIZES : AtomsK piSIZES [.str [50], .str [51], .str [52], .str [53], .str [54]]) (ySIZES : piSIZES.length ≤ 1000)
    : ∃ fd : FuncData, (∀ (s : Shared) (v : Value), BindsTo s fd ⟨[v], []⟩ [("script", v)]) ∧ ∀ base : Heap, K.In base → base.Ns mainGlobals mg → FnG l.prog w K mg base 7 fa fd ["script"] (spD K (fnP g_law)) := by
  have e := hfa.symm.trans (PySem.W.mg_of X G alaw)
  cases e
  have T : Tp K mg := ⟨PySem.W.mg_none_of X G zlen, PySem.W.mg_none_of X G zint, PySem.W.mg_none_of X G zabs, PySem.W.mg_none_of X G zmax, PySem.W.mg_none_of X G zmin, PySem.W.mg_none_of X G zstr, PySem.W.mg_none_of X G zall, PySem.W.mg_none_of X G ztuple, PySem.W.mg_none_of X G zsorted, PySem.W.mg_none_of X G zset, PySem.W.mg_none_of X G zrepr, PySem.W.mg_none_of X G zisinstance, PySem.W.mg_none_of X G zdict, PySem.W.mg_none_of X G zrange, PySem.W.mg_none_of X G zenumerate, PySem.W.mg_none_of X G zzip, PySem.W.mg_none_of X G zbool, glv_str X G uLETTERS, glv_int X G uLEAST_SIZE, glv_int X G uMOST_SIZE, glv_tup X G uSIZES vSIZES wSIZES ySIZES⟩
  refine ⟨_, fun s v => ?_, fun base _ _ => own_at (st := s_law) ?_ hfa llaw⟩
  · exact .of_eq rfl
  · have owords_of := o_words_of (P := l.prog) (w := w) (base := base) T  (PySem.W.mg_of X G awords_of) (fun_mk (st := s_words_of) lwords_of cwords_of kwords_of)
    have oshow_book := o_show_book (P := l.prog) (w := w) (base := base) T  (PySem.W.mg_of X G ashow_book) (fun_mk (st := s_show_book) lshow_book cshow_book kshow_book)
    have oshow_counts := o_show_counts (P := l.prog) (w := w) (base := base) T owords_of (PySem.W.mg_of X G ashow_counts) (fun_mk (st := s_show_counts) lshow_counts cshow_counts kshow_counts)
    have oshow_paper := o_show_paper (P := l.prog) (w := w) (base := base) T owords_of (PySem.W.mg_of X G ashow_paper) (fun_mk (st := s_show_paper) lshow_paper cshow_paper kshow_paper)
    have ois_integer := o_is_integer (P := l.prog) (w := w) (base := base) T  (PySem.W.mg_of X G ais_integer) (fun_mk (st := s_is_integer) lis_integer cis_integer kis_integer)
    have oare_ascending := o_are_ascending (P := l.prog) (w := w) (base := base) T  (PySem.W.mg_of X G aare_ascending) (fun_mk (st := s_are_ascending) lare_ascending care_ascending kare_ascending)
    have ois_word := o_is_word (P := l.prog) (w := w) (base := base) T  (PySem.W.mg_of X G ais_word) (fun_mk (st := s_is_word) lis_word cis_word kis_word)
    have ois_size := o_is_size (P := l.prog) (w := w) (base := base) T ois_integer (PySem.W.mg_of X G ais_size) (fun_mk (st := s_is_size) lis_size cis_size kis_size)
    have oare_windows := o_are_windows (P := l.prog) (w := w) (base := base) T oare_ascending ois_word (PySem.W.mg_of X G aare_windows) (fun_mk (st := s_are_windows) lare_windows care_windows kare_windows)
    have ois_a_book := o_is_a_book (P := l.prog) (w := w) (base := base) T oare_windows ois_size (PySem.W.mg_of X G ais_a_book) (fun_mk (st := s_is_a_book) lis_a_book cis_a_book kis_a_book)
    have obook_in := o_book_in (P := l.prog) (w := w) (base := base) T ois_a_book (PySem.W.mg_of X G abook_in) (fun_mk (st := s_book_in) lbook_in cbook_in kbook_in)
    have oread_book := o_read_book (P := l.prog) (w := w) (base := base) T obook_in (PySem.W.mg_of X G aread_book) (fun_mk (st := s_read_book) lread_book cread_book kread_book)
    have o_law_pail := o__law_pail (P := l.prog) (w := w) (base := base) T  (PySem.W.mg_of X G a_law_pail) (fun_mk (st := s__law_pail) l_law_pail c_law_pail k_law_pail)
    have o_law_scoop := o__law_scoop (P := l.prog) (w := w) (base := base) T  (PySem.W.mg_of X G a_law_scoop) (fun_mk (st := s__law_scoop) l_law_scoop c_law_scoop k_law_scoop)
    have o_law_pick := o__law_pick (P := l.prog) (w := w) (base := base) T o_law_scoop (PySem.W.mg_of X G a_law_pick) (fun_mk (st := s__law_pick) l_law_pick c_law_pick k_law_pick)
    have o_law_own_windows := o__law_own_windows (P := l.prog) (w := w) (base := base) T  (PySem.W.mg_of X G a_law_own_windows) (fun_mk (st := s__law_own_windows) l_law_own_windows c_law_own_windows k_law_own_windows)
    have o_law_loop := o__law_loop (P := l.prog) (w := w) (base := base) T o_law_pick o_law_scoop (PySem.W.mg_of X G a_law_loop) (fun_mk (st := s__law_loop) l_law_loop c_law_loop k_law_loop)
    have o_law_walk := o__law_walk (P := l.prog) (w := w) (base := base) T o_law_pick o_law_scoop (PySem.W.mg_of X G a_law_walk) (fun_mk (st := s__law_walk) l_law_walk c_law_walk k_law_walk)
    have o_law_inner := o__law_inner (P := l.prog) (w := w) (base := base) T  (PySem.W.mg_of X G a_law_inner) (fun_mk (st := s__law_inner) l_law_inner c_law_inner k_law_inner)
    have o_law_lot := o__law_lot (P := l.prog) (w := w) (base := base) T  (PySem.W.mg_of X G a_law_lot) (fun_mk (st := s__law_lot) l_law_lot c_law_lot k_law_lot)
    have o_law_is_open := o__law_is_open (P := l.prog) (w := w) (base := base) T  (PySem.W.mg_of X G a_law_is_open) (fun_mk (st := s__law_is_open) l_law_is_open c_law_is_open k_law_is_open)
    have o_law_own_paper := o__law_own_paper (P := l.prog) (w := w) (base := base) T o_law_inner o_law_is_open o_law_lot o_law_pick o_law_scoop (PySem.W.mg_of X G a_law_own_paper) (fun_mk (st := s__law_own_paper) l_law_own_paper c_law_own_paper k_law_own_paper)
    have o_law_parts := o__law_parts (P := l.prog) (w := w) (base := base) T  (PySem.W.mg_of X G a_law_parts) (fun_mk (st := s__law_parts) l_law_parts c_law_parts k_law_parts)
    have o_law_written := o__law_written (P := l.prog) (w := w) (base := base) T  (PySem.W.mg_of X G a_law_written) (fun_mk (st := s__law_written) l_law_written c_law_written k_law_written)
    have o_law_numbers := o__law_numbers (P := l.prog) (w := w) (base := base) T o_law_pick o_law_scoop (PySem.W.mg_of X G a_law_numbers) (fun_mk (st := s__law_numbers) l_law_numbers c_law_numbers k_law_numbers)
    have o_law_paper_right := o__law_paper_right (P := l.prog) (w := w) (base := base) T o_law_own_paper o_law_parts o_law_pick o_law_walk oshow_paper (PySem.W.mg_of X G a_law_paper_right) (fun_mk (st := s__law_paper_right) l_law_paper_right c_law_paper_right k_law_paper_right)
    have o_law_turn_right := o__law_turn_right (P := l.prog) (w := w) (base := base) T o_law_loop o_law_numbers o_law_own_windows o_law_paper_right o_law_parts o_law_pick o_law_scoop o_law_written oread_book oshow_book oshow_counts (PySem.W.mg_of X G a_law_turn_right) (fun_mk (st := s__law_turn_right) l_law_turn_right c_law_turn_right k_law_turn_right)
    exact o_law T o_law_pail o_law_turn_right (PySem.W.mg_of X G alaw) (fun_mk (st := s_law) llaw claw klaw)
end K28
open PySem PySem.W PyProof.Rows
set_option maxRecDepth 100000 in
set_option maxHeartbeats 0 in
theorem PySem.Challenge.cw_surepieces_k28_texts_of_books_counts_and_holds : PySem.Challenge.rw_surepieces_k28_texts_of_books_counts_and.Holds := by
  w_on; o_law; k_head; (case hw => w_witness2)
  k_fill
  refine Dl.end_law (l := PySem.Challenge.rw_surepieces_k28_texts_of_books_counts_and) (g := K28.g_law) (k := 7) (x := "script") rfl rfl ⟨rfl, by decide, by decide⟩ (fun w h Y => PySem.W.kIn_of Y) ?F K28.law_true
  case F =>
    intro w mg fa h KX G hmg
    refine' K28.all_mk KX G hmg ?awords_of ?lwords_of ?cwords_of ?kwords_of ?ashow_book ?lshow_book ?cshow_book ?kshow_book ?ashow_counts ?lshow_counts ?cshow_counts ?kshow_counts ?ashow_paper ?lshow_paper ?cshow_paper ?kshow_paper ?ais_integer ?lis_integer ?cis_integer ?kis_integer ?aare_ascending ?lare_ascending ?care_ascending ?kare_ascending ?ais_word ?lis_word ?cis_word ?kis_word ?ais_size ?lis_size ?cis_size ?kis_size ?aare_windows ?lare_windows ?care_windows ?kare_windows ?ais_a_book ?lis_a_book ?cis_a_book ?kis_a_book ?abook_in ?lbook_in ?cbook_in ?kbook_in ?aread_book ?lread_book ?cread_book ?kread_book ?a_law_pail ?l_law_pail ?c_law_pail ?k_law_pail ?a_law_scoop ?l_law_scoop ?c_law_scoop ?k_law_scoop ?a_law_pick ?l_law_pick ?c_law_pick ?k_law_pick ?a_law_own_windows ?l_law_own_windows ?c_law_own_windows ?k_law_own_windows ?a_law_loop ?l_law_loop ?c_law_loop ?k_law_loop ?a_law_walk ?l_law_walk ?c_law_walk ?k_law_walk ?a_law_inner ?l_law_inner ?c_law_inner ?k_law_inner ?a_law_lot ?l_law_lot ?c_law_lot ?k_law_lot ?a_law_is_open ?l_law_is_open ?c_law_is_open ?k_law_is_open ?a_law_own_paper ?l_law_own_paper ?c_law_own_paper ?k_law_own_paper ?a_law_parts ?l_law_parts ?c_law_parts ?k_law_parts ?a_law_written ?l_law_written ?c_law_written ?k_law_written ?a_law_numbers ?l_law_numbers ?c_law_numbers ?k_law_numbers ?a_law_paper_right ?l_law_paper_right ?c_law_paper_right ?k_law_paper_right ?a_law_turn_right ?l_law_turn_right ?c_law_turn_right ?k_law_turn_right ?alaw ?llaw ?claw ?klaw ?zabs ?zall ?zbool ?zdict ?zenumerate ?zint ?zisinstance ?zlen ?zmax ?zmin ?zrange ?zrepr ?zset ?zsorted ?zstr ?ztuple ?zzip ?uLETTERS ?uLEAST_SIZE ?uMOST_SIZE ?uSIZES ?vSIZES ?wSIZES ?ySIZES
    (case awords_of => k_is)
    (case lwords_of => k_is)
    (case cwords_of => k_is)
    (case kwords_of => k_is)
    (case ashow_book => k_is)
    (case lshow_book => k_is)
    (case cshow_book => k_is)
    (case kshow_book => k_is)
    (case ashow_counts => k_is)
    (case lshow_counts => k_is)
    (case cshow_counts => k_is)
    (case kshow_counts => k_is)
    (case ashow_paper => k_is)
    (case lshow_paper => k_is)
    (case cshow_paper => k_is)
    (case kshow_paper => k_is)
    (case ais_integer => k_is)
    (case lis_integer => k_is)
    (case cis_integer => k_is)
    (case kis_integer => k_is)
    (case aare_ascending => k_is)
    (case lare_ascending => k_is)
    (case care_ascending => k_is)
    (case kare_ascending => k_is)
    (case ais_word => k_is)
    (case lis_word => k_is)
    (case cis_word => k_is)
    (case kis_word => k_is)
    (case ais_size => k_is)
    (case lis_size => k_is)
    (case cis_size => k_is)
    (case kis_size => k_is)
    (case aare_windows => k_is)
    (case lare_windows => k_is)
    (case care_windows => k_is)
    (case kare_windows => k_is)
    (case ais_a_book => k_is)
    (case lis_a_book => k_is)
    (case cis_a_book => k_is)
    (case kis_a_book => k_is)
    (case abook_in => k_is)
    (case lbook_in => k_is)
    (case cbook_in => k_is)
    (case kbook_in => k_is)
    (case aread_book => k_is)
    (case lread_book => k_is)
    (case cread_book => k_is)
    (case kread_book => k_is)
    (case a_law_pail => k_is)
    (case l_law_pail => k_is)
    (case c_law_pail => k_is)
    (case k_law_pail => k_is)
    (case a_law_scoop => k_is)
    (case l_law_scoop => k_is)
    (case c_law_scoop => k_is)
    (case k_law_scoop => k_is)
    (case a_law_pick => k_is)
    (case l_law_pick => k_is)
    (case c_law_pick => k_is)
    (case k_law_pick => k_is)
    (case a_law_own_windows => k_is)
    (case l_law_own_windows => k_is)
    (case c_law_own_windows => k_is)
    (case k_law_own_windows => k_is)
    (case a_law_loop => k_is)
    (case l_law_loop => k_is)
    (case c_law_loop => k_is)
    (case k_law_loop => k_is)
    (case a_law_walk => k_is)
    (case l_law_walk => k_is)
    (case c_law_walk => k_is)
    (case k_law_walk => k_is)
    (case a_law_inner => k_is)
    (case l_law_inner => k_is)
    (case c_law_inner => k_is)
    (case k_law_inner => k_is)
    (case a_law_lot => k_is)
    (case l_law_lot => k_is)
    (case c_law_lot => k_is)
    (case k_law_lot => k_is)
    (case a_law_is_open => k_is)
    (case l_law_is_open => k_is)
    (case c_law_is_open => k_is)
    (case k_law_is_open => k_is)
    (case a_law_own_paper => k_is)
    (case l_law_own_paper => k_is)
    (case c_law_own_paper => k_is)
    (case k_law_own_paper => k_is)
    (case a_law_parts => k_is)
    (case l_law_parts => k_is)
    (case c_law_parts => k_is)
    (case k_law_parts => k_is)
    (case a_law_written => k_is)
    (case l_law_written => k_is)
    (case c_law_written => k_is)
    (case k_law_written => k_is)
    (case a_law_numbers => k_is)
    (case l_law_numbers => k_is)
    (case c_law_numbers => k_is)
    (case k_law_numbers => k_is)
    (case a_law_paper_right => k_is)
    (case l_law_paper_right => k_is)
    (case c_law_paper_right => k_is)
    (case k_law_paper_right => k_is)
    (case a_law_turn_right => k_is)
    (case l_law_turn_right => k_is)
    (case c_law_turn_right => k_is)
    (case k_law_turn_right => k_is)
    (case alaw => k_is)
    (case llaw => k_is)
    (case claw => k_is)
    (case klaw => k_is)
    (case zabs => k_is)
    (case zall => k_is)
    (case zbool => k_is)
    (case zdict => k_is)
    (case zenumerate => k_is)
    (case zint => k_is)
    (case zisinstance => k_is)
    (case zlen => k_is)
    (case zmax => k_is)
    (case zmin => k_is)
    (case zrange => k_is)
    (case zrepr => k_is)
    (case zset => k_is)
    (case zsorted => k_is)
    (case zstr => k_is)
    (case ztuple => k_is)
    (case zzip => k_is)
    (case uLETTERS => k_is)
    (case uLEAST_SIZE => k_is)
    (case uMOST_SIZE => k_is)
    (case uSIZES => k_is)
    (case vSIZES => k_is)
    (case wSIZES => exact (.str (.str (.str (.str (.str .nil))))))
    (case ySIZES => decide)
