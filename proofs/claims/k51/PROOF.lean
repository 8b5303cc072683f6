import PyProof.Rows.All
import Wide.All
import OpenK.AllK
import Wide.FinOn
import HandS.ForMost
import HandS.ForExc
import HandS.Lambda
import HandS.ExcInit
import HandS.TupAny
import HandS.TupMul
import HandS.Wide
import HandS.Star
import HandS.Conv
import HandS.DictComp
import HandS.Property
import KE.Datum
import KE.DataEq
import HandS.Defaults
import HandS.ExcIs
import HandS.ExcField
import HandS.ExcValue
import HandS.ClsMeth
import HandS.IsInst
import KE.KExcIs
import HandS.EndTab
import HandS.HeadWalk
import HandS.HeadHook4
import KE.KStateDown
import HandS.Head0
import HandS.Head1
import HandS.Head2
import PySem.Challenge.RW_gridupgrade_k51_errors
set_option Elab.async false
set_option linter.all false
set_option maxRecDepth 100000
/-! A layer over the hand layer: data by value (PyData), objects that change by address, a calculus of wishes (WE, WS) over both. Part A: data, objects, states. -/
namespace DL
open PySem PySem.Spec PyProof.Rows L2

def lim : Nat := 1000000
def kD : Key → PyData
  | .inl i => .int i
  | .inr x => .str x
/-- all that is known but code tables -/
def Kp (H H' : Hp) : Prop := ∀ b o, H b = some o → (∀ ps, o ≠ .tbl ps) → H' b = some o
theorem Kp.refl (H : Hp) : Kp H H := fun _ _ h _ => h
theorem Kp.trans {H H1 H2 : Hp} (a : Kp H H1) (b : Kp H1 H2) : Kp H H2 := fun c o h n => b c o (a c o h n) n
theorem Kp.upd {H : Hp} {p : Addr} {o : HO} (h : H p = none) : Kp H (upd H p o) := fun b u e _ => by
  rw [upd_ne (ne_of_none e h)]
  exact e
theorem Kp.rd {H H' : Hp} (k : Kp H H') {a : Addr} {u : HO} (hu : ∀ ps, u ≠ .tbl ps) (r : Rd H a u) : Rd H' a u := by
  rcases r with r | ⟨o, r⟩
  · exact .inl (k _ _ r hu)
  · exact .inr ⟨o, k _ _ r fun _ z => nomatch z⟩
theorem Kp.sqL {K : PySem.W.Frag} {H H' : Hp} (k : Kp H H') {a : Addr} {xs : List V} (r : SqL K H a xs) : SqL K H' a xs := by
  rcases r with r | r
  · exact .inl (k.rd (fun _ z => nomatch z) r)
  · exact .inr r
theorem Kp.sqT {K : PySem.W.Frag} {H H' : Hp} (k : Kp H H') {a : Addr} {xs : List V} (r : SqT K H a xs) : SqT K H' a xs := by
  rcases r with r | r
  · exact .inl (k.rd (fun _ z => nomatch z) r)
  · exact .inr r

mutual
/-- v is the data d, by what H knows -/
inductive At (K : PySem.W.Frag) (H : Hp) : V → PyData → Prop
  | non : At K H .non .none
  | bl (b : Bool) : At K H (.bl b) (.bool b)
  | int (i : Int) : At K H (.int i) (.int i)
  | str (x : Str) : At K H (.str x) (.str x)
  | lst {a : Addr} {xs : List V} {ds : List PyData} : SqL K H a xs → xs.length ≤ lim → AtAll K H xs ds → At K H (.ref a) (.list ds)
  | tup {a : Addr} {xs : List V} {ds : List PyData} : SqT K H a xs → xs.length ≤ lim → AtAll K H xs ds → At K H (.ref a) (.tuple ds)
  | dK {a : Addr} {kvs : List (Key × V)} {ds : List (PyData × PyData)} : H a = some (.dK kvs) → kvs.length ≤ lim → (kvs.map (·.1)).Nodup → AtKv K H kvs ds → At K H (.ref a) (.dict ds)
  | dT {a : Addr} {kvs : List (List Key × V)} {ds : List (PyData × PyData)} : H a = some (.dT kvs) → kvs.length ≤ lim → (kvs.map (·.1)).Nodup → AtKt K H kvs ds → At K H (.ref a) (.dict ds)
inductive AtAll (K : PySem.W.Frag) (H : Hp) : List V → List PyData → Prop
  | nil : AtAll K H [] []
  | cons {v : V} {vs : List V} {d : PyData} {ds : List PyData} : At K H v d → AtAll K H vs ds → AtAll K H (v :: vs) (d :: ds)
inductive AtKv (K : PySem.W.Frag) (H : Hp) : List (Key × V) → List (PyData × PyData) → Prop
  | nil : AtKv K H [] []
  | cons {k : Key} {v : V} {kvs : List (Key × V)} {d : PyData} {ds : List (PyData × PyData)} : At K H v d → AtKv K H kvs ds → AtKv K H ((k, v) :: kvs) ((kD k, d) :: ds)
inductive AtKt (K : PySem.W.Frag) (H : Hp) : List (List Key × V) → List (PyData × PyData) → Prop
  | nil : AtKt K H [] []
  | cons {k : List Key} {v : V} {kvs : List (List Key × V)} {d : PyData} {ds : List (PyData × PyData)} : At K H v d → AtKt K H kvs ds → AtKt K H ((k, v) :: kvs) ((.tuple (k.map kD), d) :: ds)
end

mutual
theorem At.mono {K : PySem.W.Frag} {H H' : Hp} (s : Kp H H') : ∀ {v : V} {d : PyData}, At K H v d → At K H' v d
  | _, _, .non => .non
  | _, _, .bl b => .bl b
  | _, _, .int i => .int i
  | _, _, .str x => .str x
  | _, _, .lst h n r => .lst (s.sqL h) n (AtAll.mono s r)
  | _, _, .tup h n r => .tup (s.sqT h) n (AtAll.mono s r)
  | _, _, .dK h n nd r => .dK (s _ _ h fun _ z => nomatch z) n nd (AtKv.mono s r)
  | _, _, .dT h n nd r => .dT (s _ _ h fun _ z => nomatch z) n nd (AtKt.mono s r)
theorem AtAll.mono {K : PySem.W.Frag} {H H' : Hp} (s : Kp H H') : ∀ {v : List V} {d : List PyData}, AtAll K H v d → AtAll K H' v d
  | _, _, .nil => .nil
  | _, _, .cons h r => .cons (At.mono s h) (AtAll.mono s r)
theorem AtKv.mono {K : PySem.W.Frag} {H H' : Hp} (s : Kp H H') : ∀ {v : List (Key × V)} {d : List (PyData × PyData)}, AtKv K H v d → AtKv K H' v d
  | _, _, .nil => .nil
  | _, _, .cons h r => .cons (At.mono s h) (AtKv.mono s r)
theorem AtKt.mono {K : PySem.W.Frag} {H H' : Hp} (s : Kp H H') : ∀ {v : List (List Key × V)} {d : List (PyData × PyData)}, AtKt K H v d → AtKt K H' v d
  | _, _, .nil => .nil
  | _, _, .cons h r => .cons (At.mono s h) (AtKt.mono s r)
end

/-! ### values, objects -/
inductive Val where
  | dat (d : PyData)
  | raw (v : V)
inductive OO where
  | lst (xs : List Val)
  | dct (kvs : List (Key × Val))
  | dcT (kvs : List (List Key × Val))
  | ins (C : Addr) (fs : List (Str × Val))
  /-- a deck of the law's: so many draws are left -/
  | deck (n : Nat)
  /-- an exception of an own class that was not raised yet, its fields (the last stored first) -/
  | exc (C : Addr) (fs : List (Str × Val))
  /-- an exception that is held -/
  | exh (C : Addr) (fs : List (Str × Val))
  /-- one object by what stands at its address, another one -/
  | ext (φ : Addr → Hp → Prop)
abbrev Oh := Addr → Option OO
def oset (O : Oh) (p : Addr) (o : OO) : Oh := fun q => if q = p then some o else O q
def orem (O : Oh) (p : Addr) : Oh := fun q => if q = p then none else O q
theorem oset_same {O : Oh} {p : Addr} {o : OO} : oset O p o p = some o := if_pos rfl
theorem oset_ne {O : Oh} {p q : Addr} {o : OO} (h : q ≠ p) : oset O p o q = O q := if_neg h
theorem oset_oset {O : Oh} {p : Addr} {o u : OO} : oset (oset O p o) p u = oset O p u := by
  funext q; unfold oset; split <;> rfl
theorem oset_comm {O : Oh} {p q : Addr} {o u : OO} (h : p ≠ q) : oset (oset O p o) q u = oset (oset O q u) p o := by
  funext r; unfold oset
  by_cases h1 : r = q
  · by_cases h2 : r = p
    · exact absurd (h2.symm.trans h1) h
    · simp [h1, h2]
      intro e
      exact absurd e.symm h
  · simp [h1]
theorem orem_oset {O : Oh} {p : Addr} {o : OO} (h : O p = none) : orem (oset O p o) p = O := by
  funext q; unfold orem oset
  by_cases e : q = p
  · simp [e, h]
  · simp [e]
theorem oset_self {O : Oh} {p : Addr} {o : OO} (h : O p = some o) : oset O p o = O := by
  funext q; unfold oset
  by_cases e : q = p
  · simp [e, h]
  · simp [e]
def Ole (O O' : Oh) : Prop := ∀ p o, O p = some o → O' p = some o
theorem Ole.refl (O : Oh) : Ole O O := fun _ _ h => h
theorem Ole.trans {O O1 O2 : Oh} (a : Ole O O1) (b : Ole O1 O2) : Ole O O2 := fun p o h => b p o (a p o h)
theorem Ole.oset {O : Oh} {p : Addr} {o : OO} (h : O p = none) : Ole O (oset O p o) := fun q u e => by
  rw [oset_ne]
  · exact e
  · intro z
    rw [z, h] at e
    cases e
theorem one_ne {O : Oh} {p q : Addr} {o : OO} (h : O q = some o) (h' : O p = none) : p ≠ q := fun e => by
  rw [e, h] at h'
  cases h'

def VAt (K : PySem.W.Frag) (H : Hp) (v : V) : Val → Prop
  | .dat d => At K H v d
  | .raw u => v = u
abbrev VAll (K : PySem.W.Frag) (H : Hp) : List V → List Val → Prop := Paired (VAt K H)
abbrev VKv {κ : Type} (K : PySem.W.Frag) (H : Hp) : List (κ × V) → List (κ × Val) → Prop := Paired fun a b => a.1 = b.1 ∧ VAt K H a.2 b.2
theorem VAt.mono {K : PySem.W.Frag} {H H' : Hp} {v : V} {x : Val} (s : Kp H H') (h : VAt K H v x) : VAt K H' v x := by
  cases x with
  | dat d => exact At.mono s h
  | raw u => exact h
theorem paired_map {α β : Type} {F G : α → β → Prop} (f : ∀ a b, F a b → G a b) : ∀ {l : List α} {m : List β}, Paired F l m → Paired G l m
  | _, _, .nil => .nil
  | _, _, .cons r t => .cons (f _ _ r) (paired_map f t)
theorem VAll.mono {K : PySem.W.Frag} {H H' : Hp} {vs : List V} {xs : List Val} (s : Kp H H') (h : VAll K H vs xs) : VAll K H' vs xs := paired_map (fun _ _ r => r.mono s) h
theorem VKv.mono {κ : Type} {K : PySem.W.Frag} {H H' : Hp} {vs : List (κ × V)} {xs : List (κ × Val)} (s : Kp H H') (h : VKv K H vs xs) : VKv K H' vs xs := paired_map (fun _ _ r => ⟨r.1, r.2.mono s⟩) h

/-- a deck: a list of three ints, of which the third one grows -/
def DeckAt (H : Hp) (p : Addr) (n : Nat) : Prop := ∃ a b c : Int, H p = some (.lst [.int a, .int b, .int c]) ∧ 0 ≤ a ∧ 0 ≤ b ∧ b < 2305843009213693951 ∧ 0 ≤ c ∧ c + (n : Int) ≤ 1000000
def XDct (K : PySem.W.Frag) (Hk : Hp) (d : Option Addr) (fs : List (Str × Val)) : Prop := (fs = [] ∧ d = none) ∨ (fs ≠ [] ∧ ∃ dd ws, d = some dd ∧ Hk dd = some (exd dd ws) ∧ VKv K Hk ws fs)
def OAt (K : PySem.W.Frag) (Hk H : Hp) (p : Addr) : OO → Prop
  | .lst xs => ∃ vs, H p = some (.lst vs) ∧ VAll K Hk vs xs
  | .dct kvs => ∃ ws, H p = some (.dK ws) ∧ VKv K Hk ws kvs
  | .dcT kvs => ∃ ws, H p = some (.dT ws) ∧ VKv K Hk ws kvs
  | .ins C fs => ∃ dx ws, H p = some (.ins C dx ws) ∧ VKv K Hk ws fs
  | .deck n => DeckAt H p n
  | .exc C fs => ∃ d, H p = some (exo p C d) ∧ XDct K Hk d fs
  | .exh C fs => ∃ d φ, H p = some (.ext φ) ∧ (∀ h, φ h → ∃ (oe : Obj) (vs : Array Value), h.get? p = some oe ∧ oe.cls = .ref C ∧ oe.dict = d ∧ oe.data = .fields vs) ∧ XDct K Hk d fs
  | .ext φ => (∃ o, H p = some o) ∧ φ p H ∧ ∀ H', H' p = H p → φ p H → φ p H'
theorem OAt.some {K : PySem.W.Frag} {Hk H : Hp} {p : Addr} {o : OO} (h : OAt K Hk H p o) : ∃ u, H p = some u := by
  cases o with
  | lst xs => obtain ⟨_, e, _⟩ := h; exact ⟨_, e⟩
  | dct kvs => obtain ⟨_, e, _⟩ := h; exact ⟨_, e⟩
  | dcT kvs => obtain ⟨_, e, _⟩ := h; exact ⟨_, e⟩
  | ins C fs => obtain ⟨_, _, e, _⟩ := h; exact ⟨_, e⟩
  | deck n => obtain ⟨_, _, _, e, _⟩ := h; exact ⟨_, e⟩
  | exc C fs => obtain ⟨_, e, _⟩ := h; exact ⟨_, e⟩
  | exh C fs => obtain ⟨_, _, e, _⟩ := h; exact ⟨_, e⟩
  | ext φ => exact h.1
theorem XDct.mono {K : PySem.W.Frag} {Hk Hk' : Hp} {d : Option Addr} {fs : List (Str × Val)} (s : Kp Hk Hk') (h : XDct K Hk d fs) : XDct K Hk' d fs := by
  rcases h with h | ⟨n, dd, ws, e, q, r⟩
  · exact .inl h
  · exact .inr ⟨n, dd, ws, e, s _ _ q (fun _ z => by unfold exd at z; cases z), r.mono s⟩
theorem OAt.mono {K : PySem.W.Frag} {Hk Hk' H H' : Hp} {p : Addr} {o : OO} (s : Kp Hk Hk') (e : H' p = H p) (h : OAt K Hk H p o) : OAt K Hk' H' p o := by
  cases o with
  | lst xs => obtain ⟨vs, q, r⟩ := h; exact ⟨vs, e.trans q, r.mono s⟩
  | dct kvs => obtain ⟨vs, q, r⟩ := h; exact ⟨vs, e.trans q, r.mono s⟩
  | dcT kvs => obtain ⟨vs, q, r⟩ := h; exact ⟨vs, e.trans q, r.mono s⟩
  | ins C fs => obtain ⟨dx, vs, q, r⟩ := h; exact ⟨dx, vs, e.trans q, r.mono s⟩
  | deck n => obtain ⟨a, b, c, q, r⟩ := h; exact ⟨a, b, c, e.trans q, r⟩
  | exc C fs => obtain ⟨d, q, r⟩ := h; exact ⟨d, e.trans q, r.mono s⟩
  | exh C fs => obtain ⟨d, φ, q, z, r⟩ := h; exact ⟨d, φ, e.trans q, z, r.mono s⟩
  | ext φ =>
    obtain ⟨⟨u, q⟩, r, st⟩ := h
    exact ⟨⟨u, e.trans q⟩, st _ e r, fun H2 e2 r2 => st _ (e2.trans e) r⟩

/-- what stands beside: tables of code, objects of others -/
structure TF where
  T : List (Addr × Str)
  F : Oh
/-- the state by data: what is known (Hk), the objects that change (O; those of others: t.F), the tables of code (t.T) -/
structure HD (K : PySem.W.Frag) (t : TF) (Hk H : Hp) (O : Oh) : Prop where
  sub : Kp Hk H
  dom : ∀ b, H b = none → Hk b = none
  obj : ∀ p o, O p = some o → Hk p = none ∧ OAt K Hk H p o
  fob : ∀ p o, t.F p = some o → Hk p = none ∧ OAt K Hk H p o
  dis : ∀ p o, O p = some o → t.F p = none
  tab : LamX.Tabs t.T H
abbrev Stt := List (Option V)
abbrev Sl := List (Option Val)
structure SL (K : PySem.W.Frag) (Hk : Hp) (σ : Stt) (δ : Sl) : Prop where
  len : δ.length = σ.length
  slot : ∀ (i : Nat) (x : Val), δ[i]? = some (some x) → ∃ v, σ[i]? = some (some v) ∧ VAt K Hk v x
section
variable {K : PySem.W.Frag} {t : TF} {Hk Hk' H H' : Hp} {O O' : Oh} {σ : Stt} {δ : Sl} {p : Addr} {o : HO} {oo : OO}
theorem SL.mono (s : Kp Hk Hk') (h : SL K Hk σ δ) : SL K Hk' σ δ := ⟨h.len, fun i x e => let ⟨v, q, r⟩ := h.slot i x e; ⟨v, q, r.mono s⟩⟩
theorem SL.set (h : SL K Hk σ δ) {i : Nat} {v : V} {x : Val} (r : VAt K Hk v x) : SL K Hk (σ.set i (some v)) (δ.set i (some x)) := by
  refine ⟨by rw [List.length_set, List.length_set]; exact h.len, fun j y e => ?_⟩
  by_cases hj : i = j
  · subst hj
    by_cases hl : i < δ.length
    · rw [List.getElem?_set_self hl] at e
      have e' : x = y := Option.some.inj (Option.some.inj e)
      subst e'
      exact ⟨v, List.getElem?_set_self (by rw [← h.len]; exact hl), r⟩
    · rw [List.getElem?_eq_none (by rw [List.length_set]; omega)] at e
      cases e
  · rw [List.getElem?_set_ne hj] at e
    obtain ⟨w, q, z⟩ := h.slot j y e
    exact ⟨w, by rw [List.getElem?_set_ne hj]; exact q, z⟩
/-- a slot forgotten -/
theorem SL.forget (h : SL K Hk σ δ) {δ' : Sl} (hl : δ'.length = δ.length) (hs : ∀ (i : Nat) (x : Val), δ'[i]? = some (some x) → δ[i]? = some (some x)) : SL K Hk σ δ' := ⟨hl.trans h.len, fun i x e => h.slot i x (hs i x e)⟩
theorem OAt.ne {q : Addr} {u : OO} (hp : H p = none) (r : OAt K Hk H q u) : q ≠ p := fun z => by
  obtain ⟨u, r⟩ := r.some
  rw [z, hp] at r
  cases r
theorem HD.mutual_ne (h : HD K t Hk H O) (hp : H p = none) {q : Addr} (e : O q = some oo) : q ≠ p := OAt.ne hp (h.obj q oo e).2
theorem Tabs.upd_new {T : List (Addr × Str)} (t : LamX.Tabs T H) (hp : H p = none) : LamX.Tabs T (upd H p o) := t.ext fun b u e => by
  rw [upd_ne (ne_of_none e hp)]
  exact e
/-- a new object that is known -/
theorem HD.newK (h : HD K t Hk H O) (hp : H p = none) : HD K t (upd Hk p o) (upd H p o) O where
  sub := fun b u e n => by
    by_cases hb : b = p
    · rw [hb, upd_same] at e ⊢
      exact e
    · rw [upd_ne hb] at e ⊢
      exact h.sub b u e n
  dom := fun b e => by
    by_cases hb : b = p
    · rw [hb, upd_same] at e
      cases e
    · rw [upd_ne hb] at e ⊢
      exact h.dom b e
  obj := fun q u e => by
    obtain ⟨a, b⟩ := h.obj q u e
    have hq := OAt.ne hp b
    exact ⟨by rw [upd_ne hq]; exact a, b.mono (Kp.upd (h.dom p hp)) (upd_ne hq)⟩
  fob := fun q u e => by
    obtain ⟨a, b⟩ := h.fob q u e
    have hq := OAt.ne hp b
    exact ⟨by rw [upd_ne hq]; exact a, b.mono (Kp.upd (h.dom p hp)) (upd_ne hq)⟩
  dis := h.dis
  tab := Tabs.upd_new h.tab hp
theorem HD.fresh (h : HD K t Hk H O) (hp : H p = none) : O p = none := by
  cases e : O p with
  | none => rfl
  | some oo => exact absurd rfl (OAt.ne hp (h.obj p oo e).2)
theorem HD.freshF (h : HD K t Hk H O) (hp : H p = none) : t.F p = none := by
  cases e : t.F p with
  | none => rfl
  | some oo => exact absurd rfl (OAt.ne hp (h.fob p oo e).2)
/-- a new object that changes -/
theorem HD.newO (h : HD K t Hk H O) (hp : H p = none) (n : OAt K Hk (upd H p o) p oo) : HD K t Hk (upd H p o) (oset O p oo) where
  sub := fun b u e n => by
    have hb : b ≠ p := fun z => by rw [z, h.dom p hp] at e; cases e
    rw [upd_ne hb]
    exact h.sub b u e n
  dom := fun b e => by
    by_cases hb : b = p
    · rw [hb, upd_same] at e
      cases e
    · rw [upd_ne hb] at e
      exact h.dom b e
  obj := fun q u e => by
    by_cases hq : q = p
    · rw [hq, oset_same] at e
      cases e
      rw [hq]
      exact ⟨h.dom p hp, n⟩
    · rw [oset_ne hq] at e
      obtain ⟨a, b⟩ := h.obj q u e
      exact ⟨a, b.mono (Kp.refl _) (upd_ne hq)⟩
  fob := fun q u e => by
    obtain ⟨a, b⟩ := h.fob q u e
    exact ⟨a, b.mono (Kp.refl _) (upd_ne (OAt.ne hp b))⟩
  dis := fun q u e => by
    by_cases hq : q = p
    · rw [hq]
      exact h.freshF hp
    · rw [oset_ne hq] at e
      exact h.dis q u e
  tab := Tabs.upd_new h.tab hp
theorem Tabs.upd_mut {T : List (Addr × Str)} (tb : LamX.Tabs T H) {o0 : HO} (hp : H p = some o0) (n1 : ∀ ps, o0 ≠ .tbl ps) (n2 : ∀ c q, o0 ≠ LamX.CodeO c q) : LamX.Tabs T (upd H p o) := fun x hx => by
  obtain ⟨ps, h1, h2, h3⟩ := tb x hx
  have ne : ∀ {c : Addr} {u : HO}, H c = some u → u ≠ o0 → c ≠ p := fun {c u} e z w => by rw [w, hp] at e; exact z (Option.some.inj e).symm
  refine ⟨ps, by rw [upd_ne (ne h1 fun z => n1 _ z.symm)]; exact h1, h2, fun pos cv hc => ?_⟩
  obtain ⟨c, e1, e2⟩ := h3 pos cv hc
  exact ⟨c, e1, by rw [upd_ne (ne e2 fun z => n2 _ _ z.symm)]; exact e2⟩
/-- an object has changed (what stood there was no table, no code) -/
theorem HD.setX (h : HD K t Hk H O) {o0 : HO} {oo0 : OO} (hO : O p = some oo0) (hp : H p = some o0) (n1 : ∀ ps, o0 ≠ .tbl ps) (n2 : ∀ c q, o0 ≠ LamX.CodeO c q) (n : OAt K Hk (upd H p o) p oo) : HD K t Hk (upd H p o) (oset O p oo) where
  sub := fun b u e n => by
    have hb : b ≠ p := fun z => by rw [z, (h.obj p _ hO).1] at e; cases e
    rw [upd_ne hb]
    exact h.sub b u e n
  dom := fun b e => by
    by_cases hb : b = p
    · rw [hb, upd_same] at e
      cases e
    · rw [upd_ne hb] at e
      exact h.dom b e
  obj := fun q u e => by
    by_cases hq : q = p
    · rw [hq, oset_same] at e
      cases e
      rw [hq]
      exact ⟨(h.obj p _ hO).1, n⟩
    · rw [oset_ne hq] at e
      obtain ⟨a, b⟩ := h.obj q u e
      exact ⟨a, b.mono (Kp.refl _) (upd_ne hq)⟩
  fob := fun q u e => by
    obtain ⟨a, b⟩ := h.fob q u e
    exact ⟨a, b.mono (Kp.refl _) (upd_ne fun z => by rw [z, h.dis p _ hO] at e; cases e)⟩
  dis := fun q u e => by
    by_cases hq : q = p
    · rw [hq]
      exact h.dis p _ hO
    · rw [oset_ne hq] at e
      exact h.dis q u e
  tab := Tabs.upd_mut h.tab hp n1 n2
theorem HD.setO (h : HD K t Hk H O) {o0 : HO} {oo0 : OO} (hO : O p = some oo0) (hp : H p = some o0) (n1 : ∀ ps, o0 ≠ .tbl ps) (n2 : ∀ φ, o0 ≠ .ext φ) (n : OAt K Hk (upd H p o) p oo) : HD K t Hk (upd H p o) (oset O p oo) := h.setX hO hp n1 (fun _ _ z => n2 _ z) n
theorem exo_code {e C : Addr} {d : Option Addr} (c : Addr) (q : Str) : exo e C d ≠ LamX.CodeO c q := fun z => by
  have z1 : (HO.ext fun h => ∃ t1 : Addr, h.get? e = some ({ cls := .ref C, dict := d, data := .fields #[.ref t1, .none, .none, .none, .bool false, .none] } : Obj)) = HO.ext (fun h => ∃ (oc : Obj) (vs : Array Value) (t : Tok), h.get? c = some oc ∧ oc.data = .fields vs ∧ vs[1]? = some (.str q t)) := z
  injection z1 with z2
  let ob : Obj := { cls := .ref C, dict := d, data := .fields #[.ref 0, .none, .none, .none, .bool false, .none] }
  let h0 : Heap := ⟨Array.replicate (e + 1) ob, default⟩
  have get : ∀ b o, h0.get? b = some o → o = ob := fun b o hb => by
    unfold Heap.get? at hb
    by_cases hl : b < e + 1
    · have e1 : h0.objs[b]? = some ob := by
        show (Array.replicate (e + 1) ob)[b]? = some ob
        rw [Array.getElem?_replicate, if_pos hl]
      rw [e1] at hb
      exact (Option.some.inj hb).symm
    · have e1 : h0.objs[b]? = none := by
        show (Array.replicate (e + 1) ob)[b]? = none
        rw [Array.getElem?_replicate, if_neg hl]
      rw [e1] at hb
      cases hb
  have e0 : h0.get? e = some ob := by
    unfold Heap.get?
    have e1 : h0.objs[e]? = some ob := by
      show (Array.replicate (e + 1) ob)[e]? = some ob
      rw [Array.getElem?_replicate, if_pos (Nat.lt_succ_self e)]
    rw [e1]
  have y := congrFun z2 h0
  obtain ⟨oc, vs, t, h1, h2, h3⟩ := y.mp ⟨0, e0⟩
  obtain rfl := get _ _ h1
  have h2' : vs = #[.ref 0, .none, .none, .none, .bool false, .none] := (Data.fields.inj h2).symm
  rw [h2'] at h3
  have h3' : some Value.none = some (Value.str q t) := h3
  cases h3'
/-- an object that changes no more is known -/
theorem HD.freeze (h : HD K t Hk H O) {xs : List Val} (hO : O p = some (.lst xs)) : ∃ vs, H p = some (.lst vs) ∧ VAll K Hk vs xs ∧ Kp Hk (upd Hk p (.lst vs)) ∧ HD K t (upd Hk p (.lst vs)) H (orem O p) := by
  obtain ⟨hn, vs, e, r⟩ := h.obj p _ hO
  have k : Kp Hk (upd Hk p (.lst vs)) := Kp.upd hn
  refine ⟨vs, e, r, k, ⟨fun b u e1 n => ?_, fun b e1 => ?_, fun q u e1 => ?_, fun q u e1 => ?_, fun q u e1 => ?_, h.tab⟩⟩
  · by_cases hb : b = p
    · rw [hb, upd_same] at e1
      cases e1
      rw [hb]
      exact e
    · rw [upd_ne hb] at e1
      exact h.sub b u e1 n
  · have hb : b ≠ p := fun z => by rw [z, e] at e1; cases e1
    rw [upd_ne hb]
    exact h.dom b e1
  · unfold orem at e1
    split at e1
    · cases e1
    · rename_i hq
      obtain ⟨a, b⟩ := h.obj q u e1
      exact ⟨by rw [upd_ne hq]; exact a, b.mono k rfl⟩
  · have hq : q ≠ p := fun z => by rw [z, h.dis p _ hO] at e1; cases e1
    obtain ⟨a, b⟩ := h.fob q u e1
    exact ⟨by rw [upd_ne hq]; exact a, b.mono k rfl⟩
  · unfold orem at e1
    split at e1
    · cases e1
    · exact h.dis q u e1
/-- a dict of data that changes no more is known -/
theorem HD.freezeO (h : HD K t Hk H O) {o : HO} (hO : O p = some oo) (e : H p = some o) : Kp Hk (upd Hk p o) ∧ HD K t (upd Hk p o) H (orem O p) := by
  obtain ⟨hn, _⟩ := h.obj p _ hO
  have k : Kp Hk (upd Hk p o) := Kp.upd hn
  refine ⟨k, ⟨fun b u e1 n => ?_, fun b e1 => ?_, fun q u e1 => ?_, fun q u e1 => ?_, fun q u e1 => ?_, h.tab⟩⟩
  · by_cases hb : b = p
    · rw [hb, upd_same] at e1
      cases e1
      rw [hb]
      exact e
    · rw [upd_ne hb] at e1
      exact h.sub b u e1 n
  · have hb : b ≠ p := fun z => by rw [z, e] at e1; cases e1
    rw [upd_ne hb]
    exact h.dom b e1
  · unfold orem at e1
    split at e1
    · cases e1
    · rename_i hq
      obtain ⟨a, b⟩ := h.obj q u e1
      exact ⟨by rw [upd_ne hq]; exact a, b.mono k rfl⟩
  · have hq : q ≠ p := fun z => by rw [z, h.dis p _ hO] at e1; cases e1
    obtain ⟨a, b⟩ := h.fob q u e1
    exact ⟨by rw [upd_ne hq]; exact a, b.mono k rfl⟩
  · unfold orem at e1
    split at e1
    · cases e1
    · exact h.dis q u e1
theorem HD.drop (h : HD K t Hk H O) (le : Ole O' O) : HD K t Hk H O' := ⟨h.sub, h.dom, fun p o e => h.obj p o (le p o e), h.fob, fun p o e => h.dis p o (le p o e), h.tab⟩
/-- objects given to the others, and taken back -/
def ojoin (F O : Oh) : Oh := fun p => match F p with
  | some o => some o
  | none => O p
theorem HD.give {T : List (Addr × Str)} {F B : Oh} (h : HD K ⟨T, F⟩ Hk H (ojoin B O)) (dis : ∀ p o, O p = some o → B p = none) : HD K ⟨T, ojoin F B⟩ Hk H O where
  sub := h.sub
  dom := h.dom
  obj := fun p o e => h.obj p o (by unfold ojoin; rw [dis p o e]; exact e)
  fob := fun p o e => by
    unfold ojoin at e
    cases q : F p with
    | some u =>
      have e' : F p = some o := by
        simp only [q] at e
        rw [q]
        exact e
      exact h.fob p o e'
    | none =>
      simp only [q] at e
      exact h.obj p o (by unfold ojoin; rw [e])
  dis := fun p o e => by
    have a := h.dis p o (by unfold ojoin; rw [dis p o e]; exact e)
    show (match F p with | some o => some o | none => B p) = none
    have a' : F p = none := a
    rw [a']
    exact dis p o e
  tab := h.tab
theorem HD.take {T : List (Addr × Str)} {F B : Oh} (h : HD K ⟨T, ojoin F B⟩ Hk H O) (dF : ∀ p o, B p = some o → F p = none) : HD K ⟨T, F⟩ Hk H (ojoin B O) where
  sub := h.sub
  dom := h.dom
  obj := fun p o e => by
    unfold ojoin at e
    cases q : B p with
    | some u =>
      have e' : u = o := by simpa only [q, Option.some.injEq] using e
      exact h.fob p o (by show (match F p with | some o => some o | none => B p) = some o; rw [dF p u q, q, e'])
    | none =>
      simp only [q] at e
      exact h.obj p o e
  fob := fun p o e => h.fob p o (by show (match F p with | some o => some o | none => B p) = some o; have e' : F p = some o := e; rw [e'])
  dis := fun p o e => by
    unfold ojoin at e
    cases q : B p with
    | some u => exact dF p u q
    | none =>
      simp only [q] at e
      have a : (match F p with | some o => some o | none => B p) = none := h.dis p o e
      cases z : F p with
      | none => exact z
      | some u => rw [z] at a; cases a
  tab := h.tab
end
end DL
set_option maxHeartbeats 2000000
/-! Part B: wishes. -/
namespace DL
open PySem PySem.Spec PyProof.Rows L2


/-! ### the weakest readings -/
section
variable (X : Cx)
def gE (e : Expr) : TE := fun σ H Q => ∀ (pins : List (Addr × Obj)) (s : Shared), Inv X pins σ H s → wpAny (model X.prog X.w) X.A (eval e X.env) (EP X pins σ Q) X.xe s
def gT (e : Expr) : TT := fun σ H Q => ∀ (pins : List (Addr × Obj)) (s : Shared), Inv X pins σ H s → wpAny (model X.prog X.w) X.A (isTrue e X.env (eval e X.env)) (TP X pins σ Q) X.xe s
def gW (e : Expr) : TT := fun σ H Q => ∀ (whole : Sem Value) (pins : List (Addr × Obj)) (s : Shared), Inv X pins σ H s → wpAny (model X.prog X.w) X.A (isTrue e X.env whole) (TP X pins σ Q) X.xe s
def gA (es : List Expr) : TA := fun σ H Q => ∀ (pos : Pos) (pins : List (Addr × Obj)) (s : Shared), Inv X pins σ H s → wpAny (model X.prog X.w) X.A (spliced (backTo pos (starEach es X.env))) (AP X pins σ Q) X.xe s
def gS (st : Stmt) : TS := fun D σ H => ∀ (pins : List (Addr × Obj)) (s : Shared), Inv X pins σ H s → wpAny (model X.prog X.w) X.A (exec st X.env) (SP X pins D) X.xe s
def gSs (st : List Stmt) : TS := fun D σ H => ∀ (pins : List (Addr × Obj)) (s : Shared), Inv X pins σ H s → wpAny (model X.prog X.w) X.A (execs st X.env) (SP X pins D) X.xe s
def gTs (ifs : List Expr) : TT := fun σ H Q => ∀ (pins : List (Addr × Obj)) (s : Shared), Inv X pins σ H s → wpAny (model X.prog X.w) X.A (forIn ifs true fun c r => if r = true then do let ok ← isTrue c X.env (eval c X.env); pure (ForInStep.yield ok) else pure (ForInStep.yield r)) (TP X pins σ Q) X.xe s
def gI (tg iter : Expr) : TI := fun σ H R => ∀ (pins : List (Addr × Obj)) (s : Shared), Inv X pins σ H s → wpAny (model X.prog X.w) X.A (eval iter X.env) (fun v s1 => wpAny (model X.prog X.w) X.A (pyIter v) (PIE X pins σ tg R) X.xe s1) X.xe s
/-- an operation on values -/
def gO (f : Value → Value → Sem Value) : V → V → Hp → VK → Prop := fun x y H Q => ∀ (pins : List (Addr × Obj)) (s : Shared) (σ : Stt) (v u : Value), Inv X pins σ H s → RelV x v → RelV y u → wpAny (model X.prog X.w) X.A (f v u) (EP X pins σ Q) X.xe s
def gU (f : Value → Sem Value) : V → Hp → VK → Prop := fun x H Q => ∀ (pins : List (Addr × Obj)) (s : Shared) (σ : Stt) (v : Value), Inv X pins σ H s → RelV x v → wpAny (model X.prog X.w) X.A (f v) (EP X pins σ Q) X.xe s
def gC (f : Value) : List V → Hp → VK → Prop := fun xs H Q => ∀ (pins : List (Addr × Obj)) (s : Shared) (σ : Stt) (us : List Value), Inv X pins σ H s → Vals xs us → wpAny (model X.prog X.w) X.A (call f us) (EP X pins σ Q) X.xe s
def gM (id : String) : V → List V → Hp → VK → Prop := fun x xs H Q => ∀ (pins : List (Addr × Obj)) (s : Shared) (σ : Stt) (v : Value) (us : List Value), Inv X pins σ H s → RelV x v → Vals xs us → wpAny (model X.prog X.w) X.A (call (.builtin id) (v :: us)) (EP X pins σ Q) X.xe s
end
section
variable {X : Cx} {e tg iter : Expr} {es : List Expr} {st : Stmt} {sts : List Stmt} {σ : Stt} {H : Hp}
theorem gE_pe : PE X e (gE X e) := ⟨fun pins s _ _ _ I h => h pins s I⟩
theorem gT_pt : PT X e (gT X e) := ⟨fun pins s _ _ _ I h => h pins s I⟩
theorem gW_pw : PW X e (gW X e) := ⟨fun whole pins s _ _ _ I h => h whole pins s I⟩
theorem gA_pa : PA X es (gA X es) := ⟨fun pos pins s _ _ _ I h => h pos pins s I⟩
theorem gS_ps : PS X st (gS X st) := ⟨fun pins s _ _ _ I h => h pins s I⟩
theorem gSs_pss : PSs X sts (gSs X sts) := ⟨fun pins s _ _ _ I h => h pins s I⟩
theorem gTs_pts : PTs X es (gTs X es) := ⟨fun pins s _ _ _ I h => h pins s I⟩
theorem gI_pi : PI X tg iter (gI X tg iter) := ⟨fun pins s _ _ _ I h => h pins s I⟩
theorem gO_op {f : Value → Value → Sem Value} : OpR X f (gO X f) := fun pins s σ _ _ _ v u _ I r1 r2 h => h pins s σ v u I r1 r2
theorem gU_un {f : Value → Sem Value} : UnR X f (gU X f) := fun pins s σ _ _ v _ I r1 h => h pins s σ v I r1
theorem gC_call {f : Value} : CallR X f (gC X f) := fun pins s σ _ _ us _ I r h => h pins s σ us I r
theorem gM_mt {id : String} : MtR X id (gM X id) := fun pins s σ _ _ _ v us _ I r1 r2 h => h pins s σ v us I r1 r2
theorem gE_of {t : TE} {Q : VK} (h : PE X e t) (q : t σ H Q) : gE X e σ H Q := fun pins s I => h.run pins s σ H Q I q
theorem gT_of {t : TT} {Q : Bool → Hp → Prop} (h : PT X e t) (q : t σ H Q) : gT X e σ H Q := fun pins s I => h.run pins s σ H Q I q
theorem gW_of {t : TT} {Q : Bool → Hp → Prop} (h : PW X e t) (q : t σ H Q) : gW X e σ H Q := fun whole pins s I => h.run whole pins s σ H Q I q
theorem gA_of {t : TA} {Q : List V → Hp → Prop} (h : PA X es t) (q : t σ H Q) : gA X es σ H Q := fun pos pins s I => h.run pos pins s σ H Q I q
theorem gS_of {t : TS} {D : Ends} (h : PS X st t) (q : t D σ H) : gS X st D σ H := fun pins s I => h.run pins s σ H D I q
theorem gSs_of {t : TS} {D : Ends} (h : PSs X sts t) (q : t D σ H) : gSs X sts D σ H := fun pins s I => h.run pins s σ H D I q
theorem gTs_of {t : TT} {Q : Bool → Hp → Prop} (h : PTs X es t) (q : t σ H Q) : gTs X es σ H Q := fun pins s I => h.run pins s σ H Q I q
theorem gI_of {t : TI} {R : It → Hp → Prop} (h : PI X tg iter t) (q : t σ H R) : gI X tg iter σ H R := fun pins s I => h.run pins s σ H R I q
theorem gO_of {f : Value → Value → Sem Value} {r : R2} {x y : V} {Q : VK} (h : OpR X f r) (q : r x y H Q) : gO X f x y H Q := fun pins s σ v u I r1 r2 => h pins s σ H x y v u Q I r1 r2 q
theorem gU_of {f : Value → Sem Value} {r : V → Hp → VK → Prop} {x : V} {Q : VK} (h : UnR X f r) (q : r x H Q) : gU X f x H Q := fun pins s σ v I r1 => h pins s σ H x v Q I r1 q
theorem gC_of {f : Value} {r : List V → Hp → VK → Prop} {xs : List V} {Q : VK} (h : CallR X f r) (q : r xs H Q) : gC X f xs H Q := fun pins s σ us I r1 => h pins s σ H xs us Q I r1 q
theorem gM_of {id : String} {r : V → List V → Hp → VK → Prop} {x : V} {xs : List V} {Q : VK} (h : MtR X id r) (q : r x xs H Q) : gM X id x xs H Q := fun pins s σ v us I r1 r2 => h pins s σ H x xs v us Q I r1 r2 q
end

/-! ### wishes by data -/
/-- of an exception: its class, its fields, the slots and the objects as it is raised -/
abbrev XD := Value → List (Str × Val) → Sl → Oh → Prop
def X0 : XD := fun _ _ _ _ => False
def EF (K : PySem.W.Frag) (Hk H : Hp) (d : Option Addr) (fs : List (Str × Val)) : Prop := match d with
  | some dx => ∃ ws, Hk dx = some (exd dx ws) ∧ VKv K Hk ws fs
  | none => fs = []
def XOK (X : Cx) (T : TF) (Hk : Hp) (Ex : XD) : Prop := ∃ W : WX, Takes X W ∧ ∀ (cls : Value) (d : Option Addr) (σ : Stt) (H Hk' : Hp) (O : Oh) (δ : Sl) (fs : List (Str × Val)),
  Kp Hk Hk' → HD X.K T Hk' H O → SL X.K Hk' σ δ → EF X.K Hk' H d fs → Ex cls fs δ O → W cls d σ H
theorem XOK.mono {X : Cx} {T : TF} {Hk Hk' : Hp} {Ex : XD} (h : XOK X T Hk Ex) (k : Kp Hk Hk') : XOK X T Hk' Ex := by
  obtain ⟨W, tk, q⟩ := h
  exact ⟨W, tk, fun cls d σ H Hk2 O δ fs k2 => q cls d σ H Hk2 O δ fs (k.trans k2)⟩
theorem XOK.none {X : Cx} {T : TF} {Hk : Hp} : XOK X T Hk X0 := ⟨fun _ _ _ _ => False, takes0, fun _ _ _ _ _ _ _ _ _ _ _ _ z => z⟩
/-- what a value's wish gets -/
def Got (K : PySem.W.Frag) (T : TF) (Hk : Hp) (k : Val → Oh → Prop) (Q : VK) : Prop := ∀ (v : V) (x : Val) (O : Oh) (Hk' H' : Hp), Kp Hk Hk' → HD K T Hk' H' O → VAt K Hk' v x → k x O → Q v H'
def GotB (K : PySem.W.Frag) (T : TF) (Hk : Hp) (k : Bool → Oh → Prop) (Q : Bool → Hp → Prop) : Prop := ∀ (b : Bool) (O : Oh) (Hk' H' : Hp), Kp Hk Hk' → HD K T Hk' H' O → k b O → Q b H'
def GotA (K : PySem.W.Frag) (T : TF) (Hk : Hp) (k : List Val → Oh → Prop) (Q : List V → Hp → Prop) : Prop := ∀ (vs : List V) (xs : List Val) (O : Oh) (Hk' H' : Hp), Kp Hk Hk' → HD K T Hk' H' O → VAll K Hk' vs xs → k xs O → Q vs H'
theorem Got.mono {K : PySem.W.Frag} {T : TF} {Hk Hk' : Hp} {k : Val → Oh → Prop} {Q : VK} (h : Got K T Hk k Q) (s : Kp Hk Hk') : Got K T Hk' k Q := fun v x O H1 H2 a => h v x O H1 H2 (s.trans a)
theorem GotB.mono {K : PySem.W.Frag} {T : TF} {Hk Hk' : Hp} {k : Bool → Oh → Prop} {Q : Bool → Hp → Prop} (h : GotB K T Hk k Q) (s : Kp Hk Hk') : GotB K T Hk' k Q := fun v O H1 H2 a => h v O H1 H2 (s.trans a)
theorem GotA.mono {K : PySem.W.Frag} {T : TF} {Hk Hk' : Hp} {k : List Val → Oh → Prop} {Q : List V → Hp → Prop} (h : GotA K T Hk k Q) (s : Kp Hk Hk') : GotA K T Hk' k Q := fun v x O H1 H2 a => h v x O H1 H2 (s.trans a)

section
variable (X : Cx) (T : List (Addr × Str))
def WE (e : Expr) (δ : Sl) (O : Oh) (Ex : XD) (k : Val → Oh → Prop) : Prop := ∀ (F : Oh) (σ : Stt) (H Hk : Hp) (Q : VK), HD X.K ⟨T, F⟩ Hk H O → SL X.K Hk σ δ → XOK X ⟨T, F⟩ Hk Ex → Got X.K ⟨T, F⟩ Hk k Q → gE X e σ H Q
def WT (e : Expr) (δ : Sl) (O : Oh) (Ex : XD) (k : Bool → Oh → Prop) : Prop := ∀ (F : Oh) (σ : Stt) (H Hk : Hp) (Q : Bool → Hp → Prop), HD X.K ⟨T, F⟩ Hk H O → SL X.K Hk σ δ → XOK X ⟨T, F⟩ Hk Ex → GotB X.K ⟨T, F⟩ Hk k Q → gT X e σ H Q
def WW (e : Expr) (δ : Sl) (O : Oh) (Ex : XD) (k : Bool → Oh → Prop) : Prop := ∀ (F : Oh) (σ : Stt) (H Hk : Hp) (Q : Bool → Hp → Prop), HD X.K ⟨T, F⟩ Hk H O → SL X.K Hk σ δ → XOK X ⟨T, F⟩ Hk Ex → GotB X.K ⟨T, F⟩ Hk k Q → gW X e σ H Q
def WA (es : List Expr) (δ : Sl) (O : Oh) (Ex : XD) (k : List Val → Oh → Prop) : Prop := ∀ (F : Oh) (σ : Stt) (H Hk : Hp) (Q : List V → Hp → Prop), HD X.K ⟨T, F⟩ Hk H O → SL X.K Hk σ δ → XOK X ⟨T, F⟩ Hk Ex → GotA X.K ⟨T, F⟩ Hk k Q → gA X es σ H Q
/-- by values -/
def WO (f : Value → Value → Sem Value) (x y : Val) (O : Oh) (k : Val → Oh → Prop) : Prop := ∀ (F : Oh) (a b : V) (H Hk : Hp) (Q : VK), HD X.K ⟨T, F⟩ Hk H O → VAt X.K Hk a x → VAt X.K Hk b y → Got X.K ⟨T, F⟩ Hk k Q → gO X f a b H Q
def WU (f : Value → Sem Value) (x : Val) (O : Oh) (k : Val → Oh → Prop) : Prop := ∀ (F : Oh) (a : V) (H Hk : Hp) (Q : VK), HD X.K ⟨T, F⟩ Hk H O → VAt X.K Hk a x → Got X.K ⟨T, F⟩ Hk k Q → gU X f a H Q
def WC (f : Value) (xs : List Val) (O : Oh) (k : Val → Oh → Prop) : Prop := ∀ (F : Oh) (vs : List V) (H Hk : Hp) (Q : VK), HD X.K ⟨T, F⟩ Hk H O → VAll X.K Hk vs xs → Got X.K ⟨T, F⟩ Hk k Q → gC X f vs H Q
def WM (id : String) (x : Val) (xs : List Val) (O : Oh) (k : Val → Oh → Prop) : Prop := ∀ (F : Oh) (a : V) (vs : List V) (H Hk : Hp) (Q : VK), HD X.K ⟨T, F⟩ Hk H O → VAt X.K Hk a x → VAll X.K Hk vs xs → Got X.K ⟨T, F⟩ Hk k Q → gM X id a vs H Q
/-- what is wanted behind statements -/
structure De where
  nx : Sl → Oh → Prop
  rt : Val → Oh → Prop
  bk : Sl → Oh → Prop := fun _ _ => False
  ct : Sl → Oh → Prop := fun _ _ => False
def GotS (K : PySem.W.Frag) (T : TF) (Hk : Hp) (k : Sl → Oh → Prop) (Q : Stt → Hp → Prop) : Prop := ∀ (σ : Stt) (δ : Sl) (O : Oh) (Hk' H' : Hp), Kp Hk Hk' → HD K T Hk' H' O → SL K Hk' σ δ → k δ O → Q σ H'
structure GotD (K : PySem.W.Frag) (T : TF) (Hk : Hp) (D : De) (D0 : Ends) : Prop where
  nx : GotS K T Hk D.nx D0.nx
  rt : Got K T Hk D.rt D0.rt
  bk : GotS K T Hk D.bk D0.bk
  ct : GotS K T Hk D.ct D0.ct
def WS (st : Stmt) (δ : Sl) (O : Oh) (Ex : XD) (D : De) : Prop := ∀ (F : Oh) (σ : Stt) (H Hk : Hp) (D0 : Ends), HD X.K ⟨T, F⟩ Hk H O → SL X.K Hk σ δ → XOK X ⟨T, F⟩ Hk Ex → GotD X.K ⟨T, F⟩ Hk D D0 → gS X st D0 σ H
def WSs (sts : List Stmt) (δ : Sl) (O : Oh) (Ex : XD) (D : De) : Prop := ∀ (F : Oh) (σ : Stt) (H Hk : Hp) (D0 : Ends), HD X.K ⟨T, F⟩ Hk H O → SL X.K Hk σ δ → XOK X ⟨T, F⟩ Hk Ex → GotD X.K ⟨T, F⟩ Hk D D0 → gSs X sts D0 σ H
/-- the weakest target -/
def gG (tg : Expr) : TG := fun a σ H Q => ∀ (pins : List (Addr × Obj)) (s : Shared) (u : Value), Inv X pins σ H s → RelV a u → wpAny (model X.prog X.w) X.A (assign tg X.env u) (fun _ s' => ∃ σ' H', Inv X pins σ' H' s' ∧ Q σ' H') X.xe s
def gGs (ts : List Expr) : TGs := fun vs σ H Q => ∀ (pins : List (Addr × Obj)) (s : Shared) (us : List Value), Inv X pins σ H s → Vals vs us → wpAny (model X.prog X.w) X.A (assignInOrder ((assignEach ts X.env).map (·.2)) us) (fun _ s' => ∃ σ' H', Inv X pins σ' H' s' ∧ Q σ' H') X.xe s
/-- a target stores x -/
def WG (tg : Expr) (x : Val) (δ : Sl) (O : Oh) (Ex : XD) (k : Sl → Oh → Prop) : Prop := ∀ (F : Oh) (a : V) (σ : Stt) (H Hk : Hp) (Q : Stt → Hp → Prop), HD X.K ⟨T, F⟩ Hk H O → SL X.K Hk σ δ → XOK X ⟨T, F⟩ Hk Ex → VAt X.K Hk a x → GotS X.K ⟨T, F⟩ Hk k Q → gG X tg a σ H Q
def WGs (ts : List Expr) (xs : List Val) (δ : Sl) (O : Oh) (Ex : XD) (k : Sl → Oh → Prop) : Prop := ∀ (F : Oh) (vs : List V) (σ : Stt) (H Hk : Hp) (Q : Stt → Hp → Prop), HD X.K ⟨T, F⟩ Hk H O → SL X.K Hk σ δ → XOK X ⟨T, F⟩ Hk Ex → VAll X.K Hk vs xs → GotS X.K ⟨T, F⟩ Hk k Q → gGs X ts vs σ H Q
end
theorem GotS.mono {K : PySem.W.Frag} {T : TF} {Hk Hk' : Hp} {k : Sl → Oh → Prop} {Q : Stt → Hp → Prop} (h : GotS K T Hk k Q) (s : Kp Hk Hk') : GotS K T Hk' k Q := fun v x O H1 H2 a => h v x O H1 H2 (s.trans a)
theorem GotD.mono {K : PySem.W.Frag} {T : TF} {Hk Hk' : Hp} {D : De} {D0 : Ends} (h : GotD K T Hk D D0) (s : Kp Hk Hk') : GotD K T Hk' D D0 := ⟨h.nx.mono s, h.rt.mono s, h.bk.mono s, h.ct.mono s⟩

section
variable {X : Cx} {T : List (Addr × Str)} {δ : Sl} {O : Oh} {Ex : XD} {k : Val → Oh → Prop} {kb : Bool → Oh → Prop} {ka : List Val → Oh → Prop} {D : De} {pos : Pos} {a b c e : Expr} {es : List Expr} {rest : List Stmt}
/-! ### names, constants -/
theorem we_name (i : Nat) {nm : Str} {x : Val} (hδ : δ[i]? = some (some x)) (hN : X.N[i]? = some nm) (h : k x O) (hv : Vis X.env.scope nm := by first | exact Or.inl rfl | exact Or.inr (Or.inl rfl) | exact Or.inr (Or.inr rfl))
    (hd : (nm == ("__debug__" : Str)) = false := by decide) (hcd : (nm == ("__classdict__" : Str)) = false := by decide) : WE X T (.Name nm pos) δ O Ex k := fun F σ H Hk Q hs hl hx q => by
  obtain ⟨v, e, r⟩ := hl.slot i x hδ
  exact gE_of (pe_var hN hv hd hcd) ⟨v, e, q v x O Hk H (Kp.refl _) hs r h⟩
theorem we_c {t : V} {x : Val} (ht : PE X e (tC t)) (r : ∀ Hk, VAt X.K Hk t x) (h : k x O) : WE X T e δ O Ex k := fun F σ H Hk Q hs hl hx q =>
  gE_of ht (q _ x O Hk H (Kp.refl _) hs (r Hk) h)
theorem we_int {i : Int} {j} (h : k (.dat (.int i)) O) : WE X T (.Constant (.int i) j pos) δ O Ex k := we_c (x := .dat (.int i)) pe_int (fun _ => At.int _) h
theorem we_bool {i : Bool} {j} (h : k (.dat (.bool i)) O) : WE X T (.Constant (.bool i) j pos) δ O Ex k := we_c (x := .dat (.bool i)) pe_bl (fun _ => At.bl _) h
theorem we_none {j} (h : k (.dat .none) O) : WE X T (.Constant .none j pos) δ O Ex k := we_c (x := .dat .none) pe_non (fun _ => At.non) h
theorem we_str {i : Str} {j} (h : k (.dat (.str i)) O) : WE X T (.Constant (.str i) j pos) δ O Ex k := we_c (x := .dat (.str i)) pe_str (fun _ => At.str _) h
/-! ### operators -/
theorem we_bin {op : Operator} (h : WE X T a δ O Ex fun x O1 => WE X T b δ O1 Ex fun y O2 => WO X T (binaryOp op) x y O2 k) : WE X T (.BinOp a op b pos) δ O Ex k := fun F σ H Hk Q hs hl hx q => by
  refine gE_of (pe_op gO_op gE_pe gE_pe) (h F σ H Hk _ hs hl hx fun v x O1 Hk1 H1 k1 hs1 r1 h1 => ?_)
  refine h1 F σ H1 Hk1 _ hs1 (hl.mono k1) (hx.mono k1) fun u y O2 Hk2 H2 k2 hs2 r2 h2 => ?_
  exact h2 F v u H2 Hk2 Q hs2 (r1.mono k2) r2 (q.mono (k1.trans k2))
theorem we_un {op : UnaryOp} (h : WE X T a δ O Ex fun x O1 => WU X T (unaryOp op) x O1 k) : WE X T (.UnaryOp op a pos) δ O Ex k := fun F σ H Hk Q hs hl hx q => by
  refine gE_of (pe_un gU_un gE_pe) (h F σ H Hk _ hs hl hx fun v x O1 Hk1 H1 k1 hs1 r1 h1 => ?_)
  exact h1 F v H1 Hk1 Q hs1 r1 (q.mono k1)
theorem we_cmp {op : CmpOp} (h : WE X T a δ O Ex fun x O1 => WE X T b δ O1 Ex fun y O2 => WO X T (compareOp op) x y O2 k) (hm : behindInMarks op b = false := by first | exact nomark _ | rfl) : WE X T (.Compare a [op] [b] pos) δ O Ex k := fun F σ H Hk Q hs hl hx q => by
  refine gE_of (pe_cmpR gO_op gE_pe gE_pe hm) (h F σ H Hk _ hs hl hx fun v x O1 Hk1 H1 k1 hs1 r1 h1 => ?_)
  refine h1 F σ H1 Hk1 _ hs1 (hl.mono k1) (hx.mono k1) fun u y O2 Hk2 H2 k2 hs2 r2 h2 => ?_
  exact h2 F v u H2 Hk2 Q hs2 (r1.mono k2) r2 (q.mono (k1.trans k2))
theorem wt_cmp {op : CmpOp} (h : WE X T a δ O Ex fun x O1 => WE X T b δ O1 Ex fun y O2 => WO X T (compareOp op) x y O2 fun z O3 => ∃ t, z = .dat (.bool t) ∧ kb t O3) (hm : behindInMarks op b = false := by first | exact nomark _ | rfl) : WT X T (.Compare a [op] [b] pos) δ O Ex kb := fun F σ H Hk Q hs hl hx q => by
  refine gT_of (pt_cmpR gO_op gE_pe gE_pe hm) (h F σ H Hk _ hs hl hx fun v x O1 Hk1 H1 k1 hs1 r1 h1 => ?_)
  refine h1 F σ H1 Hk1 _ hs1 (hl.mono k1) (hx.mono k1) fun u y O2 Hk2 H2 k2 hs2 r2 h2 => ?_
  refine h2 F v u H2 Hk2 _ hs2 (r1.mono k2) r2 fun w z O3 Hk3 H3 k3 hs3 r3 ⟨t, e, h3⟩ => ?_
  subst e
  cases r3
  exact ⟨t, rfl, q t O3 Hk3 H3 (k1.trans (k2.trans k3)) hs3 h3⟩
/-- an expression's value as a test -/
theorem wt_val (h : WE X T e δ O Ex fun z O1 => ∃ t, z = .dat (.bool t) ∧ kb t O1) (he : ∀ whole, isTrue e X.env whole = (do let v ← whole; standAt e.pos; holding [v] (truthy v)) := by intro _; rfl) : WT X T e δ O Ex kb := fun F σ H Hk Q hs hl hx q => by
  refine gT_of (pt_val gE_pe he) (h F σ H Hk _ hs hl hx fun v x O1 Hk1 H1 k1 hs1 r1 ⟨t, e1, h1⟩ => ?_)
  subst e1
  cases r1
  exact ⟨t, rfl, q t O1 Hk1 H1 k1 hs1 h1⟩
theorem wt_not (h : WT X T a δ O Ex fun t O1 => kb (!t) O1) : WT X T (.UnaryOp .Not a pos) δ O Ex kb := fun F σ H Hk Q hs hl hx q => by
  refine gT_of (pt_not gT_pt) (h F σ H Hk _ hs hl hx fun t O1 Hk1 H1 k1 hs1 h1 => ?_)
  exact q _ O1 Hk1 H1 k1 hs1 h1
theorem wt_ww (h : WW X T e δ O Ex kb) : WT X T e δ O Ex kb := fun F σ H Hk Q hs hl hx q => gT_of gW_pw.pt (h F σ H Hk Q hs hl hx q)
theorem ww_and1 (h : WT X T a δ O Ex kb) : WW X T (.BoolOp .And [a] pos) δ O Ex kb := fun F σ H Hk Q hs hl hx q => gW_of (pw_and1 gT_pt) (h F σ H Hk Q hs hl hx q)
theorem ww_or1 (h : WT X T a δ O Ex kb) : WW X T (.BoolOp .Or [a] pos) δ O Ex kb := fun F σ H Hk Q hs hl hx q => gW_of (pw_or1 gT_pt) (h F σ H Hk Q hs hl hx q)
theorem ww_and (h : WT X T a δ O Ex fun t O1 => (t = true → WW X T (.BoolOp .And (b :: es) pos) δ O1 Ex kb) ∧ (t = false → kb false O1)) : WW X T (.BoolOp .And (a :: b :: es) pos) δ O Ex kb := fun F σ H Hk Q hs hl hx q => by
  refine gW_of (pw_and gT_pt gW_pw) (h F σ H Hk _ hs hl hx fun t O1 Hk1 H1 k1 hs1 h1 => ?_)
  cases t with
  | true => exact h1.1 rfl F σ H1 Hk1 Q hs1 (hl.mono k1) (hx.mono k1) (q.mono k1)
  | false => exact q false O1 Hk1 H1 k1 hs1 (h1.2 rfl)
theorem ww_or (h : WT X T a δ O Ex fun t O1 => (t = false → WW X T (.BoolOp .Or (b :: es) pos) δ O1 Ex kb) ∧ (t = true → kb true O1)) : WW X T (.BoolOp .Or (a :: b :: es) pos) δ O Ex kb := fun F σ H Hk Q hs hl hx q => by
  refine gW_of (pw_or gT_pt gW_pw) (h F σ H Hk _ hs hl hx fun t O1 Hk1 H1 k1 hs1 h1 => ?_)
  cases t with
  | false => exact h1.1 rfl F σ H1 Hk1 Q hs1 (hl.mono k1) (hx.mono k1) (q.mono k1)
  | true => exact q true O1 Hk1 H1 k1 hs1 (h1.2 rfl)
/-- and, or, not as values -/
theorem we_one {op} (h : WE X T a δ O Ex k) : WE X T (.BoolOp op [a] pos) δ O Ex k := fun F σ H Hk Q hs hl hx q => gE_of (pe_one gE_pe) (h F σ H Hk Q hs hl hx q)
theorem we_and (h : WE X T a δ O Ex fun z O1 => ∃ t, z = .dat (.bool t) ∧ (t = true → WE X T (.BoolOp .And (b :: es) pos) δ O1 Ex k) ∧ (t = false → k (.dat (.bool false)) O1)) : WE X T (.BoolOp .And (a :: b :: es) pos) δ O Ex k := fun F σ H Hk Q hs hl hx q => by
  refine gE_of (pe_and gE_pe gE_pe) (h F σ H Hk _ hs hl hx fun v x O1 Hk1 H1 k1 hs1 r1 ⟨t, e, h1, h2⟩ => ?_)
  subst e
  cases r1
  refine ⟨t, rfl, ?_⟩
  cases t with
  | true => exact iteT (h1 rfl F σ H1 Hk1 Q hs1 (hl.mono k1) (hx.mono k1) (q.mono k1))
  | false => exact iteF (q _ (.dat (.bool false)) O1 Hk1 H1 k1 hs1 (At.bl _) (h2 rfl))
theorem we_or (h : WE X T a δ O Ex fun z O1 => ∃ t, z = .dat (.bool t) ∧ (t = false → WE X T (.BoolOp .Or (b :: es) pos) δ O1 Ex k) ∧ (t = true → k (.dat (.bool true)) O1)) : WE X T (.BoolOp .Or (a :: b :: es) pos) δ O Ex k := fun F σ H Hk Q hs hl hx q => by
  refine gE_of (pe_or gE_pe gE_pe) (h F σ H Hk _ hs hl hx fun v x O1 Hk1 H1 k1 hs1 r1 ⟨t, e, h1, h2⟩ => ?_)
  subst e
  cases r1
  refine ⟨t, rfl, ?_⟩
  cases t with
  | false => exact iteF (h1 rfl F σ H1 Hk1 Q hs1 (hl.mono k1) (hx.mono k1) (q.mono k1))
  | true => exact iteT (q _ (.dat (.bool true)) O1 Hk1 H1 k1 hs1 (At.bl _) (h2 rfl))
theorem we_not (h : WE X T a δ O Ex fun z O1 => ∃ t, z = .dat (.bool t) ∧ k (.dat (.bool (!t))) O1) : WE X T (.UnaryOp .Not a pos) δ O Ex k := fun F σ H Hk Q hs hl hx q => by
  refine gE_of (pe_not gE_pe) (h F σ H Hk _ hs hl hx fun v x O1 Hk1 H1 k1 hs1 r1 ⟨t, e, h1⟩ => ?_)
  subst e
  cases r1
  exact ⟨t, rfl, q _ (.dat (.bool (!t))) O1 Hk1 H1 k1 hs1 (At.bl _) h1⟩
theorem we_ifexp (h : WT X T c δ O Ex fun t O1 => (t = true → WE X T a δ O1 Ex k) ∧ (t = false → WE X T b δ O1 Ex k)) : WE X T (.IfExp c a b pos) δ O Ex k := fun F σ H Hk Q hs hl hx q => by
  refine gE_of (pe_ifExp gT_pt gE_pe gE_pe) (h F σ H Hk _ hs hl hx fun t O1 Hk1 H1 k1 hs1 h1 => ?_)
  cases t with
  | true => exact iteT (h1.1 rfl F σ H1 Hk1 Q hs1 (hl.mono k1) (hx.mono k1) (q.mono k1))
  | false => exact iteF (h1.2 rfl F σ H1 Hk1 Q hs1 (hl.mono k1) (hx.mono k1) (q.mono k1))
/-! ### arguments, displays -/
theorem wa_nil (h : ka [] O) : WA X T [] δ O Ex ka := fun F σ H Hk Q hs hl hx q => gA_of pa_nil (q [] [] O Hk H (Kp.refl _) hs .nil h)
theorem wa_cons (h : WE X T e δ O Ex fun x O1 => WA X T es δ O1 Ex fun xs O2 => ka (x :: xs) O2) (hs0 : starEach (e :: es) X.env = (false, eval e X.env) :: starEach es X.env := by rfl) : WA X T (e :: es) δ O Ex ka := fun F σ H Hk Q hs hl hx q => by
  refine gA_of (pa_cons gE_pe gA_pa hs0) (h F σ H Hk _ hs hl hx fun v x O1 Hk1 H1 k1 hs1 r1 h1 => ?_)
  exact h1 F σ H1 Hk1 _ hs1 (hl.mono k1) (hx.mono k1) fun vs xs O2 Hk2 H2 k2 hs2 r2 h2 => q (v :: vs) (x :: xs) O2 Hk2 H2 (k1.trans k2) hs2 (.cons (r1.mono k2) r2) h2
end
end DL
set_option maxHeartbeats 2000000
/-! Part C: operations on values. -/
namespace DL
open PySem PySem.Spec PyProof.Rows L2
/-- a context of a body: no exception is handled there, no name twice, room for k calls -/
structure Cok (X : Cx) (k : Nat) : Prop where
  calm : X.calm = true
  nd : X.N.Nodup
  room : Room k X.A
  gd : X.A.guards = some []
theorem Cok.mono {X : Cx} {j k : Nat} (c : Cok X k) (h : j ≤ k) : Cok X j := ⟨c.calm, c.nd, c.room.mono h, c.gd⟩
theorem Cok.blk {X : Cx} {k : Nat} (c : Cok X k) (s : Shared) (H : Hp) (scope : Scope) (cenv : Env) (fp : List Addr) : Cok (X.blk s H scope cenv fp) k := ⟨c.calm, c.nd, c.room, c.gd⟩

/-! ### data and the heap's reading -/
section
variable {X : Cx} {pins : List (Addr × Obj)} {σ : Stt} {H : Hp} {s : Shared}
mutual
theorem At.dp {K : PySem.W.Frag} {H : Hp} : ∀ {d : PyData} {v : V}, d.plain = true → At K H v d → Dp K H v d
  | _, _, _, .non => .non
  | _, _, _, .bl b => .bl b
  | _, _, _, .int i => .int i
  | _, _, _, .str x => .str x
  | _, _, p, .lst h _ r => .lst h (AtAll.dp (by simpa only [PyData.plain] using p) r)
  | _, _, p, .tup h _ r => .tup h (AtAll.dp (by simpa only [PyData.plain] using p) r)
  | _, _, p, .dK _ _ _ _ => by simp [PyData.plain] at p
  | _, _, p, .dT _ _ _ _ => by simp [PyData.plain] at p
theorem AtAll.dp {K : PySem.W.Frag} {H : Hp} : ∀ {d : List PyData} {v : List V}, PyData.plainAll d = true → AtAll K H v d → DpAll K H v d
  | _, _, _, .nil => .nil
  | _, _, p, .cons h r => by
    have p' := Bool.and_eq_true_iff.mp (by simpa only [PyData.plainAll] using p)
    exact .cons (At.dp p'.1 h) (AtAll.dp p'.2 r)
end
theorem At.reads (I : Inv X pins σ H s) {d : PyData} {v : V} {u : Value} (p : d.plain = true) (h : At X.K H v d) (r : RelV v u) : ∃ as, Reads s.heap u d as := Dp.reads I d v u (h.dp p) r
end
theorem AtAll.length {K : PySem.W.Frag} {H : Hp} : ∀ {vs : List V} {ds : List PyData}, AtAll K H vs ds → vs.length = ds.length
  | _, _, .nil => rfl
  | _, _, .cons _ r => by rw [List.length_cons, List.length_cons, r.length]
theorem AtAll.vall {K : PySem.W.Frag} {H : Hp} : ∀ {vs : List V} {ds : List PyData}, AtAll K H vs ds → VAll K H vs (ds.map .dat)
  | _, _, .nil => .nil
  | _, _, .cons h r => .cons h r.vall
theorem VAll.atall {K : PySem.W.Frag} {H : Hp} : ∀ {ds : List PyData} {vs : List V}, VAll K H vs (ds.map .dat) → AtAll K H vs ds
  | [], _, h => by cases h; exact .nil
  | d :: ds, _, h => by
    cases h with
    | cons a r => exact .cons a (VAll.atall r)
theorem VAll.length {K : PySem.W.Frag} {H : Hp} {vs : List V} {xs : List Val} (h : VAll K H vs xs) : vs.length = xs.length := Paired.length h
theorem VAll.get {K : PySem.W.Frag} {H : Hp} : ∀ {vs : List V} {xs : List Val}, VAll K H vs xs → ∀ (i : Nat) (v : V), vs[i]? = some v → ∃ x, xs[i]? = some x ∧ VAt K H v x
  | _, _, .nil, i, v, e => by simp at e
  | _, _, .cons a r, 0, v, e => by
    simp at e
    subst e
    exact ⟨_, rfl, a⟩
  | _, _, .cons a r, i + 1, v, e => by
    simp at e
    obtain ⟨x, q, z⟩ := VAll.get r i v e
    exact ⟨x, by simpa using q, z⟩
theorem VAll.get' {K : PySem.W.Frag} {H : Hp} {vs : List V} {xs : List Val} (h : VAll K H vs xs) (i : Nat) (x : Val) (e : xs[i]? = some x) : ∃ v, vs[i]? = some v ∧ VAt K H v x := by
  have hl := h.length
  have hi : i < vs.length := by
    have := (List.getElem?_eq_some_iff.mp e).1
    omega
  obtain ⟨y, q, z⟩ := h.get i vs[i] (List.getElem?_eq_getElem hi)
  rw [e] at q
  cases q
  exact ⟨_, List.getElem?_eq_getElem hi, z⟩
theorem VAll.append {K : PySem.W.Frag} {H : Hp} : ∀ {vs ws : List V} {xs ys : List Val}, VAll K H vs xs → VAll K H ws ys → VAll K H (vs ++ ws) (xs ++ ys)
  | _, _, _, _, .nil, h => h
  | _, _, _, _, .cons a r, h => .cons a (VAll.append r h)
theorem VAll.one {K : PySem.W.Frag} {H : Hp} {v : V} {x : Val} (h : VAt K H v x) : VAll K H [v] [x] := .cons h .nil

/-- the items of a list or tuple: data, or a list that changes -/
def SeqV (O : Oh) : Val → List Val → Prop
  | .dat (.list ds), xs => xs = ds.map .dat
  | .dat (.tuple ds), xs => xs = ds.map .dat
  | .raw (.ref p), xs => O p = some (.lst xs)
  | _, _ => False
theorem SeqV.at {K : PySem.W.Frag} {t : TF} {Hk H : Hp} {O : Oh} {x : Val} {xs : List Val} {a : V} (s : SeqV O x xs) (hd : HD K t Hk H O) (h : VAt K Hk a x) : ∃ p vs, a = .ref p ∧ (SqL K H p vs ∨ SqT K H p vs) ∧ VAll K Hk vs xs := by
  cases x with
  | dat d =>
    cases d with
    | list ds =>
      cases h with
      | lst hs _ r => exact ⟨_, _, rfl, .inl (hd.sub.sqL hs), by rw [s]; exact r.vall⟩
    | tuple ds =>
      cases h with
      | tup hs _ r => exact ⟨_, _, rfl, .inr (hd.sub.sqT hs), by rw [s]; exact r.vall⟩
    | _ => exact s.elim
  | raw v =>
    cases v with
    | ref p =>
      obtain rfl : a = .ref p := h
      obtain ⟨_, vs, e, r⟩ := hd.obj p _ s
      exact ⟨p, vs, rfl, .inl (.of e), r⟩
    | _ => exact s.elim
/-- a list only -/
def LstV (O : Oh) : Val → List Val → Prop
  | .dat (.list ds), xs => xs = ds.map .dat
  | .raw (.ref p), xs => O p = some (.lst xs)
  | _, _ => False
theorem LstV.seq {O : Oh} {x : Val} {xs : List Val} (h : LstV O x xs) : SeqV O x xs := by
  cases x with
  | dat d => cases d <;> first | exact h | exact h.elim
  | raw v => cases v <;> first | exact h | exact h.elim
theorem LstV.at {K : PySem.W.Frag} {t : TF} {Hk H : Hp} {O : Oh} {x : Val} {xs : List Val} {a : V} (s : LstV O x xs) (hd : HD K t Hk H O) (h : VAt K Hk a x) : ∃ p vs, a = .ref p ∧ SqL K H p vs ∧ VAll K Hk vs xs := by
  cases x with
  | dat d =>
    cases d with
    | list ds =>
      cases h with
      | lst hs _ r => exact ⟨_, _, rfl, hd.sub.sqL hs, by rw [s]; exact r.vall⟩
    | _ => exact s.elim
  | raw v =>
    cases v with
    | ref p =>
      obtain rfl : a = .ref p := h
      obtain ⟨_, vs, e, r⟩ := hd.obj p _ s
      exact ⟨p, vs, rfl, .of e, r⟩
    | _ => exact s.elim
/-- data as it can be read now: data, or a list that changes of data -/
def DatV (O : Oh) : Val → PyData → Prop
  | .dat d, e => d = e
  | .raw (.ref p), e => ∃ ds, O p = some (.lst (ds.map .dat)) ∧ e = .list ds
  | _, _ => False
theorem DatV.dp {K : PySem.W.Frag} {t : TF} {Hk H : Hp} {O : Oh} {x : Val} {d : PyData} {a : V} (s : DatV O x d) (pl : d.plain = true) (hd : HD K t Hk H O) (h : VAt K Hk a x) : Dp K H a d := by
  cases x with
  | dat e =>
    obtain rfl : e = d := s
    exact (At.mono hd.sub h).dp pl
  | raw v =>
    cases v with
    | ref p =>
      obtain rfl : a = .ref p := h
      obtain ⟨ds, e, rfl⟩ := s
      obtain ⟨_, vs, e, r⟩ := hd.obj p _ e
      exact .lst (.of e) (AtAll.dp (by simpa only [PyData.plain] using pl) (AtAll.mono hd.sub r.atall))
    | _ => exact s.elim

section
variable {X : Cx} {T : List (Addr × Str)} {O : Oh} {k : Val → Oh → Prop} {x y : Val} {kk : Nat}
/-! ### operators by their rules -/
theorem wo_int {f : Value → Value → Sem Value} {C : Int → Int → Prop} {g : Int → Int → Int} {i j : Int} (h : OpR X f (rI C fun i j => .int (g i j))) (hc : C i j) (q : k (.dat (.int (g i j))) O) : WO X T f (.dat (.int i)) (.dat (.int j)) O k := fun F a b H Hk Q hs ra rb got => by
  cases ra
  cases rb
  exact gO_of h ⟨i, j, rfl, rfl, hc, got _ (.dat (.int (g i j))) O Hk H (Kp.refl _) hs (At.int _) q⟩
theorem wo_int0 {f : Value → Value → Sem Value} {g : Int → Int → Int} {i j : Int} (h : OpR X f (rI0 fun i j => .int (g i j))) (q : k (.dat (.int (g i j))) O) : WO X T f (.dat (.int i)) (.dat (.int j)) O k := fun F a b H Hk Q hs ra rb got => by
  cases ra
  cases rb
  exact gO_of h ⟨i, j, rfl, rfl, got _ (.dat (.int (g i j))) O Hk H (Kp.refl _) hs (At.int _) q⟩
theorem wo_intB {f : Value → Value → Sem Value} {g : Int → Int → Bool} {i j : Int} (h : OpR X f (rI0 fun i j => .bl (g i j))) (q : k (.dat (.bool (g i j))) O) : WO X T f (.dat (.int i)) (.dat (.int j)) O k := fun F a b H Hk Q hs ra rb got => by
  cases ra
  cases rb
  exact gO_of h ⟨i, j, rfl, rfl, got _ (.dat (.bool (g i j))) O Hk H (Kp.refl _) hs (At.bl _) q⟩
theorem wo_add {i j : Int} (q : k (.dat (.int (i + j))) O) : WO X T (binaryOp .Add) (.dat (.int i)) (.dat (.int j)) O k := wo_int0 op_add q
theorem wo_sub {i j : Int} (q : k (.dat (.int (i - j))) O) : WO X T (binaryOp .Sub) (.dat (.int i)) (.dat (.int j)) O k := wo_int0 op_sub q
theorem wo_mul {i j : Int} (hc : CMul i j) (q : k (.dat (.int (i * j))) O) : WO X T (binaryOp .Mult) (.dat (.int i)) (.dat (.int j)) O k := wo_int op_mul hc q
theorem wo_div {i j : Int} (hc : CDiv i j) (q : k (.dat (.int (i / j))) O) : WO X T (binaryOp .FloorDiv) (.dat (.int i)) (.dat (.int j)) O k := wo_int op_fdiv hc q
theorem wo_mod {i j : Int} (hc : 0 < j) (q : k (.dat (.int (i % j))) O) : WO X T (binaryOp .Mod) (.dat (.int i)) (.dat (.int j)) O k := wo_int op_mod hc q
theorem wo_pow {i j : Int} (hc : CPow i j) (q : k (.dat (.int (i ^ j.toNat))) O) : WO X T (binaryOp .Pow) (.dat (.int i)) (.dat (.int j)) O k := wo_int op_pow hc q
theorem wo_lt {i j : Int} (q : k (.dat (.bool (decide (i < j)))) O) : WO X T (compareOp .Lt) (.dat (.int i)) (.dat (.int j)) O k := wo_intB op_lt q
theorem wo_le {i j : Int} (q : k (.dat (.bool (decide (i ≤ j)))) O) : WO X T (compareOp .LtE) (.dat (.int i)) (.dat (.int j)) O k := wo_intB op_le q
theorem wo_gt {i j : Int} (q : k (.dat (.bool (decide (j < i)))) O) : WO X T (compareOp .Gt) (.dat (.int i)) (.dat (.int j)) O k := wo_intB op_gt q
theorem wo_ge {i j : Int} (q : k (.dat (.bool (decide (j ≤ i)))) O) : WO X T (compareOp .GtE) (.dat (.int i)) (.dat (.int j)) O k := wo_intB op_ge q
theorem wo_ltS {i j : Str} (q : k (.dat (.bool (decide (i.cps.toList < j.cps.toList)))) O) : WO X T (compareOp .Lt) (.dat (.str i)) (.dat (.str j)) O k := fun F a b H Hk Q hs ra rb got => by
  cases ra
  cases rb
  exact gO_of op_lt_str ⟨i, j, rfl, rfl, got _ (.dat (.bool _)) O Hk H (Kp.refl _) hs (At.bl _) q⟩
theorem wo_addS {i j : Str} (hz : i.length + j.length ≤ sizeLine) (q : k (.dat (.str (i ++ j))) O) : WO X T (binaryOp .Add) (.dat (.str i)) (.dat (.str j)) O k := fun F a b H Hk Q hs ra rb got => by
  cases ra
  cases rb
  exact gO_of op_add_str ⟨i, j, rfl, rfl, hz, got _ (.dat (.str _)) O Hk H (Kp.refl _) hs (At.str _) q⟩
/-- is None, is not None -/
def isN : Val → Bool
  | .dat .none => true
  | .raw .non => true
  | _ => false
theorem isN_at {K : PySem.W.Frag} {Hk : Hp} {u : V} (h : VAt K Hk u x) : decide (u = V.non) = isN x := by
  cases x with
  | dat d =>
    have h' : At K Hk u d := h
    cases h' <;> simp [isN]
  | raw w =>
    obtain rfl : u = w := h
    cases u <;> simp [isN]
theorem wo_isN (q : k (.dat (.bool (isN x))) O) : WO X T (compareOp .Is) x (.dat .none) O k := fun F u v H Hk Q hs ra rb got => by
  cases rb
  refine gO_of op_isN ⟨rfl, ?_⟩
  rw [isN_at ra]
  exact got _ (.dat (.bool (isN x))) O Hk H (Kp.refl _) hs (At.bl _) q
theorem wo_notN (q : k (.dat (.bool (!isN x))) O) : WO X T (compareOp .IsNot) x (.dat .none) O k := fun F u v H Hk Q hs ra rb got => by
  cases rb
  refine gO_of op_notN ⟨rfl, ?_⟩
  rw [isN_at ra]
  exact got _ (.dat (.bool (!isN x))) O Hk H (Kp.refl _) hs (At.bl _) q
/-- == and != of plain data of any depth -/
theorem wo_eq (c : Cok X kk) {d e : PyData} (hx : DatV O x d) (hy : DatV O y e) (pd : d.plain = true) (pe : e.plain = true) (hz : min d.depth e.depth ≤ 60) (q : k (.dat (.bool (PyData.eqv d e))) O) : WO X T (compareOp .Eq) x y O k := fun F a b H Hk Q hs ra rb got => by
  have da := hx.dp pd hs ra
  have db := hy.dp pe hs rb
  intro pins s σ v u I r1 r2
  obtain ⟨as, h1⟩ := Dp.reads I d a v da r1
  obtain ⟨bs, h2⟩ := Dp.reads I e b u db r2
  exact PySem.SeqAt.eq_plain h1 h2 pd pe (by have := c.room.units; omega) ⟨.bl _, H, I, rfl, got _ (.dat (.bool _)) O Hk H (Kp.refl _) hs (At.bl _) q⟩
theorem wo_ne (c : Cok X kk) {d e : PyData} (hx : DatV O x d) (hy : DatV O y e) (pd : d.plain = true) (pe : e.plain = true) (hz : min d.depth e.depth ≤ 60) (q : k (.dat (.bool (!PyData.eqv d e))) O) : WO X T (compareOp .NotEq) x y O k := fun F a b H Hk Q hs ra rb got => by
  have da := hx.dp pd hs ra
  have db := hy.dp pe hs rb
  intro pins s σ v u I r1 r2
  obtain ⟨as, h1⟩ := Dp.reads I d a v da r1
  obtain ⟨bs, h2⟩ := Dp.reads I e b u db r2
  exact PySem.SeqAt.ne_plain h1 h2 pd pe (by have := c.room.units; omega) ⟨.bl _, H, I, rfl, got _ (.dat (.bool _)) O Hk H (Kp.refl _) hs (At.bl _) q⟩
/-- in, not in, of a list or tuple of plain data -/
def SeqD (O : Oh) : Val → List PyData → Prop
  | .dat (.list ds), xs => xs = ds
  | .dat (.tuple ds), xs => xs = ds
  | .raw (.ref p), xs => O p = some (.lst (xs.map .dat))
  | _, _ => False
theorem SeqD.dp {K : PySem.W.Frag} {t : TF} {Hk H : Hp} {O : Oh} {x : Val} {ds : List PyData} {a : V} (s : SeqD O x ds) (pl : PyData.plainAll ds = true) (hd : HD K t Hk H O) (h : VAt K Hk a x) : Dp K H a (.list ds) ∨ Dp K H a (.tuple ds) := by
  cases x with
  | dat d =>
    cases d with
    | list es =>
      obtain rfl : ds = es := s
      exact .inl ((At.mono hd.sub h).dp (by simpa only [PyData.plain] using pl))
    | tuple es =>
      obtain rfl : ds = es := s
      exact .inr ((At.mono hd.sub h).dp (by simpa only [PyData.plain] using pl))
    | _ => exact s.elim
  | raw v =>
    cases v with
    | ref p =>
      exact .inl (DatV.dp (x := .raw (.ref p)) (d := .list ds) ⟨ds, s, rfl⟩ (by simpa only [PyData.plain] using pl) hd h)
    | _ => exact s.elim
theorem wo_in (c : Cok X kk) {d : PyData} {ds : List PyData} (hx : DatV O x d) (hy : SeqD O y ds) (pd : d.plain = true) (pe : PyData.plainAll ds = true) (hz : min (PyData.depthAll ds) d.depth ≤ 60) (q : k (.dat (.bool (ds.any fun e => PyData.eqv e d))) O) :
    WO X T (compareOp .In) x y O k := fun F a b H Hk Q hs ra rb got => by
  have da := hx.dp pd hs ra
  have db := hy.dp pe hs rb
  intro pins s σ v u I r1 r2
  obtain ⟨as, h1⟩ := Dp.reads I d a v da r1
  have fin : EP X pins σ Q (.bool (ds.any fun e => PyData.eqv e d)) s := ⟨.bl _, H, I, rfl, got _ (.dat (.bool _)) O Hk H (Kp.refl _) hs (At.bl _) q⟩
  have hu := c.room.units
  rcases db with db | db
  · obtain ⟨bs, h2⟩ := Dp.reads I _ b u db r2
    exact PySem.SeqAt.in_list_data h2 h1 pe pd (by omega) fin
  · obtain ⟨bs, h2⟩ := Dp.reads I _ b u db r2
    exact PySem.SeqAt.in_tuple_data h2 h1 pe pd (by omega) fin
theorem wo_notIn (c : Cok X kk) {d : PyData} {ds : List PyData} (hx : DatV O x d) (hy : SeqD O y ds) (pd : d.plain = true) (pe : PyData.plainAll ds = true) (hz : min (PyData.depthAll ds) d.depth ≤ 60) (q : k (.dat (.bool (!ds.any fun e => PyData.eqv e d))) O) :
    WO X T (compareOp .NotIn) x y O k := fun F a b H Hk Q hs ra rb got => by
  have da := hx.dp pd hs ra
  have db := hy.dp pe hs rb
  intro pins s σ v u I r1 r2
  obtain ⟨as, h1⟩ := Dp.reads I d a v da r1
  have fin : EP X pins σ Q (.bool (!ds.any fun e => PyData.eqv e d)) s := ⟨.bl _, H, I, rfl, got _ (.dat (.bool _)) O Hk H (Kp.refl _) hs (At.bl _) q⟩
  have hu := c.room.units
  rcases db with db | db
  · obtain ⟨bs, h2⟩ := Dp.reads I _ b u db r2
    exact PySem.SeqAt.notIn_list_data h2 h1 pe pd (by omega) fin
  · obtain ⟨bs, h2⟩ := Dp.reads I _ b u db r2
    exact PySem.SeqAt.notIn_tuple_data h2 h1 pe pd (by omega) fin
end

section
variable {X : Cx} {T : List (Addr × Str)} {δ : Sl} {O : Oh} {Ex : XD} {k : Val → Oh → Prop} {pos : Pos} {a b e : Expr} {es : List Expr} {kk : Nat}
/-! ### displays -/
def undat : List Val → Option (List PyData)
  | [] => some []
  | .dat d :: r => match undat r with
    | some ds => some (d :: ds)
    | none => none
  | .raw _ :: _ => none
theorem undat_eq : ∀ {xs : List Val} {ds : List PyData}, undat xs = some ds → xs = ds.map .dat
  | [], _, h => by cases h; rfl
  | .dat d :: r, _, h => by
    unfold undat at h
    cases e : undat r with
    | none => rw [e] at h; cases h
    | some es =>
      rw [e] at h
      cases h
      rw [undat_eq e]
      rfl
  | .raw _ :: _, _, h => by cases h
theorem lim_size {n : Nat} (h : n ≤ lim) : n ≤ sizeLine := Nat.le_trans h (by decide)
theorem lim_lt {n : Nat} (h : n ≤ lim) : n < sizeLine := Nat.lt_of_le_of_lt h (by decide)
theorem we_tup {x1} (h : WA X T es δ O Ex fun xs O1 => ∃ ds, undat xs = some ds ∧ ds.length ≤ lim ∧ k (.dat (.tuple ds)) O1) : WE X T (.Tuple es x1 pos) δ O Ex k := fun F σ H Hk Q hs hl hx q => by
  refine gE_of (pe_tup gA_pa) (h F σ H Hk _ hs hl hx fun vs xs O1 Hk1 H1 k1 hs1 r1 ⟨ds, e, hz, h1⟩ => ?_)
  rw [undat_eq e] at r1
  have hz' : vs.length ≤ lim := by rw [r1.length, List.length_map]; exact hz
  refine ⟨lim_size hz', fun p hp => ?_⟩
  have k2 : Kp Hk1 (upd Hk1 p (.tup vs)) := Kp.upd (hs1.dom p hp)
  exact q (.ref p) (.dat (.tuple ds)) O1 _ _ (k1.trans k2) (hs1.newK hp) (At.tup (.of upd_same) hz' (AtAll.mono k2 r1.atall)) h1
/-- a list that is data -/
theorem we_lst (h : WA X T es δ O Ex fun xs O1 => ∃ ds, undat xs = some ds ∧ ds.length ≤ lim ∧ k (.dat (.list ds)) O1) : WE X T (.List es pos) δ O Ex k := fun F σ H Hk Q hs hl hx q => by
  refine gE_of (pe_lst gA_pa) (h F σ H Hk _ hs hl hx fun vs xs O1 Hk1 H1 k1 hs1 r1 ⟨ds, e, hz, h1⟩ => ?_)
  rw [undat_eq e] at r1
  have hz' : vs.length ≤ lim := by rw [r1.length, List.length_map]; exact hz
  refine ⟨lim_size hz', fun p hp => ?_⟩
  have k2 : Kp Hk1 (upd Hk1 p (.lst vs)) := Kp.upd (hs1.dom p hp)
  exact q (.ref p) (.dat (.list ds)) O1 _ _ (k1.trans k2) (hs1.newK hp) (At.lst (.of upd_same) hz' (AtAll.mono k2 r1.atall)) h1
/-- a list that changes -/
theorem we_lstO (h : WA X T es δ O Ex fun xs O1 => xs.length ≤ lim ∧ ∀ p, O1 p = none → k (.raw (.ref p)) (oset O1 p (.lst xs))) : WE X T (.List es pos) δ O Ex k := fun F σ H Hk Q hs hl hx q => by
  refine gE_of (pe_lst gA_pa) (h F σ H Hk _ hs hl hx fun vs xs O1 Hk1 H1 k1 hs1 r1 ⟨hz, h1⟩ => ?_)
  have hz' : vs.length ≤ lim := by rw [r1.length]; exact hz
  refine ⟨lim_size hz', fun p hp => ?_⟩
  exact q (.ref p) (.raw (.ref p)) _ _ _ k1 (hs1.newO (o := .lst vs) (oo := .lst xs) hp ⟨vs, upd_same, r1⟩) rfl (h1 p (hs1.fresh hp))
/-- {} that changes -/
theorem we_dictO (h : ∀ p, O p = none → k (.raw (.ref p)) (oset O p (.dct []))) : WE X T (.Dict [] [] pos) δ O Ex k := fun F σ H Hk Q hs hl hx q => by
  refine gE_of pe_dnewK fun p hp => ?_
  exact q (.ref p) (.raw (.ref p)) _ _ _ (Kp.refl _) (hs.newO (o := .dK []) (oo := .dct []) hp ⟨[], upd_same, .nil⟩) rfl (h p (hs.fresh hp))
theorem we_dictOT (h : ∀ p, O p = none → k (.raw (.ref p)) (oset O p (.dcT []))) : WE X T (.Dict [] [] pos) δ O Ex k := fun F σ H Hk Q hs hl hx q => by
  refine gE_of pe_dnewT fun p hp => ?_
  exact q (.ref p) (.raw (.ref p)) _ _ _ (Kp.refl _) (hs.newO (o := .dT []) (oo := .dcT []) hp ⟨[], upd_same, .nil⟩) rfl (h p (hs.fresh hp))

/-! ### subscripts by an int -/
def WIx (X : Cx) (T : List (Addr × Str)) (x y : Val) (O : Oh) (k : Val → Oh → Prop) : Prop := ∀ (F : Oh) (a b : V) (H Hk : Hp) (Q : VK), HD X.K ⟨T, F⟩ Hk H O → VAt X.K Hk a x → VAt X.K Hk b y → Got X.K ⟨T, F⟩ Hk k Q → rIx X.K a b H Q
theorem we_ix (h : WE X T a δ O Ex fun x O1 => WE X T b δ O1 Ex fun y O2 => WIx X T x y O2 k) (hs0 : PlainIx b := by exact fun _ _ => rfl) : WE X T (.Subscript a b pos) δ O Ex k := fun F σ H Hk Q hs hl hx q => by
  refine gE_of (pe_ix (ix_list.or (ix_tup.or ix_str)) gE_pe gE_pe hs0) (h F σ H Hk _ hs hl hx fun v x O1 Hk1 H1 k1 hs1 r1 h1 => ?_)
  refine h1 F σ H1 Hk1 _ hs1 (hl.mono k1) (hx.mono k1) fun u y O2 Hk2 H2 k2 hs2 r2 h2 => ?_
  exact h2 F v u H2 Hk2 Q hs2 (r1.mono k2) r2 (q.mono (k1.trans k2))
theorem atI_get {α β : Type} {F : α → β → Prop} {xs : List α} {ys : List β} (hl : xs.length = ys.length) (hg : ∀ (i : Nat) (y : β), ys[i]? = some y → ∃ x, xs[i]? = some x ∧ F x y) {i : Int} {y : β} (e : atI ys i = some y) : ∃ x, atI xs i = some x ∧ F x y := by
  unfold atI at e ⊢
  rw [hl]
  cases h : ixN ys.length i with
  | none => rw [h] at e; cases e
  | some j =>
    rw [h] at e
    exact hg j y e
theorem wix_seq {x : Val} {xs : List Val} {i : Int} {z : Val} (s : SeqV O x xs) (e : atI xs i = some z) (q : k z O) : WIx X T x (.dat (.int i)) O k := fun F a b H Hk Q hs ra rb got => by
  obtain ⟨p, vs, rfl, hq, r⟩ := s.at hs ra
  cases rb
  obtain ⟨v, ev, rv⟩ := atI_get r.length (fun i y e => r.get' i y e) e
  have fin := got v z O Hk H (Kp.refl _) hs rv q
  rcases hq with hq | hq
  · exact .inl ⟨p, vs, i, v, rfl, rfl, hq, ev, fin⟩
  · exact .inr (.inl ⟨p, vs, i, v, rfl, rfl, hq, ev, fin⟩)
theorem wix_str {z : Str} {i : Int} {c : Nat} (hz : z.length ≤ sizeLine) (e : atI z.cps.toList i = some c) (q : k (.dat (.str ⟨#[c]⟩)) O) : WIx X T (.dat (.str z)) (.dat (.int i)) O k := fun F a b H Hk Q hs ra rb got => by
  cases ra
  cases rb
  exact .inr (.inr ⟨z, i, c, rfl, rfl, hz, e, got _ (.dat (.str ⟨#[c]⟩)) O Hk H (Kp.refl _) hs (At.str _) q⟩)
end
end DL
set_option maxHeartbeats 2000000
/-! Part D: targets, statements, loops, comprehensions. -/
namespace DL
open PySem PySem.Spec PyProof.Rows L2
section
variable {X : Cx} {tg : Expr} {ts : List Expr}
theorem gG_pg : PG X tg (gG X tg) := ⟨fun pins s _ _ _ u _ I r h => h pins s u I r⟩
theorem gGs_pgs : PGs X ts (gGs X ts) := ⟨fun pins s _ _ _ us _ I r h => h pins s us I r⟩
theorem gG_of {g : TG} {a : V} {σ : Stt} {H : Hp} {Q : Stt → Hp → Prop} (h : PG X tg g) (q : g a σ H Q) : gG X tg a σ H Q := fun pins s u I r => h.run pins s σ H a u Q I r q
theorem gGs_of {g : TGs} {vs : List V} {σ : Stt} {H : Hp} {Q : Stt → Hp → Prop} (h : PGs X ts g) (q : g vs σ H Q) : gGs X ts vs σ H Q := fun pins s us I r => h.run pins s σ H vs us Q I r q
end
section
variable {X : Cx} {T : List (Addr × Str)} {δ : Sl} {O : Oh} {Ex : XD} {k : Val → Oh → Prop} {ks : Sl → Oh → Prop} {D : De} {pos : Pos} {a b c e o tg : Expr} {es ts : List Expr} {st : Stmt} {rest body els : List Stmt} {kk : Nat} {x : Val} {xs : List Val}
/-! ### targets -/
theorem wg_name (i : Nat) {nm : Str} (cc : Cok X kk) (hi : X.N[i]? = some nm) (h : ks (δ.set i (some x)) O) (hx : Loc X.env.scope nm := by first | exact .inl rfl | exact .inr rfl) (hf : X.fn nm = true ∨ X.env.scope.names.lookup nm = some .local := by first | exact .inl rfl | exact .inr rfl | assumption) :
    WG X T (.Name nm pos) x δ O Ex ks := fun F v σ H Hk Q hs hl hx' r q => gG_of (pg_name cc.nd hi hx hf) (q _ _ O Hk H (Kp.refl _) hs (hl.set r) h)
theorem wgs_nil (h : ks δ O) : WGs X T [] [] δ O Ex ks := fun F vs σ H Hk Q hs hl hx r q => by
  cases r
  exact gGs_of pgs_nil ⟨rfl, q _ _ O Hk H (Kp.refl _) hs hl h⟩
theorem wgs_cons (h : WG X T e x δ O Ex fun δ1 O1 => WGs X T es xs δ1 O1 Ex ks) (hs0 : (assignEach (e :: es) X.env).map (·.2) = assign e X.env :: (assignEach es X.env).map (·.2) := by rfl) : WGs X T (e :: es) (x :: xs) δ O Ex ks := fun F vs σ H Hk Q hs hl hx r q => by
  cases r with
  | @cons v _ vs' _ r1 r2 =>
    refine gGs_of (pgs_cons gG_pg gGs_pgs hs0) ⟨v, vs', rfl, h F v σ H Hk _ hs hl hx r1 fun σ1 δ1 O1 Hk1 H1 k1 hs1 hl1 h1 => ?_⟩
    exact h1 F vs' σ1 H1 Hk1 Q hs1 hl1 (hx.mono k1) (VAll.mono k1 r2) (q.mono k1)
theorem wg_tup {n : Nat} {ds : List PyData} (cc : Cok X kk) (h : WGs X T es (ds.map .dat) δ O Ex ks) (hl' : ds.length = n) (hn : (assignEach es X.env).length = n := by rfl) (hst : (assignEach es X.env).findIdx? (·.1) = none := by rfl) {kt} :
    WG X T (.Tuple es kt pos) (.dat (.tuple ds)) δ O Ex ks := fun F v σ H Hk Q hs hl hx r q => by
  have r' : At X.K Hk v (.tuple ds) := r
  cases r' with
  | @tup p vs _ hq _ r2 =>
    refine gG_of (pg_tup cc.calm gGs_pgs hn hst) ⟨p, vs, rfl, hs.sub.sqT hq, by rw [r2.length]; exact hl', ?_⟩
    exact h F vs σ H Hk Q hs hl hx r2.vall q

/-! ### statements -/
theorem wss_nil (h : D.nx δ O) : WSs X T [] δ O Ex D := fun F σ H Hk D0 hs hl hx q => gSs_of pss_nil (q.nx _ _ O Hk H (Kp.refl _) hs hl h)
theorem wss_cons (h : WS X T st δ O Ex { D with nx := fun δ1 O1 => WSs X T rest δ1 O1 Ex D }) : WSs X T (st :: rest) δ O Ex D := fun F σ H Hk D0 hs hl hx q => by
  refine gSs_of (pss_cons gS_ps gSs_pss) (h F σ H Hk { D0 with nx := fun σ1 H1 => gSs X rest D0 σ1 H1 } hs hl hx ⟨fun σ1 δ1 O1 Hk1 H1 k1 hs1 hl1 h1 => ?_, q.rt, q.bk, q.ct⟩)
  exact h1 F σ1 H1 Hk1 D0 hs1 hl1 (hx.mono k1) (q.mono k1)
theorem ws_asg (h : WE X T e δ O Ex fun x O1 => WG X T tg x δ O1 Ex D.nx) (hs0 : swapsWithSole [tg] e pos.line X.env = pure false := by rfl) (hw : swappedStores [tg] e X.env = pure none := by rfl) (h1 : (assignEach [tg] X.env).map (·.2) = [assign tg X.env] := by rfl) :
    WS X T (.Assign [tg] e pos) δ O Ex D := fun F σ H Hk D0 hs hl hx q => by
  refine gS_of (ps_asg gE_pe gG_pg hs0 hw h1) (h F σ H Hk _ hs hl hx fun v x O1 Hk1 H1 k1 hs1 r1 h2 => ?_)
  exact h2 F v σ H1 Hk1 _ hs1 (hl.mono k1) (hx.mono k1) r1 (q.nx.mono k1)
theorem ws_set (i : Nat) {nm : Str} {p' : Pos} (cc : Cok X kk) (hi : X.N[i]? = some nm) (h : WE X T e δ O Ex fun x O1 => D.nx (δ.set i (some x)) O1) (hx : Loc X.env.scope nm := by first | exact .inl rfl | exact .inr rfl) (hs0 : swapsWith e (some (.Name nm p')) pos.line X.env = pure false := by rfl) (hf : X.fn nm = true ∨ X.env.scope.names.lookup nm = some .local := by first | exact .inl rfl | exact .inr rfl | assumption) :
    WS X T (.Assign [.Name nm p'] e pos) δ O Ex D := fun F σ H Hk D0 hs hl hx' q => by
  refine gS_of (L2.ps_set cc.nd hi hx gE_pe hs0 hf) (h F σ H Hk _ hs hl hx' fun v x O1 Hk1 H1 k1 hs1 r1 h2 => ?_)
  exact q.nx _ _ O1 Hk1 H1 k1 hs1 ((hl.mono k1).set r1) h2
theorem ws_expr (h : WE X T e δ O Ex fun _ O1 => D.nx δ O1) (hs0 : swapsWith e none pos.line X.env = pure false := by rfl) : WS X T (.Expr e pos) δ O Ex D := fun F σ H Hk D0 hs hl hx q => by
  refine gS_of (ps_expr gE_pe hs0) (h F σ H Hk _ hs hl hx fun v x O1 Hk1 H1 k1 hs1 r1 h2 => ?_)
  exact q.nx _ _ O1 Hk1 H1 k1 hs1 (hl.mono k1) h2
theorem ws_ret (h : WE X T e δ O Ex D.rt) : WS X T (.Return (some e) pos) δ O Ex D := fun F σ H Hk D0 hs hl hx q => gS_of (ps_ret gE_pe) (h F σ H Hk _ hs hl hx q.rt)
theorem ws_retN (h : D.rt (.dat .none) O) : WS X T (.Return none pos) δ O Ex D := fun F σ H Hk D0 hs hl hx q => gS_of ps_retN (q.rt .non (.dat .none) O Hk H (Kp.refl _) hs At.non h)
theorem ws_pass (h : D.nx δ O) : WS X T (.Pass pos) δ O Ex D := fun F σ H Hk D0 hs hl hx q => gS_of ps_pass (q.nx _ _ O Hk H (Kp.refl _) hs hl h)
theorem ws_break (h : D.bk δ O) : WS X T (.Break pos) δ O Ex D := fun F σ H Hk D0 hs hl hx q => gS_of ps_break (q.bk _ _ O Hk H (Kp.refl _) hs hl h)
theorem ws_cont (h : D.ct δ O) : WS X T (.Continue pos) δ O Ex D := fun F σ H Hk D0 hs hl hx q => gS_of ps_continue (q.ct _ _ O Hk H (Kp.refl _) hs hl h)
theorem ws_doc {z j p'} (h : D.nx δ O) : WS X T (.Expr (.Constant (.str z) j p') pos) δ O Ex D := fun F σ H Hk D0 hs hl hx q => gS_of ps_doc (q.nx _ _ O Hk H (Kp.refl _) hs hl h)
theorem ws_if {t u : List Stmt} (h : WT X T c δ O Ex fun b O1 => (b = true → WSs X T t δ O1 Ex D) ∧ (b = false → WSs X T u δ O1 Ex D)) : WS X T (.If c t u pos) δ O Ex D := fun F σ H Hk D0 hs hl hx q => by
  refine gS_of (ps_if gT_pt gSs_pss gSs_pss) (h F σ H Hk _ hs hl hx fun b O1 Hk1 H1 k1 hs1 h1 => ?_)
  cases b with
  | true => exact iteT (h1.1 rfl F σ H1 Hk1 D0 hs1 (hl.mono k1) (hx.mono k1) (q.mono k1))
  | false => exact iteF (h1.2 rfl F σ H1 Hk1 D0 hs1 (hl.mono k1) (hx.mono k1) (q.mono k1))

/-! ### what is walked -/
structure IterOk (K : PySem.W.Frag) (T : List (Addr × Str)) (Hk0 : Hp) (J : It) (xs : List Val) (S : Oh → Prop) : Prop where
  go : ∀ (F : Oh) (i : Nat) (H Hk : Hp) (O : Oh) (x : Val), Kp Hk0 Hk → HD K ⟨T, F⟩ Hk H O → S O → xs[i]? = some x → J.go i H ∧ ∀ v H', J.yld i H v H' → ∃ Hk', Kp Hk Hk' ∧ HD K ⟨T, F⟩ Hk' H' O ∧ VAt K Hk' v x
  stop : ∀ (F : Oh) (H Hk : Hp) (O : Oh), Kp Hk0 Hk → HD K ⟨T, F⟩ Hk H O → S O → J.stop xs.length H
def WI (X : Cx) (T : List (Addr × Str)) (tg it : Expr) (δ : Sl) (O : Oh) (Ex : XD) (k : List Val → (Oh → Prop) → Oh → Prop) : Prop := ∀ (F : Oh) (σ : Stt) (H Hk : Hp) (R : It → Hp → Prop), HD X.K ⟨T, F⟩ Hk H O → SL X.K Hk σ δ → XOK X ⟨T, F⟩ Hk Ex →
  (∀ (J : It) (xs : List Val) (S : Oh → Prop) (O' : Oh) (Hk' H' : Hp), Kp Hk Hk' → HD X.K ⟨T, F⟩ Hk' H' O' → IterOk X.K T Hk' J xs S → S O' → k xs S O' → R J H') → gI X tg it σ H R
/-- what must stay while a value is walked -/
def Stay (x : Val) (xs : List Val) (O : Oh) : Prop := match x with
  | .raw (.ref p) => O p = some (.lst xs)
  | _ => True
theorem iter_list {t : TF} {K : PySem.W.Frag} {Hk H : Hp} {O : Oh} {x : Val} {xs : List Val} {v : V} (s : LstV O x xs) (hd : HD K t Hk H O) (r : VAt K Hk v x) : ∃ p, v = .ref p ∧ (∃ vs, SqL K H p vs) ∧ IterOk K T Hk (Itl K p) xs (Stay x xs) ∧ Stay x xs O := by
  obtain ⟨p, vs0, rfl, q0, _⟩ := s.at hd r
  have key : ∀ (F' : Oh) (H' Hk' : Hp) (O' : Oh), Kp Hk Hk' → HD K ⟨T, F'⟩ Hk' H' O' → Stay x xs O' → ∃ vs, SqL K H' p vs ∧ VAll K Hk' vs xs := fun F' H' Hk' O' k1 hd' st => by
    have s' : LstV O' x xs := by
      cases x with
      | dat d => cases d <;> first | exact s | exact s.elim
      | raw w => cases w <;> first | exact st | exact s.elim
    obtain ⟨p', vs, e, q, rr⟩ := s'.at hd' (r.mono k1)
    cases e
    exact ⟨vs, q, rr⟩
  refine ⟨p, rfl, ⟨vs0, q0⟩, ⟨fun F' i H' Hk' O' y k1 hd' st e => ?_, fun F' H' Hk' O' k1 hd' st => ?_⟩, ?_⟩
  · obtain ⟨vs, q, rr⟩ := key F' H' Hk' O' k1 hd' st
    obtain ⟨w, ew, rw'⟩ := rr.get' i y e
    refine ⟨⟨vs, w, q, ew⟩, fun w2 H2 yy => ?_⟩
    obtain ⟨eH, yy⟩ := yy
    have z := yy vs q
    rw [ew] at z
    cases z
    subst eH
    exact ⟨Hk', Kp.refl _, hd', rw'⟩
  · obtain ⟨vs, q, rr⟩ := key F' H' Hk' O' k1 hd' st
    exact ⟨vs, q, by rw [rr.length]; exact Nat.le_refl _⟩
  · cases x with
    | dat d => cases d <;> trivial
    | raw w => cases w <;> first | exact s | trivial
theorem iter_tup {t : TF} {K : PySem.W.Frag} {Hk H : Hp} {O : Oh} {ds : List PyData} {v : V} (hd : HD K t Hk H O) (r : At K Hk v (.tuple ds)) : ∃ p, v = .ref p ∧ (∃ vs, SqT K H p vs) ∧ IterOk K T Hk (Itt K p) (ds.map .dat) (fun _ => True) := by
  cases r with
  | @tup p vs _ hq _ rr =>
    refine ⟨p, rfl, ⟨vs, hd.sub.sqT hq⟩, ⟨fun F' i H' Hk' O' y k1 hd' _ e => ?_, fun F' H' Hk' O' k1 hd' _ => ?_⟩⟩
    · have q := hd'.sub.sqT (k1.sqT hq)
      obtain ⟨w, ew, rw'⟩ := (VAll.mono k1 rr.vall).get' i y e
      refine ⟨⟨vs, w, q, ew⟩, fun w2 H2 yy => ?_⟩
      obtain ⟨eH, yy⟩ := yy
      have z := yy vs q
      rw [ew] at z
      cases z
      subst eH
      exact ⟨Hk', Kp.refl _, hd', rw'⟩
    · exact ⟨vs, hd'.sub.sqT (k1.sqT hq), by rw [List.length_map, rr.length]; exact Nat.le_refl _⟩
theorem wi_lst {ki : List Val → (Oh → Prop) → Oh → Prop} (h : WE X T e δ O Ex fun x O1 => ∃ xs, LstV O1 x xs ∧ ki xs (Stay x xs) O1) : WI X T tg e δ O Ex ki := fun F σ H Hk R hs hl hx q => by
  refine gI_of (pi_list gE_pe) (h F σ H Hk _ hs hl hx fun v x O1 Hk1 H1 k1 hs1 r1 ⟨xs, s, h1⟩ => ?_)
  obtain ⟨p, e, qq, it, st⟩ := iter_list s hs1 r1
  exact ⟨p, e, qq, q _ xs _ O1 Hk1 H1 k1 hs1 it st h1⟩
theorem wi_tup {ki : List Val → (Oh → Prop) → Oh → Prop} (h : WE X T e δ O Ex fun x O1 => ∃ ds, x = .dat (.tuple ds) ∧ ki (ds.map .dat) (fun _ => True) O1) : WI X T tg e δ O Ex ki := fun F σ H Hk R hs hl hx q => by
  refine gI_of (pi_tup gE_pe) (h F σ H Hk _ hs hl hx fun v x O1 Hk1 H1 k1 hs1 r1 ⟨ds, s, h1⟩ => ?_)
  subst s
  obtain ⟨p, e, qq, it⟩ := iter_tup hs1 r1
  exact ⟨p, e, qq, q _ _ _ O1 Hk1 H1 k1 hs1 it True.intro h1⟩
def rngV (lo : Int) (n : Nat) : List Val := (List.range n).map fun (i : Nat) => Val.dat (.int (lo + (i : Int)))
theorem rngV_get {lo : Int} {n i : Nat} {x : Val} (h : (rngV lo n)[i]? = some x) : i < n ∧ x = .dat (.int (lo + (i : Int))) := by
  unfold rngV at h
  rw [List.getElem?_map] at h
  by_cases hi : i < n
  · rw [List.getElem?_range hi] at h
    exact ⟨hi, (Option.some.inj h).symm⟩
  · rw [List.getElem?_eq_none (by rw [List.length_range]; omega)] at h
    cases h
theorem rngV_len (lo : Int) (n : Nat) : (rngV lo n).length = n := by unfold rngV; rw [List.length_map, List.length_range]
theorem iter_rng {K : PySem.W.Frag} {Hk : Hp} (lo : Int) (n : Nat) : IterOk K T Hk (Itr lo n) (rngV lo n) (fun _ => True) := by
  refine ⟨fun F' i H' Hk' O' y k1 hd' _ e => ?_, fun F' H' Hk' O' k1 hd' _ => by rw [rngV_len]; exact Nat.le_refl _⟩
  obtain ⟨hi, rfl⟩ := rngV_get e
  refine ⟨hi, fun w H2 yy => ?_⟩
  obtain ⟨rfl, rfl⟩ := yy
  exact ⟨Hk', Kp.refl _, hd', At.int _⟩
theorem wi_rng1 {p : Pos} {ki : List Val → (Oh → Prop) → Oh → Prop} (hm : X.mg "range" = none) (h : WE X T a δ O Ex fun x O1 => ∃ j : Int, x = .dat (.int j) ∧ -(2 ^ 62) ≤ j ∧ j < 2 ^ 62 ∧ ki (rngV 0 j.toNat) (fun _ => True) O1) (hg : Gl X "range" := by rfl) (hs0 : starEach [a] X.env = [(false, eval a X.env)] := by rfl) :
    WI X T tg (.Call (.Name "range" p) [a] [] pos) δ O Ex ki := fun F σ H Hk R hs hl hx q => by
  refine gI_of (pi_range1 hg hm (pa_cons gE_pe pa_nil hs0) hs0) (h F σ H Hk _ hs hl hx fun v x O1 Hk1 H1 k1 hs1 r1 ⟨j, e, b1, b2, h1⟩ => ?_)
  subst e
  cases r1
  exact ⟨j, rfl, b1, b2, q _ _ _ O1 Hk1 H1 k1 hs1 (iter_rng 0 j.toNat) True.intro h1⟩
theorem wi_rng2 {p : Pos} {ki : List Val → (Oh → Prop) → Oh → Prop} (hm : X.mg "range" = none) (h : WE X T a δ O Ex fun x O1 => WE X T b δ O1 Ex fun y O2 => ∃ i j : Int, x = .dat (.int i) ∧ y = .dat (.int j) ∧ (-(2 ^ 62) ≤ i ∧ i < 2 ^ 62 ∧ -(2 ^ 62) ≤ j ∧ j < 2 ^ 62) ∧ ki (rngV i (j - i).toNat) (fun _ => True) O2) (hg : Gl X "range" := by rfl) (hs0 : starEach [a, b] X.env = [(false, eval a X.env), (false, eval b X.env)] := by rfl) (hs2 : starEach [b] X.env = [(false, eval b X.env)] := by rfl) :
    WI X T tg (.Call (.Name "range" p) [a, b] [] pos) δ O Ex ki := fun F σ H Hk R hs hl hx q => by
  refine gI_of (pi_range2 hg hm (pa_cons gE_pe (pa_cons gE_pe pa_nil hs2) (by rw [hs0, hs2])) hs0 hs2) (h F σ H Hk _ hs hl hx fun v x O1 Hk1 H1 k1 hs1 r1 h1 => ?_)
  refine h1 F σ H1 Hk1 _ hs1 (hl.mono k1) (hx.mono k1) fun u y O2 Hk2 H2 k2 hs2' r2 ⟨i, j, e1, e2, b, h2⟩ => ?_
  subst e1 e2
  cases r1
  cases r2
  exact ⟨i, j, rfl, b, q _ _ _ O2 Hk2 H2 (k1.trans k2) hs2' (iter_rng i (j - i).toNat) True.intro h2⟩

/-! ### for, while -/
theorem ws_for {it : Expr} (cc : Cok X kk) (hp : PassesOwn (model X.prog X.w) X.A X.env X.xe)
    (h : WI X T tg it δ O Ex fun xs S O1 => ∃ I : Nat → Sl → Oh → Prop, I 0 δ O1 ∧ (∀ i δ' O', i ≤ xs.length → I i δ' O' → S O') ∧
      (∀ i x δ' O', xs[i]? = some x → I i δ' O' → WG X T tg x δ' O' Ex fun δ2 O2 => WSs X T body δ2 O2 Ex { D with nx := I (i + 1), ct := I (i + 1), bk := D.nx }) ∧ (∀ δ' O', I xs.length δ' O' → D.nx δ' O')) (hfs : ∀ x, foldedSetIterable it X.env x = pure x := by intro _; rfl) :
    WS X T (.For tg it body [] pos) δ O Ex D := fun F σ H Hk D0 hs hl hx q => by
  refine gS_of (ps_for hp cc.calm gI_pi gG_pg gSs_pss hfs) (h F σ H Hk _ hs hl hx fun J xs S O1 Hk1 H1 k1 hs1 it st ⟨I, h0, hS, hb, he⟩ => ?_)
  refine ⟨fun i m σ' H' => m = xs.length - i ∧ i ≤ xs.length ∧ ∃ δ' O' Hk', Kp Hk1 Hk' ∧ HD X.K ⟨T, F⟩ Hk' H' O' ∧ SL X.K Hk' σ' δ' ∧ I i δ' O', ⟨_, rfl, Nat.zero_le _, δ, O1, Hk1, Kp.refl _, hs1, hl.mono k1, h0⟩, ?_⟩
  rintro i m σ' H' ⟨rfl, hi, δ', O', Hk', k2, hs', hl', hI⟩
  have sO := hS i δ' O' hi hI
  by_cases hlt : i < xs.length
  · obtain ⟨x, ex⟩ : ∃ x, xs[i]? = some x := ⟨xs[i], List.getElem?_eq_getElem hlt⟩
    obtain ⟨g1, g2⟩ := it.go F i H' Hk' O' x k2 hs' sO ex
    refine .inr ⟨g1, fun σ3 H3 => ∃ δ3 O3 Hk3, Kp Hk1 Hk3 ∧ HD X.K ⟨T, F⟩ Hk3 H3 O3 ∧ SL X.K Hk3 σ3 δ3 ∧ I (i + 1) δ3 O3, fun σ3 H3 ⟨δ3, O3, Hk3, w⟩ => ⟨_, by omega, rfl, hlt, δ3, O3, Hk3, w⟩, fun v H2 yy => ?_⟩
    obtain ⟨Hk2, k3, hs2, r2⟩ := g2 v H2 yy
    have kA : Kp Hk Hk2 := k1.trans (k2.trans k3)
    refine hb i x δ' O' ex hI F v σ' H2 Hk2 _ hs2 (hl'.mono k3) (hx.mono kA) r2 fun σ4 δ4 O4 Hk4 H4 k4 hs4 hl4 h4 => ?_
    have q4 := q.mono (kA.trans k4)
    refine h4 F σ4 H4 Hk4 _ hs4 hl4 (hx.mono (kA.trans k4)) ⟨fun σ5 δ5 O5 Hk5 H5 k5 hs5 hl5 h5 => ?_, q4.rt, q4.nx, fun σ5 δ5 O5 Hk5 H5 k5 hs5 hl5 h5 => ?_⟩
    · exact ⟨δ5, O5, Hk5, k2.trans (k3.trans (k4.trans k5)), hs5, hl5, h5⟩
    · exact ⟨δ5, O5, Hk5, k2.trans (k3.trans (k4.trans k5)), hs5, hl5, h5⟩
  · have e : i = xs.length := by omega
    subst e
    exact .inl ⟨it.stop F H' Hk' O' k2 hs' sO, q.nx σ' δ' O' Hk' H' (k1.trans k2) hs' hl' (he δ' O' hI)⟩
theorem ws_while (cc : Cok X kk) (hp : PassesOwn (model X.prog X.w) X.A X.env X.xe) (I : Nat → Sl → Oh → Prop) (m0 : Nat) (h0 : I m0 δ O)
    (hb : ∀ m δ' O', I m δ' O' → WT X T c δ' O' Ex fun b O1 => (b = true → WSs X T body δ' O1 Ex { D with nx := fun δ2 O2 => ∃ m', m' < m ∧ I m' δ2 O2, ct := fun δ2 O2 => ∃ m', m' < m ∧ I m' δ2 O2, bk := D.nx }) ∧ (b = false → D.nx δ' O1)) :
    WS X T (.While c body [] pos) δ O Ex D := fun F σ H Hk D0 hs hl hx q => by
  refine gS_of (ps_while hp gT_pt gSs_pss) ⟨fun m σ' H' => ∃ δ' O' Hk', Kp Hk Hk' ∧ HD X.K ⟨T, F⟩ Hk' H' O' ∧ SL X.K Hk' σ' δ' ∧ I m δ' O', ⟨m0, δ, O, Hk, Kp.refl _, hs, hl, h0⟩, ?_⟩
  rintro m σ' H' ⟨δ', O', Hk', k1, hs', hl', hI⟩
  refine hb m δ' O' hI F σ' H' Hk' _ hs' hl' (hx.mono k1) fun b O1 Hk1 H1 k2 hs1 h1 => ?_
  have q1 := q.mono (k1.trans k2)
  cases b with
  | true =>
    refine iteT ⟨fun σ3 H3 => ∃ m', m' < m ∧ ∃ δ3 O3 Hk3, Kp Hk Hk3 ∧ HD X.K ⟨T, F⟩ Hk3 H3 O3 ∧ SL X.K Hk3 σ3 δ3 ∧ I m' δ3 O3, fun σ3 H3 ⟨m', hm, w⟩ => ⟨m', hm, w⟩, ?_⟩
    refine h1.1 rfl F σ' H1 Hk1 _ hs1 (hl'.mono k2) (hx.mono (k1.trans k2)) ⟨fun σ5 δ5 O5 Hk5 H5 k5 hs5 hl5 ⟨m', hm, h5⟩ => ?_, q1.rt, q1.nx, fun σ5 δ5 O5 Hk5 H5 k5 hs5 hl5 ⟨m', hm, h5⟩ => ?_⟩
    · exact ⟨m', hm, δ5, O5, Hk5, k1.trans (k2.trans k5), hs5, hl5, h5⟩
    · exact ⟨m', hm, δ5, O5, Hk5, k1.trans (k2.trans k5), hs5, hl5, h5⟩
  | false => exact iteF (q1.nx σ' δ' O1 Hk1 H1 (Kp.refl _) hs1 (hl'.mono k2) (h1.2 rfl))
end
end DL
set_option maxHeartbeats 2000000
/-! Part E: comprehensions. -/
namespace DL
open PySem PySem.Spec PyProof.Rows L2
/-! ### a target that changes some slots alone -/
def Off (is : List Nat) (σ σ2 : Stt) : Prop := σ2.length = σ.length ∧ ∀ (j : Nat), j ∉ is → σ2[j]? = σ[j]?
theorem Off.refl (is : List Nat) (σ : Stt) : Off is σ σ := ⟨rfl, fun _ _ => rfl⟩
theorem Off.trans {is : List Nat} {σ σ1 σ2 : Stt} (a : Off is σ σ1) (b : Off is σ1 σ2) : Off is σ σ2 := ⟨b.1.trans a.1, fun j h => (b.2 j h).trans (a.2 j h)⟩
theorem Off.set {is : List Nat} {σ : Stt} {i : Nat} {v : Option V} (h : i ∈ is) : Off is σ (σ.set i v) := ⟨List.length_set .., fun j hj => List.getElem?_set_ne (fun e => hj (by rw [← e]; exact h))⟩
theorem wipe_at (σ : Stt) (vs : List Nat) (j : Nat) : (wipe σ vs)[j]? = if j ∈ vs then (if j < σ.length then some none else none) else σ[j]? := by
  induction vs with
  | nil => rfl
  | cons v vs ih =>
    show ((wipe σ vs).set v none)[j]? = _
    by_cases e : v = j
    · subst e
      rw [if_pos List.mem_cons_self]
      by_cases hl : v < σ.length
      · rw [List.getElem?_set_self (by rw [wipe_length]; exact hl), if_pos hl]
      · rw [List.getElem?_eq_none (by rw [List.length_set, wipe_length]; omega), if_neg hl]
    · rw [List.getElem?_set_ne e, ih]
      by_cases hm : j ∈ vs
      · rw [if_pos hm, if_pos (List.mem_cons_of_mem _ hm)]
      · rw [if_neg hm, if_neg (fun z => by rcases List.mem_cons.mp z with z | z; exact e z.symm; exact hm z)]
theorem wipe_off {σ σ2 : Stt} {vs : List Nat} (h : Off vs (wipe σ vs) σ2) : wipe σ2 vs = wipe σ vs := by
  apply List.ext_getElem?
  intro j
  rw [wipe_at, wipe_at]
  by_cases hj : j ∈ vs
  · rw [if_pos hj, if_pos hj]
    have := h.1
    rw [wipe_length] at this
    rw [this]
  · rw [if_neg hj, if_neg hj, h.2 j hj, wipe_at, if_neg hj]
def wipeD (δ : Sl) : List Nat → Sl
  | [] => δ
  | v :: vs => (wipeD δ vs).set v none
theorem wipeD_len (δ : Sl) : ∀ vs : List Nat, (wipeD δ vs).length = δ.length
  | [] => rfl
  | v :: vs => by unfold wipeD; rw [List.length_set, wipeD_len δ vs]
theorem wipeD_some {δ : Sl} {i : Nat} {x : Val} : ∀ {vs : List Nat}, (wipeD δ vs)[i]? = some (some x) → δ[i]? = some (some x) ∧ i ∉ vs
  | [], h => ⟨h, by simp⟩
  | v :: vs, h => by
    unfold wipeD at h
    by_cases hi : v = i
    · subst hi
      by_cases hv : v < (wipeD δ vs).length
      · rw [List.getElem?_set_self hv] at h; cases h
      · rw [List.getElem?_eq_none (by simpa using hv)] at h; cases h
    · rw [List.getElem?_set_ne hi] at h
      obtain ⟨h1, h2⟩ := wipeD_some h
      exact ⟨h1, by simp only [List.mem_cons, not_or]; exact ⟨fun e => hi e.symm, h2⟩⟩
theorem SL.wipe {K : PySem.W.Frag} {Hk : Hp} {σ : Stt} {δ : Sl} (h : SL K Hk σ δ) (vs : List Nat) : SL K Hk (wipe σ vs) (wipeD δ vs) := ⟨by rw [wipeD_len, wipe_length]; exact h.len, fun i x e => by
  obtain ⟨e1, e2⟩ := wipeD_some e
  obtain ⟨v, q, r⟩ := h.slot i x e1
  exact ⟨v, by rw [wipe_at, if_neg e2]; exact q, r⟩⟩
section
variable (X : Cx) (T : List (Addr × Str))
def GotO (K : PySem.W.Frag) (t : TF) (Hk : Hp) (is : List Nat) (σ : Stt) (k : Sl → Oh → Prop) (Q : Stt → Hp → Prop) : Prop := ∀ (σ2 : Stt) (δ : Sl) (O : Oh) (Hk' H' : Hp), Kp Hk Hk' → HD K t Hk' H' O → SL K Hk' σ2 δ → Off is σ σ2 → k δ O → Q σ2 H'
def WGb (tg : Expr) (x : Val) (is : List Nat) (δ : Sl) (O : Oh) (k : Sl → Oh → Prop) : Prop := ∀ (F : Oh) (a : V) (σ : Stt) (H Hk : Hp) (Q : Stt → Hp → Prop), HD X.K ⟨T, F⟩ Hk H O → SL X.K Hk σ δ → VAt X.K Hk a x → GotO X.K ⟨T, F⟩ Hk is σ k Q → gG X tg a σ H Q
def WGbs (ts : List Expr) (xs : List Val) (is : List Nat) (δ : Sl) (O : Oh) (k : Sl → Oh → Prop) : Prop := ∀ (F : Oh) (vs : List V) (σ : Stt) (H Hk : Hp) (Q : Stt → Hp → Prop), HD X.K ⟨T, F⟩ Hk H O → SL X.K Hk σ δ → VAll X.K Hk vs xs → GotO X.K ⟨T, F⟩ Hk is σ k Q → gGs X ts vs σ H Q
def WTs (ifs : List Expr) (δ : Sl) (O : Oh) (k : Bool → Oh → Prop) : Prop := ∀ (F : Oh) (σ : Stt) (H Hk : Hp) (Q : Bool → Hp → Prop), HD X.K ⟨T, F⟩ Hk H O → SL X.K Hk σ δ → XOK X ⟨T, F⟩ Hk X0 → GotB X.K ⟨T, F⟩ Hk k Q → gTs X ifs σ H Q
end
section
variable {X : Cx} {T : List (Addr × Str)} {δ : Sl} {O : Oh} {Ex : XD} {k : Val → Oh → Prop} {ks : Sl → Oh → Prop} {kb : Bool → Oh → Prop} {pos : Pos} {a c e tg it elt kx : Expr} {es ifs : List Expr} {kk : Nat} {x : Val} {xs : List Val} {is : List Nat}
theorem wgb_name (i : Nat) {nm : Str} (hN : X.N.Nodup) (hi : X.N[i]? = some nm) (him : i ∈ is) (h : ks (δ.set i (some x)) O) (hx : Loc X.env.scope nm := by first | exact .inl rfl | exact .inr rfl) (hf : X.fn nm = true ∨ X.env.scope.names.lookup nm = some .local := by first | exact .inl rfl | exact .inr rfl | assumption) :
    WGb X T (.Name nm pos) x is δ O ks := fun F v σ H Hk Q hs hl r q => gG_of (pg_name hN hi hx hf) (q _ _ O Hk H (Kp.refl _) hs (hl.set r) (Off.set him) h)
theorem wgbs_nil (h : ks δ O) : WGbs X T [] [] is δ O ks := fun F vs σ H Hk Q hs hl r q => by
  cases r
  exact gGs_of pgs_nil ⟨rfl, q _ _ O Hk H (Kp.refl _) hs hl (Off.refl _ _) h⟩
theorem wgbs_cons (h : WGb X T e x is δ O fun δ1 O1 => WGbs X T es xs is δ1 O1 ks) (hs0 : (assignEach (e :: es) X.env).map (·.2) = assign e X.env :: (assignEach es X.env).map (·.2) := by rfl) : WGbs X T (e :: es) (x :: xs) is δ O ks := fun F vs σ H Hk Q hs hl r q => by
  cases r with
  | @cons v _ vs' _ r1 r2 =>
    refine gGs_of (pgs_cons gG_pg gGs_pgs hs0) ⟨v, vs', rfl, h F v σ H Hk _ hs hl r1 fun σ1 δ1 O1 Hk1 H1 k1 hs1 hl1 o1 h1 => ?_⟩
    exact h1 F vs' σ1 H1 Hk1 Q hs1 hl1 (VAll.mono k1 r2) fun σ2 δ2 O2 Hk2 H2 k2 hs2 hl2 o2 h2 => q σ2 δ2 O2 Hk2 H2 (k1.trans k2) hs2 hl2 (o1.trans o2) h2
theorem wgb_tup {n : Nat} {ds : List PyData} (hc : X.calm = true) (h : WGbs X T es (ds.map .dat) is δ O ks) (hl' : ds.length = n) (hn : (assignEach es X.env).length = n := by rfl) (hst : (assignEach es X.env).findIdx? (·.1) = none := by rfl) {kt} :
    WGb X T (.Tuple es kt pos) (.dat (.tuple ds)) is δ O ks := fun F v σ H Hk Q hs hl r q => by
  have r' : At X.K Hk v (.tuple ds) := r
  cases r' with
  | @tup p vs _ hq _ r2 =>
    refine gG_of (pg_tup hc gGs_pgs hn hst) ⟨p, vs, rfl, hs.sub.sqT hq, by rw [r2.length]; exact hl', ?_⟩
    exact h F vs σ H Hk Q hs hl r2.vall q
theorem wts_nil (h : kb true O) : WTs X T [] δ O kb := fun F σ H Hk Q hs hl hx q => gTs_of pts_nil (q true O Hk H (Kp.refl _) hs h)
theorem wts_one (h : WT X T c δ O X0 kb) : WTs X T [c] δ O kb := fun F σ H Hk Q hs hl hx q => gTs_of (pts_one gT_pt) (h F σ H Hk Q hs hl hx q)

theorem HD.dropF {K : PySem.W.Frag} {F F' : Oh} {Hk H : Hp} (h : HD K ⟨T, F'⟩ Hk H O) (le : Ole F F') : HD K ⟨T, F⟩ Hk H O := by
  refine ⟨h.sub, h.dom, h.obj, fun p o e => h.fob p o (le p o e), fun p o e => ?_, h.tab⟩
  have z : F' p = none := h.dis p o e
  show F p = none
  cases q : F p with
  | none => rfl
  | some u =>
    rw [le p u q] at z
    cases z
/-- a new object of others -/
theorem HD.newF {K : PySem.W.Frag} {F : Oh} {Hk H : Hp} {p : Addr} {o : HO} {oo : OO} (h : HD K ⟨T, F⟩ Hk H O) (hp : H p = none) (n : OAt K Hk (upd H p o) p oo) : HD K ⟨T, oset F p oo⟩ Hk (upd H p o) O := by
  have z := h.newO (o := o) (oo := oo) hp n
  have fO := h.fresh hp
  have fF : F p = none := h.freshF hp
  refine ⟨z.sub, z.dom, fun q u e => z.obj q u ?_, fun q u e => ?_, fun q u e => ?_, z.tab⟩
  · rw [oset_ne]
    · exact e
    · intro w
      rw [w, fO] at e
      cases e
  · by_cases hq : q = p
    · have e' : oset F p oo q = some u := e
      rw [hq, oset_same] at e'
      cases e'
      rw [hq]
      exact z.obj p _ oset_same
    · have e' : oset F p oo q = some u := e
      rw [oset_ne hq] at e'
      exact z.fob q u e'
  · show oset F p oo q = none
    rw [oset_ne]
    · exact h.dis q u e
    · intro w
      rw [w, fO] at e
      cases e
theorem HD.setF {K : PySem.W.Frag} {F : Oh} {Hk H : Hp} {p : Addr} {o o0 : HO} {oo oo0 : OO} (h : HD K ⟨T, oset F p oo0⟩ Hk H O) (hF : F p = none) (hp : H p = some o0) (n1 : ∀ ps, o0 ≠ .tbl ps) (n2 : ∀ φ, o0 ≠ .ext φ) (n : OAt K Hk (upd H p o) p oo) : HD K ⟨T, oset F p oo⟩ Hk (upd H p o) O := by
  have a := (h.fob p _ oset_same).1
  have nO : ∀ q u, O q = some u → q ≠ p := fun q u e w => by
    have z := h.dis q u e
    have z' : oset F p oo0 q = none := z
    rw [w, oset_same] at z'
    cases z'
  refine ⟨fun b u e n => ?_, fun b e => ?_, fun q u e => ?_, fun q u e => ?_, fun q u e => ?_, Tabs.upd_mut h.tab hp n1 (fun _ _ z => n2 _ z)⟩
  · have hb : b ≠ p := fun z => by rw [z, a] at e; cases e
    rw [upd_ne hb]
    exact h.sub b u e n
  · by_cases hb : b = p
    · rw [hb, upd_same] at e
      cases e
    · rw [upd_ne hb] at e
      exact h.dom b e
  · obtain ⟨a, b⟩ := h.obj q u e
    exact ⟨a, b.mono (Kp.refl _) (upd_ne (nO q u e))⟩
  · have e' : oset F p oo q = some u := e
    by_cases hq : q = p
    · rw [hq, oset_same] at e'
      cases e'
      rw [hq]
      exact ⟨a, n⟩
    · rw [oset_ne hq] at e'
      obtain ⟨a, b⟩ := h.fob q u (show oset F p oo0 q = some u by rw [oset_ne hq]; exact e')
      exact ⟨a, b.mono (Kp.refl _) (upd_ne hq)⟩
  · show oset F p oo q = none
    have z : oset F p oo0 q = none := h.dis q u e
    rw [oset_ne (nO q u e)] at z ⊢
    exact z
/-- an object of others is ours again -/
theorem HD.backF {K : PySem.W.Frag} {F : Oh} {Hk H : Hp} {p : Addr} {oo : OO} (h : HD K ⟨T, oset F p oo⟩ Hk H O) (hF : F p = none) : O p = none ∧ HD K ⟨T, F⟩ Hk H (oset O p oo) := by
  have fO : O p = none := by
    cases q : O p with
    | none => rfl
    | some u =>
      have z : oset F p oo p = none := h.dis p u q
      rw [oset_same] at z
      cases z
  refine ⟨fO, h.sub, h.dom, fun q u e => ?_, fun q u e => ?_, fun q u e => ?_, h.tab⟩
  · by_cases hq : q = p
    · rw [hq, oset_same] at e
      cases e
      rw [hq]
      exact h.fob p _ oset_same
    · rw [oset_ne hq] at e
      exact h.obj q u e
  · have e' : F q = some u := e
    exact h.fob q u (show oset F p oo q = some u by
      rw [oset_ne]
      · exact e'
      · intro w
        rw [w, hF] at e'
        cases e')
  · by_cases hq : q = p
    · rw [hq]
      exact hF
    · rw [oset_ne hq] at e
      have z : oset F p oo q = none := h.dis q u e
      rw [oset_ne hq] at z
      exact z

/-- a comprehension's block: where it starts -/
structure Bk where
  s : Shared
  H : Hp
  C : Addr
  cl : List (Str × Addr)
  fp : List Addr
abbrev Bk.cx (b : Bk) (X : Cx) (scope : Scope) : Cx := X.blk b.s b.H scope (compEnvC scope b.cl b.C X.env) b.fp
/-- [elt for tg in it if ..]: I by the turn and the items so far; the result is a list that changes, or data -/
theorem we_lc {own : List (Str × Nat)} {scope : Scope} (vs : List Nat) (hvs : own.map (·.2) = vs) (cc : Cok X kk) (ok : BlkOk X.N X.env.scope scope own)
    (h : WI X T tg it δ O Ex fun xs S O1 => xs.length ≤ lim ∧ ∃ I : Nat → List Val → Oh → Prop, I 0 [] O1 ∧ (∀ i acc O', i ≤ xs.length → I i acc O' → S O' ∧ acc.length ≤ i) ∧
      (∀ i x acc O', xs[i]? = some x → I i acc O' → ∀ b : Bk, WGb (b.cx X scope) T tg x vs (wipeD δ vs) O' fun δ2 O2 =>
        ∀ b : Bk, WTs (b.cx X scope) T ifs δ2 O2 fun t O3 => (t = true → ∀ b : Bk, WE (b.cx X scope) T elt δ2 O3 X0 fun y O4 => I (i + 1) (acc ++ [y]) O4) ∧ (t = false → I (i + 1) acc O3)) ∧
      (∀ acc O', I xs.length acc O' → (∀ p, O' p = none → k (.raw (.ref p)) (oset O' p (.lst acc))) ∨ ∃ ds, undat acc = some ds ∧ k (.dat (.list ds)) O'))
    (hfs : ∀ x, foldedSetIterable it X.env x = pure x := by intro _; rfl) : WE X T (.ListComp elt [⟨tg, it, ifs, 0⟩] scope pos) δ O Ex k := fun F σ H Hk Q hs hl hx q => by
  subst hvs
  refine gE_of (pe_lc (g := fun a σ H Q => ∀ b : Bk, gG (b.cx X scope) tg a σ H Q) (tt := fun σ H Q => ∀ b : Bk, gTs (b.cx X scope) ifs σ H Q) (te := fun σ H Q => ∀ b : Bk, gE (b.cx X scope) elt σ H Q)
    cc.calm cc.nd gI_pi ok (fun s0 H0 C cl fp => ⟨fun pins s _ _ _ u _ I r h => h ⟨s0, H0, C, cl, fp⟩ pins s u I r⟩) (fun s0 H0 C cl fp => ⟨fun pins s _ _ _ I h => h ⟨s0, H0, C, cl, fp⟩ pins s I⟩) (fun s0 H0 C cl fp => ⟨fun pins s _ _ _ I h => h ⟨s0, H0, C, cl, fp⟩ pins s I⟩) hfs)
    (h F σ H Hk _ hs hl hx fun J xs S O1 Hk1 H1 k1 hs1 itk st ⟨hlim, I, h0, hS, hb, he⟩ => ?_)
  intro Dl hD
  have fF : F Dl = none := hs1.freshF hD
  refine ⟨fun i m H' => m = xs.length - i ∧ i ≤ xs.length ∧ ∃ acc O' Hk', Kp Hk1 Hk' ∧ HD X.K ⟨T, oset F Dl (.lst acc)⟩ Hk' H' O' ∧ I i acc O', ⟨_, rfl, Nat.zero_le _, [], O1, Hk1, Kp.refl _, hs1.newF hD ⟨[], upd_same, .nil⟩, h0⟩, ?_⟩
  rintro i m H' ⟨rfl, hi, acc, O', Hk', k2, hs', hI⟩
  obtain ⟨sO, hal⟩ := hS i acc O' hi hI
  by_cases hlt : i < xs.length
  · obtain ⟨x, ex⟩ : ∃ x, xs[i]? = some x := ⟨xs[i], List.getElem?_eq_getElem hlt⟩
    obtain ⟨g1, g2⟩ := itk.go _ i H' Hk' O' x k2 hs' sO ex
    refine .inr ⟨g1, fun H3 => ∃ acc O3 Hk3, Kp Hk1 Hk3 ∧ HD X.K ⟨T, oset F Dl (.lst acc)⟩ Hk3 H3 O3 ∧ I (i + 1) acc O3, fun H3 ⟨a3, O3, Hk3, w⟩ => ⟨_, by omega, rfl, hlt, a3, O3, Hk3, w⟩, fun v H2 yy => ?_⟩
    obtain ⟨Hk2, k3, hs2, r2⟩ := g2 v H2 yy
    have kA : Kp Hk Hk2 := k1.trans (k2.trans k3)
    intro b
    refine hb i x acc O' ex hI b _ v (wipe σ _) H2 Hk2 _ hs2 ((hl.mono kA).wipe _) r2 fun σ4 δ4 O4 Hk4 H4 k4 hs4 hl4 off4 h4 => ⟨wipe_off off4, ?_⟩
    intro b2
    refine h4 b2 _ σ4 H4 Hk4 _ hs4 hl4 XOK.none fun t O5 Hk5 H5 k5 hs5 h5 => ?_
    cases t with
    | false => exact iteF ⟨acc, O5, Hk5, k2.trans (k3.trans (k4.trans k5)), hs5, h5.2 rfl⟩
    | true =>
      refine iteT ?_
      intro b3
      refine h5.1 rfl b3 _ σ4 H5 Hk5 _ hs5 (hl4.mono k5) XOK.none fun w y O6 Hk6 H6 k6 hs6 r6 h6 => ?_
      obtain ⟨hn, ws, ew, rw'⟩ := hs6.fob Dl _ oset_same
      have hal' : ws.length < sizeLine := by
        rw [rw'.length]
        exact lim_lt (by omega)
      refine ⟨ws, ew, hal', acc ++ [y], O6, Hk6, k2.trans (k3.trans (k4.trans (k5.trans k6))), ?_, h6⟩
      exact hs6.setF fF ew (fun _ z => nomatch z) (fun _ z => nomatch z) ⟨ws ++ [w], upd_same, rw'.append (VAll.one r6)⟩
  · have e : i = xs.length := by omega
    subst e
    refine .inl ⟨itk.stop _ H' Hk' O' k2 hs' sO, ?_⟩
    rcases he acc O' hI with z | ⟨ds, e, z⟩
    · obtain ⟨fO, hs3⟩ := hs'.backF fF
      exact q (.ref Dl) (.raw (.ref Dl)) _ Hk' H' (k1.trans k2) hs3 rfl (z Dl fO)
    · obtain ⟨fO, hs3⟩ := hs'.backF fF
      obtain ⟨ws, ew, rw', k4, hs4⟩ := hs3.freeze oset_same
      rw [orem_oset fO] at hs4
      have e' := undat_eq e
      have hl2 : ws.length ≤ lim := by
        rw [rw'.length]
        omega
      rw [e'] at rw'
      exact q (.ref Dl) (.dat (.list ds)) O' _ H' (k1.trans (k2.trans k4)) hs4 (At.lst (.of upd_same) hl2 (AtAll.mono k4 rw'.atall)) z
end
end DL
set_option maxHeartbeats 2000000
/-! Part F: defs, their promises by data, their calls. -/
namespace DL
open PySem PySem.Spec PyProof.Rows L2
/-- a promise by data: arguments, objects, what is wanted of a value, of an exception -/
abbrev DSp := List Val → Oh → (Val → Oh → Prop) → (Value → List (Str × Val) → Oh → Prop) → Prop
def toSp (K : PySem.W.Frag) (T : List (Addr × Str)) (S : DSp) : Sp := fun vs H Q E => ∃ (F : Oh) (args : List Val) (O : Oh) (Hk : Hp) (k : Val → Oh → Prop) (ex : Value → List (Str × Val) → Oh → Prop),
  HD K ⟨T, F⟩ Hk H O ∧ VAll K Hk vs args ∧ S args O k ex ∧ Got K ⟨T, F⟩ Hk k Q ∧
    ∀ (cls : Value) (d : Option Addr) (fs : List (Str × Val)) (O' : Oh) (Hk' H' : Hp), Kp Hk Hk' → HD K ⟨T, F⟩ Hk' H' O' → EF K Hk' H' d fs → ex cls fs O' → E cls d H'
def startD (N : List Str) (args : List Val) : Sl := args.map some ++ List.replicate (N.length - args.length) none
def dEx (ex : Value → List (Str × Val) → Oh → Prop) : XD := fun cls fs _ O' => ∃ O2, Ole O2 O' ∧ ex cls fs O2
def dEnd (k : Val → Oh → Prop) : De := ⟨fun _ O' => ∃ O2, Ole O2 O' ∧ k (.dat .none) O2, fun x O' => ∃ O2, Ole O2 O' ∧ k x O2, fun _ _ => False, fun _ _ => False⟩
theorem sl_start {K : PySem.W.Frag} {Hk : Hp} {N : List Str} {vs : List V} {args : List Val} (h : VAll K Hk vs args) : SL K Hk (L2.start N vs) (startD N args) := by
  have hl := h.length
  refine ⟨?_, fun i x e => ?_⟩
  · unfold L2.start startD
    rw [List.length_append, List.length_append, List.length_map, List.length_map, List.length_replicate, List.length_replicate, hl]
  · unfold startD at e
    by_cases hi : i < args.length
    · rw [List.getElem?_append_left (by rw [List.length_map]; exact hi), List.getElem?_map] at e
      cases q : args[i]? with
      | none => rw [q] at e; cases e
      | some y =>
        rw [q] at e
        have e' : y = x := Option.some.inj (Option.some.inj e)
        subst e'
        obtain ⟨v, ev, r⟩ := h.get' i y q
        refine ⟨v, ?_, r⟩
        unfold L2.start
        rw [List.getElem?_append_left (by rw [List.length_map]; omega), List.getElem?_map, ev]
        rfl
    · rw [List.getElem?_append_right (by rw [List.length_map]; omega), List.getElem?_replicate] at e
      split at e <;> cases e

/-! ### defs that may be called where no guard stands (repr asks for it) -/
structure FnG (P : Program) (w : World) (K : PySem.W.Frag) (mg : Str → Option Value) (base : Heap) (CX : CXT) (k : Nat) (f : Addr) (fd : FuncData) (ps : List Str) (sp : Sp) : Prop where
  len : ∀ vs H Q E, sp vs H Q E → vs.length = ps.length
  run : ∀ (A : Around) (outer : List Env) (s : Shared) (H : Hp) (args : Args) (us : List Value) (vs : List V) (Q : VK) (E : XK), Room k A → A.guards = some [] → Env0 P w K mg base A outer s H → BindsTo s fd args (ps.zip us) → Vals vs us → sp vs H Q E →
    codeAny (model P w) A (.call (.ref f) args) (CR CX outer P w H s Q E) s
theorem FnG.mono {P : Program} {w : World} {K : PySem.W.Frag} {mg : Str → Option Value} {base : Heap} {CX : CXT} {j k : Nat} {f : Addr} {fd : FuncData} {ps : List Str} {sp : Sp} (F : FnG P w K mg base CX j f fd ps sp) (h : j ≤ k) :
    FnG P w K mg base CX k f fd ps sp := ⟨F.len, fun A outer s H args us vs Q E hr => F.run A outer s H args us vs Q E (hr.mono h)⟩
theorem fng_of {CX : CXT} {P : Program} {w : World} {K : PySem.W.Frag} {mg : Str → Option Value} {base : Heap} {k : Nat} {f : Addr} {name qual : Str} {params : Arguments} {body : List Stmt} {scope : Scope} {dV kV doc pm cdv ct oc : Value} {an od : Option Addr}
    {osl : Array (Option Value)} {N ps : List Str} {sp : Sp} (lk : K.lookup f = some ⟨oc, od, .func (PySem.W.fnOf name qual params body scope dV kV doc pm an cdv ct), osl⟩) (hcd : PySem.W.codeIn K cdv qual = true) (S : FnScope N ps scope)
    (len : ∀ vs H Q E, sp vs H Q E → vs.length = ps.length)
    (hbody : ∀ (A : Around) (outer : List Env) (s : Shared) (H : Hp) (vs : List V) (Q : VK) (E : XK), Room k (A.deeper (envOfC qual scope s.heap.objs.size f cdv)) → A.guards = some [] → sp vs H Q E →
      ∃ t, PSs (cxOf CX P w K mg base N qual scope f cdv A outer s H E) body t ∧ t { nx := fun _ H' => Q .non H', rt := Q } (L2.start N vs) H) :
    FnG P w K mg base CX (k + 1) f (PySem.W.fnOf name qual params body scope dV kV doc pm an cdv ct) ps sp := by
  refine ⟨len, fun A outer s H args us vs Q E hr hgd e0 hb r hsp => ?_⟩
  have hl := len _ _ _ _ hsp
  have KX : K.In s.heap := e0.mod.kin.keeps fun b o e => (e0.bs b o e).1
  have lim : s.heap.NoLimit := e0.mod.nolimit.keeps fun b o e => (e0.bs b o e).1
  have hkind : ∀ y ∈ ps.zip us, scope.names.lookup y.1 = some .local ∨ (scope.names.lookup y.1 = some .cell ∧ ((cellsFrom (s.heap.objs.size + 1) scope.names []).lookup y.1).isSome = true) := fun ⟨n, v⟩ hy => by
    rcases S.par n (List.of_mem_zip hy).1 with q | q
    · exact .inl q
    · exact .inr ⟨q, PySem.W.cellsFrom_some _ _ _ (.inl q)⟩
  refine codeAny_call_function hr.depth (KX _ _ lk) rfl S.co S.gen rfl (PySem.W.codeRec_of KX hcd) (hb _ _ _ _ ?_)
  refine wpAny_newFunctionEnv_cells S.kind hkind fun env he s1 x => ?_
  subst he
  refine ⟨lim.keeps x.toInCall.keep, codeAny_func ?_⟩
  obtain ⟨t, ht, hq⟩ := hbody A outer s H vs Q E (hr.deeper _) hgd hsp
  have I : Inv (cxOf CX P w K mg base N qual scope f cdv A outer s H E) [] (L2.start N vs) H s1 := inv_start S hr.hd e0 hl r x
  refine wpAny_mono (ht.run [] s1 (L2.start N vs) H _ I hq) (fun fl s' hs => ?_) fun e s' hs => hs
  have fin : ∀ {σ' : Stt} {H' : Hp} {v : V} {u : Value}, Inv (cxOf CX P w K mg base N qual scope f cdv A outer s H E) [] σ' H' s' → RelV v u → Q v H' → CE outer P w H s Q u s' :=
    fun {σ' H' v u} J rv q => ⟨v, H', J.os, J.bare, J.base, J.hok, rv, q⟩
  cases fl with
  | ret u =>
    obtain ⟨v, σ', H', J, rv, q⟩ := hs
    exact fin J rv q
  | next =>
    obtain ⟨σ', H', J, q⟩ := hs
    exact fin (v := V.non) (u := Value.none) J rfl q
  | brk =>
    obtain ⟨_, _, _, q⟩ := hs
    exact False.elim q
  | cont =>
    obtain ⟨_, _, _, q⟩ := hs
    exact False.elim q
theorem FunD.okG {P : Program} {w : World} {K : PySem.W.Frag} {mg : Str → Option Value} {base : Heap} {x qual : Str} {params : Arguments} {body : List Stmt} {scope : Scope} {dvs : List V} {kws : List (Str × V)} {f : Addr} {fd : FuncData} {CX : CXT} {N ps : List Str} {k : Nat} {sp : Sp}
    (F : FunD K x qual params body scope dvs kws f fd) (S : FnScope N ps scope) (len : ∀ vs H Q E, sp vs H Q E → vs.length = ps.length)
    (hbody : ∀ (cdv : Value) (A : Around) (outer : List Env) (s : Shared) (H : Hp) (vs : List V) (Q : VK) (E : XK), Room k (A.deeper (envOfC qual scope s.heap.objs.size f cdv)) → A.guards = some [] → sp vs H Q E →
      ∃ t, PSs (cxOf CX P w K mg base N qual scope f cdv A outer s H E) body t ∧ t { nx := fun _ H' => Q .non H', rt := Q } (L2.start N vs) H) : FnG P w K mg base CX (k + 1) f fd ps sp := by
  obtain ⟨oc, od, dV, kV, doc, pm, an, cdv, ct, osl, rfl, lk, hcd, _, _⟩ := F.ex
  exact fng_of lk hcd S len fun A outer s H vs Q E hr hg hsp => hbody cdv A outer s H vs Q E hr hg hsp
section
variable {X : Cx} {CX : CXT} {k : Nat} {f C : Addr} {fd : FuncData} {ps : List Str} {sp : Sp} {E : Stt → XK} {x m : Str} {p pos apos : Pos} {e o : Expr} {es : List Expr} {ta : TE} {t : TA}
theorem run_fnG {pins : List (Addr × Obj)} {σ : Stt} {H : Hp} {s : Shared} {Q : VK} {args : Args} {us : List Value} {vs : List V} (F : FnG X.prog X.w X.K X.mg X.base CX k f fd ps sp) (hr : Room k X.A) (hg : X.A.guards = some []) (hb : BindsTo s fd args (ps.zip us)) (hx : PassesAt CX X σ (E σ))
    (I : Inv X pins σ H s) (r : Vals vs us) (h : sp vs H Q (E σ)) : wpAny (model X.prog X.w) X.A (call (.ref f) args.pos args.kw) (EP X pins σ Q) X.xe s := by
  refine wpAny_call (codeAny_mono (F.run X.A X.stack s H args us vs Q (E σ) hr hg I.env0 hb r h) fun r s' hq => ?_)
  cases r with
  | error e => exact hx pins H s e s' I hq
  | ok fl =>
    cases fl with
    | ret u => exact I.after hq
    | next => exact False.elim hq
    | brk => exact False.elim hq
    | cont => exact False.elim hq
theorem run_fnG0 {pins : List (Addr × Obj)} {σ : Stt} {H : Hp} {s : Shared} {Q : VK} {us : List Value} {vs : List V} (F : FnG X.prog X.w X.K X.mg X.base CX k f fd ps sp) (hr : Room k X.A) (hg : X.A.guards = some []) (hb : Binds X.K fd ps []) (hx : PassesAt CX X σ (E σ))
    (I : Inv X pins σ H s) (r : Vals vs us) (h : sp vs H Q (E σ)) : wpAny (model X.prog X.w) X.A (call (.ref f) us) (EP X pins σ Q) X.xe s := by
  have hl : us.length = ps.length := by rw [← r.length]; exact F.len _ _ _ _ h
  have b := hb s us I.kIn (by rw [List.append_nil]; exact hl)
  rw [List.append_nil] at b
  exact run_fnG (args := ⟨us, []⟩) F hr hg b hx I r h
theorem pe_callG (F : FnG X.prog X.w X.K X.mg X.base CX k f fd ps sp) (hr : Room k X.A) (hgd : X.A.guards = some []) (hg : Gl X x) (hm : X.mg x = some (.ref f)) (hk : PySem.W.keepIn X.K (.ref f) = true) (hb : Binds X.K fd ps []) (hx : ∀ σ, PassesAt CX X σ (E σ))
    (ha : PA X (e :: es) t) (hdb : (x == ("__debug__" : Str)) = false := by decide) (he : starEach (e :: es) X.env = (false, eval e X.env) :: starEach es X.env := by rfl) (hpl : (backTo pos (starEach es X.env)).any (·.1) = false := by rfl) :
    PE X (.Call (.Name x p) (e :: es) [] pos) (tCallS sp E t) := by
  refine ⟨fun pins s σ H Q I h => ?_⟩
  refine wpAny_Call_Name_kw (ld_glob I hg hm ?_ hdb)
  refine PySem.W.callWith_K (h₀ := X.base) I.ok.mod.kin hk (thn (ha.run pos pins s σ H _ I h) fun us s1 ⟨vs, H1, I1, r, q⟩ => ⟨I1.kIn, ?_⟩) he hpl
  exact run_fnG0 F hr hgd hb (hx σ) I1 r q
end
theorem fn_ok {P : Program} {w : World} {K : PySem.W.Frag} {mg : Str → Option Value} {base : Heap} {x qual : Str} {params : Arguments} {body : List Stmt} {scope : Scope} {dvs : List V} {kws : List (Str × V)} {f : Addr} {fd : FuncData} {N ps : List Str} {j : Nat} {T : List (Addr × Str)} {sp : DSp}
    (F : FunD K x qual params body scope dvs kws f fd) (S : FnScope N ps scope) (hlen : ∀ args O k ex, sp args O k ex → args.length = ps.length)
    (hb : ∀ (cdv : Value) (A : Around) (outer : List Env) (s : Shared) (H : Hp) (E : XK) (args : List Val) (O : Oh) (k : Val → Oh → Prop) (ex : Value → List (Str × Val) → Oh → Prop), Cok (cxOf (L2.CX P w) P w K mg base N qual scope f cdv A outer s H E) j → sp args O k ex →
      WSs (cxOf (L2.CX P w) P w K mg base N qual scope f cdv A outer s H E) T body (startD N args) O (dEx ex) (dEnd k)) : FnG P w K mg base (L2.CX P w) (j + 1) f fd ps (toSp K T sp) := by
  refine FunD.okG F S (fun vs H Q E h => ?_) (fun cdv A outer s H vs Q E hr hgd h => ?_)
  · obtain ⟨_, args, O, Hk, k, ex, _, r, q, _⟩ := h
    rw [r.length]
    exact hlen _ _ _ _ q
  · obtain ⟨F', args, O, Hk, k, ex, hd, r, q, got, gx⟩ := h
    have cc : Cok (cxOf (L2.CX P w) P w K mg base N qual scope f cdv A outer s H E) j := ⟨rfl, S.nd, hr, hgd⟩
    refine ⟨gSs _ body, gSs_pss, hb cdv A outer s H E args O k ex cc q F' (L2.start N vs) H Hk _ hd (sl_start r) ?_ ?_⟩
    · refine ⟨fun cls d _ H' => E cls d H', takes_of rfl rfl rfl rfl, fun cls d σ H' Hk' O' δ fs kk hd' _ ef ⟨O2, le, e⟩ => ?_⟩
      exact gx cls d fs O2 Hk' H' kk (hd'.drop le) ef e
    · refine ⟨fun σ δ O' Hk' H' kk hd' _ ⟨O2, le, e⟩ => ?_, fun v x O' Hk' H' kk hd' rv ⟨O2, le, e⟩ => ?_, fun _ _ _ _ _ _ _ _ z => z.elim, fun _ _ _ _ _ _ _ _ z => z.elim⟩
      · exact got .non (.dat .none) O2 Hk' H' kk (hd'.drop le) At.non e
      · exact got v x O2 Hk' H' kk (hd'.drop le) rv e
/-- what a loop asks of the exceptions of a def's body -/
theorem pass_own {P : Program} {w : World} {K : PySem.W.Frag} {mg : Str → Option Value} {base : Heap} {N : List Str} {qual : Str} {scope : Scope} {f : Addr} {cdv : Value} {A : Around} {outer : List Env} {s : Shared} {H : Hp} {E : XK} :
    PassesOwn (model P w) (cxOf (L2.CX P w) P w K mg base N qual scope f cdv A outer s H E).A (cxOf (L2.CX P w) P w K mg base N qual scope f cdv A outer s H E).env (cxOf (L2.CX P w) P w K mg base N qual scope f cdv A outer s H E).xe := passes_of (K := fun e s'' => L2.CX P w outer H s E e s'') rfl

section
variable {X : Cx} {T : List (Addr × Str)} {δ : Sl} {O : Oh} {Ex : XD} {k : Val → Oh → Prop} {j kk : Nat} {f C : Addr} {fd : FuncData} {ps : List Str} {sp : DSp} {x m : Str} {p pos apos : Pos} {e o : Expr} {es : List Expr} {σ : Stt} {H : Hp}
theorem toSp_of {F : Oh} {W : WX} {Hk Hk1 H1 : Hp} {O1 : Oh} {vs : List V} {xs : List Val} {Q : VK} (hl : SL X.K Hk σ δ) (hW : ∀ (cls : Value) (d : Option Addr) (σ : Stt) (H Hk' : Hp) (O : Oh) (δ : Sl) (fs : List (Str × Val)), Kp Hk Hk' → HD X.K ⟨T, F⟩ Hk' H O → SL X.K Hk' σ δ → EF X.K Hk' H d fs → Ex cls fs δ O → W cls d σ H)
    (q : Got X.K ⟨T, F⟩ Hk k Q) (k1 : Kp Hk Hk1) (hs1 : HD X.K ⟨T, F⟩ Hk1 H1 O1) (r1 : VAll X.K Hk1 vs xs) (h1 : sp xs O1 k fun cls fs O' => Ex cls fs δ O') : toSp X.K T sp vs H1 Q (L2.WE W σ) :=
  ⟨F, xs, O1, Hk1, k, fun cls fs O' => Ex cls fs δ O', hs1, r1, h1, q.mono k1, fun cls d fs O' Hk' H' kk hd ef e => hW cls d σ H' Hk' O' δ fs (k1.trans kk) hd (hl.mono (k1.trans kk)) ef e⟩
/-- f(e, ..) -/
theorem we_call (G : FnG X.prog X.w X.K X.mg X.base (L2.CX X.prog X.w) j f fd ps (toSp X.K T sp)) (cc : Cok X kk) (hj : j ≤ kk) (hm : X.mg x = some (.ref f)) (hk : PySem.W.keepIn X.K (.ref f) = true) (hb : Binds X.K fd ps [])
    (h : WA X T (e :: es) δ O Ex fun xs O1 => sp xs O1 k fun cls fs O' => Ex cls fs δ O') (hg : Gl X x := by rfl) (hdb : (x == ("__debug__" : Str)) = false := by decide) (he : starEach (e :: es) X.env = (false, eval e X.env) :: starEach es X.env := by rfl) (hpl : (backTo pos (starEach es X.env)).any (·.1) = false := by rfl) :
    WE X T (.Call (.Name x p) (e :: es) [] pos) δ O Ex k := fun F σ H Hk Q hs hl hx q => by
  obtain ⟨W, tk, hW⟩ := id hx
  refine gE_of (pe_callG G (cc.room.mono hj) cc.gd hg hm hk hb (fun σ => passAt tk σ) gA_pa hdb he hpl) (h F σ H Hk _ hs hl hx fun vs xs O1 Hk1 H1 k1 hs1 r1 h1 => ?_)
  exact toSp_of hl hW q k1 hs1 r1 h1
theorem pe_callS0 {CX : CXT} {sp : Sp} {E : Stt → XK} (F : FnG X.prog X.w X.K X.mg X.base CX j f fd ps sp) (hr : Room j X.A) (hgd : X.A.guards = some []) (hg : Gl X x) (hm : X.mg x = some (.ref f)) (hk : PySem.W.keepIn X.K (.ref f) = true) (hb : Binds X.K fd ps []) (hx : ∀ σ, PassesAt CX X σ (E σ))
    (hdb : (x == ("__debug__" : Str)) = false := by decide) : PE X (.Call (.Name x p) [] [] pos) (tCallS sp E tNil) := by
  refine ⟨fun pins s σ H Q I h => ?_⟩
  refine wpAny_Call_Name_kw (ld_glob I hg hm ?_ hdb)
  exact PySem.W.callWith_K0 I.kIn hk (run_fnG0 (us := []) F hr hgd hb (hx σ) I .nil h)
theorem we_call0 (G : FnG X.prog X.w X.K X.mg X.base (L2.CX X.prog X.w) j f fd ps (toSp X.K T sp)) (cc : Cok X kk) (hj : j ≤ kk) (hm : X.mg x = some (.ref f)) (hk : PySem.W.keepIn X.K (.ref f) = true) (hb : Binds X.K fd ps [])
    (h : sp [] O k fun cls fs O' => Ex cls fs δ O') (hg : Gl X x := by rfl) (hdb : (x == ("__debug__" : Str)) = false := by decide) : WE X T (.Call (.Name x p) [] [] pos) δ O Ex k := fun F σ H Hk Q hs hl hx q => by
  obtain ⟨W, tk, hW⟩ := id hx
  refine gE_of (pe_callS0 G (cc.room.mono hj) cc.gd hg hm hk hb (fun σ => passAt tk σ) hdb) ?_
  exact toSp_of hl hW q (Kp.refl _) hs .nil h
/-- o.m(e, ..), o an instance that changes -/
theorem pe_methS {CX : CXT} {sp : Sp} {E : Stt → XK} {ta : TE} {t : TA} {pl : Sem Bool} (he : PE X o ta) (c : Cls X.K C) (hm : Meth X.K C m f) (F : FnG X.prog X.w X.K X.mg X.base CX j f fd ps sp) (hr : Room j X.A) (hgd : X.A.guards = some []) (hb : Binds X.K fd ps []) (hx : ∀ σ, PassesAt CX X σ (E σ)) (ha : PA X (e :: es) t)
    (hst : starEach (e :: es) X.env = (false, eval e X.env) :: starEach es X.env := by rfl) (hpl : (backTo pos (starEach es X.env)).any (·.1) = false := by rfl)
    (ht : eval (.Call (.Attribute o m apos) (e :: es) [] pos) X.env = (do
      let ov ← eval o X.env
      standAt apos.atName
      let (f, first) ← holding [ov] (getMethod ov m pl)
      callWith pos f first (backTo pos (starEach (e :: es) X.env)) (backToKw pos (keywordEach [] X.env))) := by rfl) :
    PE X (.Call (.Attribute o m apos) (e :: es) [] pos) (fun σ H Q => ta σ H fun x H1 => ∃ a dx fs, x = .ref a ∧ H1 a = some (.ins C dx fs) ∧ fs.lookup m = none ∧ t σ H1 fun vs H2 => sp (x :: vs) H2 Q (E σ)) := by
  refine ⟨fun pins s σ H Q I h => ?_⟩
  refine PySem.W.methodCall_KW (pl := pl) (thn (he.run pins s σ H _ I h) fun u s1 ⟨x, H1, I1, rx, a, dx, fs, ex, ea, l, q⟩ => ?_) ht
  subst ex
  obtain rfl : u = Value.ref a := rx
  refine getmeth_ok I1 ea c hm l ?_
  refine PySem.W.callWith_K (first := [.ref a]) (h₀ := X.base) I.ok.mod.kin hm.kp (thn (ha.run pos pins s1 σ H1 _ I1 q) fun us s2 ⟨vs, H2, I2, r, q2⟩ => ⟨I2.kIn, ?_⟩) hst hpl
  exact run_fnG0 (us := .ref a :: us) (vs := .ref a :: vs) F hr hgd hb (hx σ) I2 (.cons rfl r) q2
theorem pe_methS0 {CX : CXT} {sp : Sp} {E : Stt → XK} {ta : TE} {pl : Sem Bool} (he : PE X o ta) (c : Cls X.K C) (hm : Meth X.K C m f) (F : FnG X.prog X.w X.K X.mg X.base CX j f fd ps sp) (hr : Room j X.A) (hgd : X.A.guards = some []) (hb : Binds X.K fd ps []) (hx : ∀ σ, PassesAt CX X σ (E σ))
    (ht : eval (.Call (.Attribute o m apos) [] [] pos) X.env = (do
      let ov ← eval o X.env
      standAt apos.atName
      let (f, first) ← holding [ov] (getMethod ov m pl)
      callWith pos f first (backTo pos (starEach [] X.env)) (backToKw pos (keywordEach [] X.env))) := by rfl) :
    PE X (.Call (.Attribute o m apos) [] [] pos) (fun σ H Q => ta σ H fun x H1 => ∃ a dx fs, x = .ref a ∧ H1 a = some (.ins C dx fs) ∧ fs.lookup m = none ∧ sp [x] H1 Q (E σ)) := by
  refine ⟨fun pins s σ H Q I h => ?_⟩
  refine PySem.W.methodCall_KW (pl := pl) (thn (he.run pins s σ H _ I h) fun u s1 ⟨x, H1, I1, rx, a, dx, fs, ex, ea, l, q⟩ => ?_) ht
  subst ex
  obtain rfl : u = Value.ref a := rx
  refine getmeth_ok I1 ea c hm l ?_
  exact PySem.W.callWith_K0 (first := [.ref a]) I1.kIn hm.kp (run_fnG0 (us := [.ref a]) (vs := [.ref a]) F hr hgd hb (hx σ) I1 (.cons rfl .nil) q)
theorem lookup_vkv {K : PySem.W.Frag} {Hk : Hp} {f : Str} : ∀ {ws : List (Str × V)} {fs : List (Str × Val)}, VKv K Hk ws fs → (fs.lookup f = none → ws.lookup f = none) ∧ ∀ x, fs.lookup f = some x → ∃ v, ws.lookup f = some v ∧ VAt K Hk v x
  | _, _, .nil => ⟨fun _ => rfl, fun x e => by cases e⟩
  | (a, v) :: ws, (b, y) :: fs, .cons r t => by
    obtain ⟨i1, i2⟩ := lookup_vkv (f := f) t
    obtain ⟨e, r⟩ := r
    have e : a = b := e
    subst e
    rw [List.lookup_cons, List.lookup_cons]
    by_cases h : (f == a) = true
    · rw [h]
      refine ⟨fun z => ?_, fun x e => ?_⟩
      · have z' : some y = none := z
        cases z'
      · have e' : some y = some x := e
        cases e'
        exact ⟨v, rfl, r⟩
    · rw [Bool.not_eq_true] at h
      rw [h]
      exact ⟨i1, i2⟩
theorem we_meth {pl : Sem Bool} (c : Cls X.K C) (hm : Meth X.K C m f) (G : FnG X.prog X.w X.K X.mg X.base (L2.CX X.prog X.w) j f fd ps (toSp X.K T sp)) (cc : Cok X kk) (hj : j ≤ kk) (hb : Binds X.K fd ps [])
    (h : WE X T o δ O Ex fun x O1 => ∃ a fs, x = .raw (.ref a) ∧ O1 a = some (.ins C fs) ∧ fs.lookup m = none ∧ WA X T (e :: es) δ O1 Ex fun xs O2 => sp (.raw (.ref a) :: xs) O2 k fun cls fs O' => Ex cls fs δ O')
    (hst : starEach (e :: es) X.env = (false, eval e X.env) :: starEach es X.env := by rfl) (hpl : (backTo pos (starEach es X.env)).any (·.1) = false := by rfl)
    (ht : eval (.Call (.Attribute o m apos) (e :: es) [] pos) X.env = (do
      let ov ← eval o X.env
      standAt apos.atName
      let (f, first) ← holding [ov] (getMethod ov m pl)
      callWith pos f first (backTo pos (starEach (e :: es) X.env)) (backToKw pos (keywordEach [] X.env))) := by rfl) :
    WE X T (.Call (.Attribute o m apos) (e :: es) [] pos) δ O Ex k := fun F σ H Hk Q hs hl hx q => by
  obtain ⟨W, tk, hW⟩ := id hx
  refine gE_of (pe_methS (pl := pl) gE_pe c hm G (cc.room.mono hj) cc.gd hb (fun σ => passAt tk σ) gA_pa hst hpl ht) (h F σ H Hk _ hs hl hx fun v x O1 Hk1 H1 k1 hs1 r1 ⟨a, fs, ex, eO, l, h1⟩ => ?_)
  subst ex
  obtain rfl : v = .ref a := r1
  obtain ⟨_, dx, ws, eH, rw'⟩ := hs1.obj a _ eO
  refine ⟨a, dx, ws, rfl, eH, (lookup_vkv rw').1 l, ?_⟩
  refine h1 F σ H1 Hk1 _ hs1 (hl.mono k1) (hx.mono k1) fun vs xs O2 Hk2 H2 k2 hs2 r2 h2 => ?_
  exact toSp_of hl hW q (k1.trans k2) hs2 (Paired.cons (show VAt X.K Hk2 (.ref a) (.raw (.ref a)) from rfl) r2) h2
theorem we_meth0 {pl : Sem Bool} (c : Cls X.K C) (hm : Meth X.K C m f) (G : FnG X.prog X.w X.K X.mg X.base (L2.CX X.prog X.w) j f fd ps (toSp X.K T sp)) (cc : Cok X kk) (hj : j ≤ kk) (hb : Binds X.K fd ps [])
    (h : WE X T o δ O Ex fun x O1 => ∃ a fs, x = .raw (.ref a) ∧ O1 a = some (.ins C fs) ∧ fs.lookup m = none ∧ sp [.raw (.ref a)] O1 k fun cls fs O' => Ex cls fs δ O')
    (ht : eval (.Call (.Attribute o m apos) [] [] pos) X.env = (do
      let ov ← eval o X.env
      standAt apos.atName
      let (f, first) ← holding [ov] (getMethod ov m pl)
      callWith pos f first (backTo pos (starEach [] X.env)) (backToKw pos (keywordEach [] X.env))) := by rfl) :
    WE X T (.Call (.Attribute o m apos) [] [] pos) δ O Ex k := fun F σ H Hk Q hs hl hx q => by
  obtain ⟨W, tk, hW⟩ := id hx
  refine gE_of (pe_methS0 (pl := pl) gE_pe c hm G (cc.room.mono hj) cc.gd hb (fun σ => passAt tk σ) ht) (h F σ H Hk _ hs hl hx fun v x O1 Hk1 H1 k1 hs1 r1 ⟨a, fs, ex, eO, l, h1⟩ => ?_)
  subst ex
  obtain rfl : v = .ref a := r1
  obtain ⟨_, dx, ws, eH, rw'⟩ := hs1.obj a _ eO
  exact ⟨a, dx, ws, rfl, eH, (lookup_vkv rw').1 l, toSp_of hl hW q k1 hs1 (Paired.cons (show VAt X.K Hk1 (.ref a) (.raw (.ref a)) from rfl) .nil) h1⟩
/-! ### built-in functions and types -/
theorem we_callB {id : String} (hm : X.mg x = none) (hv : bootBuiltins x = some (.builtin id)) (h : WA X T (e :: es) δ O Ex fun xs O1 => WC X T (.builtin id) xs O1 k) (hg : Gl X x := by rfl) (hn : x ≠ "__name__" := by decide) (hdb : (x == ("__debug__" : Str)) = false := by decide)
    (he : starEach (e :: es) X.env = (false, eval e X.env) :: starEach es X.env := by rfl) (hpl : (backTo pos (starEach es X.env)).any (·.1) = false := by rfl) : WE X T (.Call (.Name x p) (e :: es) [] pos) δ O Ex k := fun F σ H Hk Q hs hl hx q => by
  refine gE_of (pe_callB gC_call hg hm hv gA_pa hn hdb he hpl) (h F σ H Hk _ hs hl hx fun vs xs O1 Hk1 H1 k1 hs1 r1 h1 => ?_)
  exact h1 F vs H1 Hk1 Q hs1 r1 (q.mono k1)
theorem we_callTy {ty : String} (hm : X.mg x = none) (hv : bootBuiltins x = some (.type ty)) (h : WA X T (e :: es) δ O Ex fun xs O1 => WC X T (.type ty) xs O1 k) (hg : Gl X x := by rfl) (hn : x ≠ "__name__" := by decide) (hdb : (x == ("__debug__" : Str)) = false := by decide)
    (he : starEach (e :: es) X.env = (false, eval e X.env) :: starEach es X.env := by rfl) (hpl : (backTo pos (starEach es X.env)).any (·.1) = false := by rfl) : WE X T (.Call (.Name x p) (e :: es) [] pos) δ O Ex k := fun F σ H Hk Q hs hl hx q => by
  refine gE_of (pe_callTy gC_call hg hm hv gA_pa hn hdb he hpl) (h F σ H Hk _ hs hl hx fun vs xs O1 Hk1 H1 k1 hs1 r1 h1 => ?_)
  exact h1 F vs H1 Hk1 Q hs1 r1 (q.mono k1)
end
end DL
set_option maxHeartbeats 2000000
namespace PySem
namespace DLX
open PySem.W PySem.Calls PyProof.Rows HandSPX
section
variable {M : Model} {A : Around} {E : Value → Shared → Prop} {h : Heap} {g : Array GenState} {d : Drawn} {t : Nat} {os : OsState}
variable {nm q : Str} {C N : Addr} {bs bm bmB : List Value} {hdct : Bool} {sn : List Str} {sub : List Value} {ab : Bool} {col : Option Bool} {dd : Option Addr} {k0 k1 k2 k3 k5 : Option Value} {B newId initId : String}

theorem check_new_kw (F : ExcBaseFacts B newId initId bmB) (hT : ∀ X : String, bm.contains (.type X) = bmB.contains (.type X)) {rest : List Value} {kw : List (Str × Value)} {Q : Unit → Shared → Prop}
    (hC : h.get? C = some (excClassObj nm q C N bs bm hdct sn sub ab col dd k0 k1 k2 k3 k5 newId)) (hq : Q () ⟨h, g, d, t, os⟩) : wpAny M A (checkBuiltinCall newId ⟨.ref C :: rest, kw⟩) Q E ⟨h, g, d, t, os⟩ := by
  have hcont : (Value.ref C :: bm).contains (.type B) = true := by rw [List.contains_cons, hT, F.hasB, Bool.or_true]
  have hstar := F.noStar
  simp only [checkBuiltinCall, F.newKind, F.newSplit, F.newRow]
  repeat (first | refine wpAny_loadPart_at hC ?_ | (refine wpAny_isSubtype_exc hC ?_; rw [hcont]) | refine wpAny_staticBase_exc hC ?_ | refine wpAny_madeBy_exc hC ?_ | simp only [bne_self_eq_false, Bool.false_eq_true, if_false] | wp_step)
  exact hq
end
section
variable {prog : Program} {w : World} {A : Around} {E : Value → Shared → Prop} {R : Result → Shared → Prop} {h : Heap} {g : Array GenState} {d : Drawn} {t : Nat} {os : OsState}
variable {nm q : Str} {C N : Addr} {bs bm bmB : List Value} {hdct : Bool} {sn : List Str} {sub : List Value} {ab : Bool} {col : Option Bool} {dd : Option Addr} {k0 k1 k2 k3 k5 : Option Value} {B newId initId : String}

theorem new_kw (F : ExcBaseFacts B newId initId bmB) (hT : ∀ X : String, bm.contains (.type X) = bmB.contains (.type X)) {rest : List Value} {kw : List (Str × Value)}
    (hC : h.get? C = some (excClassObj nm q C N bs bm hdct sn sub ab col dd k0 k1 k2 k3 k5 newId))
    (hq : R (.ok (.ret (.ref (h.objs.size + 1)))) ⟨(h.push { cls := .type "tuple", data := .seq rest.toArray }).push
      { cls := .ref C, data := .fields #[.ref h.objs.size, .none, .none, .none, .bool false, .none] }, g, d, t, os⟩) (hrest : rest.length ≤ sizeLine) :
    codeAny (model prog w) A (.builtin newId ⟨.ref C :: rest, kw⟩) R ⟨h, g, d, t, os⟩ := by
  have hends := F.ends
  have hcB : (Value.ref C :: bm).contains (.type B) = true := by rw [List.contains_cons, hT, F.hasB, Bool.or_true]
  have hcA : (Value.ref C :: bm).contains (.type "AttributeError") = false := by rw [List.contains_cons, hT, F.noAttr]; rfl
  have hcN : (Value.ref C :: bm).contains (.type "NameError") = false := by rw [List.contains_cons, hT, F.noName]; rfl
  refine codeAny_builtinAt F.entry ?_
  unfold Builtin.«BaseException.__new__»
  refine wpAt_bind ?_
  show wpAt _ _ _ (stack >>= _) _ _ _
  refine wpAt_bind (wpAt_stack fun p below => wpAt_of_wpAny ?_)
  wp_walk
  refine wpAt_of_wpAny ?_
  rw [F.owner]
  repeat (first | with_reducible refine wpAny_madeHere_exc F.canon hC ?_ | with_reducible refine wpAny_loadPart_at hC ?_ | (with_reducible refine wpAny_isSubtype_exc hC ?_; first | rw [hcB] | rw [hcA] | rw [hcN]) | wp_step)
  show R _ _
  rw [Heap.size_push]
  exact hq

theorem type_call_kw (F : ExcBaseFacts B newId initId bmB) (hT : ∀ X : String, bm.contains (.type X) = bmB.contains (.type X)) {rest : List Value} {kw : List (Str × Value)} {fI : Addr} {Q : Fin → Shared → Prop}
    (hC : h.get? C = some (excClassObj nm q C N bs bm hdct sn sub ab col dd k0 k1 k2 k3 k5 newId))
    (hi : W.Looks (model prog w) h (typeLookup (.ref C) "__init__") (some (.ref fI))) (hb : ∀ self, W.Looks (model prog w) h (bindSpecial (.ref fI) self) (.ref fI, [self])) (hrest : rest.length ≤ sizeLine)
    (hq : codeAny (model prog w) A (.call (.ref fI) ⟨.ref (h.objs.size + 1) :: rest, kw⟩)
      (fun r s' => match r with | .ok (.ret v) => v = .none ∧ Q (.done (.ret (.ref (h.objs.size + 1)))) s' | .ok _ => False | .error e => E e s')
      ⟨(h.push (W.kdv_tup rest)).push (excO C h.objs.size), g, d, t, os⟩) :
    wpAny (model prog w) A (Builtin.«type.__call__» ⟨.ref C :: rest, kw⟩) Q E ⟨h, g, d, t, os⟩ := by
  repeat (first | with_reducible refine wpAny_loadPart_at hC ?_ | with_reducible refine wpAny_madeBy_exc hC ?_ | wp_step)
  refine codeAny_call_builtin_code (Code.quiet_builtin _ F.quiet) (check_new_kw F hT hC ?_)
  refine new_kw F hT hC ?_ hrest
  show wpAny _ _ _ _ _ _
  have k : ∀ b o, h.get? b = some o → ((h.push (W.kdv_tup rest)).push (excO C h.objs.size)).get? b = some o := fun b o e => Heap.get?_push_of_some _ (Heap.get?_push_of_some _ e)
  have hC₁ := k _ _ hC
  have hget : ((h.push (W.kdv_tup rest)).push (excO C h.objs.size)).get? (h.objs.size + 1) = some (excO C h.objs.size) := by heap_get
  have hcC : (Value.ref C :: bm).contains (.ref C) = true := by simp
  have i1 := hi.keeps k
  have b1 := (hb (.ref (h.objs.size + 1))).keeps k
  unfold isInstance
  repeat (first | with_reducible refine wpAny_loadPart_at hget ?_ | (with_reducible refine wpAny_isSubtype_exc hC₁ ?_; rw [hcC]) | wp_step)
  show wpAny _ _ (typeLookup (.ref C) _) _ _ _
  refine i1.at ?_
  refine wpAny_holding (wpAny_bind (b1.at ?_))
  refine wpAny_bind (wpAny_call (codeAny_mono hq fun r s' z => ?_))
  rcases r with e | (v | _ | _ | _) <;> first | exact z | exact z.elim | skip
  obtain ⟨rfl, z⟩ := z
  first
    | exact wpAny_pure (wpAny_pure z)
    | (wp_walk; exact z)

theorem call_kw (F : ExcBaseFacts B newId initId bmB) (hT : ∀ X : String, bm.contains (.type X) = bmB.contains (.type X)) {rest : List Value} {kw : List (Str × Value)} {fI : Addr}
    (hC : h.get? C = some (excClassObj nm q C N bs bm hdct sn sub ab col dd k0 k1 k2 k3 k5 newId))
    (hi : W.Looks (model prog w) h (typeLookup (.ref C) "__init__") (some (.ref fI))) (hb : ∀ self, W.Looks (model prog w) h (bindSpecial (.ref fI) self) (.ref fI, [self])) (hrest : rest.length ≤ sizeLine)
    (hq : codeAny (model prog w) (A.under (.builtin "type.__call__" ⟨.ref C :: rest, kw⟩)) (.call (.ref fI) ⟨.ref (h.objs.size + 1) :: rest, kw⟩) (W.InitBack (h.objs.size + 1) R)
      ⟨(h.push (W.kdv_tup rest)).push (excO C h.objs.size), g, d, t, os⟩) :
    codeAny (model prog w) A (.call (.ref C) ⟨rest, kw⟩) R ⟨h, g, d, t, os⟩ := by
  have f1 := tc_lookup
  have f2 := tc_bind (.ref C)
  have hTy : (⟨h, g, d, t, os⟩ : Shared).TypeIs (.ref C) "type" := ⟨_, hC, rfl⟩
  refine codeAny_of_tree ?_
  show wpAny _ _ (callAny (.ref C) _) _ _ _
  repeat (any_goals (first | assumption | with_reducible refine wpAny_loadPart_at hC ?_ | wp_step))
  refine ⟨rfl, ?_⟩
  refine codeAny_call_builtin_at (Code.quiet_builtin _ (by decide +kernel)) entry_typeCall (wpAny_check_type_call_sub hC (type_call_kw F hT hC hi hb hrest ?_))
  refine codeAny_mono hq fun r s' z => ?_
  rcases r with e | (v | _ | _ | _) <;> exact z

end
end DLX
end PySem
set_option maxHeartbeats 2000000
/-! Part G: names of globals, own exceptions as values. -/
namespace DL
open PySem PySem.Spec PyProof.Rows L2
section
variable {X : Cx} {T : List (Addr × Str)} {δ : Sl} {O : Oh} {Ex : XD} {k : Val → Oh → Prop} {pos : Pos} {nm : Str}
theorem we_glo {a : Addr} (hm : X.mg nm = some (.ref a)) (h : k (.raw (.ref a)) O) (hg : Gl X nm := by rfl) (hd : (nm == ("__debug__" : Str)) = false := by decide) : WE X T (.Name nm pos) δ O Ex k :=
  we_c (t := .ref a) (x := .raw (.ref a)) (pe_glob hg hm rfl hd) (fun _ => rfl) h
theorem we_ty {ty : String} (hm : X.mg nm = none) (hv : bootBuiltins nm = some (.type ty)) (h : k (.raw (.ty ty)) O) (hg : Gl X nm := by rfl) (hn : nm ≠ "__name__" := by decide) (hd : (nm == ("__debug__" : Str)) = false := by decide) : WE X T (.Name nm pos) δ O Ex k :=
  we_c (t := .ty ty) (x := .raw (.ty ty)) (pe_bltn hg hm hv rfl hn hd) (fun _ => rfl) h
end

/-! ### what the written part says of an own exception's class -/
structure XC (K : PySem.W.Frag) (C : Addr) : Prop where
  oex : OexC K C
  isx : ExcC K C
  fld : XfC K C
  rd : ClX.CRead K C (.type "type")
def clsB (K : PySem.W.Frag) (C : Addr) : Bool := match K.lookup C with
  | some ⟨.type "type", _, .cls cd, sl⟩ => (match cd.mro, sl.toList with
    | .ref C' :: bm, [_, _, _, _, some (.builtin n), _] => C' == C && (n == "ValueError.__new__" && (!cd.hasDel && (cd.hasDict && PySem.HandSPX.refsVE bm)))
    | _, _ => false)
  | _ => false
theorem clsB_ok {K : PySem.W.Frag} {C : Addr} (h : clsB K C = true) : ∃ nm q N bs bm sn sub ab col dd k0 k1 k2 k3 k5, K.lookup C = some (excClassObj nm q C N bs bm true sn sub ab col dd k0 k1 k2 k3 k5 "ValueError.__new__") ∧ PySem.HandSPX.refsVE bm = true := by
  unfold clsB at h
  split at h
  · rename_i dd cd sl ho
    split at h
    · rename_i C' bm k0 k1 k2 k3 n k5 hm hs
      simp only [Bool.and_eq_true, beq_iff_eq, Bool.not_eq_true'] at h
      obtain ⟨rfl, rfl, hdel, hd, hr⟩ := h
      obtain ⟨nm, bs, mro, ns, qn, hd0, sn, sub, ab, col, del⟩ := cd
      dsimp only at hm hdel hd
      subst hm hdel hd
      have hsl : sl = #[k0, k1, k2, k3, some (.builtin "ValueError.__new__"), k5] := by
        obtain ⟨l⟩ := sl
        simp only at hs
        rw [hs]
      subst hsl
      exact ⟨nm, qn, ns, bs, bm, sn, sub, ab, col, dd, k0, k1, k2, k3, k5, ho, hr⟩
    · cases h
  · cases h
def xcB (K : PySem.W.Frag) (C : Addr) : Bool :=
  clsB K C && (decide (PySem.W.findIn K (.ref C) "__setattr__" = some (some (.builtin "object.__setattr__"))) && (decide (PySem.W.subIn K (.ref C) (.type "BaseException") = some true) && (decide (PySem.W.typeIn K (.ref C) = some (.type "type")) && (PySem.W.keepIn K (.ref C) &&
  (xfB K C && (decide (PySem.W.findIn K (.ref C) "__class__" = some (some (.builtin "object.__class__"))) && (decide (PySem.W.specialIn K (.builtin "object.__class__") "__get__" = some (some (.builtin "getset_descriptor.__get__"))) &&
  (decide (PySem.W.takesIn K (.builtin "object.__class__") = some true) && (decide (PySem.W.mroIn K C (.type "object") = some true) && (PySem.W.readsIn K C (.type "type") && decide (PySem.W.specialIn K (.ref C) "__getattribute__" = some (some (.builtin "type.__getattribute__")))))))))))))
theorem bb {a b : Bool} (h : (a && b) = true) : a = true ∧ b = true := Bool.and_eq_true_iff.mp h
theorem xcB_ok {K : PySem.W.Frag} {C : Addr} (h : xcB K C = true) : XC K C := by
  obtain ⟨h1, h⟩ := bb h
  obtain ⟨h2, h⟩ := bb h
  obtain ⟨h3, h⟩ := bb h
  obtain ⟨h4, h⟩ := bb h
  obtain ⟨h5, h⟩ := bb h
  obtain ⟨h6, h⟩ := bb h
  obtain ⟨h7, h⟩ := bb h
  obtain ⟨h8, h⟩ := bb h
  obtain ⟨h9, h⟩ := bb h
  obtain ⟨h10, h⟩ := bb h
  obtain ⟨h11, h12⟩ := bb h
  have f := xfB_ok h6
  exact ⟨⟨clsB_ok h1, of_decide_eq_true h2, of_decide_eq_true h3, of_decide_eq_true h4, h5⟩, ⟨f.ga, f.gg, f.exC, f.hdC, of_decide_eq_true h7, of_decide_eq_true h8, of_decide_eq_true h9, of_decide_eq_true h10⟩, f, ⟨h11, of_decide_eq_true h12⟩⟩

/-! ### an exception that stands as an object -/
def ExR (O : Oh) (p C : Addr) (fs : List (Str × Val)) : Prop := O p = some (.exc C fs) ∨ O p = some (.exh C fs)
section
variable {X : Cx} {pins : List (Addr × Obj)} {σ : Stt} {H Hk : Hp} {s : Shared} {t : TF} {O : Oh} {p C : Addr} {fs : List (Str × Val)}
/-- its record, its dict, the fields -/
theorem exr_at (hd : HD X.K t Hk H O) (I : Inv X pins σ H s) (e : ExR O p C fs) : ∃ (oe : Obj) (od : Option Obj), PySem.W.InstAt s.heap p oe C od ∧
    (fs ≠ [] → ∃ (o : Obj) (ws : List (Str × V)), od = some o ∧ VKv X.K Hk ws fs ∧ ∀ f v, ws.lookup f = some v → ∃ u, RelV v u ∧ PySem.W.lookIn f o = some (some u)) := by
  have key : ∀ (d : Option Addr) (oe : Obj) (vs : Array Value), s.heap.get? p = some oe → oe.cls = .ref C → oe.dict = d → oe.data = .fields vs → XDct X.K Hk d fs → ∃ (oe : Obj) (od : Option Obj), PySem.W.InstAt s.heap p oe C od ∧
      (fs ≠ [] → ∃ (o : Obj) (ws : List (Str × V)), od = some o ∧ VKv X.K Hk ws fs ∧ ∀ f v, ws.lookup f = some v → ∃ u, RelV v u ∧ PySem.W.lookIn f o = some (some u)) := by
    intro d oe vs h1 h2 h3 h4 hx
    have hno : PySem.W.notCls oe = true := by
      unfold PySem.W.notCls
      rw [h4] <;> rfl
    rcases hx with ⟨rfl, rfl⟩ | ⟨hne, dd, ws, rfl, hq, rw'⟩
    · exact ⟨oe, none, ⟨h1, h2, hno, by rw [h3]; trivial⟩, fun z => absurd rfl z⟩
    · obtain ⟨mA, hns, hr⟩ := exd_at I.hok (hd.sub _ _ hq fun _ z => by unfold exd at z; cases z)
      obtain ⟨od, ho, hl⟩ := lookIn_ns hns
      refine ⟨oe, some od, ⟨h1, h2, hno, by rw [h3]; exact ho⟩, fun _ => ⟨od, ws, rfl, rw', fun f v e => ?_⟩⟩
      obtain ⟨u, hu, ru⟩ := RelO.some_of (v := v) (o := mA f) (by rw [← e]; exact hr f)
      exact ⟨u, ru, by rw [hl, hu]⟩
  rcases e with e | e
  · obtain ⟨_, d, eH, hx⟩ := hd.obj p _ e
    obtain ⟨t1, ho⟩ := exo_at I.hok eH
    exact key d _ _ ho rfl rfl rfl hx
  · obtain ⟨_, d, φ, eH, hφ, hx⟩ := hd.obj p _ e
    have x : ObjOk X.prog X.w H s.heap p (.ext φ) := I.hok p _ eH
    obtain ⟨oe, vs, h1, h2, h3, h4⟩ := hφ _ x.1
    exact key d oe vs h1 h2 h3 h4 hx
end

/-! ### isinstance of such an object -/
theorem kitx_excX {K : PySem.W.Frag} {x D : Addr} {ox : Obj} {odo : Option Obj} (C : ExcC K D) : PySem.W.KitX K (.ref x) (.ref D) (fun h => PySem.W.InstAt h x ox D odo) :=
  PySem.W.kitx_exc (by obtain ⟨cd, hc, _⟩ := PySem.W.any_some C.hd; rw [hc]; rfl) C.hg C.hk C.hs C.ha C.hn C.ht C.hm
section
variable {X : Cx} {T : List (Addr × Str)} {δ : Sl} {O : Oh} {Ex : XD} {k : Val → Oh → Prop} {p D C : Addr} {fs : List (Str × Val)} {kk j : Nat}
/-- isinstance(e, C), e an exception that stands -/
theorem wc_isx {c : V} {cv : Value} {b : Bool} (e : ExR O p D fs) (t : ExcC X.K D) (hcv : ∀ u, RelV c u → u = cv) (hb : PySem.W.kitOne X.K (.ref D) cv = some b) (q : k (.dat (.bool b)) O) : WC X T (.builtin "isinstance") [.raw (.ref p), .raw c] O k := fun F vs H Hk Q hs r got => by
  obtain ⟨v1, v2, rfl⟩ : ∃ v1 v2, vs = [v1, v2] := by
    cases r with
    | cons a r => cases r with
      | cons b r => cases r; exact ⟨_, _, rfl⟩
  cases r with
  | cons r1 r =>
    cases r with
    | cons r2 r =>
      obtain rfl : v1 = .ref p := r1
      obtain rfl : v2 = c := r2
      intro pins s σ us I ru
      obtain ⟨u1, u2, rfl, ru1, ru2⟩ := vals2 ru
      obtain rfl : u1 = Value.ref p := ru1
      obtain rfl := hcv _ ru2
      obtain ⟨oe, od, J, _⟩ := exr_at hs I e
      exact PySem.W.kia_one (kitx_excX t) I.kIn J hb (fun z => nomatch z) fun tk => ⟨.bl b, H, I.kept (t' := tk) fun _ _ z => z, rfl, got _ (.dat (.bool b)) O Hk H (Kp.refl _) hs (At.bl _) q⟩
/-- e.f of such an object -/
theorem we_xfld {e : Expr} {f : Str} {pos : Pos} (h : WE X T e δ O Ex fun x O1 => ∃ p C fs y, x = .raw (.ref p) ∧ ExR O1 p C fs ∧ XfC X.K C ∧ PySem.W.findIn X.K (.ref C) f = some none ∧ fs.lookup f = some y ∧ k y O1)
    (hb : attributeBase e f X.env (eval e X.env) = eval e X.env := by rfl) : WE X T (.Attribute e f pos) δ O Ex k := fun F σ H Hk Q hs hl hx q => by
  intro pins s I
  refine attr_of hb (thn ((gE_pe (X := X) (e := e)).run pins s σ H _ I (h F σ H Hk (fun v H' => ∃ x O1 Hk1, Kp Hk Hk1 ∧ HD X.K ⟨T, F⟩ Hk1 H' O1 ∧ VAt X.K Hk1 v x ∧ _) hs hl hx fun v x O1 Hk1 H1 k1 hs1 r1 h1 => ⟨x, O1, Hk1, k1, hs1, r1, h1⟩)) fun u s1 ⟨v, H1, I1, rv, x, O1, Hk1, k1, hs1, r1, p, C, fs, y, ex, er, hf, hno, hl2, hk⟩ => ?_)
  subst ex
  obtain rfl : v = .ref p := r1
  obtain rfl : u = Value.ref p := rv
  obtain ⟨oe, od, J, z⟩ := exr_at hs1 I1 er
  obtain ⟨o, ws, rfl, rw', z⟩ := z (fun e => by rw [e] at hl2; cases hl2)
  obtain ⟨v2, e2, r2⟩ := (lookup_vkv rw').2 y hl2
  obtain ⟨u2, ru, lk⟩ := z f v2 e2
  exact HandSPX.exc_get I1.kIn J hf.ga hf.gg hf.exC (PySem.W.findObj_own hf.hdC hno rfl lk) (handed_of ru) ⟨v2, H1, I1.tok _, ru, q v2 y O1 Hk1 H1 k1 hs1 r2 hk⟩
end
end DL
set_option maxHeartbeats 2000000
/-! Part H: own exceptions are made: C(..), their __init__. -/
namespace DL
open PySem PySem.Spec PyProof.Rows L2
/-- the attribute __init__ of the package's base class is the built-in one -/
structure XU (K : PySem.W.Frag) (U : Addr) : Prop where
  rd : ClX.CRead K U (.type "type")
  at_ : PySem.W.findCls K (.ref U) (.type "type") "__init__" = some (.val (.builtin "ValueError.__init__"))
section
variable {X : Cx} {T : List (Addr × Str)} {δ : Sl} {O : Oh} {Ex : XD} {k : Val → Oh → Prop} {U C : Addr} {kk j : Nat} {nm : Str} {e o : Expr} {es : List Expr} {p p1 p2 p' pos : Pos} {ta : TA} {D : De}
theorem pe_uinit {pl : Sem Bool} (hg : Gl X nm) (hm : X.mg nm = some (.ref U)) (u : XU X.K U) (ha : PA X (e :: es) ta) (hdb : (nm == ("__debug__" : Str)) = false := by decide)
    (hc : eval (.Call (.Attribute (.Name nm p1) "__init__" p2) (e :: es) [] pos) X.env = (do
      let ov ← eval (.Name nm p1) X.env
      standAt p2.atName
      let (f, first) ← holding [ov] (getMethod ov "__init__" pl)
      callWith pos f first (backTo pos (starEach (e :: es) X.env)) (backToKw pos (keywordEach [] X.env))) := by rfl)
    (he : starEach (e :: es) X.env = (false, eval e X.env) :: starEach es X.env := by rfl) (hpl : (backTo pos (starEach es X.env)).any (·.1) = false := by rfl) :
    PE X (.Call (.Attribute (.Name nm p1) "__init__" p2) (e :: es) [] pos) (tVeI X.K ta) := by
  refine ⟨fun pins s σ H Q I h => ?_⟩
  refine PySem.W.methodCall_KW (ld_glob I hg hm ?_ hdb) hc
  refine PySem.W.method_cls I.kIn u.rd.ga ?_
  refine PySem.W.cls_value I.kIn u.rd.rd u.at_ rfl ?_
  show wpAny _ _ (callWith pos (Value.builtin "ValueError.__init__") [] (backTo pos (starEach (e :: es) X.env)) []) _ _ _
  refine PyProof.Rows.callWith_method1 (thn (ha.run pos pins _ σ H _ (I.tok _) h) fun us s1 ⟨vs, H1, I1, r1, a, C, ws, ev, hl, T, ea, q⟩ => ?_) he hpl
  subst ev
  cases r1 with
  | @cons _ u0 _ ur ra rw' =>
    obtain rfl : u0 = Value.ref a := ra
    have hlen : ur.length ≤ sizeLine := by
      rw [← Paired.length rw', sizeLine_eq]
      omega
    exact oinit_ok T I1 ea hlen fun s' J => ⟨.non, H1, J, rfl, q⟩
theorem exc_new_at {K : PySem.W.Frag} {t : TF} {Hk H : Hp} {a : Addr} (hs : HD K t Hk H O) (e : O a = some (.exc C [])) : Hk a = none ∧ H a = some (exo a C none) := by
  obtain ⟨n, d, eH, hx⟩ := hs.obj a _ e
  rcases hx with ⟨_, rfl⟩ | ⟨z, _⟩
  · exact ⟨n, eH⟩
  · exact absurd rfl z
theorem we_uinit {pl : Sem Bool} (hm : X.mg nm = some (.ref U)) (u : XU X.K U) (h : WA X T (e :: es) δ O Ex fun xs O1 => ∃ a C ws, xs = .raw (.ref a) :: ws ∧ ws.length ≤ 1000 ∧ OexC X.K C ∧ O1 a = some (.exc C []) ∧ k (.dat .none) O1) (hg : Gl X nm := by rfl) (hdb : (nm == ("__debug__" : Str)) = false := by decide)
    (hc : eval (.Call (.Attribute (.Name nm p1) "__init__" p2) (e :: es) [] pos) X.env = (do
      let ov ← eval (.Name nm p1) X.env
      standAt p2.atName
      let (f, first) ← holding [ov] (getMethod ov "__init__" pl)
      callWith pos f first (backTo pos (starEach (e :: es) X.env)) (backToKw pos (keywordEach [] X.env))) := by rfl)
    (he : starEach (e :: es) X.env = (false, eval e X.env) :: starEach es X.env := by rfl) (hpl : (backTo pos (starEach es X.env)).any (·.1) = false := by rfl) :
    WE X T (.Call (.Attribute (.Name nm p1) "__init__" p2) (e :: es) [] pos) δ O Ex k := fun F σ H Hk Q hs hl hx q => by
  refine gE_of (pe_uinit (pl := pl) hg hm u gA_pa hdb hc he hpl) (h F σ H Hk _ hs hl hx fun vs xs O1 Hk1 H1 k1 hs1 r1 ⟨a, C, ws, ex, hz, T, eO, h1⟩ => ?_)
  subst ex
  cases r1 with
  | @cons v _ vs' _ ra rw' =>
    obtain rfl : v = .ref a := ra
    exact ⟨a, C, vs', rfl, by rw [Paired.length rw']; exact hz, T, (exc_new_at hs1 eO).2, q .non (.dat .none) O1 Hk1 H1 k1 hs1 At.non h1⟩
/-- self.f = e, the first field of an exception that is made -/
theorem ws_xset {f : Str} (h : WE X T e δ O Ex fun y O1 => WE X T o δ O1 Ex fun x O2 => ∃ a C, x = .raw (.ref a) ∧ OexC X.K C ∧ PySem.W.findIn X.K (.ref C) f = some none ∧ O2 a = some (.exc C []) ∧ D.nx δ (oset O2 a (.exc C [(f, y)])))
    (hs0 : swapsWith e (some (.Attribute o f p')) pos.line X.env = pure false := by rfl) : WS X T (.Assign [.Attribute o f p'] e pos) δ O Ex D := fun F σ H Hk D0 hs hl hx q => by
  refine gS_of (ps_ost gE_pe gE_pe hs0) (h F σ H Hk _ hs hl hx fun v y O1 Hk1 H1 k1 hs1 r1 h1 => ?_)
  refine h1 F σ H1 Hk1 _ hs1 (hl.mono k1) (hx.mono k1) fun u x O2 Hk2 H2 k2 hs2 r2 ⟨a, C, ex, T, hno, eO, h2⟩ => ?_
  subst ex
  obtain rfl : u = .ref a := r2
  obtain ⟨hna, eH⟩ := exc_new_at hs2 eO
  refine ⟨a, C, rfl, T, hno, .inl ⟨eH, fun dx hdx hne => ?_⟩⟩
  have k3 : Kp Hk2 (upd Hk2 dx (exd dx [(f, v)])) := Kp.upd (hs2.dom dx hdx)
  have hs3 : HD X.K ⟨_, F⟩ (upd Hk2 dx (exd dx [(f, v)])) (upd H2 dx (exd dx [(f, v)])) O2 := hs2.newK hdx
  have eH3 : upd H2 dx (exd dx [(f, v)]) a = some (exo a C none) := by rw [upd_ne (Ne.symm hne)]; exact eH
  have hs4 := hs3.setX (o := exo a C (some dx)) (oo := .exc C [(f, y)]) eO eH3 (fun _ z => exo_tbl z) exo_code ⟨some dx, upd_same, .inr ⟨List.cons_ne_nil _ _, dx, [(f, v)], rfl, upd_same, .cons ⟨rfl, (r1.mono k2).mono k3⟩ .nil⟩⟩
  exact q.nx _ _ _ _ _ (k1.trans (k2.trans k3)) hs4 (hl.mono (k1.trans (k2.trans k3))) h2
end

/-! ### keywords -/
section
variable (X : Cx) (T : List (Addr × Str))
def gK (kws : List Keyword) : TA := fun σ H Q => ∀ (pos : Pos) (pins : List (Addr × Obj)) (s : Shared), Inv X pins σ H s → wpAny (model X.prog X.w) X.A (evalAll ((backToKw pos (keywordEach kws X.env)).map (·.2))) (AP X pins σ Q) X.xe s
def WK (kws : List Keyword) (δ : Sl) (O : Oh) (Ex : XD) (k : List Val → Oh → Prop) : Prop := ∀ (F : Oh) (σ : Stt) (H Hk : Hp) (Q : List V → Hp → Prop), HD X.K ⟨T, F⟩ Hk H O → SL X.K Hk σ δ → XOK X ⟨T, F⟩ Hk Ex → GotA X.K ⟨T, F⟩ Hk k Q → gK X kws σ H Q
end
section
variable {X : Cx} {T : List (Addr × Str)} {δ : Sl} {O : Oh} {Ex : XD} {ka : List Val → Oh → Prop} {e : Expr} {kws : List Keyword} {nm : Option Str} {kpos : Pos} {σ : Stt} {H : Hp}
theorem gK_pk : PK X kws (gK X kws) := ⟨fun pos pins s _ _ _ I h => h pos pins s I⟩
theorem gK_of {t : TA} {Q : List V → Hp → Prop} (h : PK X kws t) (q : t σ H Q) : gK X kws σ H Q := fun pos pins s I => h.run pos pins s σ H Q I q
theorem wk_nil (h : ka [] O) : WK X T [] δ O Ex ka := fun F σ H Hk Q hs hl hx q => gK_of pk_nil (q [] [] O Hk H (Kp.refl _) hs .nil h)
theorem wk_cons (h : WE X T e δ O Ex fun x O1 => WK X T kws δ O1 Ex fun xs O2 => ka (x :: xs) O2) : WK X T (⟨nm, e, kpos⟩ :: kws) δ O Ex ka := fun F σ H Hk Q hs hl hx q => by
  refine gK_of (pk_cons gE_pe gK_pk) (h F σ H Hk _ hs hl hx fun v x O1 Hk1 H1 k1 hs1 r1 h1 => ?_)
  exact h1 F σ H1 Hk1 _ hs1 (hl.mono k1) (hx.mono k1) fun vs xs O2 Hk2 H2 k2 hs2 r2 h2 => q (v :: vs) (x :: xs) O2 Hk2 H2 (k1.trans k2) hs2 (.cons (r1.mono k2) r2) h2
end
/-- how n positional values and keywords named ks are bound: in the parameters' order -/
def KB (K : PySem.W.Frag) (fd : FuncData) (ps : List Str) (n : Nat) (ks : List Str) : Prop := ∀ (s : Shared) (us ws : List Value), K.In s.heap → us.length = n → ws.length = ks.length → BindsTo s fd ⟨us, ks.zip ws⟩ (ps.zip (us ++ ws))
theorem FunD.kb {K : PySem.W.Frag} {x qual : Str} {params : Arguments} {body : List Stmt} {scope : Scope} {kws : List (Str × V)} {f : Addr} {fd : FuncData} {ps ks : List Str} {n : Nat} (F : FunD K x qual params body scope [] kws f fd)
    (h : ∀ (kV doc pm : Value) (an : Option Addr) (cdv ct : Value) (us ws : List Value), us.length = n → ws.length = ks.length → bindArgs (PySem.W.fnOf x qual params body scope .none kV doc pm an cdv ct) ⟨us, ks.zip ws⟩ = pure (ps.zip (us ++ ws))) : KB K fd ps n ks := by
  intro s us ws _ h1 h2
  obtain ⟨oc, od, dV, kV, doc, pm, an, cdv, ct, osl, rfl, lk, hcd, hD, hK⟩ := F.ex
  rcases hD with ⟨_, rfl⟩ | ⟨e, _⟩
  · exact .of_eq (h kV doc pm an cdv ct us ws h1 h2)
  · exact absurd rfl e

/-! ### C(..) of an own exception class with an own __init__ -/
theorem make_guards {A : Around} {C : Addr} {us : List Value} {kw : List (Str × Value)} (h : A.guards = some []) : (A.under (.builtin "type.__call__" ⟨.ref C :: us, kw⟩)).guards = some [] := by
  have e : (Code.builtin "type.__call__" ⟨.ref C :: us, kw⟩).guards = [] := by
    unfold Code.guards
    rw [if_neg]
    show ¬ guardIds.contains "type.__call__" = true
    decide
  show pushGuards (Code.builtin "type.__call__" ⟨.ref C :: us, kw⟩).guards A.guards = some []
  rw [e]
  exact h
section
variable {X : Cx} {CX : CXT} {C fI : Addr} {k : Nat} {fd : FuncData} {ps : List Str} {sp : Sp} {E : XK}
theorem run_oex {pins : List (Addr × Obj)} {σ : Stt} {H : Hp} {s : Shared} {Q : VK} {us us0 : List Value} {kw : List (Str × Value)} {vs : List V} (T : OexC X.K C) (iC : PySem.W.findIn X.K (.ref C) "__init__" = some (some (.ref fI))) (tI : PySem.W.typeIn X.K (.ref fI) = some (.type "function"))
    (F1 : FnG X.prog X.w X.K X.mg X.base CX k fI fd ps sp) (hr : Room (k + 1) X.A) (hgd : X.A.guards = some []) (hb : ∀ (s' : Shared) (a : Addr), X.K.In s'.heap → BindsTo s' fd ⟨.ref a :: us, kw⟩ (ps.zip (.ref a :: us0))) (hx : PassesAt CX X σ E)
    (I : Inv X pins σ H s) (r : Vals vs us0) (hz : us.length ≤ sizeLine) (h : ∀ a, H a = none → sp (.ref a :: vs) (upd H a (exo a C none)) (fun v H2 => v = .non ∧ Q (.ref a) H2) E) : wpAny (model X.prog X.w) X.A (call (.ref C) us kw) (EP X pins σ Q) X.xe s := by
  obtain ⟨nm, q, N, bs, bm, sn, sub, ab, col, dd, k0, k1, k2, k3, k5, hC, hbm⟩ := T.cls
  obtain ⟨hp, g, dr, tk, os⟩ := s
  have hsz : hp.objs.size ≤ hp.objs.size + 1 := Nat.le_succ _
  have hn : H (hp.objs.size + 1) = none := I.hok.fresh hsz
  have hq := h (hp.objs.size + 1) hn
  have kk : ∀ b o, hp.get? b = some o → ((hp.push (PySem.W.kdv_tup us)).push (PySem.HandSPX.excO C hp.objs.size)).get? b = some o := fun b o e => Heap.get?_push_of_some _ (Heap.get?_push_of_some _ e)
  have hget : ((hp.push (PySem.W.kdv_tup us)).push (PySem.HandSPX.excO C hp.objs.size)).get? (hp.objs.size + 1) = some (PySem.HandSPX.excO C hp.objs.size) := by heap_get
  have I2 : Inv X pins σ (upd H (hp.objs.size + 1) (exo (hp.objs.size + 1) C none)) ⟨(hp.push (PySem.W.kdv_tup us)).push (PySem.HandSPX.excO C hp.objs.size), g, dr, tk, os⟩ :=
    I.laid (t' := tk) (a := hp.objs.size + 1) (o := exo (hp.objs.size + 1) C none) (h' := (hp.push (PySem.W.kdv_tup us)).push (PySem.HandSPX.excO C hp.objs.size)) kk hsz (exo_ok hget)
  have r2 : Vals (V.ref (hp.objs.size + 1) :: vs) (Value.ref (hp.objs.size + 1) :: us0) := .cons rfl r
  refine wpAny_call (PySem.DLX.call_kw F.excBase_ValueError (fun Y => PySem.HandSPX.refsVE_contains Y bm hbm) (I.kIn _ _ hC) (PySem.W.looks_findIn I.kIn iC) (fun self => PySem.W.bind_fn I.kIn self tI) hz
    (codeAny_mono (F1.run _ X.stack _ _ ⟨Value.ref (hp.objs.size + 1) :: us, kw⟩ (Value.ref (hp.objs.size + 1) :: us0) _ _ E (hr.make C us kw) (make_guards hgd) (I2.env0.make C us kw) (hb _ _ I2.kIn) r2 hq) fun r s' hq' => ?_))
  cases r with
  | error er => exact hx pins _ _ er s' I2 hq'
  | ok fl =>
    cases fl with
    | ret u =>
      obtain ⟨v, H', I3, rv, ev, q3⟩ := I2.after hq'
      subst ev
      exact ⟨rv, ⟨V.ref (hp.objs.size + 1), H', I3, rfl, q3⟩⟩
    | next => exact False.elim hq'
    | brk => exact False.elim hq'
    | cont => exact False.elim hq'
end
section
variable {X : Cx} {T : List (Addr × Str)} {δ : Sl} {O : Oh} {Ex : XD} {k : Val → Oh → Prop} {C fI : Addr} {kk j : Nat} {x : Str} {e : Expr} {es : List Expr} {kws : List Keyword} {p pos : Pos} {fd : FuncData} {ps ks : List Str} {sp : DSp}
/-- what is known of a class that is made so -/
structure XM (X : Cx) (T : List (Addr × Str)) (x : Str) (C fI : Addr) (j : Nat) (fd : FuncData) (ps : List Str) (sp : DSp) : Prop where
  gl : X.mg x = some (.ref C)
  oex : OexC X.K C
  ini : PySem.W.findIn X.K (.ref C) "__init__" = some (some (.ref fI))
  tI : PySem.W.typeIn X.K (.ref fI) = some (.type "function")
  fn : FnG X.prog X.w X.K X.mg X.base (L2.CX X.prog X.w) j fI fd ps (toSp X.K T sp)
theorem sp_made {F : Oh} {W : WX} {Hk Hk1 H1 : Hp} {O1 : Oh} {σ : Stt} {vs : List V} {xs : List Val} {Q : VK} {a : Addr} (hl : SL X.K Hk σ δ) (hW : ∀ (cls : Value) (d : Option Addr) (σ : Stt) (H Hk' : Hp) (O : Oh) (δ : Sl) (fs : List (Str × Val)), Kp Hk Hk' → HD X.K ⟨T, F⟩ Hk' H O → SL X.K Hk' σ δ → EF X.K Hk' H d fs → Ex cls fs δ O → W cls d σ H)
    (q : Got X.K ⟨T, F⟩ Hk k Q) (k1 : Kp Hk Hk1) (hs1 : HD X.K ⟨T, F⟩ Hk1 H1 O1) (r1 : VAll X.K Hk1 vs xs) (hn : H1 a = none) (h1 : sp (.raw (.ref a) :: xs) (oset O1 a (.exc C [])) (fun v O2 => v = .dat .none ∧ k (.raw (.ref a)) O2) fun cls fs O' => Ex cls fs δ O') :
    toSp X.K T sp (.ref a :: vs) (upd H1 a (exo a C none)) (fun v H2 => v = .non ∧ Q (.ref a) H2) (L2.WE W σ) := by
  have hs2 : HD X.K ⟨T, F⟩ Hk1 (upd H1 a (exo a C none)) (oset O1 a (.exc C [])) := hs1.newO (o := exo a C none) (oo := .exc C []) hn ⟨none, upd_same, .inl ⟨rfl, rfl⟩⟩
  refine toSp_of (k := fun v O2 => v = .dat .none ∧ k (.raw (.ref a)) O2) hl hW (fun v y O' Hk' H' kp hd r ⟨e, hk⟩ => ?_) k1 hs2 (Paired.cons (show VAt X.K Hk1 (.ref a) (.raw (.ref a)) from rfl) r1) h1
  subst e
  cases r
  exact ⟨rfl, q (.ref a) (.raw (.ref a)) O' Hk' H' kp hd rfl hk⟩
theorem we_mkx (M : XM X T x C fI j fd ps sp) (cc : Cok X kk) (hj : j + 1 ≤ kk) (hb : Binds X.K fd ps []) (hlen : ∀ args O k ex, sp args O k ex → args.length = ps.length)
    (h : WA X T (e :: es) δ O Ex fun xs O1 => xs.length ≤ 1000 ∧ ∀ a, O1 a = none → sp (.raw (.ref a) :: xs) (oset O1 a (.exc C [])) (fun v O2 => v = .dat .none ∧ k (.raw (.ref a)) O2) fun cls fs O' => Ex cls fs δ O') (hg : Gl X x := by rfl)
    (hdb : (x == ("__debug__" : Str)) = false := by decide) (he : starEach (e :: es) X.env = (false, eval e X.env) :: starEach es X.env := by rfl) (hpl : (backTo pos (starEach es X.env)).any (·.1) = false := by rfl) :
    WE X T (.Call (.Name x p) (e :: es) [] pos) δ O Ex k := fun F σ H Hk Q hs hl hx q => by
  obtain ⟨W, tk, hW⟩ := id hx
  intro pins s I
  refine wpAny_Call_Name_kw (ld_glob I hg M.gl ?_ hdb)
  refine PySem.W.callWith_K (h₀ := X.base) I.ok.mod.kin M.oex.kC (thn (gA_pa.run pos pins s σ H _ I (h F σ H Hk (fun vs H' => ∃ xs O1 Hk1, Kp Hk Hk1 ∧ HD X.K ⟨T, F⟩ Hk1 H' O1 ∧ VAll X.K Hk1 vs xs ∧ _) hs hl hx fun vs xs O1 Hk1 H1 k1 hs1 r1 h1 => ⟨xs, O1, Hk1, k1, hs1, r1, h1⟩)) fun us s1 ⟨vs, H1, I1, r, xs, O1, Hk1, k1, hs1, r1, hz, h1⟩ => ⟨I1.kIn, ?_⟩) he hpl
  have hlen2 : us.length + 1 = ps.length := by
    have hl2 := hlen _ _ _ _ (h1 (s1.heap.objs.size + 1) (hs1.fresh (I1.hok.fresh (Nat.le_succ _))))
    have e1 := Paired.length r
    have e2 : vs.length = xs.length := r1.length
    rw [List.length_cons] at hl2
    omega
  refine run_oex (us := us) (us0 := us) (kw := []) M.oex M.ini M.tI M.fn (cc.room.mono hj) cc.gd (fun s' a kin => ?_) (passAt tk σ) I1 r ?_ fun a hn => ?_
  · have b := hb s' (.ref a :: us) kin (by rw [List.append_nil, List.length_cons]; exact hlen2)
    rw [List.append_nil] at b
    exact b
  · rw [← Paired.length r, r1.length, sizeLine_eq]
    omega
  · exact sp_made hl hW q k1 hs1 r1 hn (h1 a (hs1.fresh hn))
theorem we_mkx0 (M : XM X T x C fI j fd ps sp) (cc : Cok X kk) (hj : j + 1 ≤ kk) (hb : Binds X.K fd ps []) (hlen : ∀ args O k ex, sp args O k ex → args.length = ps.length)
    (h : ∀ a, O a = none → sp [.raw (.ref a)] (oset O a (.exc C [])) (fun v O2 => v = .dat .none ∧ k (.raw (.ref a)) O2) fun cls fs O' => Ex cls fs δ O') (hg : Gl X x := by rfl)
    (hdb : (x == ("__debug__" : Str)) = false := by decide) :
    WE X T (.Call (.Name x p) [] [] pos) δ O Ex k := fun F σ H Hk Q hs hl hx q => by
  obtain ⟨W, tk, hW⟩ := id hx
  intro pins s I
  refine wpAny_Call_Name_kw (ld_glob I hg M.gl ?_ hdb)
  refine PySem.W.callWith_K0 I.kIn M.oex.kC ?_
  have hlen2 : 1 = ps.length := hlen _ _ _ _ (h (s.heap.objs.size + 1) (hs.fresh (I.hok.fresh (Nat.le_succ _))))
  refine run_oex (us := []) (us0 := []) (kw := []) M.oex M.ini M.tI M.fn (cc.room.mono hj) cc.gd (fun s' a kin => ?_) (passAt tk σ) I .nil (Nat.zero_le _) fun a hn => ?_
  · have b := hb s' [.ref a] kin hlen2
    rw [List.append_nil] at b
    exact b
  · exact sp_made (vs := []) (xs := []) hl hW q (Kp.refl _) hs .nil hn (h a (hs.fresh hn))
/-- C(k = v, ..) -/
theorem we_mkxK (M : XM X T x C fI j fd ps sp) (cc : Cok X kk) (hj : j + 1 ≤ kk) (hb : KB X.K fd ps 1 ks)
    (h : WK X T kws δ O Ex fun xs O1 => xs.length = ks.length ∧ ∀ a, O1 a = none → sp (.raw (.ref a) :: xs) (oset O1 a (.exc C [])) (fun v O2 => v = .dat .none ∧ k (.raw (.ref a)) O2) fun cls fs O' => Ex cls fs δ O') (hg : Gl X x := by rfl)
    (hall : (backToKw pos (keywordEach kws X.env)).all (·.1.isSome) = true := by rfl) (hks : (backToKw pos (keywordEach kws X.env)).filterMap (·.1) = ks := by rfl)
    (hdb : (x == ("__debug__" : Str)) = false := by decide) (hpl : ((backTo pos (starEach [] X.env)).any (·.1) || (backToKw pos (keywordEach kws X.env)).any (·.1.isNone)) = false := by rfl) :
    WE X T (.Call (.Name x p) [] kws pos) δ O Ex k := fun F σ H Hk Q hs hl hx q => by
  obtain ⟨W, tk, hW⟩ := id hx
  intro pins s I
  refine wpAny_Call_Name_kw (ld_glob I hg M.gl ?_ hdb)
  refine PySem.W.callWith_KW0 (h₀ := X.base) I.ok.mod.kin M.oex.kC hall (thn (gK_pk.run pos pins s σ H _ I (h F σ H Hk (fun vs H' => ∃ xs O1 Hk1, Kp Hk Hk1 ∧ HD X.K ⟨T, F⟩ Hk1 H' O1 ∧ VAll X.K Hk1 vs xs ∧ _) hs hl hx fun vs xs O1 Hk1 H1 k1 hs1 r1 h1 => ⟨xs, O1, Hk1, k1, hs1, r1, h1⟩)) fun us s1 ⟨vs, H1, I1, r, xs, O1, Hk1, k1, hs1, r1, hz, h1⟩ => ⟨I1.kIn, ?_⟩) hpl
  rw [hks]
  refine run_oex (us := []) (us0 := us) (kw := ks.zip us) M.oex M.ini M.tI M.fn (cc.room.mono hj) cc.gd (fun s' a kin => ?_) (passAt tk σ) I1 r (Nat.zero_le _) fun a hn => ?_
  · refine hb s' [.ref a] us kin rfl ?_
    rw [← Paired.length r, r1.length]
    exact hz
  · exact sp_made hl hW q k1 hs1 r1 hn (h1 a (hs1.fresh hn))
/-- U(), U without own __init__ -/
theorem we_mkp {bmB : List Value} {B newId initId : String} (Fb : ExcBaseFacts B newId initId bmB) (gl : X.mg x = some (.ref C)) (ei : PySem.W.excIn X.K C bmB newId = true) (kC : PySem.W.keepIn X.K (.ref C) = true)
    (h : ∀ a, O a = none → k (.raw (.ref a)) (oset O a (.exc C []))) (hg : Gl X x := by rfl) (hdb : (x == ("__debug__" : Str)) = false := by decide) : WE X T (.Call (.Name x p) [] [] pos) δ O Ex k := fun F σ H Hk Q hs hl hx q => by
  intro pins s I
  refine wpAny_Call_Name_kw (ld_glob I hg gl ?_ hdb)
  refine PySem.W.callWith_K0 I.kIn kC ?_
  show wpAny _ _ (call (.ref C) []) _ _ _
  obtain ⟨bm, N, nm, qn, bs, hdct, sn, sub, ab, col, dd, k0, k1, k2, k3, k5, mN, hC, hN, hni, TT⟩ := exc_obj I.kIn ei
  refine wpAny_call_exc_subT Fb TT hC hN hni (fun h' a hm => ?_) (Nat.zero_le _)
  have hn : H a = none := I.hok.gone hm.new
  obtain ⟨t, ht, _, _⟩ := hm.there
  refine ⟨.ref a, upd H a (exo a C none), I.laidN hm.keeps hm.new hn (exo_ok ht), rfl, ?_⟩
  exact q (.ref a) (.raw (.ref a)) _ Hk _ (Kp.refl _) (hs.newO (o := exo a C none) (oo := .exc C []) hn ⟨none, upd_same, .inl ⟨rfl, rfl⟩⟩) rfl (h a (hs.fresh hn))
end
end DL
set_option maxHeartbeats 2000000
/-! Part I: repr of data, lists that change, built-in functions, enumerate. -/
namespace DL
open PySem PySem.Spec PyProof.Rows L2

/-! ### data read off the heap, dicts with int and text keys too -/
mutual
/-- no dict with a tuple as a key -/
def flatK : PyData → Bool
  | .none | .bool _ | .int _ | .str _ => true
  | .list xs | .tuple xs => flatKs xs
  | .dict kvs => flatKv kvs
def flatKs : List PyData → Bool
  | [] => true
  | x :: xs => flatK x && flatKs xs
def flatKv : List (PyData × PyData) → Bool
  | [] => true
  | (.tuple _, _) :: _ => false
  | (_, v) :: r => flatK v && flatKv r
end
/-- the modules' dict is told of -/
def SysK (K : PySem.W.Frag) : Prop := ∃ o, K.lookup sysModules = some o ∧ o.cls = .type "dict"
section
variable {X : Cx} {pins : List (Addr × Obj)} {σ : Stt} {H : Hp} {s : Shared}
mutual
theorem At.readsD (I : Inv X pins σ H s) (M : SysK X.K) : ∀ {v : V} {d : PyData} {u : Value}, At X.K H v d → flatK d = true → RelV v u → ∃ as, Reads s.heap u d as ∧ sysModules ∉ as
  | _, _, _, .non, _, r => by
    obtain rfl := r
    exact ⟨_, Reads.none, by simp⟩
  | _, _, _, .bl b, _, r => by
    obtain rfl := r
    exact ⟨_, Reads.bool b, by simp⟩
  | _, _, _, .int i, _, r => by
    obtain ⟨t, rfl⟩ := r
    exact ⟨_, Reads.int i t, by simp⟩
  | _, _, _, .str x, _, r => by
    obtain ⟨t, rfl⟩ := r
    exact ⟨_, Reads.str x t, by simp⟩
  | _, _, _, .lst (a := a) h _ ra, f, r => by
    obtain rfl := r
    obtain ⟨its, rv, ⟨o, n, ho, hc, _, hd⟩, _⟩ := I.list h
    obtain ⟨as, hr, hn⟩ := AtAll.readsD I M ra (by simpa only [flatK] using f) rv
    refine ⟨_, Reads.list ho hc hd hr, fun hm => ?_⟩
    rcases List.mem_cons.mp hm with e | hm
    · obtain ⟨om, e1, e2⟩ := M
      have e3 := I.kIn _ _ e1
      rw [e, ho] at e3
      cases e3
      rw [hc] at e2
      exact absurd (Value.type.inj e2) (by decide)
    · exact hn hm
  | _, _, _, .tup h _ ra, f, r => by
    obtain rfl := r
    obtain ⟨its, rv, ⟨o, ho, hc, n, hd⟩, _⟩ := I.tuple h
    obtain ⟨as, hr, hn⟩ := AtAll.readsD I M ra (by simpa only [flatK] using f) rv
    exact ⟨_, Reads.tuple ho hc hd hr, hn⟩
  | _, _, _, .dK h _ _ ra, f, r => by
    obtain rfl := r
    obtain ⟨_, hsm, vs, rel, o, es, ep, ho, hx, hd, _, hp, _⟩ := dk_of I.hok h
    obtain ⟨as, bs, h1, h2, n1, n2⟩ := AtKv.readsD I M ra (by simpa only [flatK] using f) rel hp
    refine ⟨_, Reads.dict ho hx.1 hd h1 h2, fun hm => ?_⟩
    rcases List.mem_append.mp hm with hm | hm
    · rcases List.mem_cons.mp hm with e | hm
      · rw [e, beq_self_eq_true] at hsm
        cases hsm
      · exact n1 hm
    · exact n2 hm
  | _, _, _, .dT (a := a) h _ _ ra, f, r => by
    obtain rfl := r
    cases ra with
    | nil =>
      obtain ⟨_, hsm, xs, rel, o, es, ep, ho, hx, hd, hes, _, _⟩ := dt_of I.hok h
      cases rel
      have e0 : es.toList = [] := hes
      refine ⟨_, Reads.dict ho hx.1 hd (by rw [e0]; exact .nil) (by rw [e0]; exact .nil), fun hm => ?_⟩
      have hm' : sysModules = a := by simpa using hm
      rw [← hm', beq_self_eq_true] at hsm
      cases hsm
    | cons a b => simp [flatK, flatKv] at f
theorem AtAll.readsD (I : Inv X pins σ H s) (M : SysK X.K) : ∀ {v : List V} {d : List PyData} {u : List Value}, AtAll X.K H v d → flatKs d = true → Vals v u → ∃ as, ReadsAll s.heap u d as ∧ sysModules ∉ as
  | _, _, _, .nil, _, r => by
    cases r
    exact ⟨_, .nil, by simp⟩
  | _, _, _, .cons a b, f, r => by
    cases r with
    | cons r1 r2 =>
      have f' := Bool.and_eq_true_iff.mp (by simpa only [flatKs] using f)
      obtain ⟨as, q1, n1⟩ := At.readsD I M a f'.1 r1
      obtain ⟨bs, q2, n2⟩ := AtAll.readsD I M b f'.2 r2
      exact ⟨_, .cons q1 q2, fun hm => by rcases List.mem_append.mp hm with z | z; exact n1 z; exact n2 z⟩
theorem AtKv.readsD (I : Inv X pins σ H s) (M : SysK X.K) : ∀ {kvs : List (Key × V)} {ds : List (PyData × PyData)} {vs : List (Key × Value)} {es : List DictEntry}, AtKv X.K H kvs ds → flatKv ds = true → KV kvs vs → Pairs (mixKind X.prog X.w) es vs →
    ∃ as bs, ReadsAll s.heap (es.map (·.key)) (ds.map (·.1)) as ∧ ReadsAll s.heap (es.map (·.val)) (ds.map (·.2)) bs ∧ sysModules ∉ as ∧ sysModules ∉ bs
  | _, _, _, _, .nil, _, r, p => by
    cases r
    cases p
    exact ⟨_, _, .nil, .nil, by simp, by simp⟩
  | _, _, _, _, .cons (k := k) (d := d0) (ds := ds0) (v := v0) a b, f, r, p => by
    cases r with
    | @cons _ q _ _ r1 r2 =>
      obtain ⟨q1, q2⟩ := q
      cases p with
      | @cons e _ es' _ hk hv p2 =>
        obtain ⟨e1, rv⟩ := r1
        have e1 : k = q1 := e1
        subst e1
        have f' : flatK d0 = true ∧ flatKv ds0 = true := by
          cases k with
          | inl i => exact Bool.and_eq_true_iff.mp (by simpa only [kD, flatKv] using f)
          | inr x => exact Bool.and_eq_true_iff.mp (by simpa only [kD, flatKv] using f)
        have hv : e.val = q2 := hv
        obtain ⟨as, h1, n1⟩ := At.readsD I M a f'.1 (show L2.RelV v0 e.val by rw [hv]; exact rv)
        obtain ⟨as2, bs2, h2, h3, n2, n3⟩ := AtKv.readsD I M b f'.2 r2 p2
        rcases keyIs_shape (show keyIs k e.key = true from hk) with ⟨i, t, rfl, ek⟩ | ⟨x, t, rfl, ek⟩
        · refine ⟨[] ++ as2, as ++ bs2, .cons ?_ h2, .cons h1 h3, by simpa using n2, fun hm => by rcases List.mem_append.mp hm with z | z; exact n1 z; exact n3 z⟩
          show Reads s.heap e.key (.int i) []
          rw [ek]
          exact .int i t
        · refine ⟨[] ++ as2, as ++ bs2, .cons ?_ h2, .cons h1 h3, by simpa using n2, fun hm => by rcases List.mem_append.mp hm with z | z; exact n1 z; exact n3 z⟩
          show Reads s.heap e.key (.str x) []
          rw [ek]
          exact .str x t
end
end
section
variable {X : Cx} {T : List (Addr × Str)} {δ : Sl} {O : Oh} {Ex : XD} {k : Val → Oh → Prop} {kk : Nat} {x y : Val}
/-- data of a list, as it can be read now -/
theorem DatV.at {K : PySem.W.Frag} {t : TF} {Hk H : Hp} {O : Oh} {x : Val} {ds : List PyData} {a : V} (s : DatV O x (.list ds)) (hl : ds.length ≤ lim) (hd : HD K t Hk H O) (h : VAt K Hk a x) : At K H a (.list ds) := by
  cases x with
  | dat e =>
    obtain rfl : e = .list ds := s
    exact At.mono hd.sub h
  | raw v =>
    cases v with
    | ref p =>
      obtain rfl : a = .ref p := h
      obtain ⟨es, e, e2⟩ := s
      injection e2 with e2
      subst e2
      obtain ⟨_, vs, e, r⟩ := hd.obj p _ e
      exact .lst (.of e) (by rw [r.length, List.length_map]; exact hl) (AtAll.mono hd.sub r.atall)
    | _ => exact s.elim
/-- repr of a list of data -/
theorem wc_repr (cc : Cok X kk) (M : SysK X.K) {ds : List PyData} (hx : DatV O x (.list ds)) (hl : ds.length ≤ lim) (hf : flatKs ds = true) (hs : PyData.showable (.list ds) = true) (hz : (PyData.shown (.list ds)).length ≤ sizeLine) (hdp : (PyData.list ds).depth ≤ 100)
    (q : k (.dat (.str (PyData.shown (.list ds)))) O) : WC X T (.builtin "repr") [x] O k := fun F vs H Hk Q hs0 r got => by
  obtain ⟨v, rfl⟩ : ∃ v, vs = [v] := by
    cases r with
    | cons a r => cases r; exact ⟨_, rfl⟩
  cases r with
  | cons r1 r =>
    have ha := hx.at hl hs0 r1
    intro pins s σ us I ru
    obtain ⟨u, rfl, ru1⟩ := vals1 ru
    obtain ⟨as, hr, hn⟩ := ha.readsD I M (by simpa only [flatK] using hf) ru1
    cases ha with
    | lst _ _ _ =>
      obtain rfl := ru1
      refine repr_of_reads' hr hs (fun _ => hn) cc.gd (by have := cc.room.un; omega) (fun _ _ e => e) (fun h' u tk hk => ?_) hz
      exact ⟨.str _, H, I.kept (t' := tk) hk, ⟨u, rfl⟩, got _ (.dat (.str _)) O Hk H (Kp.refl _) hs0 (At.str _) q⟩

/-! ### lists that change -/
theorem wo_catO {l b : Addr} {xs zs : List Val} (hl : O l = some (.lst xs)) (hb : O b = some (.lst zs)) (hz : xs.length + zs.length ≤ lim) (q : ∀ p, O p = none → k (.raw (.ref p)) (oset O p (.lst (xs ++ zs)))) :
    WO X T (binaryOp .Add) (.raw (.ref l)) (.raw (.ref b)) O k := fun F u v H Hk Q hs ra rb got => by
  obtain rfl : u = .ref l := ra
  obtain rfl : v = .ref b := rb
  obtain ⟨_, vs, e1, r1⟩ := hs.obj l _ hl
  obtain ⟨_, ws, e2, r2⟩ := hs.obj b _ hb
  have hz' : vs.length + ws.length ≤ lim := by rw [r1.length, r2.length]; exact hz
  refine gO_of op_cat ⟨l, b, vs, ws, rfl, rfl, e1, e2, lim_size hz', fun p hp => ?_⟩
  exact got (.ref p) (.raw (.ref p)) _ Hk _ (Kp.refl _) (hs.newO (o := .lst (vs ++ ws)) (oo := .lst (xs ++ zs)) hp ⟨_, upd_same, r1.append r2⟩) rfl (q p (hs.fresh hp))
theorem vall_rep {K : PySem.W.Frag} {H : Hp} {vs : List V} {xs : List Val} (h : VAll K H vs xs) : ∀ n : Nat, VAll K H (List.replicate n vs).flatten (List.replicate n xs).flatten
  | 0 => .nil
  | n + 1 => by
    rw [List.replicate_succ, List.replicate_succ, List.flatten_cons, List.flatten_cons]
    exact h.append (vall_rep h n)
theorem wo_repO {l : Addr} {xs : List Val} {i : Int} (hl : O l = some (.lst xs)) (hi : 0 ≤ i) (hi2 : i < 2 ^ 63) (hz : xs.length * i.toNat ≤ lim) (q : ∀ p, O p = none → k (.raw (.ref p)) (oset O p (.lst (List.replicate i.toNat xs).flatten))) :
    WO X T (binaryOp .Mult) (.raw (.ref l)) (.dat (.int i)) O k := fun F u v H Hk Q hs ra rb got => by
  obtain rfl : u = .ref l := ra
  cases rb
  obtain ⟨_, vs, e1, r1⟩ := hs.obj l _ hl
  have hz' : vs.length * i.toNat ≤ lim := by rw [r1.length]; exact hz
  refine gO_of op_rep ⟨l, i, vs, rfl, rfl, e1, by omega, hi2, lim_size hz', fun p hp => ?_⟩
  exact got (.ref p) (.raw (.ref p)) _ Hk _ (Kp.refl _) (hs.newO (o := .lst (List.replicate i.toNat vs).flatten) (oo := .lst (List.replicate i.toNat xs).flatten) hp ⟨_, upd_same, vall_rep r1 _⟩) rfl (q p (hs.fresh hp))
/-! ### methods of built-in types -/
def TyW (T' : String) (x : Val) (O : Oh) : Prop := match x with
  | .raw (.ref p) => (T' = "list" ∧ ∃ xs, O p = some (.lst xs)) ∨ (T' = "dict" ∧ ((∃ kvs, O p = some (.dct kvs)) ∨ ∃ kvs, O p = some (.dcT kvs)))
  | .dat (.list _) => T' = "list"
  | .dat (.str _) => T' = "str"
  | .dat (.dict _) => T' = "dict"
  | _ => False
theorem TyW.ty {K : PySem.W.Frag} {t : TF} {Hk H : Hp} {T' : String} {a : V} (h : TyW T' x O) (hd : HD K t Hk H O) (r : VAt K Hk a x) : tyV K T' a H := by
  cases x with
  | dat d =>
    cases d with
    | list ds =>
      cases r with
      | lst hs _ _ => exact .inl ⟨h, _, hd.sub.sqL hs⟩
    | str z =>
      cases r
      exact h
    | dict kvs =>
      cases r with
      | dK hs _ _ _ => exact .inr (.inr (.inl ⟨h, .inl ⟨_, hd.sub _ _ hs fun _ z => nomatch z⟩⟩))
      | dT hs _ _ _ => exact .inr (.inr (.inl ⟨h, .inr ⟨_, hd.sub _ _ hs fun _ z => nomatch z⟩⟩))
    | _ => exact h.elim
  | raw v =>
    cases v with
    | ref p =>
      obtain rfl : a = .ref p := r
      rcases h with ⟨e, xs, h⟩ | ⟨e, ⟨kvs, h⟩ | ⟨kvs, h⟩⟩
      · obtain ⟨_, vs, e1, _⟩ := hd.obj p _ h
        exact .inl ⟨e, vs, .of e1⟩
      · obtain ⟨_, vs, e1, _⟩ := hd.obj p _ h
        exact .inr (.inr (.inl ⟨e, .inl ⟨vs, e1⟩⟩))
      · obtain ⟨_, vs, e1, _⟩ := hd.obj p _ h
        exact .inr (.inr (.inl ⟨e, .inr ⟨vs, e1⟩⟩))
    | _ => exact h.elim
theorem we_bm {o e : Expr} {es : List Expr} {name : Str} {apos cpos : Pos} {T' id : String} (pa : PlainAttrs T') (slot : Slot T' name id) (hty : typeOf (.builtin id) = pure (.type "method_descriptor"))
    (h : WE X T o δ O Ex fun x O1 => TyW T' x O1 ∧ WA X T (e :: es) δ O1 Ex fun xs O2 => WM X T id x xs O2 k)
    (hbase : attributeBase o name X.env (eval o X.env) = eval o X.env := by rfl)
    (hfew : ((backTo cpos (starEach (e :: es) X.env)).all (fun x => !x.1) && (backToKw cpos (keywordEach [] X.env)).all (fun x => x.1.isSome)
      && decide ((e :: es).length + ([] : List Keyword).length + (if ([] : List Keyword).isEmpty then 0 else 1) < 30)) = true := by rfl)
    (hline : (apos.endLine == cpos.line) = true := by rfl) (hs : starEach (e :: es) X.env = (false, eval e X.env) :: starEach es X.env := by rfl) (hplain : (backTo cpos (starEach es X.env)).any (·.1) = false := by rfl) :
    WE X T (.Call (.Attribute o name apos) (e :: es) [] cpos) δ O Ex k := fun F σ H Hk Q hs0 hl hx q => by
  refine gE_of (pe_bm pa slot hty gM_mt gE_pe gA_pa hbase hfew hline hs hplain) (h F σ H Hk _ hs0 hl hx fun v x O1 Hk1 H1 k1 hs1 r1 ⟨ty, h1⟩ => ⟨ty.ty hs1 r1, ?_⟩)
  refine h1 F σ H1 Hk1 _ hs1 (hl.mono k1) (hx.mono k1) fun vs xs O2 Hk2 H2 k2 hs2 r2 h2 => ?_
  exact h2 F v vs H2 Hk2 Q hs2 (r1.mono k2) r2 (q.mono (k1.trans k2))
theorem we_bm0 {o : Expr} {name : Str} {apos cpos : Pos} {T' id : String} (pa : PlainAttrs T') (slot : Slot T' name id) (hty : typeOf (.builtin id) = pure (.type "method_descriptor"))
    (h : WE X T o δ O Ex fun x O1 => TyW T' x O1 ∧ WM X T id x [] O1 k)
    (hbase : attributeBase o name X.env (eval o X.env) = eval o X.env := by rfl) (hline : (apos.endLine == cpos.line) = true := by rfl) :
    WE X T (.Call (.Attribute o name apos) [] [] cpos) δ O Ex k := fun F σ H Hk Q hs0 hl hx q => by
  refine gE_of (pe_bm0 pa slot hty gM_mt gE_pe hbase hline) (h F σ H Hk _ hs0 hl hx fun v x O1 Hk1 H1 k1 hs1 r1 ⟨ty, h1⟩ => ⟨ty.ty hs1 r1, ?_⟩)
  exact h1 F v [] H1 Hk1 Q hs1 r1 .nil (q.mono k1)
theorem vall1 {K : PySem.W.Frag} {H : Hp} {vs : List V} {x : Val} (h : VAll K H vs [x]) : ∃ v, vs = [v] ∧ VAt K H v x := by
  cases h with
  | cons a r => cases r; exact ⟨_, rfl, a⟩
theorem vall2 {K : PySem.W.Frag} {H : Hp} {vs : List V} {x y : Val} (h : VAll K H vs [x, y]) : ∃ v w, vs = [v, w] ∧ VAt K H v x ∧ VAt K H w y := by
  cases h with
  | cons a r =>
    obtain ⟨w, rfl, b⟩ := vall1 r
    exact ⟨_, _, rfl, a, b⟩
theorem wm_append {l : Addr} {xs : List Val} {y : Val} (hl : O l = some (.lst xs)) (hz : xs.length < lim) (q : k (.dat .none) (oset O l (.lst (xs ++ [y])))) : WM X T "list.append" (.raw (.ref l)) [y] O k := fun F a vs H Hk Q hs ra rv got => by
  obtain rfl : a = .ref l := ra
  obtain ⟨v, rfl, r⟩ := vall1 rv
  obtain ⟨_, ws, e, rw'⟩ := hs.obj l _ hl
  refine gM_of mt_append ⟨l, ws, v, rfl, rfl, e, by rw [rw'.length]; exact lim_lt (Nat.le_of_lt hz), ?_⟩
  exact got .non (.dat .none) _ Hk _ (Kp.refl _) (hs.setO (oo := .lst (xs ++ [y])) hl e (fun _ z => nomatch z) (fun _ z => nomatch z) ⟨_, upd_same, rw'.append (VAll.one r)⟩) At.non q
theorem wm_extend {l b : Addr} {xs zs : List Val} (hl : O l = some (.lst xs)) (hb : O b = some (.lst zs)) (hz : xs.length + zs.length ≤ lim) (q : k (.dat .none) (oset O l (.lst (xs ++ zs)))) : WM X T "list.extend" (.raw (.ref l)) [.raw (.ref b)] O k := fun F a vs H Hk Q hs ra rv got => by
  obtain rfl : a = .ref l := ra
  obtain ⟨v, rfl, r⟩ := vall1 rv
  obtain rfl : v = .ref b := r
  obtain ⟨_, ws, e, rw'⟩ := hs.obj l _ hl
  obtain ⟨_, us, e2, ru⟩ := hs.obj b _ hb
  refine gM_of mt_extend ⟨l, b, ws, us, rfl, rfl, e, e2, by rw [rw'.length, ru.length]; exact lim_size hz, ?_⟩
  exact got .non (.dat .none) _ Hk _ (Kp.refl _) (hs.setO (oo := .lst (xs ++ zs)) hl e (fun _ z => nomatch z) (fun _ z => nomatch z) ⟨_, upd_same, rw'.append ru⟩) At.non q

/-! ### built-in functions -/
theorem wc_abs {i : Int} (q : k (.dat (.int (if i < 0 then -i else i))) O) : WC X T (.builtin "abs") [.dat (.int i)] O k := fun F vs H Hk Q hs r got => by
  obtain ⟨v, rfl, r1⟩ := vall1 r
  cases r1
  exact gC_of call_abs ⟨i, rfl, got _ (.dat (.int _)) O Hk H (Kp.refl _) hs (At.int _) q⟩
theorem wc_intB {b : Bool} (q : k (.dat (.int (if b then 1 else 0))) O) : WC X T (.type "int") [.dat (.bool b)] O k := fun F vs H Hk Q hs r got => by
  obtain ⟨v, rfl, r1⟩ := vall1 r
  cases r1
  exact gC_of call_int1 (.inr ⟨b, rfl, got _ (.dat (.int _)) O Hk H (Kp.refl _) hs (At.int _) q⟩)
theorem wc_max {i j : Int} (cc : Cok X kk) (q : k (.dat (.int (if j > i then j else i))) O) : WC X T (.builtin "max") [.dat (.int i), .dat (.int j)] O k := fun F vs H Hk Q hs r got => by
  obtain ⟨v, w, rfl, r1, r2⟩ := vall2 r
  cases r1
  cases r2
  exact gC_of (call_max2 cc.calm) ⟨i, j, rfl, got _ (.dat (.int _)) O Hk H (Kp.refl _) hs (At.int _) q⟩
theorem wc_min {i j : Int} (cc : Cok X kk) (q : k (.dat (.int (if j < i then j else i))) O) : WC X T (.builtin "min") [.dat (.int i), .dat (.int j)] O k := fun F vs H Hk Q hs r got => by
  obtain ⟨v, w, rfl, r1, r2⟩ := vall2 r
  cases r1
  cases r2
  exact gC_of (call_min2 cc.calm) ⟨i, j, rfl, got _ (.dat (.int _)) O Hk H (Kp.refl _) hs (At.int _) q⟩
theorem wc_len {xs : List Val} (hx : SeqV O x xs) (q : k (.dat (.int xs.length)) O) : WC X T (.builtin "len") [x] O k := fun F vs H Hk Q hs r got => by
  obtain ⟨v, rfl, r1⟩ := vall1 r
  obtain ⟨p, ws, rfl, hq, rw'⟩ := hx.at hs r1
  refine gC_of call_len_seq ⟨p, ws, rfl, hq, ?_⟩
  rw [rw'.length]
  exact got _ (.dat (.int _)) O Hk H (Kp.refl _) hs (At.int _) q
def blV (bs : List Bool) : List Val := bs.map fun b => .dat (.bool b)
theorem vall_bl {K : PySem.W.Frag} {H : Hp} : ∀ {bs : List Bool} {vs : List V}, VAll K H vs (blV bs) → vs = bs.map V.bl
  | [], _, h => by cases h; rfl
  | b :: bs, _, h => by
    cases h with
    | cons a r =>
      have a' : At K H _ (.bool b) := a
      cases a'
      rw [vall_bl r]
      rfl
theorem wc_all {bs : List Bool} (cc : Cok X kk) (hx : LstV O x (blV bs)) (q : k (.dat (.bool (bs.all id))) O) : WC X T (.builtin "all") [x] O k := fun F vs H Hk Q hs r got => by
  obtain ⟨v, rfl, r1⟩ := vall1 r
  obtain ⟨p, ws, rfl, hq, rw'⟩ := hx.at hs r1
  rw [vall_bl rw'] at hq
  exact gC_of (cr_all cc.calm) ⟨p, bs, rfl, hq, got _ (.dat (.bool _)) O Hk H (Kp.refl _) hs (At.bl _) q⟩
theorem wc_any {bs : List Bool} (cc : Cok X kk) (hx : LstV O x (blV bs)) (q : k (.dat (.bool (bs.any id))) O) : WC X T (.builtin "any") [x] O k := fun F vs H Hk Q hs r got => by
  obtain ⟨v, rfl, r1⟩ := vall1 r
  obtain ⟨p, ws, rfl, hq, rw'⟩ := hx.at hs r1
  rw [vall_bl rw'] at hq
  exact gC_of (cr_any cc.calm) ⟨p, bs, rfl, hq, got _ (.dat (.bool _)) O Hk H (Kp.refl _) hs (At.bl _) q⟩
/-- powers of any size -/
theorem wo_powW {i j : Int} (h0 : 0 ≤ j) (hz : (Builtin.Int.intBits i : Int) * j ≤ 2 ^ 27) (q : k (.dat (.int (i ^ j.toNat))) O) : WO X T (binaryOp .Pow) (.dat (.int i)) (.dat (.int j)) O k := fun F a b H Hk Q hs ra rb got => by
  cases ra
  cases rb
  intro pins s σ u v I r1 r2
  obtain ⟨t1, rfl⟩ := r1
  obtain ⟨t2, rfl⟩ := r2
  exact pow_int h0 hz ⟨.int (i ^ j.toNat), H, I.tok _, ⟨_, rfl⟩, got _ (.dat (.int _)) O Hk H (Kp.refl _) hs (At.int _) q⟩
theorem wo_divW {i j : Int} (hc : CDivW i j) (q : k (.dat (.int (i / j))) O) : WO X T (binaryOp .FloorDiv) (.dat (.int i)) (.dat (.int j)) O k := wo_int op_fdivW hc q
theorem wo_mulW {i j : Int} (hc : CMulW i j) (q : k (.dat (.int (i * j))) O) : WO X T (binaryOp .Mult) (.dat (.int i)) (.dat (.int j)) O k := wo_int op_mulW hc q
end

/-! ### for a, b in ..: the items' parts -/
structure IterOkT (K : PySem.W.Frag) (T : List (Addr × Str)) (Hk0 : Hp) (J : It) (xss : List (List Val)) (S : Oh → Prop) : Prop where
  go : ∀ (F : Oh) (i : Nat) (H Hk : Hp) (O : Oh) (x : List Val), Kp Hk0 Hk → HD K ⟨T, F⟩ Hk H O → S O → xss[i]? = some x → J.go i H ∧ ∀ v H', J.yld i H v H' → ∃ Hk', Kp Hk Hk' ∧ HD K ⟨T, F⟩ Hk' H' O ∧ ∃ p vs, v = .ref p ∧ SqT K H' p vs ∧ VAll K Hk' vs x
  stop : ∀ (F : Oh) (H Hk : Hp) (O : Oh), Kp Hk0 Hk → HD K ⟨T, F⟩ Hk H O → S O → J.stop xss.length H
def WIT (X : Cx) (T : List (Addr × Str)) (tg it : Expr) (δ : Sl) (O : Oh) (Ex : XD) (k : List (List Val) → (Oh → Prop) → Oh → Prop) : Prop := ∀ (F : Oh) (σ : Stt) (H Hk : Hp) (R : It → Hp → Prop), HD X.K ⟨T, F⟩ Hk H O → SL X.K Hk σ δ → XOK X ⟨T, F⟩ Hk Ex →
  (∀ (J : It) (xs : List (List Val)) (S : Oh → Prop) (O' : Oh) (Hk' H' : Hp), Kp Hk Hk' → HD X.K ⟨T, F⟩ Hk' H' O' → IterOkT X.K T Hk' J xs S → S O' → k xs S O' → R J H') → gI X tg it σ H R
section
variable {X : Cx} {T : List (Addr × Str)} {δ : Sl} {O : Oh} {Ex : XD} {D : De} {kk : Nat} {body : List Stmt} {pos : Pos}
theorem ws_forT {it : Expr} {es : List Expr} {kt n : Nat} {tpos : Pos} (cc : Cok X kk) (hp : PassesOwn (model X.prog X.w) X.A X.env X.xe)
    (h : WIT X T (.Tuple es kt tpos) it δ O Ex fun xs S O1 => (∀ x ∈ xs, x.length = n) ∧ ∃ I : Nat → Sl → Oh → Prop, I 0 δ O1 ∧ (∀ i δ' O', i ≤ xs.length → I i δ' O' → S O') ∧
      (∀ i x δ' O', xs[i]? = some x → I i δ' O' → WGs X T es x δ' O' Ex fun δ2 O2 => WSs X T body δ2 O2 Ex { D with nx := I (i + 1), ct := I (i + 1), bk := D.nx }) ∧ (∀ δ' O', I xs.length δ' O' → D.nx δ' O'))
    (hn : (assignEach es X.env).length = n := by rfl) (hst : (assignEach es X.env).findIdx? (·.1) = none := by rfl) (hfs : ∀ x, foldedSetIterable it X.env x = pure x := by intro _; rfl) :
    WS X T (.For (.Tuple es kt tpos) it body [] pos) δ O Ex D := fun F σ H Hk D0 hs hl hx q => by
  refine gS_of (ps_for hp cc.calm gI_pi gG_pg gSs_pss hfs) (h F σ H Hk _ hs hl hx fun J xs S O1 Hk1 H1 k1 hs1 it st ⟨hlen, I, h0, hS, hb, he⟩ => ?_)
  refine ⟨fun i m σ' H' => m = xs.length - i ∧ i ≤ xs.length ∧ ∃ δ' O' Hk', Kp Hk1 Hk' ∧ HD X.K ⟨T, F⟩ Hk' H' O' ∧ SL X.K Hk' σ' δ' ∧ I i δ' O', ⟨_, rfl, Nat.zero_le _, δ, O1, Hk1, Kp.refl _, hs1, hl.mono k1, h0⟩, ?_⟩
  rintro i m σ' H' ⟨rfl, hi, δ', O', Hk', k2, hs', hl', hI⟩
  have sO := hS i δ' O' hi hI
  by_cases hlt : i < xs.length
  · obtain ⟨x, ex⟩ : ∃ x, xs[i]? = some x := ⟨xs[i], List.getElem?_eq_getElem hlt⟩
    obtain ⟨g1, g2⟩ := it.go F i H' Hk' O' x k2 hs' sO ex
    refine .inr ⟨g1, fun σ3 H3 => ∃ δ3 O3 Hk3, Kp Hk1 Hk3 ∧ HD X.K ⟨T, F⟩ Hk3 H3 O3 ∧ SL X.K Hk3 σ3 δ3 ∧ I (i + 1) δ3 O3, fun σ3 H3 ⟨δ3, O3, Hk3, w⟩ => ⟨_, by omega, rfl, hlt, δ3, O3, Hk3, w⟩, fun v H2 yy => ?_⟩
    obtain ⟨Hk2, k3, hs2, p, vs, rfl, sq, r2⟩ := g2 v H2 yy
    have kA : Kp Hk Hk2 := k1.trans (k2.trans k3)
    refine gG_of (pg_tup cc.calm gGs_pgs hn hst) ⟨p, vs, rfl, sq, by rw [r2.length]; exact hlen x (List.mem_of_getElem? ex), ?_⟩
    refine hb i x δ' O' ex hI F vs σ' H2 Hk2 _ hs2 (hl'.mono k3) (hx.mono kA) r2 fun σ4 δ4 O4 Hk4 H4 k4 hs4 hl4 h4 => ?_
    have q4 := q.mono (kA.trans k4)
    refine h4 F σ4 H4 Hk4 _ hs4 hl4 (hx.mono (kA.trans k4)) ⟨fun σ5 δ5 O5 Hk5 H5 k5 hs5 hl5 h5 => ?_, q4.rt, q4.nx, fun σ5 δ5 O5 Hk5 H5 k5 hs5 hl5 h5 => ?_⟩
    · exact ⟨δ5, O5, Hk5, k2.trans (k3.trans (k4.trans k5)), hs5, hl5, h5⟩
    · exact ⟨δ5, O5, Hk5, k2.trans (k3.trans (k4.trans k5)), hs5, hl5, h5⟩
  · have e : i = xs.length := by omega
    subst e
    exact .inl ⟨it.stop F H' Hk' O' k2 hs' sO, q.nx σ' δ' O' Hk' H' (k1.trans k2) hs' hl' (he δ' O' hI)⟩
def enumV (i : Nat) : List Val → List (List Val)
  | [] => []
  | x :: xs => [.dat (.int (i : Nat)), x] :: enumV (i + 1) xs
theorem enumV_len : ∀ (i : Nat) (xs : List Val), (enumV i xs).length = xs.length
  | _, [] => rfl
  | i, x :: xs => by rw [enumV, List.length_cons, List.length_cons, enumV_len (i + 1) xs]
theorem enumV_get : ∀ (i : Nat) (xs : List Val) (j : Nat) (y : List Val), (enumV i xs)[j]? = some y → ∃ x, xs[j]? = some x ∧ y = [.dat (.int ((i + j : Nat) : Int)), x]
  | _, [], j, y, h => by cases h
  | i, x :: xs, 0, y, h => by
    have h' : some [Val.dat (.int (i : Nat)), x] = some y := h
    cases h'
    exact ⟨x, rfl, rfl⟩
  | i, x :: xs, j + 1, y, h => by
    have h' : (enumV (i + 1) xs)[j]? = some y := h
    obtain ⟨z, e1, e2⟩ := enumV_get (i + 1) xs j y h'
    exact ⟨z, by rw [List.getElem?_cons_succ]; exact e1, by rw [e2, show i + 1 + j = i + (j + 1) by omega]⟩
theorem wi_enum {a : Expr} {p : Pos} {es : List Expr} {kt : Nat} {tpos : Pos} {ki : List (List Val) → (Oh → Prop) → Oh → Prop} (hm : X.mg "enumerate" = none) (h : WE X T a δ O Ex fun x O1 => ∃ xs, LstV O1 x xs ∧ ki (enumV 0 xs) (Stay x xs) O1) (hg : Gl X "enumerate" := by rfl) (hs0 : starEach [a] X.env = [(false, eval a X.env)] := by rfl) :
    WIT X T (.Tuple es kt tpos) (.Call (.Name "enumerate" p) [a] [] pos) δ O Ex ki := fun F σ H Hk R hs hl hx q => by
  refine gI_of (pi_enum hg hm (pa_cons gE_pe pa_nil hs0) hs0) (h F σ H Hk _ hs hl hx fun v x O1 Hk1 H1 k1 hs1 r1 ⟨xs, s, h1⟩ => ?_)
  obtain ⟨a0, e, qq, it0, st⟩ := iter_list s hs1 r1
  subst e
  obtain ⟨vs0, q0⟩ := qq
  refine ⟨a0, vs0, rfl, q0, q _ (enumV 0 xs) _ O1 Hk1 H1 k1 hs1 ⟨fun F' i H' Hk' O' y k2 hd' sO ey => ?_, fun F' H' Hk' O' k2 hd' sO => ?_⟩ st h1⟩
  · obtain ⟨z, ez, rfl⟩ := enumV_get 0 xs i y ey
    obtain ⟨g1, g2⟩ := it0.go F' i H' Hk' O' z k2 hd' sO ez
    refine ⟨g1, fun v H2 yy => ?_⟩
    obtain ⟨Tt, xv, rfl, hT, rfl, hall⟩ := yy
    have g1' : ∃ (ys : List V) (w : V), SqL X.K H' a0 ys ∧ ys[i]? = some w := g1
    obtain ⟨ys, w, sq, ew⟩ := g1'
    have e2 := hall ys sq
    obtain ⟨Hk3, k3, hs3, r3⟩ := g2 xv H' ⟨rfl, fun ys hy => hall ys hy⟩
    have k4 : Kp Hk3 (upd Hk3 Tt (.tup [.int (i : Nat), xv])) := Kp.upd (hs3.dom Tt hT)
    refine ⟨_, k3.trans k4, hs3.newK hT, Tt, [.int (i : Nat), xv], rfl, .of upd_same, .cons ?_ (VAll.one (r3.mono k4))⟩
    show At X.K _ (.int (i : Nat)) (.int ((0 + i : Nat) : Int))
    rw [Nat.zero_add]
    exact At.int _
  · have z := it0.stop F' H' Hk' O' k2 hd' sO
    rw [enumV_len]
    exact z
end
end DL
set_option maxHeartbeats 2000000
/-! Part J: objects seen otherwise, l[i] = e, the law's decks. -/
namespace DL
open PySem PySem.Spec PyProof.Rows L2
theorem HD.view {K : PySem.W.Frag} {t : TF} {Hk H : Hp} {O : Oh} {p : Addr} {oo oo' : OO} (h : HD K t Hk H O) (e : O p = some oo) (n : OAt K Hk H p oo') : HD K t Hk H (oset O p oo') := by
  refine ⟨h.sub, h.dom, fun q u e1 => ?_, h.fob, fun q u e1 => ?_, h.tab⟩
  · by_cases hq : q = p
    · rw [hq, oset_same] at e1
      cases e1
      rw [hq]
      exact ⟨(h.obj p _ e).1, n⟩
    · rw [oset_ne hq] at e1
      exact h.obj q u e1
  · by_cases hq : q = p
    · rw [hq]
      exact h.dis p _ e
    · rw [oset_ne hq] at e1
      exact h.dis q u e1
def dkV (a b c : Int) : List Val := [.dat (.int a), .dat (.int b), .dat (.int c)]
def DkB (a b c : Int) (n : Nat) : Prop := 0 ≤ a ∧ 0 ≤ b ∧ b < 2305843009213693951 ∧ 0 ≤ c ∧ c + (n : Int) ≤ 1000000
section
variable {X : Cx} {T : List (Addr × Str)} {δ : Sl} {O : Oh} {Ex : XD} {k : Val → Oh → Prop} {ks : Sl → Oh → Prop} {D : De} {kk : Nat} {pos : Pos} {e o i : Expr} {sts : List Stmt} {d : Addr} {n : Nat}
theorem vall3 {K : PySem.W.Frag} {H : Hp} {a b c : Int} : VAll K H [.int a, .int b, .int c] (dkV a b c) := .cons (At.int a) (.cons (At.int b) (.cons (At.int c) .nil))
theorem vall3' {K : PySem.W.Frag} {H : Hp} {a b c : Int} {vs : List V} (h : VAll K H vs (dkV a b c)) : vs = [.int a, .int b, .int c] := by
  cases h with
  | cons h1 h =>
    cases h with
    | cons h2 h =>
      cases h with
      | cons h3 h =>
        cases h
        have a1 : At K H _ (.int a) := h1
        have a2 : At K H _ (.int b) := h2
        have a3 : At K H _ (.int c) := h3
        cases a1
        cases a2
        cases a3
        rfl
/-- a deck is opened -/
theorem wss_open (he : O d = some (.deck n)) (h : ∀ a b c, DkB a b c n → WSs X T sts δ (oset O d (.lst (dkV a b c))) Ex D) : WSs X T sts δ O Ex D := fun F σ H Hk D0 hs hl hx q => by
  obtain ⟨_, a, b, c, eH, hb⟩ := hs.obj d _ he
  exact h a b c hb F σ H Hk D0 (hs.view he ⟨_, eH, vall3⟩) hl hx q
/-- .. and closed -/
theorem we_close {a b c : Int} (he : WE X T e δ O Ex fun v O1 => O1 d = some (.lst (dkV a b c)) ∧ DkB a b c n ∧ k v (oset O1 d (.deck n))) : WE X T e δ O Ex k := fun F σ H Hk Q hs hl hx q => by
  refine he F σ H Hk Q hs hl hx fun v x O1 Hk1 H1 k1 hs1 r1 ⟨e1, hb, h1⟩ => ?_
  obtain ⟨_, vs, eH, rv⟩ := hs1.obj d _ e1
  rw [vall3' rv] at eH
  exact q v x _ Hk1 H1 k1 (hs1.view (oo' := .deck n) e1 ⟨a, b, c, eH, hb⟩) r1 h1
/-- l[i] = .., l a list that changes -/
theorem wg_subO {x : Val} (h : WE X T o δ O Ex fun y O1 => WE X T i δ O1 Ex fun z O2 => ∃ p xs j, y = .raw (.ref p) ∧ O2 p = some (.lst xs) ∧ (∃ n : Nat, z = .dat (.int (n : Int)) ∧ j = n ∧ n < xs.length) ∧ ks δ (oset O2 p (.lst (xs.set j x))))
    (ha : ∀ v, assign (.Subscript o i pos) X.env v = (do
      let ov ← holding [v] (eval o X.env)
      let iv ← holding [v, ov] (eval i X.env)
      standAt pos
      holding [v, ov, iv] (setItem ov iv v)
      release [v, ov, iv] []) := by intro _; rfl) : WG X T (.Subscript o i pos) x δ O Ex ks := fun F v σ H Hk Q hs hl hx r q => by
  refine gG_of (pg_sub gE_pe gE_pe set_list ha) (h F σ H Hk _ hs hl hx fun w y O1 Hk1 H1 k1 hs1 r1 h1 => ?_)
  refine h1 F σ H1 Hk1 _ hs1 (hl.mono k1) (hx.mono k1) fun u z O2 Hk2 H2 k2 hs2 r2 ⟨p, xs, j, ey, eO, ⟨n, ez, ej, hn⟩, h2⟩ => ?_
  subst ey ez ej
  obtain rfl : w = .ref p := r1
  have r2' : At X.K Hk2 u (.int (j : Int)) := r2
  cases r2'
  obtain ⟨_, vs, eH, rv⟩ := hs2.obj p _ eO
  have hlen : vs.length = xs.length := rv.length
  refine ⟨p, vs, (j : Int), j, rfl, rfl, eH, ?_, ?_⟩
  · unfold ixN
    rw [if_pos (by omega), if_pos (by omega)]
    simp
  · have hset : ∀ {us : List V} {ys : List Val} (m : Nat), VAll X.K Hk2 us ys → VAll X.K Hk2 (us.set m v) (ys.set m x) := by
      intro us ys m hh
      induction hh generalizing m with
      | nil => exact .nil
      | cons a t ih =>
        cases m with
        | zero => exact .cons (r.mono (k1.trans k2)) t
        | succ m => exact .cons a (ih m)
    exact q _ _ _ Hk2 _ (k1.trans k2) (hs2.setO (oo := .lst (xs.set j x)) eO eH (fun _ z => nomatch z) (fun _ z => nomatch z) ⟨_, upd_same, hset j rv⟩) (hl.mono (k1.trans k2)) h2
/-- an own list that changes no more is data -/
theorem we_frz {p : Addr} {ds : List PyData} (he : WE X T e δ O Ex fun v O1 => ∃ p ds, v = .raw (.ref p) ∧ O1 p = some (.lst (ds.map .dat)) ∧ ds.length ≤ lim ∧ k (.dat (.list ds)) (orem O1 p)) : WE X T e δ O Ex k := fun F σ H Hk Q hs hl hx q => by
  refine he F σ H Hk Q hs hl hx fun v x O1 Hk1 H1 k1 hs1 r1 ⟨p, ds, ex, e1, hz, h1⟩ => ?_
  subst ex
  obtain rfl : v = .ref p := r1
  obtain ⟨vs, eH, rv, k2, hs2⟩ := hs1.freeze e1
  exact q (.ref p) (.dat (.list ds)) _ _ H1 (k1.trans k2) hs2 (At.lst (.of upd_same) (by rw [rv.length, List.length_map]; exact hz) (AtAll.mono k2 rv.atall)) h1
end
end DL
set_option maxHeartbeats 2000000
/-! Part W: a law's end over defs that may be called where no guard stands. -/
namespace DL
open PySem PySem.Spec PyProof.Rows L2 LamX
/-- law_callTs of HandS.EndTab, turned to FnG -/
theorem law_callG {P : Program} {w : World} {K : PySem.W.Frag} {mg mb : Str → Option Value} {CX : CXT} {k : Nat} {fa a : Addr} {cs : List (Addr × Addr)} {fd : FuncData} {x : Str} {sp : Sp} {s₁ : Shared} {vs : List Value} {ns : List Int}
    (KX : K.In s₁.heap) (hns : s₁.heap.Ns mainGlobals mg) (hb : s₁.heap.Ns builtinsNs mb) (hbb : ∀ x : Str, x ≠ "__name__" → mb x = bootBuiltins x) (hlim : s₁.heap.NoLimit) (hg : s₁.gens = #[])
    (hT : ∀ p ∈ cs, s₁.heap.get? p.2 = some { cls := .none, data := .fields #[] }) (nT : ∀ p ∈ cs, K.lookup p.2 = none) (C : ∀ p ∈ cs, PySem.W.CodeHd s₁.heap p.1 p.2)
    (hbm : ∃ (bm : Addr) (ob : Obj), mg "__builtins__" = some (.ref bm) ∧ bm ≠ builtinsNs ∧ s₁.heap.get? bm = some ob ∧ ob.cls = .type "module" ∧ ob.dict = some builtinsNs ∧ ob.data = .plain)
    (ha : s₁.heap.get? a = some { cls := .type "list", data := .seq vs.toArray }) (hi : IntsAre vs ns) (hl : ns.length ≤ sizeLine) (hr : Room k callerA)
    (F : ∀ base : Heap, K.In base → base.Ns mainGlobals mg → (∀ p ∈ cs, TabB base mg p.1 p.2) → FnG P w K mg base CX k fa fd [x] sp) (hbind : ∀ (s : Shared) (u : Value), BindsTo s fd ⟨[u], []⟩ [(x, u)])
    (hsp : ∀ H : Hp, (∀ p ∈ cs, H p.2 = some (.tbl #[])) → SqL K H a (ns.map V.int) → sp [.ref a] H (fun v _ => v = .bl true) fun _ _ _ => False)
    (hCX : ∀ H e s', CX [] H s₁ (fun _ _ _ => False) e s' → False) :
    codeAny (model P w) callerA (.call (.ref fa) ⟨[.ref a], []⟩) (fun r s' => r = .ok (.ret (.bool true)) ∧ OldK s₁.heap s'.heap ∧ s'.os = s₁.os ∧ AllBare s'.gens) s₁ := by
  have rv := vals_ints hi
  have lenV := hi.length
  have isT : ∀ b : Addr, b ∈ cs.map (·.2) → s₁.heap.get? b = some { cls := .none, data := .fields #[] } := fun b hb => by
    obtain ⟨p, hp, e⟩ := List.mem_map.mp hb
    rw [← e]
    exact hT p hp
  have aT : a ∉ cs.map (·.2) := fun z => by
    have q := isT a z
    rw [ha] at q
    have z' : Data.seq vs.toArray _ = Data.fields #[] := congrArg Obj.data (Option.some.inj q)
    cases z'
  have memT : ∀ p ∈ cs, p.2 ∈ cs.map (·.2) := fun p hp => List.mem_map.mpr ⟨p, hp, rfl⟩
  -- from an abstract heap in which nothing but the script and the tables may be tracked
  have core : ∀ H : Hp, (∀ p ∈ cs, H p.2 = some (.tbl #[])) → (∀ b, H b = none ∨ b ∈ cs.map (·.2) ∨ ∃ o xs, H b = some (.frz o (.lst xs))) → SqL K H a (ns.map V.int) → HOk P w H s₁.heap → (∀ b, H b ≠ none → b = a ∨ b ∈ cs.map (·.2)) → (H a ≠ none → K.lookup a = none) →
      codeAny (model P w) callerA (.call (.ref fa) ⟨[.ref a], []⟩) (fun r s' => r = .ok (.ret (.bool true)) ∧ OldK s₁.heap s'.heap ∧ s'.os = s₁.os ∧ AllBare s'.gens) s₁ := by
    intro H hH hO hS hok hA hK
    have base_of : ∀ {b : Addr} {o : Obj}, s₁.heap.get? b = some o → H b = none → (hidT s₁.heap H).get? b = some o := fun e n => hidT_get e n
    have noD : ∀ {b : Addr} {o : Obj}, s₁.heap.get? b = some o → (∀ vs n, o.data ≠ .seq vs n) → o.data ≠ .fields #[] → H b = none := fun {b o} e h1 h2 => by
      cases q : H b with
      | none => rfl
      | some u =>
        rcases hA b (by rw [q]; simp) with e' | e'
        · rw [e', ha] at e
          cases e
          exact (h1 _ _ rfl).elim
        · rw [isT b e'] at e
          cases e
          exact (h2 rfl).elim
    have noA : ∀ {b : Addr} {o : Obj} {es : Array DictEntry} {ep : Nat}, s₁.heap.get? b = some o → o.data = .dict es ep → H b = none := fun {b o es ep} e d => by
      refine noD e (fun vs n z => ?_) fun z => ?_
      · rw [d] at z
        cases z
      · rw [d] at z
        cases z
    have nsK : ∀ {b : Addr} {m : Str → Option Value}, s₁.heap.Ns b m → (hidT s₁.heap H).Ns b m := fun {b m} ⟨o, es, ep, e, d, r⟩ => ⟨o, es, ep, base_of e (noA e d), d, r⟩
    have hKb : K.In (hidT s₁.heap H) := fun b o e => base_of (KX b o e) (by
      cases q : H b with
      | none => rfl
      | some u =>
        rcases hA b (by rw [q]; simp) with e' | e'
        · rw [e'] at e q
          rw [hK (by rw [q]; simp)] at e
          cases e
        · obtain ⟨p, hp, ep⟩ := List.mem_map.mp e'
          rw [← ep, nT p hp] at e
          cases e)
    have hM : L2.Mod K mg (hidT s₁.heap H) := ⟨hKb, nsK hns, ⟨mb, nsK hb, hbb⟩, let ⟨mc, h1, h2⟩ := hlim; ⟨mc, nsK h1, h2⟩⟩
    have TB : ∀ p ∈ cs, TabB (hidT s₁.heap H) mg p.1 p.2 := fun p hp => by
      have hTp := hT p hp
      refine ⟨?_, ?_, fun z => ?_⟩
      · obtain ⟨o, us, file, tf, flags, tg, inF, text, tt, e1, r1, r2, r3, r4, r5, r6, r7, r8, hne⟩ := C p hp
        refine ⟨o, us, file, tf, flags, tg, inF, text, tt, base_of e1 (noD e1 (fun vs n z => ?_) fun z => ?_), r1, r2, r3, r4, r5, r6, r7, r8, hne⟩
        · rw [r2] at z
          cases z
        · rw [r2] at z
          cases z
          simp at r3
      · obtain ⟨bm, ob, b1, b2, b3, b4, b5, b6⟩ := hbm
        have nG : bm ≠ mainGlobals := fun q => by
          obtain ⟨o, es, ep, e, hd, _⟩ := hns
          rw [q, e] at b3
          cases b3
          rw [hd] at b6
          cases b6
        have nP : bm ≠ p.2 := fun q => by
          rw [q, hTp] at b3
          cases b3
          cases b6
        refine ⟨bm, ob, b1, b2, nG, nP, base_of b3 (noD b3 (fun vs n z => ?_) fun z => ?_), b4, b5, b6⟩
        · rw [b6] at z
          cases z
        · rw [b6] at z
          cases z
      · obtain ⟨o, es, ep, e, hd, _⟩ := hns
        rw [z, hTp] at e
        cases e
        cases hd
    have e0 : Env0 P w K mg (hidT s₁.heap H) callerA [] s₁ H := ⟨rfl, hM, fun b o e => of_hidT e, Nat.le_of_eq (hidT_size _ _), trivial, fun b hb => absurd (show b ∈ ([] : List Addr) from hb) (by simp), hok, .of_eq hg⟩
    refine codeAny_mono ((F _ hKb (nsK hns) TB).run callerA [] s₁ H ⟨[.ref a], []⟩ [.ref a] [.ref a] _ _ hr rfl e0 (hbind s₁ (.ref a)) (.cons rfl .nil) (hsp H hH hS)) fun r s' h => ?_
    cases r with
    | error e => exact (hCX H e s' h).elim
    | ok fl =>
      cases fl with
      | next => exact False.elim h
      | brk => exact False.elim h
      | cont => exact False.elim h
      | ret u =>
        obtain ⟨v, H', os, bare, un, hok', r', q⟩ := h
        have q' : v = .bl true := q
        subst q'
        obtain rfl : u = Value.bool true := r'
        have key : ∀ b o, b ∉ cs.map (·.2) → s₁.heap.get? b = some o → s'.heap.get? b = some o := fun b o nb e => by
          cases q : H b with
          | none => exact un.keep b o e q (by intro z; exact absurd (show b ∈ ([] : List Addr) from z) (by simp)) (by simp)
          | some u =>
            rcases hO b with z | z | ⟨ob, xs, z⟩
            · rw [q] at z; cases z
            · exact absurd z nb
            · have z2 := un.frzs b ob _ z
              obtain ⟨e1, _⟩ := hok b _ z
              obtain ⟨e2, _⟩ := hok' b _ z2
              rw [e] at e1; cases e1
              exact e2
        have grown : ∀ p ∈ cs, ∃ more : Array Value, s'.heap.get? p.2 = some { cls := .none, data := .fields more } := fun p hp => by
          obtain ⟨more, z⟩ := un.tbls p.2 #[] (hH p hp)
          exact ⟨_, hok' p.2 _ z⟩
        refine ⟨rfl, ⟨fun b o e => ?_, fun b o e => ?_⟩, os, bare⟩
        · by_cases hb : b ∈ cs.map (·.2)
          · obtain ⟨p, hp, ep⟩ := List.mem_map.mp hb
            obtain ⟨more, hm⟩ := grown p hp
            rw [← ep] at e ⊢
            rw [hT p hp] at e
            cases e
            exact .inr (.inl ⟨((C p hp).tab (hT p hp)).isCodeTable, rfl, #[], more, rfl, by rw [Array.empty_append]; exact hm⟩)
          · exact .inl (key b o hb e)
        · by_cases hb : b ∈ cs.map (·.2)
          · obtain ⟨p, hp, ep⟩ := List.mem_map.mp hb
            obtain ⟨more, hm⟩ := grown p hp
            rw [← ep]
            exact ⟨_, hm⟩
          · exact ⟨o, key b o hb e⟩
  cases hk : K.lookup a with
  | some o =>
    have e := KX a o hk
    rw [ha] at e
    cases e
    refine core (fun b => if b ∈ cs.map (·.2) then some (.tbl #[]) else none) (fun p hp => if_pos (memT p hp)) (fun b => ?_) (.inr ⟨_, vs.toArray, _, hk, rfl, rfl, rfl, by rw [List.size_toArray, lenV]; exact hl, by simpa using rv⟩) (fun b u z => ?_) (fun b z => ?_) fun z => absurd (show (if a ∈ cs.map (·.2) then some (HO.tbl #[]) else none) = none from if_neg aT) z
    · by_cases hb : b ∈ cs.map (·.2)
      · exact .inr (.inl hb)
      · exact .inl (if_neg hb)
    · by_cases hb : b ∈ cs.map (·.2)
      · have z' := (if_pos hb).symm.trans z
        cases z'
        exact isT b hb
      · have z' := (if_neg hb).symm.trans z
        cases z'
    · by_cases hb : b ∈ cs.map (·.2)
      · exact .inr hb
      · exact absurd (if_neg hb) z
  | none =>
    refine core (fun b => if b = a then some (.frz { cls := .type "list", data := .seq vs.toArray } (.lst (ns.map V.int))) else if b ∈ cs.map (·.2) then some (.tbl #[]) else none) (fun p hp => (if_neg (show ¬ p.2 = a from fun z => aT (by rw [← z]; exact memT p hp))).trans (if_pos (memT p hp))) (fun b => ?_)
      (.inl (.inr ⟨{ cls := .type "list", data := .seq vs.toArray }, if_pos rfl⟩)) (fun b u z => ?_) (fun b z => ?_) fun _ => hk
    · by_cases hb : b = a
      · exact .inr (.inr ⟨_, _, if_pos hb⟩)
      · by_cases hb2 : b ∈ cs.map (·.2)
        · exact .inr (.inl hb2)
        · exact .inl ((if_neg hb).trans (if_neg hb2))
    · by_cases hb : b = a
      · have z' := (if_pos hb).symm.trans z
        cases z'
        rw [hb]
        exact ⟨ha, by rw [List.length_map]; exact hl, vs, _, rv, ha⟩
      · have z1 := (if_neg hb).symm.trans z
        by_cases hb2 : b ∈ cs.map (·.2)
        · have z' := (if_pos hb2).symm.trans z1
          cases z'
          exact isT b hb2
        · have z' := (if_neg hb2).symm.trans z1
          cases z'
    · by_cases hb : b = a
      · exact .inl hb
      · by_cases hb2 : b ∈ cs.map (·.2)
        · exact .inr hb2
        · exact absurd ((if_neg hb).trans (if_neg hb2)) z
/-- what is known of the law's promise at the head's heap h -/
def LawAtG (l : PySem.W.OpenLaw) (w : World) (K : PySem.W.Frag) (CX : CXT) (k n : Nat) (x : Str) (mg : Str → Option Value) (fa : Addr) (h : Heap) : Prop :=
  ∃ (fd : FuncData) (cs : List (Addr × Addr)) (sp : Sp), (∀ p ∈ cs, h.get? p.2 = some { cls := .none, data := .fields #[] }) ∧ (∀ p ∈ cs, K.lookup p.2 = none) ∧ (∀ p ∈ cs, PySem.W.CodeHd h p.1 p.2) ∧ (∀ (s : Shared) (u : Value), BindsTo s fd ⟨[u], []⟩ [(x, u)]) ∧
    (∀ (H : Hp) (a : Addr) (ns : List Int), ns.length ≤ n → (∀ z ∈ ns, Builtin.Int.intBits z ≤ 1048576) → (∀ p ∈ cs, H p.2 = some (.tbl #[])) → SqL K H a (ns.map V.int) → sp [.ref a] H (fun v _ => v = .bl true) fun _ _ _ => False) ∧
    ∀ base : Heap, K.In base → base.Ns mainGlobals mg → (∀ p ∈ cs, TabB base mg p.1 p.2) → FnG l.prog w K mg base CX k fa fd [x] sp
theorem walk_ofG {l : PySem.W.OpenLaw} {n k : Nat} {q : Program} {loose : List Str} {XP : (Str → Option Value) → Heap → Prop} {YP : World → Heap → Prop} {d : DefRec} {CX : World → CXT} {x : Str}
    (hn : l.most = some n) (hn2 : n ≤ sizeLine) (hdf : d.params.defaults = []) (hr : Room k callerA)
    (F : ∀ (w : World) (mg : Str → Option Value) (fa : Addr) (h : Heap), YP w h → h.Ns mainGlobals mg → mg d.name = some (.ref fa) → ∃ K : PySem.W.Frag, K.In h ∧ LawAtG l w K (CX w) k n x mg fa h)
    (hCX : ∀ (w : World) (H : Hp) (s : Shared) (e : Value) (s' : Shared), CX w [] H s (fun _ _ _ => False) e s' → False) :
    PySem.W.WalkO q loose XP YP l.row.toRowW d [] (fun f vs => PySem.call f vs) := by
  refine Att.attach_callB hn hdf fun w s₀ s₁ mg mb fa o pm cd doc a vs ns G Y ho hd hcd hmg hobj hints hlen hbits hg => ?_
  obtain ⟨K, KX, fd, cs, sp, hT, nT, C, hb, hsp, hF⟩ := F w mg fa _ Y G.T.g hmg
  exact law_callG KX G.T.g G.T.b G.T.builtins G.T.nolimit hg hT nT C G.T.bmain hobj hints (Nat.le_trans hlen hn2) hr hF hb (fun H hH hS => hsp H a ns hlen hbits hH hS) fun H e s' => hCX w H s₁ e s'
end DL
set_option maxHeartbeats 2000000
/-! Part K: branches that meet, decks let go, own exceptions of one field, small displays. -/
namespace DL
open PySem PySem.Spec PyProof.Rows L2
section
variable {X : Cx} {T : List (Addr × Str)} {δ : Sl} {O : Oh} {Ex : XD} {k k' : Val → Oh → Prop} {ks : Sl → Oh → Prop} {D D' : De} {kk : Nat} {pos : Pos} {e o i c : Expr} {es : List Expr} {sts t u : List Stmt} {d : Addr} {n : Nat}
theorem WSs.imp (h : WSs X T sts δ O Ex D) (h1 : ∀ δ O, D.nx δ O → D'.nx δ O) (h2 : ∀ v O, D.rt v O → D'.rt v O) (h3 : ∀ δ O, D.bk δ O → D'.bk δ O) (h4 : ∀ δ O, D.ct δ O → D'.ct δ O) : WSs X T sts δ O Ex D' := fun F σ H Hk D0 hs hl hx q =>
  h F σ H Hk D0 hs hl hx ⟨fun σ δ O a b k1 k2 k3 z => q.nx σ δ O a b k1 k2 k3 (h1 _ _ z), fun v x O a b k1 k2 k3 z => q.rt v x O a b k1 k2 k3 (h2 _ _ z), fun σ δ O a b k1 k2 k3 z => q.bk σ δ O a b k1 k2 k3 (h3 _ _ z), fun σ δ O a b k1 k2 k3 z => q.ct σ δ O a b k1 k2 k3 (h4 _ _ z)⟩
theorem WE.imp (h : WE X T e δ O Ex k) (h1 : ∀ v O, k v O → k' v O) : WE X T e δ O Ex k' := fun F σ H Hk Q hs hl hx q => h F σ H Hk Q hs hl hx fun v x O1 a b k1 k2 k3 z => q v x O1 a b k1 k2 k3 (h1 _ _ z)
/-- two branches that meet at J -/
theorem ws_ifJ (J : Sl → Oh → Prop) (h : WT X T c δ O Ex fun b O1 => (b = true → WSs X T t δ O1 Ex { D with nx := J }) ∧ (b = false → WSs X T u δ O1 Ex { D with nx := J })) (hJ : ∀ δ O, J δ O → D.nx δ O) : WS X T (.If c t u pos) δ O Ex D :=
  fun F σ H Hk D0 hs hl hx q => ws_if (D := D) (fun F σ H Hk Q hs hl hx q => h F σ H Hk Q hs hl hx fun b O1 a b1 k1 k2 ⟨z1, z2⟩ => q b O1 a b1 k1 k2 ⟨fun e => (z1 e).imp hJ (fun _ _ z => z) (fun _ _ z => z) fun _ _ z => z, fun e => (z2 e).imp hJ (fun _ _ z => z) (fun _ _ z => z) fun _ _ z => z⟩) F σ H Hk D0 hs hl hx q
/-- fewer draws are promised -/
theorem deck_less {K : PySem.W.Frag} {t : TF} {Hk H : Hp} {m : Nat} (h : HD K t Hk H O) (e : O d = some (.deck m)) (hn : n ≤ m) : HD K t Hk H (oset O d (.deck n)) := by
  obtain ⟨_, a, b, c, eH, h1, h2, h3, h4, h5⟩ := h.obj d _ e
  exact h.view (oo' := .deck n) e ⟨a, b, c, eH, h1, h2, h3, h4, by omega⟩
theorem we_less (h : WE X T e δ O Ex fun v O1 => ∃ m, O1 d = some (.deck m) ∧ n ≤ m ∧ k v (oset O1 d (.deck n))) : WE X T e δ O Ex k := fun F σ H Hk Q hs hl hx q =>
  h F σ H Hk Q hs hl hx fun v x O1 Hk1 H1 k1 hs1 r1 ⟨m, e1, hn, z⟩ => q v x _ Hk1 H1 k1 (deck_less hs1 e1 hn) r1 z
theorem wss_less {m : Nat} (e1 : O d = some (.deck m)) (hn : n ≤ m) (h : WSs X T sts δ (oset O d (.deck n)) Ex D) : WSs X T sts δ O Ex D := fun F σ H Hk D0 hs hl hx q => h F σ H Hk D0 (deck_less hs e1 hn) hl hx q
theorem we_closeE (he : WE X T e δ O Ex fun v O1 => ∃ (d : Addr) (a b c : Int) (n : Nat), O1 d = some (.lst (dkV a b c)) ∧ DkB a b c n ∧ k v (oset O1 d (.deck n))) : WE X T e δ O Ex k := fun F σ H Hk Q hs hl hx q => by
  refine he F σ H Hk Q hs hl hx fun v x O1 Hk1 H1 k1 hs1 r1 ⟨d, a, b, c, n, e1, hb, h1⟩ => ?_
  obtain ⟨_, vs, eH, rv⟩ := hs1.obj d _ e1
  rw [vall3' rv] at eH
  exact q v x _ Hk1 H1 k1 (hs1.view (oo' := .deck n) e1 ⟨a, b, c, eH, hb⟩) r1 h1
theorem wu_neg {j : Int} (q : k (.dat (.int (-j))) O) : WU X T (unaryOp .USub) (.dat (.int j)) O k := fun F a H Hk Q hs ra got => by
  cases ra
  exact gU_of un_neg ⟨j, rfl, got _ (.dat (.int (-j))) O Hk H (Kp.refl _) hs (At.int _) q⟩
/-- {} that is data -/
theorem we_dict0 (h : k (.dat (.dict [])) O) : WE X T (.Dict [] [] pos) δ O Ex k := fun F σ H Hk Q hs hl hx q => by
  refine gE_of pe_dnewK fun p hp => ?_
  exact q (.ref p) (.dat (.dict [])) O _ _ (Kp.upd (hs.dom p hp)) (hs.newK hp) (At.dK upd_same (Nat.zero_le _) List.nodup_nil .nil) h
/-- {'z': v} that is data -/
theorem we_dict1 {z : Str} {j : Nat} {p1 : Pos} {v : Expr} (h : WE X T v δ O X0 fun y O1 => ∃ d, y = .dat d ∧ k (.dat (.dict [(.str z, d)])) O1) : WE X T (.Dict [some (.Constant (.str z) j p1)] [v] pos) δ O Ex k := fun F σ H Hk Q hs hl hx q => by
  refine gE_of (pe_disp (pps_cons pe_str (gE_pe (e := v)) pps_nil) rfl rfl (by simp) (by simp)) fun p hp => ?_
  have fF : F p = none := hs.freshF hp
  have hs1 : HD X.K ⟨T, oset F p (.dct [])⟩ Hk (upd H p (.dK [])) O := hs.newF (o := .dK []) (oo := .dct []) hp ⟨[], upd_same, .nil⟩
  show gE X v σ (upd H p (.dK [])) _
  refine h (oset F p (.dct [])) σ _ Hk _ hs1 hl XOK.none fun w y O1 Hk1 H1 k1 hs2 r1 ⟨dd, ey, h1⟩ => ?_
  subst ey
  obtain ⟨fO, hs3⟩ := hs2.backF fF
  obtain ⟨hna, ws, eH, rw'⟩ := hs3.obj p _ oset_same
  cases rw'
  refine ⟨eH, [(.inr z, w)], rfl, Nat.le_of_ble_eq_true rfl, ?_⟩
  have em : mergeK [] [((.inr z : Key), w)] = [(.inr z, w)] := rfl
  rw [em]
  have hs4 : HD X.K ⟨T, F⟩ Hk1 (upd H1 p (.dK [(.inr z, w)])) (oset (oset O1 p (.dct [])) p (.dct [(.inr z, .dat dd)])) := hs3.setO (oo := .dct [(.inr z, .dat dd)]) oset_same eH (fun _ z => nomatch z) (fun _ z => nomatch z) ⟨_, upd_same, .cons ⟨rfl, r1⟩ .nil⟩
  obtain ⟨k2, hs5⟩ := hs4.freezeO oset_same upd_same
  rw [oset_oset, orem_oset fO] at hs5
  exact q (.ref p) (.dat (.dict [(.str z, dd)])) O1 _ _ (k1.trans k2) hs5 (At.dK upd_same (Nat.le_of_ble_eq_true rfl) (by simp) (.cons (At.mono k2 r1) .nil)) h1
/-- for x in (e1, ..) -/
theorem wi_disp {tg : Expr} {x1 : Nat} {ki : List Val → (Oh → Prop) → Oh → Prop} (h : WA X T es δ O Ex fun xs O1 => xs.length ≤ lim ∧ ki xs (fun _ => True) O1) : WI X T tg (.Tuple es x1 pos) δ O Ex ki := fun F σ H Hk R hs hl hx q => by
  refine gI_of (pi_tup (pe_tup gA_pa)) (h F σ H Hk _ hs hl hx fun vs xs O1 Hk1 H1 k1 hs1 r1 ⟨hz, h1⟩ => ?_)
  have hz' : vs.length ≤ lim := by rw [r1.length]; exact hz
  refine ⟨lim_size hz', fun p hp => ?_⟩
  have k2 : Kp Hk1 (upd Hk1 p (.tup vs)) := Kp.upd (hs1.dom p hp)
  have r2 : VAll X.K (upd Hk1 p (.tup vs)) vs xs := VAll.mono k2 r1
  have sq : SqT X.K (upd Hk1 p (.tup vs)) p vs := .of upd_same
  refine ⟨p, rfl, ⟨vs, .of upd_same⟩, q _ xs (fun _ => True) O1 _ _ (k1.trans k2) (hs1.newK hp) ⟨fun F' i H' Hk' O' y k3 hd' _ e => ?_, fun F' H' Hk' O' k3 hd' _ => ?_⟩ True.intro h1⟩
  · have qq := hd'.sub.sqT (k3.sqT sq)
    obtain ⟨w, ew, rw'⟩ := (VAll.mono k3 r2).get' i y e
    refine ⟨⟨vs, w, qq, ew⟩, fun w2 H2 yy => ?_⟩
    obtain ⟨eH, yy⟩ := yy
    have z := yy vs qq
    rw [ew] at z
    cases z
    subst eH
    exact ⟨Hk', Kp.refl _, hd', rw'⟩
  · exact ⟨vs, hd'.sub.sqT (k3.sqT sq), by rw [r2.length]; exact Nat.le_refl _⟩
end

/-! ### exceptions of one field -/
def spIni (C : Addr) (f : Str) : DSp := fun args O k ex => ∃ (a : Addr) (v : Val), args = [.raw (.ref a), v] ∧ O a = some (.exc C []) ∧ k (.dat .none) (oset O a (.exc C [(f, v)]))
def spIni0 (C : Addr) : DSp := fun args O k ex => ∃ a : Addr, args = [.raw (.ref a)] ∧ O a = some (.exc C []) ∧ k (.dat .none) O
theorem spIni_len {C : Addr} {f : Str} {y : Str} (args : List Val) (O : Oh) (k : Val → Oh → Prop) (ex : Value → List (Str × Val) → Oh → Prop) (h : spIni C f args O k ex) : args.length = (["self", y] : List Str).length := by
  obtain ⟨a, v, rfl, _⟩ := h
  rfl
theorem spIni0_len {C : Addr} (args : List Val) (O : Oh) (k : Val → Oh → Prop) (ex : Value → List (Str × Val) → Oh → Prop) (h : spIni0 C args O k ex) : args.length = (["self"] : List Str).length := by
  obtain ⟨a, rfl, _⟩ := h
  rfl
section
variable {X : Cx} {T : List (Addr × Str)} {δ : Sl} {O : Oh} {Ex : XD} {k : Val → Oh → Prop} {kk j : Nat} {pos p kpos : Pos} {e : Expr} {C fI : Addr} {x f y : Str} {fd : FuncData}
theorem we_mk1 (M : XM X T x C fI j fd ["self", y] (spIni C f)) (cc : Cok X kk) (hj : j + 1 ≤ kk) (hb : Binds X.K fd ["self", y] []) (h : WE X T e δ O Ex fun v O1 => ∀ a, O1 a = none → k (.raw (.ref a)) (oset O1 a (.exc C [(f, v)])))
    (hg : Gl X x := by rfl) (hdb : (x == ("__debug__" : Str)) = false := by decide) (he : starEach [e] X.env = (false, eval e X.env) :: starEach [] X.env := by rfl) (hpl : (backTo pos (starEach [] X.env)).any (·.1) = false := by rfl) :
    WE X T (.Call (.Name x p) [e] [] pos) δ O Ex k :=
  we_mkx M cc hj hb spIni_len (wa_cons (h.imp fun v O1 h1 => wa_nil ⟨Nat.le_of_ble_eq_true rfl, fun a ha => ⟨a, v, rfl, oset_same, rfl, by rw [oset_oset]; exact h1 a ha⟩⟩) he) hg hdb he hpl
theorem we_mk1K (M : XM X T x C fI j fd ["self", y] (spIni C f)) (cc : Cok X kk) (hj : j + 1 ≤ kk) (hb : KB X.K fd ["self", y] 1 [y]) (h : WE X T e δ O Ex fun v O1 => ∀ a, O1 a = none → k (.raw (.ref a)) (oset O1 a (.exc C [(f, v)])))
    (hg : Gl X x := by rfl) (hall : (backToKw pos (keywordEach [⟨some y, e, kpos⟩] X.env)).all (·.1.isSome) = true := by rfl) (hks : (backToKw pos (keywordEach [⟨some y, e, kpos⟩] X.env)).filterMap (·.1) = [y] := by rfl)
    (hdb : (x == ("__debug__" : Str)) = false := by decide) (hpl : ((backTo pos (starEach [] X.env)).any (·.1) || (backToKw pos (keywordEach [⟨some y, e, kpos⟩] X.env)).any (·.1.isNone)) = false := by rfl) :
    WE X T (.Call (.Name x p) [] [⟨some y, e, kpos⟩] pos) δ O Ex k :=
  we_mkxK M cc hj hb (wk_cons (h.imp fun v O1 h1 => wk_nil ⟨rfl, fun a ha => ⟨a, v, rfl, oset_same, rfl, by rw [oset_oset]; exact h1 a ha⟩⟩)) hg hall hks hdb hpl
theorem we_mk0 (M : XM X T x C fI j fd ["self"] (spIni0 C)) (cc : Cok X kk) (hj : j + 1 ≤ kk) (hb : Binds X.K fd ["self"] []) (h : ∀ a, O a = none → k (.raw (.ref a)) (oset O a (.exc C [])))
    (hg : Gl X x := by rfl) (hdb : (x == ("__debug__" : Str)) = false := by decide) : WE X T (.Call (.Name x p) [] [] pos) δ O Ex k :=
  we_mkx0 M cc hj hb spIni0_len (fun a ha => ⟨a, rfl, oset_same, rfl, h a ha⟩) hg hdb
end
/-- a block's names, checked -/
def blkB (N : List Str) (sc scope : Scope) (own : List (Str × Nat)) : Bool :=
  decide (scope.kind = .function) && (scope.names.all (fun y => decide (scope.names.lookup y.1 = some y.2)) && (own.all (fun p => decide (N[p.2]? = some p.1)) &&
  (scope.names.all (fun y => !decide (y.2 = .free) || (decide (sc.names.lookup y.1 = some .cell) || decide (sc.names.lookup y.1 = some .free))) &&
  scope.names.all (fun y => !(decide (y.2 = .local) || decide (y.2 = .cell)) || ((own.map (·.1)).contains y.1 || !N.contains y.1)))))
theorem blk_of {N : List Str} {sc scope : Scope} {own : List (Str × Nat)} (h : blkB N sc scope own = true) : BlkOk N sc scope own := by
  unfold blkB at h
  simp only [Bool.and_eq_true, List.all_eq_true, decide_eq_true_eq, Bool.or_eq_true, Bool.not_eq_true', decide_eq_false_iff_not, List.contains_iff_mem] at h
  obtain ⟨h1, h2, h3, h4, h5⟩ := h
  refine ⟨h1, h2, h3, fun y hy hf => ?_, fun y hy hf => ?_⟩
  · rcases h4 y hy with z | z
    · exact absurd hf z
    · exact z
  · rcases h5 y hy with z | z | z
    · rw [Bool.or_eq_false_iff] at z
      rcases hf with e | e
      · exact absurd e (of_decide_eq_false z.1)
      · exact absurd e (of_decide_eq_false z.2)
    · exact .inl z
    · refine .inr fun hm => ?_
      have : N.contains y.1 = true := List.contains_iff_mem.mpr hm
      rw [z] at this
      cases this
end DL
set_option maxHeartbeats 4000000
namespace K51
open PySem PySem.Spec PyProof.Rows L2 DL
def top (i : Nat) : Stmt := PySem.Challenge.pw_gridupgrade_k51_errors.main.body.getD i (.Pass ⟨0, 0, 0, 0⟩)
abbrev FnP (K : PySem.W.Frag) (x : Str) (st : Stmt) (f : Addr) (fd : FuncData) : Prop := FunD K x x (defArgs st) (defBody st) (defScope st) [] [] f fd
abbrev NDraw : List Str := ["_law_deck_here", "_law_many", "_law_digit", "_law_prime", "_law_mixed"]
theorem scDraw : FnScope NDraw ["_law_deck_here", "_law_many"] (defScope (top 24)) := ⟨rfl, rfl, rfl, by decide +kernel, rfl, by decide +kernel, by decide +kernel⟩
def spDraw : DSp := fun args O k ex => ∃ (d : Addr) (n : Nat) (m : Int), args = [.raw (.ref d), .dat (.int m)] ∧ O d = some (.deck (n + 1)) ∧ 1 ≤ m ∧ m ≤ 1000000000 ∧ ∀ r : Int, 0 ≤ r → r < m → k (.dat (.int r)) (oset O d (.deck n))
section
variable {P : Program} {w : World} {K : PySem.W.Frag} {mg : Str → Option Value} {base : Heap} {f : Addr} {fd : FuncData} {T : List (Addr × Str)}
theorem primes_at (r : Int) (h0 : 0 ≤ r) (h5 : r < 5) : ∃ p : Int, atI ([PyData.int 2147483647, .int 2147483629, .int 2147483587, .int 2147483579, .int 2147483563].map Val.dat) r = some (.dat (.int p)) ∧ 0 < p ∧ p < 2147483648 := by
  have : r = 0 ∨ r = 1 ∨ r = 2 ∨ r = 3 ∨ r = 4 := by omega
  rcases this with rfl | rfl | rfl | rfl | rfl
  · exact ⟨2147483647, rfl, by decide, by decide⟩
  · exact ⟨2147483629, rfl, by decide, by decide⟩
  · exact ⟨2147483587, rfl, by decide, by decide⟩
  · exact ⟨2147483579, rfl, by decide, by decide⟩
  · exact ⟨2147483563, rfl, by decide, by decide⟩
theorem ok_draw (F : FnP K "_law_draw" (top 24) f fd) : FnG P w K mg base (L2.CX P w) 1 f fd ["_law_deck_here", "_law_many"] (toSp K T spDraw) := by
  refine fn_ok F scDraw (fun args O k ex h => ?_) (fun cdv A outer s H E args O k ex cc hsp => ?_)
  · obtain ⟨d, n, m, rfl, _⟩ := h
    rfl
  · obtain ⟨d, n, m, rfl, hO, h1, h2, hk⟩ := hsp
    refine wss_open hO fun a b c hb => ?_
    obtain ⟨ha0, hb0, hb1, hc0, hc1⟩ := hb
    have dx : ∀ {a b c : Int} {i : Int} {z : Val} {X : Cx} {k : Val → Oh → Prop}, atI (dkV a b c) i = some z → k z (oset O d (.lst (dkV a b c))) → WIx X T (.raw (.ref d)) (.dat (.int i)) (oset O d (.lst (dkV a b c))) k := fun {a b c i z X k} e q => wix_seq (show SeqV _ (.raw (.ref d)) (dkV a b c) from oset_same) e q
    refine wss_cons ?_
    refine ws_if ?_
    refine wt_cmp ?_
    refine we_ix ?_
    refine we_name 0 rfl rfl ?_
    refine we_int ?_
    refine dx rfl ?_
    refine we_int ?_
    refine wo_gt ⟨_, rfl, fun ht => ?_, fun ht => ?_⟩
    · have hpos : 0 < a := of_decide_eq_true ht
      refine wss_cons ?_
      refine ws_set 2 cc rfl ?_
      refine we_bin ?_
      refine we_ix ?_
      refine we_name 0 rfl rfl ?_
      refine we_int ?_
      refine dx rfl ?_
      refine we_name 1 rfl rfl ?_
      refine wo_mod (by omega) ?_
      refine wss_cons ?_
      refine ws_asg ?_
      refine we_bin ?_
      refine we_ix ?_
      refine we_name 0 rfl rfl ?_
      refine we_int ?_
      refine dx rfl ?_
      refine we_name 1 rfl rfl ?_
      refine wo_div ⟨by omega, by omega⟩ ?_
      refine wg_subO ?_
      refine we_name 0 rfl rfl ?_
      refine we_int ?_
      refine ⟨d, dkV a b c, 0, rfl, oset_same, ⟨0, rfl, rfl, Nat.le_of_ble_eq_true rfl⟩, ?_⟩
      refine wss_cons ?_
      refine ws_ret ?_
      refine we_close (d := d) (n := n) (a := a / m) (b := b) (c := c) ?_
      refine we_name 2 rfl rfl ?_
      refine ⟨oset_same, ⟨Int.ediv_nonneg ha0 (by omega), hb0, hb1, hc0, by omega⟩, _, Ole.refl _, ?_⟩
      rw [oset_oset, oset_oset]
      exact hk _ (Int.emod_nonneg _ (by omega)) (Int.emod_lt_of_pos _ (by omega))
    · have hct : ¬ 0 < a := of_decide_eq_false ht
      have ha : a = 0 := by omega
      refine wss_nil ?_
      refine wss_cons ?_
      refine ws_asg ?_
      refine we_bin ?_
      refine we_ix ?_
      refine we_name 0 rfl rfl ?_
      refine we_int ?_
      refine dx rfl ?_
      refine we_int ?_
      refine wo_add ?_
      refine wg_subO ?_
      refine we_name 0 rfl rfl ?_
      refine we_int ?_
      refine ⟨d, dkV a b c, 2, rfl, oset_same, ⟨2, rfl, rfl, Nat.le_of_ble_eq_true rfl⟩, ?_⟩
      rw [oset_oset]
      show WSs _ _ _ _ (oset O d (.lst (dkV a b (c + 1)))) _ _
      obtain ⟨pr, hp1, hp2, hp3⟩ := primes_at ((c + 1) % 5) (Int.emod_nonneg _ (by decide)) (Int.emod_lt_of_pos _ (by decide))
      refine wss_cons ?_
      refine ws_set 3 cc rfl ?_
      refine we_ix ?_
      refine we_lst ?_
      refine wa_cons ?_
      refine we_int ?_
      refine wa_cons ?_
      refine we_int ?_
      refine wa_cons ?_
      refine we_int ?_
      refine wa_cons ?_
      refine we_int ?_
      refine wa_cons ?_
      refine we_int ?_
      refine wa_nil ?_
      refine ⟨_, rfl, by decide, ?_⟩
      refine we_bin ?_
      refine we_ix ?_
      refine we_name 0 rfl rfl ?_
      refine we_int ?_
      refine dx rfl ?_
      refine we_int ?_
      refine wo_mod (by decide) ?_
      refine wix_seq rfl hp1 ?_
      refine wss_cons ?_
      refine ws_set 4 cc rfl ?_
      refine we_bin ?_
      refine we_bin ?_
      refine we_bin ?_
      refine we_bin ?_
      refine we_ix ?_
      refine we_name 0 rfl rfl ?_
      refine we_int ?_
      refine dx rfl ?_
      refine we_bin ?_
      refine we_bin ?_
      refine we_int ?_
      refine we_ix ?_
      refine we_name 0 rfl rfl ?_
      refine we_int ?_
      refine dx rfl ?_
      refine wo_mul (.inl ⟨by decide, by decide⟩) ?_
      refine we_ix ?_
      refine we_name 0 rfl rfl ?_
      refine we_int ?_
      refine dx rfl ?_
      have hcc : 98317 * (c + 1) < 98317 * 1000001 := by omega
      have hc2 : 0 ≤ 98317 * (c + 1) := by omega
      have h3 : 0 ≤ 98317 * (c + 1) * (c + 1) := Int.mul_nonneg hc2 (by omega)
      have h4 : 98317 * (c + 1) * (c + 1) ≤ 98317 * 1000001 * 1000001 := Int.mul_le_mul (by omega) (by omega) (by omega) (by decide)
      refine wo_mul (.inl ⟨by omega, by omega⟩) ?_
      refine wo_add ?_
      refine we_int ?_
      refine wo_add ?_
      refine we_int ?_
      refine wo_pow ⟨by decide, by decide, by omega⟩ ?_
      refine we_name 3 rfl rfl ?_
      refine wo_mod hp2 ?_
      generalize hmx : (b + 98317 * (c + 1) * (c + 1) + 43) ^ Int.toNat 3 % pr = mx
      have m0 : 0 ≤ mx := by rw [← hmx]; exact Int.emod_nonneg _ (by omega)
      have m1 : mx < 2147483648 := by rw [← hmx]; exact Int.lt_trans (Int.emod_lt_of_pos _ hp2) hp3
      refine wss_cons ?_
      refine ws_ret ?_
      refine we_close (d := d) (n := n) (a := a) (b := b) (c := c + 1) ?_
      refine we_bin ?_
      refine we_bin ?_
      refine we_bin ?_
      refine we_bin ?_
      refine we_name 4 rfl rfl ?_
      refine we_bin ?_
      refine we_bin ?_
      refine we_name 4 rfl rfl ?_
      refine we_int ?_
      refine wo_mod (by decide) ?_
      refine we_bin ?_
      refine we_int ?_
      refine we_ix ?_
      refine we_name 0 rfl rfl ?_
      refine we_int ?_
      refine dx rfl ?_
      refine wo_mul (.inl ⟨by decide, by decide⟩) ?_
      refine wo_add ?_
      refine wo_mul (.inl ⟨by omega, by omega⟩) ?_
      refine we_int ?_
      refine wo_mod (by decide) ?_
      refine we_int ?_
      refine wo_div ⟨by decide, by decide⟩ ?_
      refine we_name 1 rfl rfl ?_
      refine wo_mod (by omega) ?_
      refine ⟨oset_same, ⟨ha0, hb0, hb1, by omega, by omega⟩, _, Ole.refl _, ?_⟩
      rw [oset_oset]
      exact hk _ (Int.emod_nonneg _ (by omega)) (Int.emod_lt_of_pos _ (by omega))
end
end K51
set_option maxHeartbeats 4000000
namespace K51
open PySem PySem.Spec PyProof.Rows L2 DL
/-! deck, any -/
abbrev NDeck : List Str := ["_law_script", "_law_k", "_law_cell", "_law_own"]
theorem scDeck : FnScope NDeck ["_law_script", "_law_k"] (defScope (top 23)) := ⟨rfl, rfl, rfl, by decide +kernel, rfl, by decide +kernel, by decide +kernel⟩
def spDeck : DSp := fun args O k ex => ∃ (ns : List Int) (j : Nat), args = [.dat (.list (ns.map PyData.int)), .dat (.int j)] ∧ j ≤ 1000 ∧ ∀ p, O p = none → k (.raw (.ref p)) (oset O p (.deck 1000000))
abbrev NAny : List Str := ["_law_deck_here", "_law_items"]
theorem scAny : FnScope NAny ["_law_deck_here", "_law_items"] (defScope (top 25)) := ⟨rfl, rfl, rfl, by decide +kernel, rfl, by decide +kernel, by decide +kernel⟩
def spAny : DSp := fun args O k ex => ∃ (d : Addr) (n : Nat) (x : Val) (xs : List Val), args = [.raw (.ref d), x] ∧ O d = some (.deck (n + 1)) ∧ SeqV O x xs ∧ 1 ≤ xs.length ∧ xs.length ≤ 1000000 ∧ ∀ (i : Nat) (y : Val), xs[i]? = some y → k y (oset O d (.deck n))
theorem seq_deck {O : Oh} {x : Val} {xs : List Val} {d : Addr} {n : Nat} {oo : OO} (hO : O d = some (.deck n)) (h : SeqV O x xs) : SeqV (oset O d oo) x xs := by
  cases x with
  | dat e => cases e <;> first | exact h | exact h.elim
  | raw v =>
    cases v with
    | ref p =>
      have h' : O p = some (.lst xs) := h
      show oset O d oo p = some (.lst xs)
      rw [oset_ne]
      · exact h'
      · intro z
        rw [z, hO] at h'
        cases h'
    | _ => exact h.elim
theorem atI_lt {xs : List Val} {r : Int} (h0 : 0 ≤ r) (h1 : r < xs.length) : ∃ (i : Nat) (y : Val), xs[i]? = some y ∧ atI xs r = some y := by
  obtain ⟨i, rfl⟩ := Int.eq_ofNat_of_zero_le h0
  have hi : i < xs.length := by omega
  exact ⟨i, xs[i], List.getElem?_eq_getElem hi, atI_nat (List.getElem?_eq_getElem hi)⟩
section
variable {P : Program} {w : World} {K : PySem.W.Frag} {mg : Str → Option Value} {base : Heap} {f fDraw : Addr} {fd fdDraw : FuncData} {T : List (Addr × Str)}
theorem ok_deck (F : FnP K "_law_deck" (top 23) f fd) (gLen : mg "len" = none) (gAbs : mg "abs" = none) (gInt : mg "int" = none) : FnG P w K mg base (L2.CX P w) 1 f fd ["_law_script", "_law_k"] (toSp K T spDeck) := by
  refine fn_ok F scDeck (fun args O k ex h => ?_) (fun cdv A outer s H E args O k ex cc hsp => ?_)
  · obtain ⟨ns, j, rfl, _⟩ := h
    rfl
  · obtain ⟨ns, j, rfl, hj, hk⟩ := hsp
    refine wss_cons ?_
    refine ws_set 2 cc rfl ?_
    refine we_bin ?_
    refine we_bin ?_
    refine we_int ?_
    refine we_name 1 rfl rfl ?_
    refine wo_mul (.inl ⟨by decide, by decide⟩) ?_
    refine we_int ?_
    refine wo_add ?_
    refine wss_cons (ws_ifJ (fun δ' O' => O' = O ∧ ∃ c : Int, δ' = [some (.dat (.list (ns.map PyData.int))), some (.dat (.int j)), some (.dat (.int c)), none]) ?_ ?_)
    · refine wt_cmp ?_
      refine we_name 1 rfl rfl ?_
      refine we_callB (id := "len") gLen boot_len ?_
      refine wa_cons ?_
      refine we_name 0 rfl rfl ?_
      refine wa_nil ?_
      refine wc_len (xs := (ns.map PyData.int).map Val.dat) rfl ?_
      refine wo_lt ?_
      refine ⟨_, rfl, fun ht => ?_, fun ht => ?_⟩
      · have hlt := of_decide_eq_true ht
        obtain ⟨i, y, hy, ha⟩ := atI_lt (xs := (ns.map PyData.int).map Val.dat) (r := (j : Int)) (by omega) hlt
        rw [List.getElem?_map, List.getElem?_map] at hy
        cases hc : ns[i]? with
        | none => rw [hc] at hy; cases hy
        | some c =>
          rw [hc] at hy
          cases hy
          refine wss_cons ?_
          refine ws_set 2 cc rfl ?_
          refine we_ix ?_
          refine we_name 0 rfl rfl ?_
          refine we_name 1 rfl rfl ?_
          refine wix_seq (xs := (ns.map PyData.int).map Val.dat) rfl ha ?_
          exact wss_nil ⟨rfl, c, rfl⟩
      · exact wss_nil ⟨rfl, _, rfl⟩
    · rintro δ' O' ⟨rfl, c, rfl⟩
      refine wss_cons ?_
      refine ws_set 3 cc rfl ?_
      refine we_bin ?_
      refine we_bin ?_
      refine we_callB (id := "abs") gAbs boot_abs ?_
      refine wa_cons ?_
      refine we_name 2 rfl rfl ?_
      refine wa_nil ?_
      refine wc_abs ?_
      refine we_bin ?_
      refine we_bin ?_
      refine we_int ?_
      refine we_int ?_
      refine wo_pow ⟨by decide, by decide, by decide⟩ ?_
      refine we_int ?_
      refine wo_powW (by decide) (by decide +kernel) ?_
      refine wo_mod (by decide +kernel) ?_
      refine we_callTy (ty := "int") gInt boot_int ?_
      refine wa_cons ?_
      refine we_cmp ?_
      refine we_callB (id := "abs") gAbs boot_abs ?_
      refine wa_cons ?_
      refine we_name 2 rfl rfl ?_
      refine wa_nil ?_
      refine wc_abs ?_
      refine we_bin ?_
      refine we_int ?_
      refine we_int ?_
      refine wo_pow ⟨by decide, by decide, by decide⟩ ?_
      refine wo_ge ?_
      refine wa_nil ?_
      refine wc_intB ?_
      generalize hm : ((if c < 0 then -c else c) % ((10 : Int) ^ Int.toNat 60) ^ Int.toNat 5) = m
      have m0 : 0 ≤ m := by rw [← hm]; exact Int.emod_nonneg _ (by decide +kernel)
      generalize hb : (if decide (((10 : Int) ^ Int.toNat 18) ≤ (if c < 0 then -c else c)) = true then (1 : Int) else 0) = bb
      have b0 : bb = 1 ∨ bb = 0 := by
        rw [← hb]
        by_cases ht : decide (((10 : Int) ^ Int.toNat 18) ≤ (if c < 0 then -c else c)) = true
        · exact .inl (if_pos ht)
        · exact .inr (if_neg ht)
      refine wo_mul (.inr ⟨by omega, by omega⟩) ?_
      have p0 : 0 ≤ m * bb := by rcases b0 with e | e <;> rw [e] <;> omega
      have hc0 := Int.emod_nonneg c (show (2305843009213693951 : Int) ≠ 0 by decide)
      have hc1 := Int.emod_lt_of_pos c (show (0 : Int) < 2305843009213693951 by decide)
      refine wss_cons ?_
      refine ws_ret ?_
      refine we_closeE ?_
      refine we_lstO ?_
      refine wa_cons ?_
      refine we_name 3 rfl rfl ?_
      refine wa_cons ?_
      refine we_bin ?_
      refine we_bin ?_
      refine we_bin ?_
      refine we_bin ?_
      refine we_bin ?_
      refine we_name 2 rfl rfl ?_
      refine we_int ?_
      refine wo_mod (by decide) ?_
      refine we_int ?_
      refine wo_mul (.inl ⟨by omega, by omega⟩) ?_
      refine we_bin ?_
      refine we_bin ?_
      refine we_int ?_
      refine we_name 1 rfl rfl ?_
      refine wo_mul (.inl ⟨by decide, by decide⟩) ?_
      refine we_name 1 rfl rfl ?_
      refine wo_mul (.inl ⟨by omega, by omega⟩) ?_
      refine wo_add ?_
      refine we_int ?_
      refine wo_add ?_
      refine we_int ?_
      refine wo_mod (by decide) ?_
      refine wa_cons ?_
      refine we_int ?_
      refine wa_nil ?_
      refine ⟨Nat.le_of_ble_eq_true rfl, fun p hp => ⟨p, _, _, _, 1000000, oset_same, ⟨p0, Int.emod_nonneg _ (by decide), Int.lt_trans (Int.emod_lt_of_pos _ (by decide)) (by decide), by decide, by decide⟩, _, Ole.refl _, ?_⟩⟩
      rw [oset_oset]
      exact hk p hp
theorem ok_any (F : FnP K "_law_any" (top 25) f fd) (FD : FnP K "_law_draw" (top 24) fDraw fdDraw) (gD : mg "_law_draw" = some (.ref fDraw)) (gLen : mg "len" = none) : FnG P w K mg base (L2.CX P w) 2 f fd ["_law_deck_here", "_law_items"] (toSp K T spAny) := by
  refine fn_ok F scAny (fun args O k ex h => ?_) (fun cdv A outer s H E args O k ex cc hsp => ?_)
  · obtain ⟨_, _, _, _, rfl, _⟩ := h
    rfl
  · obtain ⟨d, n, x, xs, rfl, hO, hx, h1, h2, hk⟩ := hsp
    have bD : Binds K fdDraw ["_law_deck_here", "_law_many"] [] := FD.bindsN fun _ _ _ _ _ _ us hl => match us, hl with | [_, _], _ => rfl
    refine wss_cons ?_
    refine ws_ret ?_
    refine we_ix ?_
    refine we_name 1 rfl rfl ?_
    refine we_call (ok_draw FD) cc (Nat.le_refl _) gD FD.kp bD ?_
    refine wa_cons ?_
    refine we_name 0 rfl rfl ?_
    refine wa_cons ?_
    refine we_callB (id := "len") gLen boot_len ?_
    refine wa_cons ?_
    refine we_name 1 rfl rfl ?_
    refine wa_nil ?_
    refine wc_len hx ?_
    refine wa_nil ?_
    refine ⟨d, n, (xs.length : Int), rfl, hO, by omega, by omega, fun r r0 r1 => ?_⟩
    obtain ⟨i, y, hy, ha⟩ := atI_lt r0 r1
    exact wix_seq (seq_deck hO hx) ha ⟨_, Ole.refl _, hk i y hy⟩
end
end K51
set_option maxHeartbeats 4000000
namespace K51
open PySem PySem.Spec PyProof.Rows L2 DL
def clsBody (s : Stmt) : List Stmt := match s with
  | .ClassDef _ _ _ b _ _ _ _ _ _ _ => b
  | _ => []
def mth (i j : Nat) : Stmt := (clsBody (top i)).getD j (.Pass ⟨0, 0, 0, 0⟩)
def cn : List Str := ["NoRelease", "NoService", "Unreachable", "NotTwoSided", "TooLarge", "BadSchedule", "NotPossible", "NotUpgrade", "BadPath", "BadSkips", "BadPrice", "NotWave", "BadState", "Blocked", "Mixed", "TooDear", "BadText", "BadLine", "NothingToUndo", "NoFleet"]
def fl : List Str := ["value", "value", "names", "cycle", "limit", "value", "index", "value", "value", "value", "name", "value", "value", "services", "present", "price", "value", "line"]
def ti : List Nat := [2, 3, 4, 5, 6, 7, 8, 9, 10, 11, 12, 13, 14, 15, 16, 17, 19, 20, 18, 21]
abbrev aU (K : PySem.W.Frag) : Addr := He.ga K "UpgradeError"
abbrev cA (K : PySem.W.Frag) (i : Nat) : Addr := He.ga K (cn.getD i "")
abbrev iA (K : PySem.W.Frag) (i : Nat) : Addr := He.ma K (cA K i) "__init__"
section
variable {P : Program} {w : World} {K : PySem.W.Frag} {mg : Str → Option Value} {base : Heap} {f C U : Addr} {fd : FuncData} {T : List (Addr × Str)}
theorem ok_i2 (F : FunD K "__init__" "NoRelease.__init__" (defArgs (mth 2 0)) (defBody (mth 2 0)) (defScope (mth 2 0)) [] [] f fd) (gU : mg "UpgradeError" = some (.ref U)) (u : XU K U) (hC : OexC K C) (hno : PySem.W.findIn K (.ref C) "value" = some none) :
    FnG P w K mg base (L2.CX P w) 1 f fd ["self", "value"] (toSp K T (spIni C "value")) := by
  refine fn_ok (N := ["self", "value"]) F ⟨rfl, rfl, rfl, by decide +kernel, rfl, by decide +kernel, by decide +kernel⟩ spIni_len (fun cdv A outer s H E args O k ex cc hsp => ?_)
  obtain ⟨a, v, rfl, hO, hk⟩ := hsp
  refine wss_cons ?_
  refine ws_expr ?_
  refine we_uinit gU u ?_
  refine wa_cons ?_
  refine we_name 0 rfl rfl ?_
  refine wa_cons ?_
  refine we_str ?_
  refine wa_nil ?_
  refine ⟨a, C, _, rfl, by decide, hC, hO, ?_⟩
  refine wss_cons ?_
  refine ws_xset ?_
  refine we_name 1 rfl rfl ?_
  refine we_name 0 rfl rfl ?_
  exact ⟨a, C, rfl, hC, hno, hO, wss_nil ⟨_, Ole.refl _, hk⟩⟩
theorem ok_i3 (F : FunD K "__init__" "NoService.__init__" (defArgs (mth 3 0)) (defBody (mth 3 0)) (defScope (mth 3 0)) [] [] f fd) (gU : mg "UpgradeError" = some (.ref U)) (u : XU K U) (hC : OexC K C) (hno : PySem.W.findIn K (.ref C) "value" = some none) :
    FnG P w K mg base (L2.CX P w) 1 f fd ["self", "value"] (toSp K T (spIni C "value")) := by
  refine fn_ok (N := ["self", "value"]) F ⟨rfl, rfl, rfl, by decide +kernel, rfl, by decide +kernel, by decide +kernel⟩ spIni_len (fun cdv A outer s H E args O k ex cc hsp => ?_)
  obtain ⟨a, v, rfl, hO, hk⟩ := hsp
  refine wss_cons ?_
  refine ws_expr ?_
  refine we_uinit gU u ?_
  refine wa_cons ?_
  refine we_name 0 rfl rfl ?_
  refine wa_cons ?_
  refine we_str ?_
  refine wa_nil ?_
  refine ⟨a, C, _, rfl, by decide, hC, hO, ?_⟩
  refine wss_cons ?_
  refine ws_xset ?_
  refine we_name 1 rfl rfl ?_
  refine we_name 0 rfl rfl ?_
  exact ⟨a, C, rfl, hC, hno, hO, wss_nil ⟨_, Ole.refl _, hk⟩⟩
theorem ok_i4 (F : FunD K "__init__" "Unreachable.__init__" (defArgs (mth 4 0)) (defBody (mth 4 0)) (defScope (mth 4 0)) [] [] f fd) (gU : mg "UpgradeError" = some (.ref U)) (u : XU K U) (hC : OexC K C) (hno : PySem.W.findIn K (.ref C) "names" = some none) :
    FnG P w K mg base (L2.CX P w) 1 f fd ["self", "names"] (toSp K T (spIni C "names")) := by
  refine fn_ok (N := ["self", "names"]) F ⟨rfl, rfl, rfl, by decide +kernel, rfl, by decide +kernel, by decide +kernel⟩ spIni_len (fun cdv A outer s H E args O k ex cc hsp => ?_)
  obtain ⟨a, v, rfl, hO, hk⟩ := hsp
  refine wss_cons ?_
  refine ws_expr ?_
  refine we_uinit gU u ?_
  refine wa_cons ?_
  refine we_name 0 rfl rfl ?_
  refine wa_cons ?_
  refine we_str ?_
  refine wa_nil ?_
  refine ⟨a, C, _, rfl, by decide, hC, hO, ?_⟩
  refine wss_cons ?_
  refine ws_xset ?_
  refine we_name 1 rfl rfl ?_
  refine we_name 0 rfl rfl ?_
  exact ⟨a, C, rfl, hC, hno, hO, wss_nil ⟨_, Ole.refl _, hk⟩⟩
theorem ok_i5 (F : FunD K "__init__" "NotTwoSided.__init__" (defArgs (mth 5 0)) (defBody (mth 5 0)) (defScope (mth 5 0)) [] [] f fd) (gU : mg "UpgradeError" = some (.ref U)) (u : XU K U) (hC : OexC K C) (hno : PySem.W.findIn K (.ref C) "cycle" = some none) :
    FnG P w K mg base (L2.CX P w) 1 f fd ["self", "cycle"] (toSp K T (spIni C "cycle")) := by
  refine fn_ok (N := ["self", "cycle"]) F ⟨rfl, rfl, rfl, by decide +kernel, rfl, by decide +kernel, by decide +kernel⟩ spIni_len (fun cdv A outer s H E args O k ex cc hsp => ?_)
  obtain ⟨a, v, rfl, hO, hk⟩ := hsp
  refine wss_cons ?_
  refine ws_expr ?_
  refine we_uinit gU u ?_
  refine wa_cons ?_
  refine we_name 0 rfl rfl ?_
  refine wa_cons ?_
  refine we_str ?_
  refine wa_nil ?_
  refine ⟨a, C, _, rfl, by decide, hC, hO, ?_⟩
  refine wss_cons ?_
  refine ws_xset ?_
  refine we_name 1 rfl rfl ?_
  refine we_name 0 rfl rfl ?_
  exact ⟨a, C, rfl, hC, hno, hO, wss_nil ⟨_, Ole.refl _, hk⟩⟩
theorem ok_i6 (F : FunD K "__init__" "TooLarge.__init__" (defArgs (mth 6 0)) (defBody (mth 6 0)) (defScope (mth 6 0)) [] [] f fd) (gU : mg "UpgradeError" = some (.ref U)) (u : XU K U) (hC : OexC K C) (hno : PySem.W.findIn K (.ref C) "limit" = some none) :
    FnG P w K mg base (L2.CX P w) 1 f fd ["self", "limit"] (toSp K T (spIni C "limit")) := by
  refine fn_ok (N := ["self", "limit"]) F ⟨rfl, rfl, rfl, by decide +kernel, rfl, by decide +kernel, by decide +kernel⟩ spIni_len (fun cdv A outer s H E args O k ex cc hsp => ?_)
  obtain ⟨a, v, rfl, hO, hk⟩ := hsp
  refine wss_cons ?_
  refine ws_expr ?_
  refine we_uinit gU u ?_
  refine wa_cons ?_
  refine we_name 0 rfl rfl ?_
  refine wa_cons ?_
  refine we_str ?_
  refine wa_nil ?_
  refine ⟨a, C, _, rfl, by decide, hC, hO, ?_⟩
  refine wss_cons ?_
  refine ws_xset ?_
  refine we_name 1 rfl rfl ?_
  refine we_name 0 rfl rfl ?_
  exact ⟨a, C, rfl, hC, hno, hO, wss_nil ⟨_, Ole.refl _, hk⟩⟩
theorem ok_i7 (F : FunD K "__init__" "BadSchedule.__init__" (defArgs (mth 7 0)) (defBody (mth 7 0)) (defScope (mth 7 0)) [] [] f fd) (gU : mg "UpgradeError" = some (.ref U)) (u : XU K U) (hC : OexC K C) (hno : PySem.W.findIn K (.ref C) "value" = some none) :
    FnG P w K mg base (L2.CX P w) 1 f fd ["self", "value"] (toSp K T (spIni C "value")) := by
  refine fn_ok (N := ["self", "value"]) F ⟨rfl, rfl, rfl, by decide +kernel, rfl, by decide +kernel, by decide +kernel⟩ spIni_len (fun cdv A outer s H E args O k ex cc hsp => ?_)
  obtain ⟨a, v, rfl, hO, hk⟩ := hsp
  refine wss_cons ?_
  refine ws_expr ?_
  refine we_uinit gU u ?_
  refine wa_cons ?_
  refine we_name 0 rfl rfl ?_
  refine wa_cons ?_
  refine we_str ?_
  refine wa_nil ?_
  refine ⟨a, C, _, rfl, by decide, hC, hO, ?_⟩
  refine wss_cons ?_
  refine ws_xset ?_
  refine we_name 1 rfl rfl ?_
  refine we_name 0 rfl rfl ?_
  exact ⟨a, C, rfl, hC, hno, hO, wss_nil ⟨_, Ole.refl _, hk⟩⟩
theorem ok_i8 (F : FunD K "__init__" "NotPossible.__init__" (defArgs (mth 8 0)) (defBody (mth 8 0)) (defScope (mth 8 0)) [] [] f fd) (gU : mg "UpgradeError" = some (.ref U)) (u : XU K U) (hC : OexC K C) (hno : PySem.W.findIn K (.ref C) "index" = some none) :
    FnG P w K mg base (L2.CX P w) 1 f fd ["self", "index"] (toSp K T (spIni C "index")) := by
  refine fn_ok (N := ["self", "index"]) F ⟨rfl, rfl, rfl, by decide +kernel, rfl, by decide +kernel, by decide +kernel⟩ spIni_len (fun cdv A outer s H E args O k ex cc hsp => ?_)
  obtain ⟨a, v, rfl, hO, hk⟩ := hsp
  refine wss_cons ?_
  refine ws_expr ?_
  refine we_uinit gU u ?_
  refine wa_cons ?_
  refine we_name 0 rfl rfl ?_
  refine wa_cons ?_
  refine we_str ?_
  refine wa_nil ?_
  refine ⟨a, C, _, rfl, by decide, hC, hO, ?_⟩
  refine wss_cons ?_
  refine ws_xset ?_
  refine we_name 1 rfl rfl ?_
  refine we_name 0 rfl rfl ?_
  exact ⟨a, C, rfl, hC, hno, hO, wss_nil ⟨_, Ole.refl _, hk⟩⟩
theorem ok_i9 (F : FunD K "__init__" "NotUpgrade.__init__" (defArgs (mth 9 0)) (defBody (mth 9 0)) (defScope (mth 9 0)) [] [] f fd) (gU : mg "UpgradeError" = some (.ref U)) (u : XU K U) (hC : OexC K C) (hno : PySem.W.findIn K (.ref C) "value" = some none) :
    FnG P w K mg base (L2.CX P w) 1 f fd ["self", "value"] (toSp K T (spIni C "value")) := by
  refine fn_ok (N := ["self", "value"]) F ⟨rfl, rfl, rfl, by decide +kernel, rfl, by decide +kernel, by decide +kernel⟩ spIni_len (fun cdv A outer s H E args O k ex cc hsp => ?_)
  obtain ⟨a, v, rfl, hO, hk⟩ := hsp
  refine wss_cons ?_
  refine ws_expr ?_
  refine we_uinit gU u ?_
  refine wa_cons ?_
  refine we_name 0 rfl rfl ?_
  refine wa_cons ?_
  refine we_str ?_
  refine wa_nil ?_
  refine ⟨a, C, _, rfl, by decide, hC, hO, ?_⟩
  refine wss_cons ?_
  refine ws_xset ?_
  refine we_name 1 rfl rfl ?_
  refine we_name 0 rfl rfl ?_
  exact ⟨a, C, rfl, hC, hno, hO, wss_nil ⟨_, Ole.refl _, hk⟩⟩
theorem ok_i10 (F : FunD K "__init__" "BadPath.__init__" (defArgs (mth 10 0)) (defBody (mth 10 0)) (defScope (mth 10 0)) [] [] f fd) (gU : mg "UpgradeError" = some (.ref U)) (u : XU K U) (hC : OexC K C) (hno : PySem.W.findIn K (.ref C) "value" = some none) :
    FnG P w K mg base (L2.CX P w) 1 f fd ["self", "value"] (toSp K T (spIni C "value")) := by
  refine fn_ok (N := ["self", "value"]) F ⟨rfl, rfl, rfl, by decide +kernel, rfl, by decide +kernel, by decide +kernel⟩ spIni_len (fun cdv A outer s H E args O k ex cc hsp => ?_)
  obtain ⟨a, v, rfl, hO, hk⟩ := hsp
  refine wss_cons ?_
  refine ws_expr ?_
  refine we_uinit gU u ?_
  refine wa_cons ?_
  refine we_name 0 rfl rfl ?_
  refine wa_cons ?_
  refine we_str ?_
  refine wa_nil ?_
  refine ⟨a, C, _, rfl, by decide, hC, hO, ?_⟩
  refine wss_cons ?_
  refine ws_xset ?_
  refine we_name 1 rfl rfl ?_
  refine we_name 0 rfl rfl ?_
  exact ⟨a, C, rfl, hC, hno, hO, wss_nil ⟨_, Ole.refl _, hk⟩⟩
theorem ok_i11 (F : FunD K "__init__" "BadSkips.__init__" (defArgs (mth 11 0)) (defBody (mth 11 0)) (defScope (mth 11 0)) [] [] f fd) (gU : mg "UpgradeError" = some (.ref U)) (u : XU K U) (hC : OexC K C) (hno : PySem.W.findIn K (.ref C) "value" = some none) :
    FnG P w K mg base (L2.CX P w) 1 f fd ["self", "value"] (toSp K T (spIni C "value")) := by
  refine fn_ok (N := ["self", "value"]) F ⟨rfl, rfl, rfl, by decide +kernel, rfl, by decide +kernel, by decide +kernel⟩ spIni_len (fun cdv A outer s H E args O k ex cc hsp => ?_)
  obtain ⟨a, v, rfl, hO, hk⟩ := hsp
  refine wss_cons ?_
  refine ws_expr ?_
  refine we_uinit gU u ?_
  refine wa_cons ?_
  refine we_name 0 rfl rfl ?_
  refine wa_cons ?_
  refine we_str ?_
  refine wa_nil ?_
  refine ⟨a, C, _, rfl, by decide, hC, hO, ?_⟩
  refine wss_cons ?_
  refine ws_xset ?_
  refine we_name 1 rfl rfl ?_
  refine we_name 0 rfl rfl ?_
  exact ⟨a, C, rfl, hC, hno, hO, wss_nil ⟨_, Ole.refl _, hk⟩⟩
theorem ok_i12 (F : FunD K "__init__" "BadPrice.__init__" (defArgs (mth 12 0)) (defBody (mth 12 0)) (defScope (mth 12 0)) [] [] f fd) (gU : mg "UpgradeError" = some (.ref U)) (u : XU K U) (hC : OexC K C) (hno : PySem.W.findIn K (.ref C) "name" = some none) :
    FnG P w K mg base (L2.CX P w) 1 f fd ["self", "name"] (toSp K T (spIni C "name")) := by
  refine fn_ok (N := ["self", "name"]) F ⟨rfl, rfl, rfl, by decide +kernel, rfl, by decide +kernel, by decide +kernel⟩ spIni_len (fun cdv A outer s H E args O k ex cc hsp => ?_)
  obtain ⟨a, v, rfl, hO, hk⟩ := hsp
  refine wss_cons ?_
  refine ws_expr ?_
  refine we_uinit gU u ?_
  refine wa_cons ?_
  refine we_name 0 rfl rfl ?_
  refine wa_cons ?_
  refine we_str ?_
  refine wa_nil ?_
  refine ⟨a, C, _, rfl, by decide, hC, hO, ?_⟩
  refine wss_cons ?_
  refine ws_xset ?_
  refine we_name 1 rfl rfl ?_
  refine we_name 0 rfl rfl ?_
  exact ⟨a, C, rfl, hC, hno, hO, wss_nil ⟨_, Ole.refl _, hk⟩⟩
theorem ok_i13 (F : FunD K "__init__" "NotWave.__init__" (defArgs (mth 13 0)) (defBody (mth 13 0)) (defScope (mth 13 0)) [] [] f fd) (gU : mg "UpgradeError" = some (.ref U)) (u : XU K U) (hC : OexC K C) (hno : PySem.W.findIn K (.ref C) "value" = some none) :
    FnG P w K mg base (L2.CX P w) 1 f fd ["self", "value"] (toSp K T (spIni C "value")) := by
  refine fn_ok (N := ["self", "value"]) F ⟨rfl, rfl, rfl, by decide +kernel, rfl, by decide +kernel, by decide +kernel⟩ spIni_len (fun cdv A outer s H E args O k ex cc hsp => ?_)
  obtain ⟨a, v, rfl, hO, hk⟩ := hsp
  refine wss_cons ?_
  refine ws_expr ?_
  refine we_uinit gU u ?_
  refine wa_cons ?_
  refine we_name 0 rfl rfl ?_
  refine wa_cons ?_
  refine we_str ?_
  refine wa_nil ?_
  refine ⟨a, C, _, rfl, by decide, hC, hO, ?_⟩
  refine wss_cons ?_
  refine ws_xset ?_
  refine we_name 1 rfl rfl ?_
  refine we_name 0 rfl rfl ?_
  exact ⟨a, C, rfl, hC, hno, hO, wss_nil ⟨_, Ole.refl _, hk⟩⟩
theorem ok_i14 (F : FunD K "__init__" "BadState.__init__" (defArgs (mth 14 0)) (defBody (mth 14 0)) (defScope (mth 14 0)) [] [] f fd) (gU : mg "UpgradeError" = some (.ref U)) (u : XU K U) (hC : OexC K C) (hno : PySem.W.findIn K (.ref C) "value" = some none) :
    FnG P w K mg base (L2.CX P w) 1 f fd ["self", "value"] (toSp K T (spIni C "value")) := by
  refine fn_ok (N := ["self", "value"]) F ⟨rfl, rfl, rfl, by decide +kernel, rfl, by decide +kernel, by decide +kernel⟩ spIni_len (fun cdv A outer s H E args O k ex cc hsp => ?_)
  obtain ⟨a, v, rfl, hO, hk⟩ := hsp
  refine wss_cons ?_
  refine ws_expr ?_
  refine we_uinit gU u ?_
  refine wa_cons ?_
  refine we_name 0 rfl rfl ?_
  refine wa_cons ?_
  refine we_str ?_
  refine wa_nil ?_
  refine ⟨a, C, _, rfl, by decide, hC, hO, ?_⟩
  refine wss_cons ?_
  refine ws_xset ?_
  refine we_name 1 rfl rfl ?_
  refine we_name 0 rfl rfl ?_
  exact ⟨a, C, rfl, hC, hno, hO, wss_nil ⟨_, Ole.refl _, hk⟩⟩
theorem ok_i15 (F : FunD K "__init__" "Blocked.__init__" (defArgs (mth 15 0)) (defBody (mth 15 0)) (defScope (mth 15 0)) [] [] f fd) (gU : mg "UpgradeError" = some (.ref U)) (u : XU K U) (hC : OexC K C) (hno : PySem.W.findIn K (.ref C) "services" = some none) :
    FnG P w K mg base (L2.CX P w) 1 f fd ["self", "services"] (toSp K T (spIni C "services")) := by
  refine fn_ok (N := ["self", "services"]) F ⟨rfl, rfl, rfl, by decide +kernel, rfl, by decide +kernel, by decide +kernel⟩ spIni_len (fun cdv A outer s H E args O k ex cc hsp => ?_)
  obtain ⟨a, v, rfl, hO, hk⟩ := hsp
  refine wss_cons ?_
  refine ws_expr ?_
  refine we_uinit gU u ?_
  refine wa_cons ?_
  refine we_name 0 rfl rfl ?_
  refine wa_cons ?_
  refine we_str ?_
  refine wa_nil ?_
  refine ⟨a, C, _, rfl, by decide, hC, hO, ?_⟩
  refine wss_cons ?_
  refine ws_xset ?_
  refine we_name 1 rfl rfl ?_
  refine we_name 0 rfl rfl ?_
  exact ⟨a, C, rfl, hC, hno, hO, wss_nil ⟨_, Ole.refl _, hk⟩⟩
theorem ok_i16 (F : FunD K "__init__" "Mixed.__init__" (defArgs (mth 16 0)) (defBody (mth 16 0)) (defScope (mth 16 0)) [] [] f fd) (gU : mg "UpgradeError" = some (.ref U)) (u : XU K U) (hC : OexC K C) (hno : PySem.W.findIn K (.ref C) "present" = some none) :
    FnG P w K mg base (L2.CX P w) 1 f fd ["self", "present"] (toSp K T (spIni C "present")) := by
  refine fn_ok (N := ["self", "present"]) F ⟨rfl, rfl, rfl, by decide +kernel, rfl, by decide +kernel, by decide +kernel⟩ spIni_len (fun cdv A outer s H E args O k ex cc hsp => ?_)
  obtain ⟨a, v, rfl, hO, hk⟩ := hsp
  refine wss_cons ?_
  refine ws_expr ?_
  refine we_uinit gU u ?_
  refine wa_cons ?_
  refine we_name 0 rfl rfl ?_
  refine wa_cons ?_
  refine we_str ?_
  refine wa_nil ?_
  refine ⟨a, C, _, rfl, by decide, hC, hO, ?_⟩
  refine wss_cons ?_
  refine ws_xset ?_
  refine we_name 1 rfl rfl ?_
  refine we_name 0 rfl rfl ?_
  exact ⟨a, C, rfl, hC, hno, hO, wss_nil ⟨_, Ole.refl _, hk⟩⟩
theorem ok_i17 (F : FunD K "__init__" "TooDear.__init__" (defArgs (mth 17 0)) (defBody (mth 17 0)) (defScope (mth 17 0)) [] [] f fd) (gU : mg "UpgradeError" = some (.ref U)) (u : XU K U) (hC : OexC K C) (hno : PySem.W.findIn K (.ref C) "price" = some none) :
    FnG P w K mg base (L2.CX P w) 1 f fd ["self", "price"] (toSp K T (spIni C "price")) := by
  refine fn_ok (N := ["self", "price"]) F ⟨rfl, rfl, rfl, by decide +kernel, rfl, by decide +kernel, by decide +kernel⟩ spIni_len (fun cdv A outer s H E args O k ex cc hsp => ?_)
  obtain ⟨a, v, rfl, hO, hk⟩ := hsp
  refine wss_cons ?_
  refine ws_expr ?_
  refine we_uinit gU u ?_
  refine wa_cons ?_
  refine we_name 0 rfl rfl ?_
  refine wa_cons ?_
  refine we_str ?_
  refine wa_nil ?_
  refine ⟨a, C, _, rfl, by decide, hC, hO, ?_⟩
  refine wss_cons ?_
  refine ws_xset ?_
  refine we_name 1 rfl rfl ?_
  refine we_name 0 rfl rfl ?_
  exact ⟨a, C, rfl, hC, hno, hO, wss_nil ⟨_, Ole.refl _, hk⟩⟩
theorem ok_i19 (F : FunD K "__init__" "BadText.__init__" (defArgs (mth 19 0)) (defBody (mth 19 0)) (defScope (mth 19 0)) [] [] f fd) (gU : mg "UpgradeError" = some (.ref U)) (u : XU K U) (hC : OexC K C) (hno : PySem.W.findIn K (.ref C) "value" = some none) :
    FnG P w K mg base (L2.CX P w) 1 f fd ["self", "value"] (toSp K T (spIni C "value")) := by
  refine fn_ok (N := ["self", "value"]) F ⟨rfl, rfl, rfl, by decide +kernel, rfl, by decide +kernel, by decide +kernel⟩ spIni_len (fun cdv A outer s H E args O k ex cc hsp => ?_)
  obtain ⟨a, v, rfl, hO, hk⟩ := hsp
  refine wss_cons ?_
  refine ws_expr ?_
  refine we_uinit gU u ?_
  refine wa_cons ?_
  refine we_name 0 rfl rfl ?_
  refine wa_cons ?_
  refine we_str ?_
  refine wa_nil ?_
  refine ⟨a, C, _, rfl, by decide, hC, hO, ?_⟩
  refine wss_cons ?_
  refine ws_xset ?_
  refine we_name 1 rfl rfl ?_
  refine we_name 0 rfl rfl ?_
  exact ⟨a, C, rfl, hC, hno, hO, wss_nil ⟨_, Ole.refl _, hk⟩⟩
theorem ok_i20 (F : FunD K "__init__" "BadLine.__init__" (defArgs (mth 20 0)) (defBody (mth 20 0)) (defScope (mth 20 0)) [] [] f fd) (gU : mg "UpgradeError" = some (.ref U)) (u : XU K U) (hC : OexC K C) (hno : PySem.W.findIn K (.ref C) "line" = some none) :
    FnG P w K mg base (L2.CX P w) 1 f fd ["self", "line"] (toSp K T (spIni C "line")) := by
  refine fn_ok (N := ["self", "line"]) F ⟨rfl, rfl, rfl, by decide +kernel, rfl, by decide +kernel, by decide +kernel⟩ spIni_len (fun cdv A outer s H E args O k ex cc hsp => ?_)
  obtain ⟨a, v, rfl, hO, hk⟩ := hsp
  refine wss_cons ?_
  refine ws_expr ?_
  refine we_uinit gU u ?_
  refine wa_cons ?_
  refine we_name 0 rfl rfl ?_
  refine wa_cons ?_
  refine we_str ?_
  refine wa_nil ?_
  refine ⟨a, C, _, rfl, by decide, hC, hO, ?_⟩
  refine wss_cons ?_
  refine ws_xset ?_
  refine we_name 1 rfl rfl ?_
  refine we_name 0 rfl rfl ?_
  exact ⟨a, C, rfl, hC, hno, hO, wss_nil ⟨_, Ole.refl _, hk⟩⟩
theorem ok_i18 (F : FunD K "__init__" "NothingToUndo.__init__" (defArgs (mth 18 0)) (defBody (mth 18 0)) (defScope (mth 18 0)) [] [] f fd) (gU : mg "UpgradeError" = some (.ref U)) (u : XU K U) (hC : OexC K C) :
    FnG P w K mg base (L2.CX P w) 1 f fd ["self"] (toSp K T (spIni0 C)) := by
  refine fn_ok (N := ["self"]) F ⟨rfl, rfl, rfl, by decide +kernel, rfl, by decide +kernel, by decide +kernel⟩ spIni0_len (fun cdv A outer s H E args O k ex cc hsp => ?_)
  obtain ⟨a, rfl, hO, hk⟩ := hsp
  refine wss_cons ?_
  refine ws_expr ?_
  refine we_uinit gU u ?_
  refine wa_cons ?_
  refine we_name 0 rfl rfl ?_
  refine wa_cons ?_
  refine we_str ?_
  refine wa_nil ?_
  refine ⟨a, C, _, rfl, by decide, hC, hO, ?_⟩
  exact wss_nil ⟨_, Ole.refl _, hk⟩
theorem ok_i21 (F : FunD K "__init__" "NoFleet.__init__" (defArgs (mth 21 0)) (defBody (mth 21 0)) (defScope (mth 21 0)) [] [] f fd) (gU : mg "UpgradeError" = some (.ref U)) (u : XU K U) (hC : OexC K C) :
    FnG P w K mg base (L2.CX P w) 1 f fd ["self"] (toSp K T (spIni0 C)) := by
  refine fn_ok (N := ["self"]) F ⟨rfl, rfl, rfl, by decide +kernel, rfl, by decide +kernel, by decide +kernel⟩ spIni0_len (fun cdv A outer s H E args O k ex cc hsp => ?_)
  obtain ⟨a, rfl, hO, hk⟩ := hsp
  refine wss_cons ?_
  refine ws_expr ?_
  refine we_uinit gU u ?_
  refine wa_cons ?_
  refine we_name 0 rfl rfl ?_
  refine wa_cons ?_
  refine we_str ?_
  refine wa_nil ?_
  refine ⟨a, C, _, rfl, by decide, hC, hO, ?_⟩
  exact wss_nil ⟨_, Ole.refl _, hk⟩
end
end K51
set_option maxHeartbeats 4000000
namespace K51
open PySem PySem.Spec PyProof.Rows L2 DL
/-- what the written part says -/
structure FX (K : PySem.W.Frag) (mg : Str → Option Value) : Prop where
  gU : mg "UpgradeError" = some (.ref (aU K))
  uU : XU K (aU K)
  xU : XC K (aU K)
  eU : PySem.W.excIn K (aU K) He.veBase "ValueError.__new__" = true
  g : ∀ i, i < 20 → mg (cn.getD i "") = some (.ref (cA K i))
  xc : ∀ i, i < 20 → XC K (cA K i)
  ini : ∀ i, i < 20 → PySem.W.findIn K (.ref (cA K i)) "__init__" = some (some (.ref (iA K i)))
  tI : ∀ i, i < 20 → PySem.W.typeIn K (.ref (iA K i)) = some (.type "function")
  no : ∀ i, i < 18 → PySem.W.findIn K (.ref (cA K i)) (fl.getD i "") = some none
  kit : ∀ i j, i < 20 → j < 20 → PySem.W.kitOne K (.ref (cA K i)) (.ref (cA K j)) = some (i == j)
  kitU : ∀ i, i < 20 → PySem.W.kitOne K (.ref (cA K i)) (.ref (aU K)) = some true
  kitV : ∀ i, i < 20 → PySem.W.kitOne K (.ref (cA K i)) (.type "ValueError") = some true
  kitN : ∀ j, j < 20 → PySem.W.kitOne K (.ref (aU K)) (.ref (cA K j)) = some false
  isi : mg "isinstance" = none
  len : mg "len" = none
  abs : mg "abs" = none
  int : mg "int" = none
  rng : mg "range" = none
  rep : mg "repr" = none
  enu : mg "enumerate" = none
  all : mg "all" = none
  max : mg "max" = none
  min : mg "min" = none
  val : mg "ValueError" = none
  sys : SysK K
/-- the inits keep their promises -/
structure IX (P : Program) (w : World) (K : PySem.W.Frag) (mg : Str → Option Value) (base : Heap) (T : List (Addr × Str)) (fds : Nat → FuncData) : Prop where
  fn : ∀ i, i < 18 → FnG P w K mg base (L2.CX P w) 1 (iA K i) (fds i) ["self", fl.getD i ""] (toSp K T (spIni (cA K i) (fl.getD i "")))
  bd : ∀ i, i < 18 → Binds K (fds i) ["self", fl.getD i ""] []
  kb : ∀ i, i < 18 → KB K (fds i) ["self", fl.getD i ""] 1 [fl.getD i ""]
  fn0 : ∀ i, 18 ≤ i → i < 20 → FnG P w K mg base (L2.CX P w) 1 (iA K i) (fds i) ["self"] (toSp K T (spIni0 (cA K i)))
  bd0 : ∀ i, 18 ≤ i → i < 20 → Binds K (fds i) ["self"] []
/-! objects made one by one -/
def Tr (O O' : Oh) (S : List (Addr × OO)) : Prop := Ole O O' ∧ ∀ q ∈ S, O' q.1 = some q.2
theorem Tr.nil {O : Oh} : Tr O O [] := ⟨Ole.refl _, fun q h => by cases h⟩
theorem Tr.new {O O' : Oh} {S : List (Addr × OO)} {a : Addr} {o : OO} (t : Tr O O' S) (h : O' a = none) : Tr O (oset O' a o) ((a, o) :: S) := by
  refine ⟨t.1.trans (Ole.oset h), fun q hq => ?_⟩
  rcases List.mem_cons.mp hq with e | hq
  · rw [e]
    exact oset_same
  · exact Ole.oset h _ _ (t.2 q hq)
theorem Tr.get {O O' : Oh} {S : List (Addr × OO)} (t : Tr O O' S) (i : Nat) {a : Addr} {o : OO} (h : S[i]? = some (a, o) := by rfl) : O' a = some o := t.2 (a, o) (List.mem_of_getElem? h)
/-- an own object, other ones that don't matter -/
def Eo (O : Oh) (l : Addr) (o : OO) (O' : Oh) : Prop := Ole O O' ∧ O l = none ∧ O' l = some o
theorem none_of {O O' : Oh} {a : Addr} (le : Ole O O') (h : O' a = none) : O a = none := by
  cases e : O a with
  | none => rfl
  | some o =>
    rw [le a o e] at h
    cases h
theorem Eo.mk {O O' : Oh} {l : Addr} {o : OO} (le : Ole O O') (h : O' l = none) : Eo O l o (oset O' l o) := ⟨le.trans (Ole.oset h), none_of le h, oset_same⟩
theorem Eo.grow {O O' : Oh} {l g : Addr} {o u : OO} (t : Eo O l o O') (h : O' g = none) : Eo O l o (oset O' g u) := ⟨t.1.trans (Ole.oset h), t.2.1, Ole.oset h _ _ t.2.2⟩
theorem Eo.set {O O' : Oh} {l : Addr} {o u : OO} (t : Eo O l o O') : Eo O l u (oset O' l u) := by
  refine ⟨fun p v e => ?_, t.2.1, oset_same⟩
  rw [oset_ne]
  · exact t.1 p v e
  · intro z
    rw [z, t.2.1] at e
    cases e
abbrev rV (a : Addr) : Val := .raw (.ref a)
def fsOf (x : Val) (i : Nat) : List (Str × Val) := if i < 18 then [(fl.getD i "", x)] else []
/-- twenty errors of the value x -/
def Mks (K : PySem.W.Frag) (x : Val) (ps : List Addr) (O' : Oh) : Prop := ps.length = 20 ∧ ∀ i p, ps[i]? = some p → O' p = some (.exc (cA K i) (fsOf x i))
def spMake (K : PySem.W.Frag) : DSp := fun args O k ex => ∃ x, args = [x] ∧ ∀ ps q O', Ole O O' → Mks K x ps O' → O' q = some (.lst (ps.map rV)) → k (rV q) O'
def spKinds (K : PySem.W.Frag) : DSp := fun args O k ex => ∃ (p D : Addr) (fs : List (Str × Val)) (bs : List Bool), args = [rV p] ∧ ExR O p D fs ∧ ExcC K D ∧ bs.length = 20 ∧ (∀ j b, bs[j]? = some b → PySem.W.kitOne K (.ref D) (.ref (cA K j)) = some b) ∧ ∀ q O', Ole O O' → O' q = some (.lst (blV bs)) → k (rV q) O'
def spKept (K : PySem.W.Frag) : DSp := fun args O k ex => ∃ (x : Val) (ps : List Addr) (q : Addr), args = [rV q] ∧ O q = some (.lst (ps.map rV)) ∧ Mks K x ps O ∧ ∀ r O', Ole O O' → O' r = some (.lst (List.replicate 18 x)) → k (rV r) O'
section
variable {P : Program} {w : World} {K : PySem.W.Frag} {mg : Str → Option Value} {base : Heap} {f : Addr} {fd : FuncData} {T : List (Addr × Str)} {fds : Nat → FuncData}
variable {N : List Str} {qual : Str} {scope : Scope} {f0 : Addr} {cdv : Value} {A : Around} {outer : List Env} {s : Shared} {H : Hp} {E : XK}
abbrev cx (P : Program) (w : World) (K : PySem.W.Frag) (mg : Str → Option Value) (base : Heap) (N : List Str) (qual : Str) (scope : Scope) (f0 : Addr) (cdv : Value) (A : Around) (outer : List Env) (s : Shared) (H : Hp) (E : XK) : Cx := cxOf (L2.CX P w) P w K mg base N qual scope f0 cdv A outer s H E
theorem mkM (F : FX K mg) (I : IX P w K mg base T fds) (i : Nat) (hi : i < 18) : XM (cx P w K mg base N qual scope f0 cdv A outer s H E) T (cn.getD i "") (cA K i) (iA K i) 1 (fds i) ["self", fl.getD i ""] (spIni (cA K i) (fl.getD i "")) :=
  ⟨F.g i (by omega), (F.xc i (by omega)).oex, F.ini i (by omega), F.tI i (by omega), I.fn i hi⟩
theorem mkM0 (F : FX K mg) (I : IX P w K mg base T fds) (i : Nat) (hi : 18 ≤ i) (hi2 : i < 20) : XM (cx P w K mg base N qual scope f0 cdv A outer s H E) T (cn.getD i "") (cA K i) (iA K i) 1 (fds i) ["self"] (spIni0 (cA K i)) :=
  ⟨F.g i hi2, (F.xc i hi2).oex, F.ini i hi2, F.tI i hi2, I.fn0 i hi hi2⟩

abbrev NKinds : List Str := ["_law_error", "_law_found"]
theorem scKinds : FnScope NKinds ["_law_error"] (defScope (top 26)) := ⟨rfl, rfl, rfl, by decide +kernel, rfl, by decide +kernel, by decide +kernel⟩
theorem ok_kinds (FF : FX K mg) (F : FnP K "_law_kinds" (top 26) f fd) : FnG P w K mg base (L2.CX P w) 1 f fd ["_law_error"] (toSp K T (spKinds K)) := by
  refine fn_ok F scKinds (fun args O k ex h => ?_) (fun cdv A outer s H E args O k ex cc hsp => ?_)
  · obtain ⟨_, _, _, _, rfl, _⟩ := h
    rfl
  · obtain ⟨p, D, fs, bs, rfl, hp, hD, hlen, hb, hk⟩ := hsp
    obtain ⟨b0, b1, b2, b3, b4, b5, b6, b7, b8, b9, b10, b11, b12, b13, b14, b15, b16, b17, b18, b19, rfl⟩ : ∃ b0 b1 b2 b3 b4 b5 b6 b7 b8 b9 b10 b11 b12 b13 b14 b15 b16 b17 b18 b19, bs = [b0, b1, b2, b3, b4, b5, b6, b7, b8, b9, b10, b11, b12, b13, b14, b15, b16, b17, b18, b19] := by
      match bs, hlen with
      | [b0, b1, b2, b3, b4, b5, b6, b7, b8, b9, b10, b11, b12, b13, b14, b15, b16, b17, b18, b19], _ => exact ⟨b0, b1, b2, b3, b4, b5, b6, b7, b8, b9, b10, b11, b12, b13, b14, b15, b16, b17, b18, b19, rfl⟩
    have er : ∀ {O' : Oh}, Ole O O' → ExR O' p D fs := fun le => by
      rcases hp with e | e
      · exact .inl (le _ _ e)
      · exact .inr (le _ _ e)
    have isx : ∀ {X : Cx} {O' : Oh} {k' : Val → Oh → Prop} (hX : X.K = K) (j : Nat) (b : Bool), [b0, b1, b2, b3, b4, b5, b6, b7, b8, b9, b10, b11, b12, b13, b14, b15, b16, b17, b18, b19][j]? = some b → Ole O O' → k' (.dat (.bool b)) O' → WC X T (.builtin "isinstance") [rV p, .raw (.ref (cA K j))] O' k' := fun {X O' k'} hX j b e le q => by
      subst hX
      exact wc_isx (er le) hD (fun u r => r) (hb j b e) q
    refine wss_cons ?_
    refine ws_set 1 cc rfl ?_
    refine we_lstO ?_
    refine wa_cons ?_
    refine we_callB (id := "isinstance") FF.isi boot_isinstance ?_
    refine wa_cons ?_
    refine we_name 0 rfl rfl ?_
    refine wa_cons ?_
    refine we_glo (FF.g 0 (by decide)) ?_
    refine wa_nil ?_
    refine isx rfl 0 b0 rfl (Ole.refl _) ?_
    refine wa_cons ?_
    refine we_callB (id := "isinstance") FF.isi boot_isinstance ?_
    refine wa_cons ?_
    refine we_name 0 rfl rfl ?_
    refine wa_cons ?_
    refine we_glo (FF.g 1 (by decide)) ?_
    refine wa_nil ?_
    refine isx rfl 1 b1 rfl (Ole.refl _) ?_
    refine wa_cons ?_
    refine we_callB (id := "isinstance") FF.isi boot_isinstance ?_
    refine wa_cons ?_
    refine we_name 0 rfl rfl ?_
    refine wa_cons ?_
    refine we_glo (FF.g 2 (by decide)) ?_
    refine wa_nil ?_
    refine isx rfl 2 b2 rfl (Ole.refl _) ?_
    refine wa_nil ?_
    refine ⟨Nat.le_of_ble_eq_true rfl, fun l hl => ?_⟩
    have t0 : Eo O l (.lst (blV [b0, b1, b2])) _ := Eo.mk (Ole.refl _) hl
    refine wss_cons ?_
    refine ws_expr ?_
    refine we_bm PySem.F.plainAttrs_list PySem.F.slot_list_extend PySem.F.type_list_extend ?_
    refine we_name 1 rfl rfl ?_
    refine ⟨.inl ⟨rfl, _, t0.2.2⟩, ?_⟩
    refine wa_cons ?_
    refine we_lstO ?_
    refine wa_cons ?_
    refine we_callB (id := "isinstance") FF.isi boot_isinstance ?_
    refine wa_cons ?_
    refine we_name 0 rfl rfl ?_
    refine wa_cons ?_
    refine we_glo (FF.g 3 (by decide)) ?_
    refine wa_nil ?_
    refine isx rfl 3 b3 rfl t0.1 ?_
    refine wa_cons ?_
    refine we_callB (id := "isinstance") FF.isi boot_isinstance ?_
    refine wa_cons ?_
    refine we_name 0 rfl rfl ?_
    refine wa_cons ?_
    refine we_glo (FF.g 4 (by decide)) ?_
    refine wa_nil ?_
    refine isx rfl 4 b4 rfl t0.1 ?_
    refine wa_cons ?_
    refine we_callB (id := "isinstance") FF.isi boot_isinstance ?_
    refine wa_cons ?_
    refine we_name 0 rfl rfl ?_
    refine wa_cons ?_
    refine we_glo (FF.g 5 (by decide)) ?_
    refine wa_nil ?_
    refine isx rfl 5 b5 rfl t0.1 ?_
    refine wa_nil ?_
    refine ⟨Nat.le_of_ble_eq_true rfl, fun g0 hg0 => wa_nil ?_⟩
    refine wm_extend (t0.grow hg0).2.2 oset_same (Nat.le_of_ble_eq_true rfl) ?_
    have t1 : Eo O l (.lst (blV [b0, b1, b2, b3, b4, b5])) _ := (t0.grow (u := .lst (blV [b3, b4, b5])) hg0).set
    refine wss_cons ?_
    refine ws_expr ?_
    refine we_bm PySem.F.plainAttrs_list PySem.F.slot_list_extend PySem.F.type_list_extend ?_
    refine we_name 1 rfl rfl ?_
    refine ⟨.inl ⟨rfl, _, t1.2.2⟩, ?_⟩
    refine wa_cons ?_
    refine we_lstO ?_
    refine wa_cons ?_
    refine we_callB (id := "isinstance") FF.isi boot_isinstance ?_
    refine wa_cons ?_
    refine we_name 0 rfl rfl ?_
    refine wa_cons ?_
    refine we_glo (FF.g 6 (by decide)) ?_
    refine wa_nil ?_
    refine isx rfl 6 b6 rfl t1.1 ?_
    refine wa_cons ?_
    refine we_callB (id := "isinstance") FF.isi boot_isinstance ?_
    refine wa_cons ?_
    refine we_name 0 rfl rfl ?_
    refine wa_cons ?_
    refine we_glo (FF.g 7 (by decide)) ?_
    refine wa_nil ?_
    refine isx rfl 7 b7 rfl t1.1 ?_
    refine wa_cons ?_
    refine we_callB (id := "isinstance") FF.isi boot_isinstance ?_
    refine wa_cons ?_
    refine we_name 0 rfl rfl ?_
    refine wa_cons ?_
    refine we_glo (FF.g 8 (by decide)) ?_
    refine wa_nil ?_
    refine isx rfl 8 b8 rfl t1.1 ?_
    refine wa_nil ?_
    refine ⟨Nat.le_of_ble_eq_true rfl, fun g1 hg1 => wa_nil ?_⟩
    refine wm_extend (t1.grow hg1).2.2 oset_same (Nat.le_of_ble_eq_true rfl) ?_
    have t2 : Eo O l (.lst (blV [b0, b1, b2, b3, b4, b5, b6, b7, b8])) _ := (t1.grow (u := .lst (blV [b6, b7, b8])) hg1).set
    refine wss_cons ?_
    refine ws_expr ?_
    refine we_bm PySem.F.plainAttrs_list PySem.F.slot_list_extend PySem.F.type_list_extend ?_
    refine we_name 1 rfl rfl ?_
    refine ⟨.inl ⟨rfl, _, t2.2.2⟩, ?_⟩
    refine wa_cons ?_
    refine we_lstO ?_
    refine wa_cons ?_
    refine we_callB (id := "isinstance") FF.isi boot_isinstance ?_
    refine wa_cons ?_
    refine we_name 0 rfl rfl ?_
    refine wa_cons ?_
    refine we_glo (FF.g 9 (by decide)) ?_
    refine wa_nil ?_
    refine isx rfl 9 b9 rfl t2.1 ?_
    refine wa_cons ?_
    refine we_callB (id := "isinstance") FF.isi boot_isinstance ?_
    refine wa_cons ?_
    refine we_name 0 rfl rfl ?_
    refine wa_cons ?_
    refine we_glo (FF.g 10 (by decide)) ?_
    refine wa_nil ?_
    refine isx rfl 10 b10 rfl t2.1 ?_
    refine wa_cons ?_
    refine we_callB (id := "isinstance") FF.isi boot_isinstance ?_
    refine wa_cons ?_
    refine we_name 0 rfl rfl ?_
    refine wa_cons ?_
    refine we_glo (FF.g 11 (by decide)) ?_
    refine wa_nil ?_
    refine isx rfl 11 b11 rfl t2.1 ?_
    refine wa_nil ?_
    refine ⟨Nat.le_of_ble_eq_true rfl, fun g2 hg2 => wa_nil ?_⟩
    refine wm_extend (t2.grow hg2).2.2 oset_same (Nat.le_of_ble_eq_true rfl) ?_
    have t3 : Eo O l (.lst (blV [b0, b1, b2, b3, b4, b5, b6, b7, b8, b9, b10, b11])) _ := (t2.grow (u := .lst (blV [b9, b10, b11])) hg2).set
    refine wss_cons ?_
    refine ws_expr ?_
    refine we_bm PySem.F.plainAttrs_list PySem.F.slot_list_extend PySem.F.type_list_extend ?_
    refine we_name 1 rfl rfl ?_
    refine ⟨.inl ⟨rfl, _, t3.2.2⟩, ?_⟩
    refine wa_cons ?_
    refine we_lstO ?_
    refine wa_cons ?_
    refine we_callB (id := "isinstance") FF.isi boot_isinstance ?_
    refine wa_cons ?_
    refine we_name 0 rfl rfl ?_
    refine wa_cons ?_
    refine we_glo (FF.g 12 (by decide)) ?_
    refine wa_nil ?_
    refine isx rfl 12 b12 rfl t3.1 ?_
    refine wa_cons ?_
    refine we_callB (id := "isinstance") FF.isi boot_isinstance ?_
    refine wa_cons ?_
    refine we_name 0 rfl rfl ?_
    refine wa_cons ?_
    refine we_glo (FF.g 13 (by decide)) ?_
    refine wa_nil ?_
    refine isx rfl 13 b13 rfl t3.1 ?_
    refine wa_cons ?_
    refine we_callB (id := "isinstance") FF.isi boot_isinstance ?_
    refine wa_cons ?_
    refine we_name 0 rfl rfl ?_
    refine wa_cons ?_
    refine we_glo (FF.g 14 (by decide)) ?_
    refine wa_nil ?_
    refine isx rfl 14 b14 rfl t3.1 ?_
    refine wa_nil ?_
    refine ⟨Nat.le_of_ble_eq_true rfl, fun g3 hg3 => wa_nil ?_⟩
    refine wm_extend (t3.grow hg3).2.2 oset_same (Nat.le_of_ble_eq_true rfl) ?_
    have t4 : Eo O l (.lst (blV [b0, b1, b2, b3, b4, b5, b6, b7, b8, b9, b10, b11, b12, b13, b14])) _ := (t3.grow (u := .lst (blV [b12, b13, b14])) hg3).set
    refine wss_cons ?_
    refine ws_expr ?_
    refine we_bm PySem.F.plainAttrs_list PySem.F.slot_list_extend PySem.F.type_list_extend ?_
    refine we_name 1 rfl rfl ?_
    refine ⟨.inl ⟨rfl, _, t4.2.2⟩, ?_⟩
    refine wa_cons ?_
    refine we_lstO ?_
    refine wa_cons ?_
    refine we_callB (id := "isinstance") FF.isi boot_isinstance ?_
    refine wa_cons ?_
    refine we_name 0 rfl rfl ?_
    refine wa_cons ?_
    refine we_glo (FF.g 15 (by decide)) ?_
    refine wa_nil ?_
    refine isx rfl 15 b15 rfl t4.1 ?_
    refine wa_cons ?_
    refine we_callB (id := "isinstance") FF.isi boot_isinstance ?_
    refine wa_cons ?_
    refine we_name 0 rfl rfl ?_
    refine wa_cons ?_
    refine we_glo (FF.g 16 (by decide)) ?_
    refine wa_nil ?_
    refine isx rfl 16 b16 rfl t4.1 ?_
    refine wa_cons ?_
    refine we_callB (id := "isinstance") FF.isi boot_isinstance ?_
    refine wa_cons ?_
    refine we_name 0 rfl rfl ?_
    refine wa_cons ?_
    refine we_glo (FF.g 17 (by decide)) ?_
    refine wa_nil ?_
    refine isx rfl 17 b17 rfl t4.1 ?_
    refine wa_nil ?_
    refine ⟨Nat.le_of_ble_eq_true rfl, fun g4 hg4 => wa_nil ?_⟩
    refine wm_extend (t4.grow hg4).2.2 oset_same (Nat.le_of_ble_eq_true rfl) ?_
    have t5 : Eo O l (.lst (blV [b0, b1, b2, b3, b4, b5, b6, b7, b8, b9, b10, b11, b12, b13, b14, b15, b16, b17])) _ := (t4.grow (u := .lst (blV [b15, b16, b17])) hg4).set
    refine wss_cons ?_
    refine ws_ret ?_
    refine we_bin ?_
    refine we_name 1 rfl rfl ?_
    refine we_lstO ?_
    refine wa_cons ?_
    refine we_callB (id := "isinstance") FF.isi boot_isinstance ?_
    refine wa_cons ?_
    refine we_name 0 rfl rfl ?_
    refine wa_cons ?_
    refine we_glo (FF.g 18 (by decide)) ?_
    refine wa_nil ?_
    refine isx rfl 18 b18 rfl t5.1 ?_
    refine wa_cons ?_
    refine we_callB (id := "isinstance") FF.isi boot_isinstance ?_
    refine wa_cons ?_
    refine we_name 0 rfl rfl ?_
    refine wa_cons ?_
    refine we_glo (FF.g 19 (by decide)) ?_
    refine wa_nil ?_
    refine isx rfl 19 b19 rfl t5.1 ?_
    refine wa_nil ?_
    refine ⟨Nat.le_of_ble_eq_true rfl, fun g hg => ?_⟩
    refine wo_catO (t5.grow hg).2.2 oset_same (Nat.le_of_ble_eq_true rfl) fun q hq => ?_
    exact ⟨_, Ole.refl _, hk q _ ((t5.1.trans (Ole.oset hg)).trans (Ole.oset hq)) oset_same⟩
end
end K51
set_option maxHeartbeats 8000000
namespace K51
open PySem PySem.Spec PyProof.Rows L2 DL
section
variable {P : Program} {w : World} {K : PySem.W.Frag} {mg : Str → Option Value} {base : Heap} {f fU : Addr} {fd fdU : FuncData} {T : List (Addr × Str)} {fds : Nat → FuncData}
abbrev NMk : List Str := ["_law_thing_here", "_law_found"]

theorem sc_law_by_place : FnScope NMk ["_law_thing_here"] (defScope (top 27)) := ⟨rfl, rfl, rfl, by decide +kernel, rfl, by decide +kernel, by decide +kernel⟩
theorem ok__law_by_place (FF : FX K mg) (I : IX P w K mg base T fds) (F : FnP K "_law_by_place" (top 27) f fd) : FnG P w K mg base (L2.CX P w) 3 f fd ["_law_thing_here"] (toSp K T (spMake K)) := by
  refine fn_ok F sc_law_by_place (fun args O k ex h => ?_) (fun cdv A outer s H E args O k ex cc hsp => ?_)
  · obtain ⟨_, rfl, _⟩ := h
    rfl
  · obtain ⟨x, rfl, hk⟩ := hsp
    have t0 : Tr O O [] := Tr.nil
    refine wss_cons ?_
    refine ws_set 1 cc rfl ?_
    refine we_lstO ?_
    refine wa_cons ?_
    refine we_mk1 (mkM FF I 0 (by decide)) cc (Nat.le_refl _) (I.bd 0 (by decide)) ?_
    refine we_name 0 rfl rfl ?_
    refine fun a0 h0 => ?_
    have t1 := t0.new (o := .exc (cA K 0) (fsOf x 0)) h0
    refine wa_cons ?_
    refine we_mk1 (mkM FF I 1 (by decide)) cc (Nat.le_refl _) (I.bd 1 (by decide)) ?_
    refine we_name 0 rfl rfl ?_
    refine fun a1 h1 => ?_
    have t2 := t1.new (o := .exc (cA K 1) (fsOf x 1)) h1
    refine wa_cons ?_
    refine we_mk1 (mkM FF I 2 (by decide)) cc (Nat.le_refl _) (I.bd 2 (by decide)) ?_
    refine we_name 0 rfl rfl ?_
    refine fun a2 h2 => ?_
    have t3 := t2.new (o := .exc (cA K 2) (fsOf x 2)) h2
    refine wa_cons ?_
    refine we_mk1 (mkM FF I 3 (by decide)) cc (Nat.le_refl _) (I.bd 3 (by decide)) ?_
    refine we_name 0 rfl rfl ?_
    refine fun a3 h3 => ?_
    have t4 := t3.new (o := .exc (cA K 3) (fsOf x 3)) h3
    refine wa_cons ?_
    refine we_mk1 (mkM FF I 4 (by decide)) cc (Nat.le_refl _) (I.bd 4 (by decide)) ?_
    refine we_name 0 rfl rfl ?_
    refine fun a4 h4 => ?_
    have t5 := t4.new (o := .exc (cA K 4) (fsOf x 4)) h4
    refine wa_nil ⟨Nat.le_of_ble_eq_true rfl, fun q0 hq0 => ?_⟩
    have t6 := t5.new (o := .lst ([a0, a1, a2, a3, a4].map rV)) hq0
    refine wss_cons ?_
    refine ws_set 1 cc rfl ?_
    refine we_bin ?_
    refine we_name 1 rfl rfl ?_
    refine we_lstO ?_
    refine wa_cons ?_
    refine we_mk1 (mkM FF I 5 (by decide)) cc (Nat.le_refl _) (I.bd 5 (by decide)) ?_
    refine we_name 0 rfl rfl ?_
    refine fun a5 h5 => ?_
    have t7 := t6.new (o := .exc (cA K 5) (fsOf x 5)) h5
    refine wa_cons ?_
    refine we_mk1 (mkM FF I 6 (by decide)) cc (Nat.le_refl _) (I.bd 6 (by decide)) ?_
    refine we_name 0 rfl rfl ?_
    refine fun a6 h6 => ?_
    have t8 := t7.new (o := .exc (cA K 6) (fsOf x 6)) h6
    refine wa_cons ?_
    refine we_mk1 (mkM FF I 7 (by decide)) cc (Nat.le_refl _) (I.bd 7 (by decide)) ?_
    refine we_name 0 rfl rfl ?_
    refine fun a7 h7 => ?_
    have t9 := t8.new (o := .exc (cA K 7) (fsOf x 7)) h7
    refine wa_cons ?_
    refine we_mk1 (mkM FF I 8 (by decide)) cc (Nat.le_refl _) (I.bd 8 (by decide)) ?_
    refine we_name 0 rfl rfl ?_
    refine fun a8 h8 => ?_
    have t10 := t9.new (o := .exc (cA K 8) (fsOf x 8)) h8
    refine wa_cons ?_
    refine we_mk1 (mkM FF I 9 (by decide)) cc (Nat.le_refl _) (I.bd 9 (by decide)) ?_
    refine we_name 0 rfl rfl ?_
    refine fun a9 h9 => ?_
    have t11 := t10.new (o := .exc (cA K 9) (fsOf x 9)) h9
    refine wa_nil ⟨Nat.le_of_ble_eq_true rfl, fun q1 hq1 => ?_⟩
    have t12 := t11.new (o := .lst ([a5, a6, a7, a8, a9].map rV)) hq1
    refine wo_catO (t12.get 6) (t12.get 0) (Nat.le_of_ble_eq_true rfl) fun r1 hr1 => ?_
    have t13 := t12.new (o := .lst ([a0, a1, a2, a3, a4, a5, a6, a7, a8, a9].map rV)) hr1
    refine wss_cons ?_
    refine ws_set 1 cc rfl ?_
    refine we_bin ?_
    refine we_name 1 rfl rfl ?_
    refine we_lstO ?_
    refine wa_cons ?_
    refine we_mk1 (mkM FF I 10 (by decide)) cc (Nat.le_refl _) (I.bd 10 (by decide)) ?_
    refine we_name 0 rfl rfl ?_
    refine fun a10 h10 => ?_
    have t14 := t13.new (o := .exc (cA K 10) (fsOf x 10)) h10
    refine wa_cons ?_
    refine we_mk1 (mkM FF I 11 (by decide)) cc (Nat.le_refl _) (I.bd 11 (by decide)) ?_
    refine we_name 0 rfl rfl ?_
    refine fun a11 h11 => ?_
    have t15 := t14.new (o := .exc (cA K 11) (fsOf x 11)) h11
    refine wa_cons ?_
    refine we_mk1 (mkM FF I 12 (by decide)) cc (Nat.le_refl _) (I.bd 12 (by decide)) ?_
    refine we_name 0 rfl rfl ?_
    refine fun a12 h12 => ?_
    have t16 := t15.new (o := .exc (cA K 12) (fsOf x 12)) h12
    refine wa_cons ?_
    refine we_mk1 (mkM FF I 13 (by decide)) cc (Nat.le_refl _) (I.bd 13 (by decide)) ?_
    refine we_name 0 rfl rfl ?_
    refine fun a13 h13 => ?_
    have t17 := t16.new (o := .exc (cA K 13) (fsOf x 13)) h13
    refine wa_cons ?_
    refine we_mk1 (mkM FF I 14 (by decide)) cc (Nat.le_refl _) (I.bd 14 (by decide)) ?_
    refine we_name 0 rfl rfl ?_
    refine fun a14 h14 => ?_
    have t18 := t17.new (o := .exc (cA K 14) (fsOf x 14)) h14
    refine wa_cons ?_
    refine we_mk1 (mkM FF I 15 (by decide)) cc (Nat.le_refl _) (I.bd 15 (by decide)) ?_
    refine we_name 0 rfl rfl ?_
    refine fun a15 h15 => ?_
    have t19 := t18.new (o := .exc (cA K 15) (fsOf x 15)) h15
    refine wa_nil ⟨Nat.le_of_ble_eq_true rfl, fun q2 hq2 => ?_⟩
    have t20 := t19.new (o := .lst ([a10, a11, a12, a13, a14, a15].map rV)) hq2
    refine wo_catO (t20.get 7) (t20.get 0) (Nat.le_of_ble_eq_true rfl) fun r2 hr2 => ?_
    have t21 := t20.new (o := .lst ([a0, a1, a2, a3, a4, a5, a6, a7, a8, a9, a10, a11, a12, a13, a14, a15].map rV)) hr2
    refine wss_cons ?_
    refine ws_ret ?_
    refine we_bin ?_
    refine we_name 1 rfl rfl ?_
    refine we_lstO ?_
    refine wa_cons ?_
    refine we_mk1 (mkM FF I 16 (by decide)) cc (Nat.le_refl _) (I.bd 16 (by decide)) ?_
    refine we_name 0 rfl rfl ?_
    refine fun a16 h16 => ?_
    have t22 := t21.new (o := .exc (cA K 16) (fsOf x 16)) h16
    refine wa_cons ?_
    refine we_mk1 (mkM FF I 17 (by decide)) cc (Nat.le_refl _) (I.bd 17 (by decide)) ?_
    refine we_name 0 rfl rfl ?_
    refine fun a17 h17 => ?_
    have t23 := t22.new (o := .exc (cA K 17) (fsOf x 17)) h17
    refine wa_cons ?_
    refine we_mk0 (mkM0 FF I 18 (by decide) (by decide)) cc (Nat.le_refl _) (I.bd0 18 (by decide) (by decide)) ?_
    refine fun a18 h18 => ?_
    have t24 := t23.new (o := .exc (cA K 18) (fsOf x 18)) h18
    refine wa_cons ?_
    refine we_mk0 (mkM0 FF I 19 (by decide) (by decide)) cc (Nat.le_refl _) (I.bd0 19 (by decide) (by decide)) ?_
    refine fun a19 h19 => ?_
    have t25 := t24.new (o := .exc (cA K 19) (fsOf x 19)) h19
    refine wa_nil ⟨Nat.le_of_ble_eq_true rfl, fun q3 hq3 => ?_⟩
    have t26 := t25.new (o := .lst ([a16, a17, a18, a19].map rV)) hq3
    refine wo_catO (t26.get 5) (t26.get 0) (Nat.le_of_ble_eq_true rfl) fun r3 hr3 => ?_
    have t27 := t26.new (o := .lst ([a0, a1, a2, a3, a4, a5, a6, a7, a8, a9, a10, a11, a12, a13, a14, a15, a16, a17, a18, a19].map rV)) hr3
    refine ⟨_, Ole.refl _, hk [a0, a1, a2, a3, a4, a5, a6, a7, a8, a9, a10, a11, a12, a13, a14, a15, a16, a17, a18, a19] r3 _ t27.1 ⟨rfl, fun i p hp => ?_⟩ oset_same⟩
    match i, hp with
    | 0, hp => cases hp; exact t27.get 26
    | 1, hp => cases hp; exact t27.get 25
    | 2, hp => cases hp; exact t27.get 24
    | 3, hp => cases hp; exact t27.get 23
    | 4, hp => cases hp; exact t27.get 22
    | 5, hp => cases hp; exact t27.get 20
    | 6, hp => cases hp; exact t27.get 19
    | 7, hp => cases hp; exact t27.get 18
    | 8, hp => cases hp; exact t27.get 17
    | 9, hp => cases hp; exact t27.get 16
    | 10, hp => cases hp; exact t27.get 13
    | 11, hp => cases hp; exact t27.get 12
    | 12, hp => cases hp; exact t27.get 11
    | 13, hp => cases hp; exact t27.get 10
    | 14, hp => cases hp; exact t27.get 9
    | 15, hp => cases hp; exact t27.get 8
    | 16, hp => cases hp; exact t27.get 5
    | 17, hp => cases hp; exact t27.get 4
    | 18, hp => cases hp; exact t27.get 3
    | 19, hp => cases hp; exact t27.get 2
    | n + 20, hp => cases hp
theorem sc_law_by_name : FnScope NMk ["_law_thing_here"] (defScope (top 28)) := ⟨rfl, rfl, rfl, by decide +kernel, rfl, by decide +kernel, by decide +kernel⟩
theorem ok__law_by_name (FF : FX K mg) (I : IX P w K mg base T fds) (F : FnP K "_law_by_name" (top 28) f fd) : FnG P w K mg base (L2.CX P w) 3 f fd ["_law_thing_here"] (toSp K T (spMake K)) := by
  refine fn_ok F sc_law_by_name (fun args O k ex h => ?_) (fun cdv A outer s H E args O k ex cc hsp => ?_)
  · obtain ⟨_, rfl, _⟩ := h
    rfl
  · obtain ⟨x, rfl, hk⟩ := hsp
    have t0 : Tr O O [] := Tr.nil
    refine wss_cons ?_
    refine ws_set 1 cc rfl ?_
    refine we_lstO ?_
    refine wa_cons ?_
    refine we_mk1K (mkM FF I 0 (by decide)) cc (Nat.le_refl _) (I.kb 0 (by decide)) ?_
    refine we_name 0 rfl rfl ?_
    refine fun a0 h0 => ?_
    have t1 := t0.new (o := .exc (cA K 0) (fsOf x 0)) h0
    refine wa_cons ?_
    refine we_mk1K (mkM FF I 1 (by decide)) cc (Nat.le_refl _) (I.kb 1 (by decide)) ?_
    refine we_name 0 rfl rfl ?_
    refine fun a1 h1 => ?_
    have t2 := t1.new (o := .exc (cA K 1) (fsOf x 1)) h1
    refine wa_cons ?_
    refine we_mk1K (mkM FF I 2 (by decide)) cc (Nat.le_refl _) (I.kb 2 (by decide)) ?_
    refine we_name 0 rfl rfl ?_
    refine fun a2 h2 => ?_
    have t3 := t2.new (o := .exc (cA K 2) (fsOf x 2)) h2
    refine wa_cons ?_
    refine we_mk1K (mkM FF I 3 (by decide)) cc (Nat.le_refl _) (I.kb 3 (by decide)) ?_
    refine we_name 0 rfl rfl ?_
    refine fun a3 h3 => ?_
    have t4 := t3.new (o := .exc (cA K 3) (fsOf x 3)) h3
    refine wa_nil ⟨Nat.le_of_ble_eq_true rfl, fun q0 hq0 => ?_⟩
    have t5 := t4.new (o := .lst ([a0, a1, a2, a3].map rV)) hq0
    refine wss_cons ?_
    refine ws_set 1 cc rfl ?_
    refine we_bin ?_
    refine we_name 1 rfl rfl ?_
    refine we_lstO ?_
    refine wa_cons ?_
    refine we_mk1K (mkM FF I 4 (by decide)) cc (Nat.le_refl _) (I.kb 4 (by decide)) ?_
    refine we_name 0 rfl rfl ?_
    refine fun a4 h4 => ?_
    have t6 := t5.new (o := .exc (cA K 4) (fsOf x 4)) h4
    refine wa_cons ?_
    refine we_mk1K (mkM FF I 5 (by decide)) cc (Nat.le_refl _) (I.kb 5 (by decide)) ?_
    refine we_name 0 rfl rfl ?_
    refine fun a5 h5 => ?_
    have t7 := t6.new (o := .exc (cA K 5) (fsOf x 5)) h5
    refine wa_cons ?_
    refine we_mk1K (mkM FF I 6 (by decide)) cc (Nat.le_refl _) (I.kb 6 (by decide)) ?_
    refine we_name 0 rfl rfl ?_
    refine fun a6 h6 => ?_
    have t8 := t7.new (o := .exc (cA K 6) (fsOf x 6)) h6
    refine wa_nil ⟨Nat.le_of_ble_eq_true rfl, fun q1 hq1 => ?_⟩
    have t9 := t8.new (o := .lst ([a4, a5, a6].map rV)) hq1
    refine wo_catO (t9.get 4) (t9.get 0) (Nat.le_of_ble_eq_true rfl) fun r1 hr1 => ?_
    have t10 := t9.new (o := .lst ([a0, a1, a2, a3, a4, a5, a6].map rV)) hr1
    refine wss_cons ?_
    refine ws_set 1 cc rfl ?_
    refine we_bin ?_
    refine we_name 1 rfl rfl ?_
    refine we_lstO ?_
    refine wa_cons ?_
    refine we_mk1K (mkM FF I 7 (by decide)) cc (Nat.le_refl _) (I.kb 7 (by decide)) ?_
    refine we_name 0 rfl rfl ?_
    refine fun a7 h7 => ?_
    have t11 := t10.new (o := .exc (cA K 7) (fsOf x 7)) h7
    refine wa_cons ?_
    refine we_mk1K (mkM FF I 8 (by decide)) cc (Nat.le_refl _) (I.kb 8 (by decide)) ?_
    refine we_name 0 rfl rfl ?_
    refine fun a8 h8 => ?_
    have t12 := t11.new (o := .exc (cA K 8) (fsOf x 8)) h8
    refine wa_cons ?_
    refine we_mk1K (mkM FF I 9 (by decide)) cc (Nat.le_refl _) (I.kb 9 (by decide)) ?_
    refine we_name 0 rfl rfl ?_
    refine fun a9 h9 => ?_
    have t13 := t12.new (o := .exc (cA K 9) (fsOf x 9)) h9
    refine wa_cons ?_
    refine we_mk1K (mkM FF I 10 (by decide)) cc (Nat.le_refl _) (I.kb 10 (by decide)) ?_
    refine we_name 0 rfl rfl ?_
    refine fun a10 h10 => ?_
    have t14 := t13.new (o := .exc (cA K 10) (fsOf x 10)) h10
    refine wa_nil ⟨Nat.le_of_ble_eq_true rfl, fun q2 hq2 => ?_⟩
    have t15 := t14.new (o := .lst ([a7, a8, a9, a10].map rV)) hq2
    refine wo_catO (t15.get 5) (t15.get 0) (Nat.le_of_ble_eq_true rfl) fun r2 hr2 => ?_
    have t16 := t15.new (o := .lst ([a0, a1, a2, a3, a4, a5, a6, a7, a8, a9, a10].map rV)) hr2
    refine wss_cons ?_
    refine ws_set 1 cc rfl ?_
    refine we_bin ?_
    refine we_name 1 rfl rfl ?_
    refine we_lstO ?_
    refine wa_cons ?_
    refine we_mk1K (mkM FF I 11 (by decide)) cc (Nat.le_refl _) (I.kb 11 (by decide)) ?_
    refine we_name 0 rfl rfl ?_
    refine fun a11 h11 => ?_
    have t17 := t16.new (o := .exc (cA K 11) (fsOf x 11)) h11
    refine wa_cons ?_
    refine we_mk1K (mkM FF I 12 (by decide)) cc (Nat.le_refl _) (I.kb 12 (by decide)) ?_
    refine we_name 0 rfl rfl ?_
    refine fun a12 h12 => ?_
    have t18 := t17.new (o := .exc (cA K 12) (fsOf x 12)) h12
    refine wa_cons ?_
    refine we_mk1K (mkM FF I 13 (by decide)) cc (Nat.le_refl _) (I.kb 13 (by decide)) ?_
    refine we_name 0 rfl rfl ?_
    refine fun a13 h13 => ?_
    have t19 := t18.new (o := .exc (cA K 13) (fsOf x 13)) h13
    refine wa_cons ?_
    refine we_mk1K (mkM FF I 14 (by decide)) cc (Nat.le_refl _) (I.kb 14 (by decide)) ?_
    refine we_name 0 rfl rfl ?_
    refine fun a14 h14 => ?_
    have t20 := t19.new (o := .exc (cA K 14) (fsOf x 14)) h14
    refine wa_nil ⟨Nat.le_of_ble_eq_true rfl, fun q3 hq3 => ?_⟩
    have t21 := t20.new (o := .lst ([a11, a12, a13, a14].map rV)) hq3
    refine wo_catO (t21.get 5) (t21.get 0) (Nat.le_of_ble_eq_true rfl) fun r3 hr3 => ?_
    have t22 := t21.new (o := .lst ([a0, a1, a2, a3, a4, a5, a6, a7, a8, a9, a10, a11, a12, a13, a14].map rV)) hr3
    refine wss_cons ?_
    refine ws_set 1 cc rfl ?_
    refine we_bin ?_
    refine we_name 1 rfl rfl ?_
    refine we_lstO ?_
    refine wa_cons ?_
    refine we_mk1K (mkM FF I 15 (by decide)) cc (Nat.le_refl _) (I.kb 15 (by decide)) ?_
    refine we_name 0 rfl rfl ?_
    refine fun a15 h15 => ?_
    have t23 := t22.new (o := .exc (cA K 15) (fsOf x 15)) h15
    refine wa_cons ?_
    refine we_mk1K (mkM FF I 16 (by decide)) cc (Nat.le_refl _) (I.kb 16 (by decide)) ?_
    refine we_name 0 rfl rfl ?_
    refine fun a16 h16 => ?_
    have t24 := t23.new (o := .exc (cA K 16) (fsOf x 16)) h16
    refine wa_cons ?_
    refine we_mk1K (mkM FF I 17 (by decide)) cc (Nat.le_refl _) (I.kb 17 (by decide)) ?_
    refine we_name 0 rfl rfl ?_
    refine fun a17 h17 => ?_
    have t25 := t24.new (o := .exc (cA K 17) (fsOf x 17)) h17
    refine wa_nil ⟨Nat.le_of_ble_eq_true rfl, fun q4 hq4 => ?_⟩
    have t26 := t25.new (o := .lst ([a15, a16, a17].map rV)) hq4
    refine wo_catO (t26.get 4) (t26.get 0) (Nat.le_of_ble_eq_true rfl) fun r4 hr4 => ?_
    have t27 := t26.new (o := .lst ([a0, a1, a2, a3, a4, a5, a6, a7, a8, a9, a10, a11, a12, a13, a14, a15, a16, a17].map rV)) hr4
    refine wss_cons ?_
    refine ws_ret ?_
    refine we_bin ?_
    refine we_name 1 rfl rfl ?_
    refine we_lstO ?_
    refine wa_cons ?_
    refine we_mk0 (mkM0 FF I 18 (by decide) (by decide)) cc (Nat.le_refl _) (I.bd0 18 (by decide) (by decide)) ?_
    refine fun a18 h18 => ?_
    have t28 := t27.new (o := .exc (cA K 18) (fsOf x 18)) h18
    refine wa_cons ?_
    refine we_mk0 (mkM0 FF I 19 (by decide) (by decide)) cc (Nat.le_refl _) (I.bd0 19 (by decide) (by decide)) ?_
    refine fun a19 h19 => ?_
    have t29 := t28.new (o := .exc (cA K 19) (fsOf x 19)) h19
    refine wa_nil ⟨Nat.le_of_ble_eq_true rfl, fun q5 hq5 => ?_⟩
    have t30 := t29.new (o := .lst ([a18, a19].map rV)) hq5
    refine wo_catO (t30.get 3) (t30.get 0) (Nat.le_of_ble_eq_true rfl) fun r5 hr5 => ?_
    have t31 := t30.new (o := .lst ([a0, a1, a2, a3, a4, a5, a6, a7, a8, a9, a10, a11, a12, a13, a14, a15, a16, a17, a18, a19].map rV)) hr5
    refine ⟨_, Ole.refl _, hk [a0, a1, a2, a3, a4, a5, a6, a7, a8, a9, a10, a11, a12, a13, a14, a15, a16, a17, a18, a19] r5 _ t31.1 ⟨rfl, fun i p hp => ?_⟩ oset_same⟩
    match i, hp with
    | 0, hp => cases hp; exact t31.get 30
    | 1, hp => cases hp; exact t31.get 29
    | 2, hp => cases hp; exact t31.get 28
    | 3, hp => cases hp; exact t31.get 27
    | 4, hp => cases hp; exact t31.get 25
    | 5, hp => cases hp; exact t31.get 24
    | 6, hp => cases hp; exact t31.get 23
    | 7, hp => cases hp; exact t31.get 20
    | 8, hp => cases hp; exact t31.get 19
    | 9, hp => cases hp; exact t31.get 18
    | 10, hp => cases hp; exact t31.get 17
    | 11, hp => cases hp; exact t31.get 14
    | 12, hp => cases hp; exact t31.get 13
    | 13, hp => cases hp; exact t31.get 12
    | 14, hp => cases hp; exact t31.get 11
    | 15, hp => cases hp; exact t31.get 8
    | 16, hp => cases hp; exact t31.get 7
    | 17, hp => cases hp; exact t31.get 6
    | 18, hp => cases hp; exact t31.get 3
    | 19, hp => cases hp; exact t31.get 2
    | n + 20, hp => cases hp
abbrev NKept : List Str := ["_law_some", "_law_found"]
theorem scKept : FnScope NKept ["_law_some"] (defScope (top 29)) := ⟨rfl, rfl, rfl, by decide +kernel, rfl, by decide +kernel, by decide +kernel⟩
theorem ok_kept (FF : FX K mg) (F : FnP K "_law_kept" (top 29) f fd) : FnG P w K mg base (L2.CX P w) 1 f fd ["_law_some"] (toSp K T (spKept K)) := by
  refine fn_ok F scKept (fun args O k ex h => ?_) (fun cdv A outer s H E args O k ex cc hsp => ?_)
  · obtain ⟨_, _, _, rfl, _⟩ := h
    rfl
  · obtain ⟨x, ps, q, rfl, hq, ⟨hl, hm⟩, hk⟩ := hsp
    have hps : ∀ j, j < 20 → ∃ p, ps[j]? = some p ∧ (ps.map rV)[j]? = some (rV p) := fun j hj => by
      have e := List.getElem?_eq_getElem (l := ps) (i := j) (by omega)
      exact ⟨ps[j], e, by rw [List.getElem?_map, e]; rfl⟩
    have rd : ∀ {X : Cx} {δ : Sl} {O' : Oh} {Ex : XD} {k' : Val → Oh → Prop} {p1 p2 p3 p4 : Pos} {jj : Nat} (j : Nat) (hj : j < 18) (hX : X.K = K) (h0 : δ[0]? = some (some (rV q))) (hN : X.N[0]? = some ("_law_some" : Str)) (hv : Vis X.env.scope "_law_some") (le : Ole O O') (hk' : k' x O')
        (hb : attributeBase (.Subscript (.Name "_law_some" p1) (.Constant (.int (j : Nat)) jj p2) p3) (fl.getD j "") X.env (eval (.Subscript (.Name "_law_some" p1) (.Constant (.int (j : Nat)) jj p2) p3) X.env) = eval (.Subscript (.Name "_law_some" p1) (.Constant (.int (j : Nat)) jj p2) p3) X.env),
        WE X T (.Attribute (.Subscript (.Name "_law_some" p1) (.Constant (.int (j : Nat)) jj p2) p3) (fl.getD j "") p4) δ O' Ex k' := by
      intro X δ O' Ex k' p1 p2 p3 p4 jj j hj hX h0 hN hv le hk' hb
      subst hX
      obtain ⟨p, e1, e2⟩ := hps j (by omega)
      refine we_xfld ?_ hb
      refine we_ix ?_
      refine we_name 0 h0 hN ?_ hv (by decide) (by decide)
      refine we_int ?_
      refine wix_seq (xs := ps.map rV) (le _ _ hq) (atI_nat e2) ?_
      refine ⟨p, cA X.K j, fsOf x j, x, rfl, .inl (le _ _ (hm j p e1)), (FF.xc j (by omega)).fld, FF.no j hj, ?_, hk'⟩
      unfold fsOf
      rw [if_pos hj]
      simp [List.lookup]
    refine wss_cons ?_
    refine ws_set 1 cc rfl ?_
    refine we_lstO ?_
    refine wa_cons ?_
    refine rd 0 (by decide) rfl rfl rfl (.inl rfl) (Ole.refl _) ?_ rfl
    refine wa_cons ?_
    refine rd 1 (by decide) rfl rfl rfl (.inl rfl) (Ole.refl _) ?_ rfl
    refine wa_cons ?_
    refine rd 2 (by decide) rfl rfl rfl (.inl rfl) (Ole.refl _) ?_ rfl
    refine wa_cons ?_
    refine rd 3 (by decide) rfl rfl rfl (.inl rfl) (Ole.refl _) ?_ rfl
    refine wa_cons ?_
    refine rd 4 (by decide) rfl rfl rfl (.inl rfl) (Ole.refl _) ?_ rfl
    refine wa_cons ?_
    refine rd 5 (by decide) rfl rfl rfl (.inl rfl) (Ole.refl _) ?_ rfl
    refine wa_nil ?_
    refine ⟨Nat.le_of_ble_eq_true rfl, fun l hl => ?_⟩
    have t0 : Eo O l (.lst (List.replicate 6 x)) _ := Eo.mk (Ole.refl _) hl
    refine wss_cons ?_
    refine ws_expr ?_
    refine we_bm PySem.F.plainAttrs_list PySem.F.slot_list_extend PySem.F.type_list_extend ?_
    refine we_name 1 rfl rfl ?_
    refine ⟨.inl ⟨rfl, _, t0.2.2⟩, ?_⟩
    refine wa_cons ?_
    refine we_lstO ?_
    refine wa_cons ?_
    refine rd 6 (by decide) rfl rfl rfl (.inl rfl) t0.1 ?_ rfl
    refine wa_cons ?_
    refine rd 7 (by decide) rfl rfl rfl (.inl rfl) t0.1 ?_ rfl
    refine wa_cons ?_
    refine rd 8 (by decide) rfl rfl rfl (.inl rfl) t0.1 ?_ rfl
    refine wa_cons ?_
    refine rd 9 (by decide) rfl rfl rfl (.inl rfl) t0.1 ?_ rfl
    refine wa_cons ?_
    refine rd 10 (by decide) rfl rfl rfl (.inl rfl) t0.1 ?_ rfl
    refine wa_cons ?_
    refine rd 11 (by decide) rfl rfl rfl (.inl rfl) t0.1 ?_ rfl
    refine wa_nil ?_
    refine ⟨Nat.le_of_ble_eq_true rfl, fun g hg => wa_nil ?_⟩
    refine wm_extend (t0.grow hg).2.2 oset_same (Nat.le_of_ble_eq_true rfl) ?_
    have t1 : Eo O l (.lst (List.replicate 12 x)) _ := (t0.grow (u := .lst (List.replicate 6 x)) hg).set
    refine wss_cons ?_
    refine ws_ret ?_
    refine we_bin ?_
    refine we_name 1 rfl rfl ?_
    refine we_lstO ?_
    refine wa_cons ?_
    refine rd 12 (by decide) rfl rfl rfl (.inl rfl) t1.1 ?_ rfl
    refine wa_cons ?_
    refine rd 13 (by decide) rfl rfl rfl (.inl rfl) t1.1 ?_ rfl
    refine wa_cons ?_
    refine rd 14 (by decide) rfl rfl rfl (.inl rfl) t1.1 ?_ rfl
    refine wa_cons ?_
    refine rd 15 (by decide) rfl rfl rfl (.inl rfl) t1.1 ?_ rfl
    refine wa_cons ?_
    refine rd 16 (by decide) rfl rfl rfl (.inl rfl) t1.1 ?_ rfl
    refine wa_cons ?_
    refine rd 17 (by decide) rfl rfl rfl (.inl rfl) t1.1 ?_ rfl
    refine wa_nil ?_
    refine ⟨Nat.le_of_ble_eq_true rfl, fun g2 hg2 => ?_⟩
    refine wo_catO (t1.grow hg2).2.2 oset_same (Nat.le_of_ble_eq_true rfl) fun q2 hq2 => ?_
    exact ⟨_, Ole.refl _, hk q2 _ ((t1.1.trans (Ole.oset hg2)).trans (Ole.oset hq2)) oset_same⟩
end
end K51
set_option maxHeartbeats 8000000
namespace K51
open PySem PySem.Spec PyProof.Rows L2 DL
/-- a value that the law draws: nested n deep at most -/
structure Th (d : PyData) (n : Nat) : Prop where
  flat : flatK d = true
  show_ : d.showable = true
  len : d.shown.length ≤ 40 + 10 * n
  dep : d.depth ≤ 2 + n
theorem Th.mono {d : PyData} {m n : Nat} (t : Th d m) (h : m ≤ n) : Th d n := ⟨t.flat, t.show_, by have := t.len; omega, by have := t.dep; omega⟩
theorem textFrom_up : ∀ (ts : List Str) (k : Nat) (acc : Str), (textFrom k acc ts).length ≤ acc.length + piled ts
  | [], k, acc => by show acc.length ≤ acc.length + 0; omega
  | t :: r, k, acc => by
    have h := textFrom_up r (k + 1) (acc ++ (if k > 0 then ", " else "" : String) ++ t)
    have e : (acc ++ (if k > 0 then ", " else "" : String) ++ t).length = acc.length + (if k > 0 then 2 else 0) + t.length := by
      rw [strLen_append, strLen_append]
      split <;> rfl
    show (textFrom (k + 1) (acc ++ (if k > 0 then ", " else "" : String) ++ t) r).length ≤ _
    rw [e] at h
    rw [piled_cons]
    have d1 : (if k > 0 then 2 else 0 : Nat) ≤ 2 := by split <;> omega
    omega
theorem listText_up (ts : List Str) : (listText ts).length ≤ 2 + piled ts := by
  unfold listText
  rw [strLen_append]
  have h := textFrom_up ts 0 "["
  have e1 : (("[" : Str)).length = 1 := rfl
  have e2 : (("]" : Str)).length = 1 := rfl
  omega
theorem Th.tup {d : PyData} {n : Nat} (t : Th d n) : Th (.tuple [d]) (n + 1) := by
  refine ⟨by simp [flatK, flatKs, t.flat], by simp [PyData.showable, PyData.showableAll, t.show_], ?_, ?_⟩
  · have h := t.len
    have e : PyData.shown (.tuple [d]) = tupleText [d.shown] := by simp only [PyData.shown, PyData.shownAll]
    rw [e]
    unfold tupleText
    rw [strLen_append, strLen_append]
    have e1 : (("(" : Str)).length = 1 := rfl
    have e2 : (Str.join ", " [d.shown]).length + 2 = piled [d.shown] := join_length_add _ (by simp)
    rw [piled_cons, piled_nil] at e2
    have e3 : (if ([d.shown] : List Str).length == 1 then ",)" else ")" : String) = ",)" := rfl
    rw [e3]
    have e4 : (((",)" : String)) : Str).length = 2 := rfl
    omega
  · have h := t.dep
    simp only [PyData.depth, PyData.depthAll]
    omega
theorem Th.lst {d : PyData} {n : Nat} (t : Th d n) : Th (.list [d]) (n + 1) := by
  refine ⟨by simp [flatK, flatKs, t.flat], by simp [PyData.showable, PyData.showableAll, t.show_], ?_, ?_⟩
  · have h := t.len
    have e : PyData.shown (.list [d]) = listText [d.shown] := by simp only [PyData.shown, PyData.shownAll]
    rw [e]
    have h2 := listText_up [d.shown]
    rw [piled_cons, piled_nil] at h2
    omega
  · have h := t.dep
    simp only [PyData.depth, PyData.depthAll]
    omega
theorem Th.dic {d : PyData} {n : Nat} (t : Th d n) : Th (.dict [(.str "a", d)]) (n + 1) := by
  refine ⟨by simp [flatK, flatKv, t.flat], by simp [PyData.showable, PyData.showableKv, t.show_], ?_, ?_⟩
  · have h := t.len
    have e : PyData.shown (.dict [(.str "a", d)]) = dictText [reprText "a" ++ ": " ++ d.shown] := by simp only [PyData.shown, PyData.shownKv]
    rw [e]
    unfold dictText
    rw [strLen_append, strLen_append]
    have e1 : (("{" : Str)).length = 1 := rfl
    have e5 : (("}" : Str)).length = 1 := rfl
    have e2 : (Str.join ", " [reprText "a" ++ ": " ++ d.shown]).length + 2 = piled [reprText "a" ++ ": " ++ d.shown] := join_length_add _ (by simp)
    rw [piled_cons, piled_nil, strLen_append, strLen_append] at e2
    have e3 : (reprText "a").length = 3 := by decide +kernel
    have e4 : ((": " : Str)).length = 2 := rfl
    omega
  · have h := t.dep
    simp only [PyData.depth, PyData.depthKv]
    omega
def ds0 : List PyData := [.none, .bool true, .int 0, .int (-1), .int ((10 : Int) ^ Int.toNat 30), .str "", .str "ra", .tuple [], .list [], .dict [], .tuple [.str "a", .str "b"], .list [.str "a"], .dict [(.str "a", .int 1)]]
theorem ds0_th : ∀ d ∈ ds0, Th d 0 := by
  intro d hd
  have hB : ds0.all (fun d => flatK d && (d.showable && (decide (d.shown.length ≤ 40) && decide (d.depth ≤ 2)))) = true := by decide +kernel
  have h := List.all_eq_true.mp hB d hd
  obtain ⟨h1, h⟩ := bb h
  obtain ⟨h2, h⟩ := bb h
  obtain ⟨h3, h4⟩ := bb h
  exact ⟨h1, h2, of_decide_eq_true h3, of_decide_eq_true h4⟩
def spThing : DSp := fun args O k ex => ∃ (d : Addr) (n : Nat), args = [rV d] ∧ O d = some (.deck (n + 20)) ∧ ∀ x, Th x 18 → k (.dat x) (oset O d (.deck n))
abbrev NThing : List Str := ["_law_deck_here", "_law_found", "_law_turn"]
theorem scThing : FnScope NThing ["_law_deck_here"] (defScope (top 30)) := ⟨rfl, rfl, rfl, by decide +kernel, rfl, by decide +kernel, by decide +kernel⟩
section
variable {P : Program} {w : World} {K : PySem.W.Frag} {mg : Str → Option Value} {base : Heap} {f fAny fDraw : Addr} {fd fdAny fdDraw : FuncData} {T : List (Addr × Str)} {fds : Nat → FuncData}
theorem any_get {ds : List PyData} {i : Nat} {y : Val} (hy : (ds.map Val.dat)[i]? = some y) : ∃ d, d ∈ ds ∧ y = .dat d := by
  rw [List.getElem?_map] at hy
  cases e : ds[i]? with
  | none => rw [e] at hy; cases hy
  | some d =>
    rw [e] at hy
    cases hy
    exact ⟨d, List.mem_of_getElem? e, rfl⟩
theorem ok_thing (FF : FX K mg) (F : FnP K "_law_thing" (top 30) f fd) (FA : FnP K "_law_any" (top 25) fAny fdAny) (FD : FnP K "_law_draw" (top 24) fDraw fdDraw) (gA : mg "_law_any" = some (.ref fAny)) (gD : mg "_law_draw" = some (.ref fDraw)) : FnG P w K mg base (L2.CX P w) 3 f fd ["_law_deck_here"] (toSp K T spThing) := by
  refine fn_ok F scThing (fun args O k ex h => ?_) (fun cdv A outer s H E args O k ex cc hsp => ?_)
  · obtain ⟨_, _, rfl, _⟩ := h
    rfl
  · obtain ⟨d, n, rfl, hO, hk⟩ := hsp
    have bA : Binds K fdAny ["_law_deck_here", "_law_items"] [] := FA.bindsN fun _ _ _ _ _ _ us hl => match us, hl with | [_, _], _ => rfl
    have GA := ok_any (P := P) (w := w) (base := base) (T := T) FA FD gD FF.len
    refine wss_cons ?_
    refine ws_set 1 cc rfl ?_
    refine we_call GA cc (Nat.le_refl _) gA FA.kp bA ?_
    refine wa_cons ?_
    refine we_name 0 rfl rfl ?_
    refine wa_cons ?_
    refine we_lst ?_
    refine wa_cons ?_
    refine we_none ?_
    refine wa_cons ?_
    refine we_bool ?_
    refine wa_cons ?_
    refine we_int ?_
    refine wa_cons ?_
    refine we_un ?_
    refine we_int ?_
    refine wu_neg ?_
    refine wa_cons ?_
    refine we_bin ?_
    refine we_int ?_
    refine we_int ?_
    refine wo_pow ⟨by decide, by decide, by decide⟩ ?_
    refine wa_cons ?_
    refine we_str ?_
    refine wa_cons ?_
    refine we_str ?_
    refine wa_cons ?_
    refine we_tup ?_
    refine wa_nil ?_
    refine ⟨[], rfl, by decide, ?_⟩
    refine wa_cons ?_
    refine we_lst ?_
    refine wa_nil ?_
    refine ⟨[], rfl, by decide, ?_⟩
    refine wa_cons ?_
    refine we_dict0 ?_
    refine wa_cons ?_
    refine we_tup ?_
    refine wa_cons ?_
    refine we_str ?_
    refine wa_cons ?_
    refine we_str ?_
    refine wa_nil ?_
    refine ⟨_, rfl, Nat.le_of_ble_eq_true rfl, ?_⟩
    refine wa_cons ?_
    refine we_lst ?_
    refine wa_cons ?_
    refine we_str ?_
    refine wa_nil ?_
    refine ⟨_, rfl, Nat.le_of_ble_eq_true rfl, ?_⟩
    refine wa_cons ?_
    refine we_dict1 ?_
    refine we_int ?_
    refine ⟨_, rfl, ?_⟩
    refine wa_nil ⟨ds0, rfl, by decide, wa_nil ⟨d, n + 19, _, ds0.map Val.dat, rfl, hO, rfl, by decide, by decide, fun i0 y0 hy0 => ?_⟩⟩
    obtain ⟨x0, hx0, rfl⟩ := any_get hy0
    have th0 := ds0_th x0 hx0
    refine wss_cons (ws_for cc pass_own (wi_rng1 FF.rng ?_))
    refine we_call GA cc (Nat.le_refl _) gA FA.kp bA ?_
    refine wa_cons ?_
    refine we_name 0 rfl rfl ?_
    refine wa_cons ?_
    refine we_lst ?_
    refine wa_cons ?_
    refine we_int ?_
    refine wa_cons ?_
    refine we_int ?_
    refine wa_cons ?_
    refine we_int ?_
    refine wa_cons ?_
    refine we_int ?_
    refine wa_nil ?_
    refine ⟨_, rfl, Nat.le_of_ble_eq_true rfl, wa_nil ⟨d, n + 18, _, [PyData.int 0, .int 0, .int 1, .int 18].map Val.dat, rfl, oset_same, rfl, by decide, by decide, fun i1 y1 hy1 => ?_⟩⟩
    obtain ⟨xj, hxj, rfl⟩ := any_get hy1
    obtain ⟨j, rfl, hj⟩ : ∃ j : Nat, xj = .int (j : Int) ∧ j ≤ 18 := by
      simp only [List.mem_cons, List.not_mem_nil, or_false] at hxj
      rcases hxj with rfl | rfl | rfl | rfl
      · exact ⟨0, rfl, by decide⟩
      · exact ⟨0, rfl, by decide⟩
      · exact ⟨1, rfl, by decide⟩
      · exact ⟨18, rfl, by decide⟩
    refine ⟨(j : Int), rfl, by omega, by omega, ?_⟩
    rw [oset_oset]
    refine ⟨fun i δ' O' => ∃ x t, δ' = [some (rV d), some (.dat x), t] ∧ Th x i ∧ O' = oset O d (.deck (n + 18 - i)), ⟨x0, none, rfl, th0, rfl⟩, fun _ _ _ _ _ => True.intro, ?_, ?_⟩
    · rintro i y δ' O' hy ⟨x, t, rfl, hx, rfl⟩
      obtain ⟨hi, rfl⟩ := rngV_get hy
      have hi' : i < j := by simpa using hi
      refine wg_name 2 cc rfl ?_
      refine wss_cons ?_
      refine ws_set 1 cc rfl ?_
      refine we_call GA cc (Nat.le_refl _) gA FA.kp bA ?_
      refine wa_cons ?_
      refine we_name 0 rfl rfl ?_
      refine wa_cons ?_
      refine we_lst ?_
      refine wa_cons ?_
      refine we_tup ?_
      refine wa_cons ?_
      refine we_name 1 rfl rfl ?_
      refine wa_nil ?_
      refine ⟨[x], rfl, Nat.le_of_ble_eq_true rfl, ?_⟩
      refine wa_cons ?_
      refine we_lst ?_
      refine wa_cons ?_
      refine we_name 1 rfl rfl ?_
      refine wa_nil ?_
      refine ⟨[x], rfl, Nat.le_of_ble_eq_true rfl, ?_⟩
      refine wa_cons ?_
      refine we_dict1 ?_
      refine we_name 1 rfl rfl ?_
      refine ⟨x, rfl, ?_⟩
      refine wa_nil ⟨[.tuple [x], .list [x], .dict [(.str "a", x)]], rfl, Nat.le_of_ble_eq_true rfl, wa_nil ⟨d, n + 17 - i, _, [PyData.tuple [x], .list [x], .dict [(.str "a", x)]].map Val.dat, rfl, ?_, rfl, Nat.le_of_ble_eq_true rfl, Nat.le_of_ble_eq_true rfl, fun i2 y2 hy2 => ?_⟩⟩
      · rw [oset_same, show n + 18 - i = n + 17 - i + 1 by omega]
      · obtain ⟨x2, hx2, rfl⟩ := any_get hy2
        refine wss_nil ⟨x2, _, rfl, ?_, ?_⟩
        · simp only [List.mem_cons, List.not_mem_nil, or_false] at hx2
          rcases hx2 with rfl | rfl | rfl
          · exact hx.tup
          · exact hx.lst
          · exact hx.dic
        · rw [oset_oset, show n + 18 - (i + 1) = n + 17 - i by omega]
    · rintro δ' O' ⟨x, t, rfl, hx, rfl⟩
      rw [rngV_len] at hx
      have hj' : Int.toNat (j : Int) = j := by simp
      rw [rngV_len, hj']
      rw [hj'] at hx
      refine wss_cons ?_
      refine ws_ret ?_
      refine we_less (d := d) (n := n) ?_
      refine we_name 1 rfl rfl ?_
      refine ⟨n + 18 - j, oset_same, by omega, _, Ole.refl _, ?_⟩
      rw [oset_oset]
      exact hk x (hx.mono hj)
end
end K51
set_option maxHeartbeats 8000000
namespace K51
open PySem PySem.Spec PyProof.Rows L2 DL
theorem eqv_bools : ∀ bs : List Bool, PyData.eqvAll (bs.map .bool) (bs.map .bool) = true
  | [] => by simp only [List.map_nil, PyData.eqvAll]
  | b :: bs => by
    simp only [List.map_cons, PyData.eqvAll, PyData.eqv, eqv_bools bs, beq_self_eq_true, Bool.and_self]
theorem Th.rep {x : PyData} {n : Nat} (t : Th x n) (hn : n ≤ 50) : flatKs (List.replicate 18 x) = true ∧ PyData.showable (.list (List.replicate 18 x)) = true ∧ (PyData.shown (.list (List.replicate 18 x))).length ≤ sizeLine ∧ (PyData.list (List.replicate 18 x)).depth ≤ 100 := by
  refine ⟨by simp [List.replicate, flatKs, t.flat], by simp [List.replicate, PyData.showable, PyData.showableAll, t.show_], ?_, ?_⟩
  · have h := t.len
    have e : PyData.shown (.list (List.replicate 18 x)) = listText (List.replicate 18 x.shown) := by simp only [List.replicate, PyData.shown, PyData.shownAll]
    rw [e, sizeLine_eq]
    have h2 := listText_up (List.replicate 18 x.shown)
    have h3 : piled (List.replicate 18 x.shown) = 18 * (x.shown.length + 2) := by
      simp only [List.replicate, piled_cons, piled_nil]
      omega
    rw [h3] at h2
    omega
  · have h := t.dep
    simp only [List.replicate, PyData.depth, PyData.depthAll]
    omega
def spRight : DSp := fun args O k ex => ∃ x, args = [.dat x] ∧ Th x 18 ∧ k (.dat (.bool true)) O
abbrev NRight : List Str := ["_law_thing_here", "_law_kept_here", "_law_some", "_law_at", "_law_error", "_law_to"]
theorem scRight : FnScope NRight ["_law_thing_here"] (defScope (top 31)) := ⟨rfl, rfl, rfl, by decide +kernel, rfl, by decide +kernel, by decide +kernel⟩
section
variable {P : Program} {w : World} {K : PySem.W.Frag} {mg : Str → Option Value} {base : Heap} {f fPl fNm fKe fKi : Addr} {fd fdPl fdNm fdKe fdKi : FuncData} {T : List (Addr × Str)} {fds : Nat → FuncData}
theorem Mks.le {x : Val} {ps : List Addr} {O O' : Oh} (m : Mks K x ps O) (le : Ole O O') : Mks K x ps O' := ⟨m.1, fun i p h => le _ _ (m.2 i p h)⟩
theorem rep18 {x : PyData} : (List.replicate (Int.toNat 18) [Val.dat x]).flatten = (List.replicate 18 x).map Val.dat := rfl
theorem ok_right (FF : FX K mg) (I : IX P w K mg base T fds) (F : FnP K "_law_right" (top 31) f fd) (FP : FnP K "_law_by_place" (top 27) fPl fdPl) (FN : FnP K "_law_by_name" (top 28) fNm fdNm) (FK : FnP K "_law_kept" (top 29) fKe fdKe) (FI : FnP K "_law_kinds" (top 26) fKi fdKi)
    (gP : mg "_law_by_place" = some (.ref fPl)) (gN : mg "_law_by_name" = some (.ref fNm)) (gK : mg "_law_kept" = some (.ref fKe)) (gI : mg "_law_kinds" = some (.ref fKi)) : FnG P w K mg base (L2.CX P w) 4 f fd ["_law_thing_here"] (toSp K T spRight) := by
  refine fn_ok F scRight (fun args O k ex h => ?_) (fun cdv A outer s H E args O k ex cc hsp => ?_)
  · obtain ⟨_, rfl, _⟩ := h
    rfl
  · obtain ⟨x, rfl, th, hk⟩ := hsp
    obtain ⟨z1, z2, z3, z4⟩ := th.rep (by decide)
    have b1 : ∀ {nm qual : Str} {st : Stmt} {p : Str} {f : Addr} {fd : FuncData}, FunD K nm qual (defArgs st) (defBody st) (defScope st) [] [] f fd → (∀ (kV doc pm : Value) (an : Option Addr) (cdv ct u : Value), bindArgs (PySem.W.fnOf nm qual (defArgs st) (defBody st) (defScope st) .none kV doc pm an cdv ct) ⟨[u], []⟩ = pure ([p].zip [u])) → Binds K fd [p] [] := fun F h => F.bindsN fun kV doc pm an cdv ct us hl => match us, hl with | [u], _ => h kV doc pm an cdv ct u
    have bP : Binds K fdPl ["_law_thing_here"] [] := b1 FP fun _ _ _ _ _ _ _ => rfl
    have bN : Binds K fdNm ["_law_thing_here"] [] := b1 FN fun _ _ _ _ _ _ _ => rfl
    have bK : Binds K fdKe ["_law_some"] [] := b1 FK fun _ _ _ _ _ _ _ => rfl
    have bI : Binds K fdKi ["_law_error"] [] := b1 FI fun _ _ _ _ _ _ _ => rfl
    have GP := ok__law_by_place (P := P) (w := w) (base := base) FF I FP
    have GN := ok__law_by_name (P := P) (w := w) (base := base) FF I FN
    have GK := ok_kept (P := P) (w := w) (base := base) (T := T) FF FK
    have GI := ok_kinds (P := P) (w := w) (base := base) (T := T) FF FI
    generalize hS : PyData.shown (.list (List.replicate 18 x)) = S18 at z3
    refine wss_cons ?_
    refine ws_set 1 cc rfl ?_
    refine we_callB (id := "repr") FF.rep boot_repr ?_
    refine wa_cons ?_
    refine we_bin ?_
    refine we_lstO ?_
    refine wa_cons ?_
    refine we_name 0 rfl rfl ?_
    refine wa_nil ?_
    refine ⟨by simp [lim], fun q0 hq0 => we_int (wo_repO oset_same (by decide) (by decide) (by simp [lim]) fun q1 hq1 => ?_)⟩
    refine wa_nil (wc_repr cc FF.sys (ds := List.replicate 18 x) ⟨List.replicate 18 x, by rw [oset_same, rep18], rfl⟩ (by simp [lim]) z1 z2 (by rw [hS]; exact z3) z4 ?_)
    rw [hS]
    have le0 : Ole O _ := (Ole.oset (o := .lst [.dat x]) hq0).trans (Ole.oset (o := .lst (List.replicate (Int.toNat 18) [Val.dat x]).flatten) hq1)
    generalize oset (oset O q0 _) q1 _ = O1 at le0 ⊢
    refine wss_cons (ws_for cc pass_own (wi_disp ?_))
    refine wa_cons ?_
    refine we_call GP cc (by decide) gP FP.kp bP ?_
    refine wa_cons ?_
    refine we_name 0 rfl rfl ?_
    refine wa_nil ?_
    refine ⟨.dat x, rfl, fun ps1 q2 O2 le2 mk1 hq2 => ?_⟩
    refine wa_cons ?_
    refine we_call GN cc (by decide) gN FN.kp bN ?_
    refine wa_cons ?_
    refine we_name 0 rfl rfl ?_
    refine wa_nil ?_
    refine ⟨.dat x, rfl, fun ps2 q3 O3 le3 mk2 hq3 => ?_⟩
    refine wa_nil ⟨by simp [lim], ?_⟩
    refine ⟨fun i δ' O' => Ole O3 O' ∧ ∃ a b c, δ' = [some (.dat x), some (.dat (.str S18)), a, b, c, none], ⟨Ole.refl _, none, none, none, rfl⟩, fun _ _ _ _ _ => True.intro, ?_, ?_⟩
    · rintro i y δ' O' hy ⟨le, a0, b0, c0, rfl⟩
      obtain ⟨q, ps, rfl, hq, mk⟩ : ∃ q ps, y = rV q ∧ O' q = some (.lst (ps.map rV)) ∧ Mks K (.dat x) ps O' := by
        match i, hy with
        | 0, hy => cases hy; exact ⟨q2, ps1, rfl, le _ _ (le3 _ _ hq2), (mk1.le le3).le le⟩
        | 1, hy => cases hy; exact ⟨q3, ps2, rfl, le _ _ hq3, mk2.le le⟩
        | n + 2, hy => cases hy
      refine wg_name 2 cc rfl ?_
      refine wss_cons ?_
      refine ws_if ?_
      refine wt_cmp ?_
      refine we_callB (id := "repr") FF.rep boot_repr ?_
      refine wa_cons ?_
      refine we_call GK cc (by decide) gK FK.kp bK ?_
      refine wa_cons ?_
      refine we_name 2 rfl rfl ?_
      refine wa_nil ?_
      refine ⟨.dat x, ps, q, rfl, hq, mk, fun r O4 le4 hr => ?_⟩
      refine wa_nil (wc_repr cc FF.sys (ds := List.replicate 18 x) ⟨List.replicate 18 x, by rw [hr]; rfl, rfl⟩ (by simp [lim]) z1 z2 (by rw [hS]; exact z3) z4 ?_)
      rw [hS]
      refine we_name 1 rfl rfl ?_
      refine wo_ne cc (d := .str S18) (e := .str S18) rfl rfl (by simp [PyData.plain]) (by simp [PyData.plain]) (by simp [PyData.depth]) ?_
      refine ⟨_, rfl, fun ht => ?_, fun _ => wss_nil ?_⟩
      · simp [PyData.eqv] at ht
      · refine wss_cons ?_
        refine ws_forT (n := 2) cc pass_own ?_
        refine wi_enum FF.enu ?_
        refine we_name 2 rfl rfl ?_
        refine ⟨ps.map rV, le4 _ _ hq, ?_, fun j δ'' O'' => Ole O4 O'' ∧ ∃ b c, δ'' = [some (.dat x), some (.dat (.str S18)), some (rV q), b, c, none], ⟨Ole.refl _, b0, c0, rfl⟩, ?_, ?_, ?_⟩
        · intro y hy
          obtain ⟨j, hj⟩ := List.getElem?_of_mem hy
          obtain ⟨z, _, rfl⟩ := enumV_get 0 _ j y hj
          rfl
        · rintro j δ'' O'' _ ⟨le5, _⟩
          exact le5 _ _ (le4 _ _ hq)
        · rintro j y δ'' O'' hy ⟨le5, b1', c1', rfl⟩
          obtain ⟨z, hz, rfl⟩ := enumV_get 0 _ j y hy
          rw [Nat.zero_add]
          rw [List.getElem?_map] at hz
          obtain ⟨p, hp, rfl⟩ : ∃ p, ps[j]? = some p ∧ z = rV p := by
            cases e : ps[j]? with
            | none => rw [e] at hz; cases hz
            | some p => rw [e] at hz; cases hz; exact ⟨p, rfl, rfl⟩
          have hj : j < 20 := by
            have := (List.getElem?_eq_some_iff.mp hp).1
            rw [mk.1] at this
            exact this
          have eO := le5 _ _ (le4 _ _ (mk.2 j p hp))
          refine wgs_cons (wg_name 3 cc rfl (wgs_cons (wg_name 4 cc rfl (wgs_nil ?_))))
          refine wss_cons ?_
          refine ws_if ?_
          refine wt_cmp ?_
          refine we_call GI cc (by decide) gI FI.kp bI ?_
          refine wa_cons ?_
          refine we_name 4 rfl rfl ?_
          refine wa_nil ?_
          refine ⟨p, cA K j, fsOf (.dat x) j, (List.range 20).map fun m => j == m, rfl, .inl eO, (FF.xc j hj).isx, by simp, fun m b hm => ?_, fun r2 O6 le6 hr2 => ?_⟩
          · rw [List.getElem?_map] at hm
            by_cases hm2 : m < 20
            · rw [List.getElem?_range hm2] at hm
              cases hm
              exact FF.kit j m hj hm2
            · rw [List.getElem?_eq_none (by simpa using hm2)] at hm
              cases hm
          · refine we_lc (own := [("_law_to", 5)]) [5] rfl cc (show BlkOk NRight (defScope (top 31)) _ _ from blk_of (by decide +kernel)) (wi_rng1 FF.rng (we_int ⟨20, rfl, by decide, by decide, by simp [rngV_len, lim], fun i acc O'' => O'' = O6 ∧ acc = blV ((List.range i).map fun m => j == m), ⟨rfl, rfl⟩, ?_, ?_, ?_⟩))
            · rintro i acc O'' hi ⟨rfl, rfl⟩
              exact ⟨True.intro, by simp [blV]⟩
            · rintro i y acc O'' hy ⟨rfl, rfl⟩ bk
              obtain ⟨hi, rfl⟩ := rngV_get hy
              refine wgb_name 5 cc.nd rfl (by simp) fun bk => wts_nil ⟨fun _ bk => ?_, fun z => by cases z⟩
              refine we_cmp ?_
              refine we_name 3 rfl rfl ?_
              refine we_name 5 rfl rfl ?_
              refine wo_eq (cc.blk _ _ _ _ _) (d := .int (j : Int)) (e := .int (0 + (i : Int))) rfl rfl (by simp [PyData.plain]) (by simp [PyData.plain]) (by simp [PyData.depth]) ?_
              refine ⟨rfl, ?_⟩
              have e : PyData.eqv (.int (j : Int)) (.int (0 + (i : Int))) = (j == i) := by
                simp only [PyData.eqv]
                rw [Bool.eq_iff_iff, beq_iff_eq, beq_iff_eq]
                omega
              rw [e]
              simp [blV, List.range_succ]
            · rintro acc O'' ⟨rfl, rfl⟩
              rw [rngV_len]
              refine .inr ⟨((List.range 20).map fun m => j == m).map .bool, ?_, ?_⟩
              · have : ∀ bs : List Bool, undat (blV bs) = some (bs.map .bool) := by
                  intro bs
                  induction bs with
                  | nil => rfl
                  | cons b bs ih => simp [blV, undat] at ih ⊢; rw [ih]
                exact this _
              · refine wo_ne cc (d := .list (((List.range 20).map fun m => j == m).map .bool)) (e := .list (((List.range 20).map fun m => j == m).map .bool)) ⟨_, by rw [hr2]; unfold blV; rw [List.map_map]; rfl, rfl⟩ rfl (by simp [PyData.plain, PyData.plainAll, List.range, List.range.loop]) (by simp [PyData.plain, PyData.plainAll, List.range, List.range.loop]) (by simp [PyData.depth, PyData.depthAll, List.range, List.range.loop]) ?_
                refine ⟨_, rfl, fun ht => ?_, fun _ => wss_nil ?_⟩
                · have e : PyData.eqv (.list (((List.range 20).map fun m => j == m).map .bool)) (.list (((List.range 20).map fun m => j == m).map .bool)) = true := by
                    simp only [PyData.eqv]
                    exact eqv_bools _
                  rw [e] at ht
                  cases ht
                · have eO6 := le6 _ _ eO
                  refine wss_cons ?_
                  refine ws_if ?_
                  refine wt_ww ?_
                  refine ww_or ?_
                  refine wt_not ?_
                  refine wt_val ?_
                  refine we_callB (id := "isinstance") FF.isi boot_isinstance ?_
                  refine wa_cons ?_
                  refine we_name 4 rfl rfl ?_
                  refine wa_cons ?_
                  refine we_glo FF.gU ?_
                  refine wa_nil ?_
                  refine wc_isx (b := true) (.inl eO6) (FF.xc j hj).isx (fun u r => r) (FF.kitU j hj) ⟨true, rfl, ?_⟩
                  refine ⟨fun _ => ?_, fun z => by cases z⟩
                  refine ww_or1 ?_
                  refine wt_not ?_
                  refine wt_val ?_
                  refine we_callB (id := "isinstance") FF.isi boot_isinstance ?_
                  refine wa_cons ?_
                  refine we_name 4 rfl rfl ?_
                  refine wa_cons ?_
                  refine we_ty (ty := "ValueError") FF.val rfl ?_
                  refine wa_nil ?_
                  refine wc_isx (b := true) (.inl eO6) (FF.xc j hj).isx (fun u r => r) (FF.kitV j hj) ⟨true, rfl, ?_⟩
                  exact ⟨fun z => (by cases z), fun _ => wss_nil (wss_nil ⟨le5.trans le6, _, _, rfl⟩)⟩
        · rintro δ'' O'' ⟨le5, b1', c1', rfl⟩
          exact wss_nil ⟨(le.trans le4).trans le5, _, _, _, rfl⟩
    · rintro δ' O' ⟨le, a0, b0, c0, rfl⟩
      refine wss_cons ?_
      refine ws_ret ?_
      refine we_bool ?_
      exact ⟨O, ((le0.trans le2).trans le3).trans le, hk⟩
/-! the law -/
def spLaw : DSp := fun args O k ex => ∃ ns : List Int, args = [.dat (.list (ns.map PyData.int))] ∧ k (.dat (.bool true)) O
abbrev NLaw : List Str := ["_law_script", "_law_k", "_law_deck_here", "_law_turn"]
theorem scLaw : FnScope NLaw ["_law_script"] (defScope (top 32)) := ⟨rfl, rfl, rfl, by decide +kernel, rfl, by decide +kernel, by decide +kernel⟩
theorem undat_true : ∀ n : Nat, undat (List.replicate n (Val.dat (.bool true))) = some (List.replicate n (.bool true))
  | 0 => rfl
  | n + 1 => by
    rw [List.replicate_succ, List.replicate_succ]
    unfold undat
    rw [undat_true n]
theorem ok_law {fDe fTh fRi : Addr} {fdDe fdTh fdRi : FuncData} (FF : FX K mg) (F : FnP K "law" (top 32) f fd) (FD : FnP K "_law_deck" (top 23) fDe fdDe) (FT : FnP K "_law_thing" (top 30) fTh fdTh) (FR : FnP K "_law_right" (top 31) fRi fdRi) (FI : FnP K "_law_kinds" (top 26) fKi fdKi)
    (gD : mg "_law_deck" = some (.ref fDe)) (gT : mg "_law_thing" = some (.ref fTh)) (gR : mg "_law_right" = some (.ref fRi)) (gI : mg "_law_kinds" = some (.ref fKi))
    (GT : FnG P w K mg base (L2.CX P w) 3 fTh fdTh ["_law_deck_here"] (toSp K T spThing)) (GR : FnG P w K mg base (L2.CX P w) 4 fRi fdRi ["_law_thing_here"] (toSp K T spRight)) : FnG P w K mg base (L2.CX P w) 5 f fd ["_law_script"] (toSp K T spLaw) := by
  refine fn_ok F scLaw (fun args O k ex h => ?_) (fun cdv A outer s H E args O k ex cc hsp => ?_)
  · obtain ⟨_, rfl, _⟩ := h
    rfl
  · obtain ⟨ns, rfl, hk⟩ := hsp
    have b1 : ∀ {nm qual : Str} {st : Stmt} {p : Str} {f : Addr} {fd : FuncData}, FunD K nm qual (defArgs st) (defBody st) (defScope st) [] [] f fd → (∀ (kV doc pm : Value) (an : Option Addr) (cdv ct u : Value), bindArgs (PySem.W.fnOf nm qual (defArgs st) (defBody st) (defScope st) .none kV doc pm an cdv ct) ⟨[u], []⟩ = pure ([p].zip [u])) → Binds K fd [p] [] := fun F h => F.bindsN fun kV doc pm an cdv ct us hl => match us, hl with | [u], _ => h kV doc pm an cdv ct u
    have bD : Binds K fdDe ["_law_script", "_law_k"] [] := FD.bindsN fun _ _ _ _ _ _ us hl => match us, hl with | [_, _], _ => rfl
    have bT : Binds K fdTh ["_law_deck_here"] [] := b1 FT fun _ _ _ _ _ _ _ => rfl
    have bR : Binds K fdRi ["_law_thing_here"] [] := b1 FR fun _ _ _ _ _ _ _ => rfl
    have bI : Binds K fdKi ["_law_error"] [] := b1 FI fun _ _ _ _ _ _ _ => rfl
    have GI := ok_kinds (P := P) (w := w) (base := base) (T := T) FF FI
    have GD := ok_deck (P := P) (w := w) (base := base) (T := T) FD FF.len FF.abs FF.int
    refine wss_cons ?_
    refine ws_if ?_
    refine wt_cmp ?_
    refine we_bool ?_
    refine we_call GI cc (by decide) gI FI.kp bI ?_
    refine wa_cons ?_
    refine we_mkp PySem.F.excBase_ValueError FF.gU FF.eU FF.xU.oex.kC ?_
    refine fun a ha => wa_nil ⟨a, aU K, [], List.replicate 20 false, rfl, .inl oset_same, FF.xU.isx, by simp, fun j b hb => ?_, fun r O2 le2 hr => ?_⟩
    · rw [List.getElem?_replicate] at hb
      by_cases hj : j < 20
      · rw [if_pos hj] at hb
        cases hb
        exact FF.kitN j hj
      · rw [if_neg hj] at hb
        cases hb
    · refine wo_in cc (d := .bool true) (ds := List.replicate 20 (.bool false)) rfl (show O2 r = _ by rw [hr]; rfl) (by simp [PyData.plain]) (by decide +kernel) (by decide +kernel) ?_
      refine ⟨_, rfl, fun ht => ?_, fun _ => wss_nil ?_⟩
      · exact absurd ht (by decide +kernel)
      · refine wss_cons (ws_for cc pass_own (wi_rng1 FF.rng ?_))
        refine we_callB (id := "max") FF.max boot_max ?_
        refine wa_cons ?_
        refine we_int ?_
        refine wa_cons ?_
        refine we_callB (id := "min") FF.min boot_min ?_
        refine wa_cons ?_
        refine we_int ?_
        refine wa_cons ?_
        refine we_callB (id := "len") FF.len boot_len ?_
        refine wa_cons ?_
        refine we_name 0 rfl rfl ?_
        refine wa_nil ?_
        refine wc_len (xs := (ns.map PyData.int).map Val.dat) rfl ?_
        refine wa_nil ?_
        refine wc_min cc ?_
        refine wa_nil ?_
        refine wc_max cc ?_
        have hm : ∃ m : Nat, (if (if (((ns.map PyData.int).map Val.dat).length : Int) < 2 then (((ns.map PyData.int).map Val.dat).length : Int) else 2) > 1 then (if (((ns.map PyData.int).map Val.dat).length : Int) < 2 then (((ns.map PyData.int).map Val.dat).length : Int) else 2) else 1) = (m : Int) ∧ m ≤ 2 := by
          generalize (((ns.map PyData.int).map Val.dat).length) = q
          by_cases h1 : (q : Int) < 2
          · rw [if_pos h1]
            by_cases h2 : (q : Int) > 1
            · exact ⟨q, by rw [if_pos h2], by omega⟩
            · exact ⟨1, by rw [if_neg h2]; rfl, by omega⟩
          · rw [if_neg h1]
            exact ⟨2, by decide, by omega⟩
        obtain ⟨m, hm1, hm2⟩ := hm
        rw [hm1]
        refine ⟨(m : Int), rfl, by omega, by omega, fun i δ' O' => Ole O O' ∧ ∃ a b c, δ' = [some (.dat (.list (ns.map PyData.int))), a, b, c], ⟨(Ole.oset ha).trans le2, none, none, none, rfl⟩, fun _ _ _ _ _ => True.intro, ?_, ?_⟩
        · rintro i y δ' O' hy ⟨le, a0, b0, c0, rfl⟩
          obtain ⟨hi, rfl⟩ := rngV_get hy
          have hi' : i < m := by simpa using hi
          refine wg_name 1 cc rfl ?_
          refine wss_cons ?_
          refine ws_set 2 cc rfl ?_
          refine we_call GD cc (by decide) gD FD.kp bD ?_
          refine wa_cons ?_
          refine we_name 0 rfl rfl ?_
          refine wa_cons ?_
          refine we_name 1 rfl rfl ?_
          refine wa_nil ?_
          refine ⟨ns, i, by rw [Int.zero_add], by omega, fun p hp => ?_⟩
          refine wss_cons ?_
          refine ws_if ?_
          refine wt_not ?_
          refine wt_val ?_
          refine we_callB (id := "all") FF.all boot_all ?_
          refine wa_cons ?_
          refine we_lc (own := [("_law_turn", 3)]) [3] rfl cc (show BlkOk NLaw (defScope (top 32)) _ _ from blk_of (by decide +kernel)) (wi_rng1 FF.rng (we_int ⟨4, rfl, by decide, by decide, by simp [rngV_len, lim], fun i acc O'' => i ≤ 4 ∧ (∃ q, 1000000 - 20 * i ≤ q ∧ O'' = oset O' p (.deck q)) ∧ acc = List.replicate i (.dat (.bool true)), ⟨by decide, ⟨_, by decide, rfl⟩, rfl⟩, ?_, ?_, ?_⟩))
          · rintro i acc O'' hi ⟨_, ⟨q, hq, rfl⟩, rfl⟩
            exact ⟨True.intro, by simp⟩
          · rintro i y acc O'' hy ⟨_, ⟨q, hq, rfl⟩, rfl⟩ bk
            obtain ⟨hi4, rfl⟩ := rngV_get hy
            have hi5 : i < 4 := hi4
            refine wgb_name 3 cc.nd rfl (by simp) fun bk => wts_nil ⟨fun _ bk => ?_, fun z => by cases z⟩
            refine we_call GR (cc.blk _ _ _ _ _) (by decide) gR FR.kp bR ?_
            refine wa_cons ?_
            refine we_call GT (cc.blk _ _ _ _ _) (by decide) gT FT.kp bT ?_
            refine wa_cons ?_
            refine we_name 2 rfl rfl ?_
            refine wa_nil ?_
            refine ⟨p, q - 20, rfl, by rw [oset_same, show q - 20 + 20 = q by omega], fun x hx => wa_nil ⟨x, rfl, hx, ?_⟩⟩
            refine ⟨by omega, ⟨q - 20, by omega, oset_oset⟩, ?_⟩
            rw [List.replicate_succ']
          · rintro acc O'' ⟨_, ⟨q, hq, rfl⟩, rfl⟩
            rw [rngV_len]
            refine .inr ⟨List.replicate 4 (.bool true), undat_true 4, ?_⟩
            refine wa_nil (wc_all cc (bs := List.replicate 4 true) rfl ⟨_, rfl, fun ht => ?_, fun _ => wss_nil (wss_nil ⟨?_, _, _, _, rfl⟩)⟩)
            · exact absurd ht (by decide)
            · exact le.trans (Ole.oset hp)
        · rintro δ' O' ⟨le, a0, b0, c0, rfl⟩
          refine wss_cons ?_
          refine ws_ret ?_
          refine we_bool ?_
          exact ⟨O, le, hk⟩
end
end K51
set_option maxHeartbeats 0
namespace K51
open PySem PySem.Spec PyProof.Rows L2 DL
/-! the head: facts read by a Hook that looks at the modules' dict too -/
def kOf (g : Addr → Option Obj) (n : Nat) : PySem.W.Frag := He.frT g (sysModules :: cStatics :: He.asD g n)
def hookZ (n : Nat) (fa : List He.Fa) (fn : List He.DefD) (ex : PySem.W.Frag → Bool) : PySem.W.Hook where
  α := He.AlD × Bool
  obs := fun s => (He.obsD fa fn (kOf s.heap.get? n), ex (kOf s.heap.get? n))
  val := fun _ => (He.valD fn, true)
  says := fun _ h => ∃ K : PySem.W.Frag, K.In h ∧ He.SaysD fa fn K ∧ ex K = true
  of := fun _ _ e => ⟨_, He.frT_in, congrArg Prod.fst e, congrArg Prod.snd e⟩
  keeps := fun _ _ _ ⟨K, hK, c⟩ k => ⟨K, PySem.W.Frag.In.keeps hK k, c⟩
def iniB (K : PySem.W.Frag) (U : Addr) : Bool := match PySem.W.findCls K (.ref U) (.type "type") "__init__" with
  | some (.val (.builtin s)) => decide (s = "ValueError.__init__")
  | _ => false
theorem iniB_ok {K : PySem.W.Frag} {U : Addr} (h : iniB K U = true) : PySem.W.findCls K (.ref U) (.type "type") "__init__" = some (.val (.builtin "ValueError.__init__")) := by
  unfold iniB at h
  split at h
  · rename_i s e
    rw [e, of_decide_eq_true h]
  · cases h
def exB (K : PySem.W.Frag) : Bool :=
  (match K.lookup sysModules with
    | some o => decide (o.cls = .type "dict")
    | none => false) && (xcB K (aU K) && (iniB K (aU K) && (PySem.W.excIn K (aU K) He.veBase "ValueError.__new__" &&
  ((List.range 20).all (fun i => xcB K (cA K i) && (decide (PySem.W.findIn K (.ref (cA K i)) "__init__" = some (some (.ref (iA K i)))) && (decide (PySem.W.typeIn K (.ref (iA K i)) = some (.type "function")) &&
    (decide (PySem.W.kitOne K (.ref (cA K i)) (.ref (aU K)) = some true) && (decide (PySem.W.kitOne K (.ref (cA K i)) (.type "ValueError") = some true) && (decide (PySem.W.kitOne K (.ref (aU K)) (.ref (cA K i)) = some false) &&
    ((List.range 20).all (fun j => decide (PySem.W.kitOne K (.ref (cA K i)) (.ref (cA K j)) = some (i == j)))))))))) &&
  (List.range 18).all (fun i => decide (PySem.W.findIn K (.ref (cA K i)) (fl.getD i "") = some none))))))
def fn : List He.DefD := [
  ⟨("_law_deck", none), "_law_deck", "_law_deck", defArgs (top 23), defBody (top 23), defScope (top 23), [], []⟩,
  ⟨("_law_draw", none), "_law_draw", "_law_draw", defArgs (top 24), defBody (top 24), defScope (top 24), [], []⟩,
  ⟨("_law_any", none), "_law_any", "_law_any", defArgs (top 25), defBody (top 25), defScope (top 25), [], []⟩,
  ⟨("_law_kinds", none), "_law_kinds", "_law_kinds", defArgs (top 26), defBody (top 26), defScope (top 26), [], []⟩,
  ⟨("_law_by_place", none), "_law_by_place", "_law_by_place", defArgs (top 27), defBody (top 27), defScope (top 27), [], []⟩,
  ⟨("_law_by_name", none), "_law_by_name", "_law_by_name", defArgs (top 28), defBody (top 28), defScope (top 28), [], []⟩,
  ⟨("_law_kept", none), "_law_kept", "_law_kept", defArgs (top 29), defBody (top 29), defScope (top 29), [], []⟩,
  ⟨("_law_thing", none), "_law_thing", "_law_thing", defArgs (top 30), defBody (top 30), defScope (top 30), [], []⟩,
  ⟨("_law_right", none), "_law_right", "_law_right", defArgs (top 31), defBody (top 31), defScope (top 31), [], []⟩,
  ⟨("law", none), "law", "law", defArgs (top 32), defBody (top 32), defScope (top 32), [], []⟩,
  ⟨("NoRelease", some "__init__"), "__init__", "NoRelease.__init__", defArgs (mth 2 0), defBody (mth 2 0), defScope (mth 2 0), [], []⟩,
  ⟨("NoService", some "__init__"), "__init__", "NoService.__init__", defArgs (mth 3 0), defBody (mth 3 0), defScope (mth 3 0), [], []⟩,
  ⟨("Unreachable", some "__init__"), "__init__", "Unreachable.__init__", defArgs (mth 4 0), defBody (mth 4 0), defScope (mth 4 0), [], []⟩,
  ⟨("NotTwoSided", some "__init__"), "__init__", "NotTwoSided.__init__", defArgs (mth 5 0), defBody (mth 5 0), defScope (mth 5 0), [], []⟩,
  ⟨("TooLarge", some "__init__"), "__init__", "TooLarge.__init__", defArgs (mth 6 0), defBody (mth 6 0), defScope (mth 6 0), [], []⟩,
  ⟨("BadSchedule", some "__init__"), "__init__", "BadSchedule.__init__", defArgs (mth 7 0), defBody (mth 7 0), defScope (mth 7 0), [], []⟩,
  ⟨("NotPossible", some "__init__"), "__init__", "NotPossible.__init__", defArgs (mth 8 0), defBody (mth 8 0), defScope (mth 8 0), [], []⟩,
  ⟨("NotUpgrade", some "__init__"), "__init__", "NotUpgrade.__init__", defArgs (mth 9 0), defBody (mth 9 0), defScope (mth 9 0), [], []⟩,
  ⟨("BadPath", some "__init__"), "__init__", "BadPath.__init__", defArgs (mth 10 0), defBody (mth 10 0), defScope (mth 10 0), [], []⟩,
  ⟨("BadSkips", some "__init__"), "__init__", "BadSkips.__init__", defArgs (mth 11 0), defBody (mth 11 0), defScope (mth 11 0), [], []⟩,
  ⟨("BadPrice", some "__init__"), "__init__", "BadPrice.__init__", defArgs (mth 12 0), defBody (mth 12 0), defScope (mth 12 0), [], []⟩,
  ⟨("NotWave", some "__init__"), "__init__", "NotWave.__init__", defArgs (mth 13 0), defBody (mth 13 0), defScope (mth 13 0), [], []⟩,
  ⟨("BadState", some "__init__"), "__init__", "BadState.__init__", defArgs (mth 14 0), defBody (mth 14 0), defScope (mth 14 0), [], []⟩,
  ⟨("Blocked", some "__init__"), "__init__", "Blocked.__init__", defArgs (mth 15 0), defBody (mth 15 0), defScope (mth 15 0), [], []⟩,
  ⟨("Mixed", some "__init__"), "__init__", "Mixed.__init__", defArgs (mth 16 0), defBody (mth 16 0), defScope (mth 16 0), [], []⟩,
  ⟨("TooDear", some "__init__"), "__init__", "TooDear.__init__", defArgs (mth 17 0), defBody (mth 17 0), defScope (mth 17 0), [], []⟩,
  ⟨("BadText", some "__init__"), "__init__", "BadText.__init__", defArgs (mth 19 0), defBody (mth 19 0), defScope (mth 19 0), [], []⟩,
  ⟨("BadLine", some "__init__"), "__init__", "BadLine.__init__", defArgs (mth 20 0), defBody (mth 20 0), defScope (mth 20 0), [], []⟩,
  ⟨("NothingToUndo", some "__init__"), "__init__", "NothingToUndo.__init__", defArgs (mth 18 0), defBody (mth 18 0), defScope (mth 18 0), [], []⟩,
  ⟨("NoFleet", some "__init__"), "__init__", "NoFleet.__init__", defArgs (mth 21 0), defBody (mth 21 0), defScope (mth 21 0), [], []⟩]
def fa : List He.Fa := [.glo "_law_deck", .glo "_law_draw", .glo "_law_any", .glo "_law_kinds", .glo "_law_by_place", .glo "_law_by_name", .glo "_law_kept", .glo "_law_thing", .glo "_law_right", .glo "law", .free "isinstance", .free "len", .free "abs", .free "int", .free "range", .free "repr", .free "enumerate", .free "all", .free "max", .free "min", .free "ValueError", .glo "UpgradeError", .glo "NoRelease", .glo "NoService", .glo "Unreachable", .glo "NotTwoSided", .glo "TooLarge", .glo "BadSchedule", .glo "NotPossible", .glo "NotUpgrade", .glo "BadPath", .glo "BadSkips", .glo "BadPrice", .glo "NotWave", .glo "BadState", .glo "Blocked", .glo "Mixed", .glo "TooDear", .glo "BadText", .glo "BadLine", .glo "NothingToUndo", .glo "NoFleet"]
abbrev R : PySem.W.OpenRow := PySem.W.OpenLaw.row PySem.Challenge.rw_gridupgrade_k51_errors
abbrev qv : Program := PySem.W.view R.prog [32]
def names : List Str := (["UpgradeError", "NoRelease", "NoService", "Unreachable", "NotTwoSided", "TooLarge", "BadSchedule", "NotPossible", "NotUpgrade", "BadPath", "BadSkips", "BadPrice", "NotWave", "BadState", "Blocked", "Mixed", "TooDear", "NothingToUndo", "BadText", "BadLine", "NoFleet", "_law_deck", "_law_draw", "_law_any", "_law_kinds", "_law_by_place", "_law_by_name", "_law_kept", "_law_thing", "_law_right"] : List Str)
abbrev hk : PySem.W.Hook := hookZ 5 fa fn exB
def ob (s : PySem.W.SharedT) : He.AlD × Bool := (He.obsD fa fn (kOf (HandSHeadRun.getT s) 5), exB (kOf (HandSHeadRun.getT s) 5))
theorem ob_eq (s : PySem.W.SharedT) : ob s = hk.obs s.abs := by
  have e : HandSHeadRun.getT s = s.abs.heap.get? := funext (HandSHeadRun.getT_eq s)
  unfold ob
  rw [e] <;> rfl
theorem run (w : World) : HandSHeadRun.RunEq R qv hk ob 20000 names w := by
  intro os
  kernel_rfl
end K51
set_option maxHeartbeats 0
namespace K51
open PySem PySem.Spec PyProof.Rows L2 DL
theorem atall_ints {K : PySem.W.Frag} {H : Hp} : ∀ ns : List Int, AtAll K H (ns.map V.int) (ns.map PyData.int)
  | [] => .nil
  | i :: ns => .cons (At.int i) (atall_ints ns)
theorem fx_of {K : PySem.W.Frag} {h : Heap} {mg : Str → Option Value} (X : K.In h) (G : h.Ns mainGlobals mg) (c : He.SaysD fa fn K) (x : exB K = true) : FX K mg := by
  obtain ⟨x1, x⟩ := bb x
  obtain ⟨x2, x⟩ := bb x
  obtain ⟨x3, x⟩ := bb x
  obtain ⟨x4, x⟩ := bb x
  obtain ⟨x5, x6⟩ := bb x
  have p : ∀ i, i < 20 → _ := fun i hi => List.all_eq_true.mp x5 i (List.mem_range.mpr hi)
  exact {
    gU := He.glo_ok X G (c.fact 21 (f := .glo "UpgradeError") rfl)
    uU := ⟨(xcB_ok x2).rd, iniB_ok x3⟩
    xU := xcB_ok x2
    eU := x4
    g := fun i hi => match i, hi with
      | 0, _ => He.glo_ok X G (c.fact 22 (f := .glo "NoRelease") rfl)
      | 1, _ => He.glo_ok X G (c.fact 23 (f := .glo "NoService") rfl)
      | 2, _ => He.glo_ok X G (c.fact 24 (f := .glo "Unreachable") rfl)
      | 3, _ => He.glo_ok X G (c.fact 25 (f := .glo "NotTwoSided") rfl)
      | 4, _ => He.glo_ok X G (c.fact 26 (f := .glo "TooLarge") rfl)
      | 5, _ => He.glo_ok X G (c.fact 27 (f := .glo "BadSchedule") rfl)
      | 6, _ => He.glo_ok X G (c.fact 28 (f := .glo "NotPossible") rfl)
      | 7, _ => He.glo_ok X G (c.fact 29 (f := .glo "NotUpgrade") rfl)
      | 8, _ => He.glo_ok X G (c.fact 30 (f := .glo "BadPath") rfl)
      | 9, _ => He.glo_ok X G (c.fact 31 (f := .glo "BadSkips") rfl)
      | 10, _ => He.glo_ok X G (c.fact 32 (f := .glo "BadPrice") rfl)
      | 11, _ => He.glo_ok X G (c.fact 33 (f := .glo "NotWave") rfl)
      | 12, _ => He.glo_ok X G (c.fact 34 (f := .glo "BadState") rfl)
      | 13, _ => He.glo_ok X G (c.fact 35 (f := .glo "Blocked") rfl)
      | 14, _ => He.glo_ok X G (c.fact 36 (f := .glo "Mixed") rfl)
      | 15, _ => He.glo_ok X G (c.fact 37 (f := .glo "TooDear") rfl)
      | 16, _ => He.glo_ok X G (c.fact 38 (f := .glo "BadText") rfl)
      | 17, _ => He.glo_ok X G (c.fact 39 (f := .glo "BadLine") rfl)
      | 18, _ => He.glo_ok X G (c.fact 40 (f := .glo "NothingToUndo") rfl)
      | 19, _ => He.glo_ok X G (c.fact 41 (f := .glo "NoFleet") rfl)
      | n + 20, hi => absurd hi (by omega)
    xc := fun i hi => xcB_ok (bb (p i hi)).1
    ini := fun i hi => of_decide_eq_true (bb (bb (p i hi)).2).1
    tI := fun i hi => of_decide_eq_true (bb (bb (bb (p i hi)).2).2).1
    kitU := fun i hi => of_decide_eq_true (bb (bb (bb (bb (p i hi)).2).2).2).1
    kitV := fun i hi => of_decide_eq_true (bb (bb (bb (bb (bb (p i hi)).2).2).2).2).1
    kitN := fun i hi => of_decide_eq_true (bb (bb (bb (bb (bb (bb (p i hi)).2).2).2).2).2).1
    kit := fun i j hi hj => of_decide_eq_true (List.all_eq_true.mp (bb (bb (bb (bb (bb (bb (p i hi)).2).2).2).2).2).2 j (List.mem_range.mpr hj))
    no := fun i hi => of_decide_eq_true (List.all_eq_true.mp x6 i (List.mem_range.mpr hi))
    isi := He.free_ok X G (c.fact 10 (f := .free "isinstance") rfl)
    len := He.free_ok X G (c.fact 11 (f := .free "len") rfl)
    abs := He.free_ok X G (c.fact 12 (f := .free "abs") rfl)
    int := He.free_ok X G (c.fact 13 (f := .free "int") rfl)
    rng := He.free_ok X G (c.fact 14 (f := .free "range") rfl)
    rep := He.free_ok X G (c.fact 15 (f := .free "repr") rfl)
    enu := He.free_ok X G (c.fact 16 (f := .free "enumerate") rfl)
    all := He.free_ok X G (c.fact 17 (f := .free "all") rfl)
    max := He.free_ok X G (c.fact 18 (f := .free "max") rfl)
    min := He.free_ok X G (c.fact 19 (f := .free "min") rfl)
    val := He.free_ok X G (c.fact 20 (f := .free "ValueError") rfl)
    sys := by
      cases e : K.lookup sysModules with
      | none =>
        rw [e] at x1
        cases x1
      | some o =>
        rw [e] at x1
        exact ⟨o, e, of_decide_eq_true x1⟩ }
theorem ix_of {P : Program} {w : World} {K : PySem.W.Frag} {mg : Str → Option Value} {base : Heap} {T : List (Addr × Str)} (FF : FX K mg) (c : He.SaysD fa fn K) : ∃ fds, IX P w K mg base T fds := by
  obtain ⟨fd0, D0⟩ := c.def_ 10 (d := ⟨("NoRelease", some "__init__"), "__init__", "NoRelease.__init__", defArgs (mth 2 0), defBody (mth 2 0), defScope (mth 2 0), [], []⟩) rfl
  have F0 : FunD K "__init__" "NoRelease.__init__" (defArgs (mth 2 0)) (defBody (mth 2 0)) (defScope (mth 2 0)) [] [] (iA K 0) fd0 := D0
  obtain ⟨fd1, D1⟩ := c.def_ 11 (d := ⟨("NoService", some "__init__"), "__init__", "NoService.__init__", defArgs (mth 3 0), defBody (mth 3 0), defScope (mth 3 0), [], []⟩) rfl
  have F1 : FunD K "__init__" "NoService.__init__" (defArgs (mth 3 0)) (defBody (mth 3 0)) (defScope (mth 3 0)) [] [] (iA K 1) fd1 := D1
  obtain ⟨fd2, D2⟩ := c.def_ 12 (d := ⟨("Unreachable", some "__init__"), "__init__", "Unreachable.__init__", defArgs (mth 4 0), defBody (mth 4 0), defScope (mth 4 0), [], []⟩) rfl
  have F2 : FunD K "__init__" "Unreachable.__init__" (defArgs (mth 4 0)) (defBody (mth 4 0)) (defScope (mth 4 0)) [] [] (iA K 2) fd2 := D2
  obtain ⟨fd3, D3⟩ := c.def_ 13 (d := ⟨("NotTwoSided", some "__init__"), "__init__", "NotTwoSided.__init__", defArgs (mth 5 0), defBody (mth 5 0), defScope (mth 5 0), [], []⟩) rfl
  have F3 : FunD K "__init__" "NotTwoSided.__init__" (defArgs (mth 5 0)) (defBody (mth 5 0)) (defScope (mth 5 0)) [] [] (iA K 3) fd3 := D3
  obtain ⟨fd4, D4⟩ := c.def_ 14 (d := ⟨("TooLarge", some "__init__"), "__init__", "TooLarge.__init__", defArgs (mth 6 0), defBody (mth 6 0), defScope (mth 6 0), [], []⟩) rfl
  have F4 : FunD K "__init__" "TooLarge.__init__" (defArgs (mth 6 0)) (defBody (mth 6 0)) (defScope (mth 6 0)) [] [] (iA K 4) fd4 := D4
  obtain ⟨fd5, D5⟩ := c.def_ 15 (d := ⟨("BadSchedule", some "__init__"), "__init__", "BadSchedule.__init__", defArgs (mth 7 0), defBody (mth 7 0), defScope (mth 7 0), [], []⟩) rfl
  have F5 : FunD K "__init__" "BadSchedule.__init__" (defArgs (mth 7 0)) (defBody (mth 7 0)) (defScope (mth 7 0)) [] [] (iA K 5) fd5 := D5
  obtain ⟨fd6, D6⟩ := c.def_ 16 (d := ⟨("NotPossible", some "__init__"), "__init__", "NotPossible.__init__", defArgs (mth 8 0), defBody (mth 8 0), defScope (mth 8 0), [], []⟩) rfl
  have F6 : FunD K "__init__" "NotPossible.__init__" (defArgs (mth 8 0)) (defBody (mth 8 0)) (defScope (mth 8 0)) [] [] (iA K 6) fd6 := D6
  obtain ⟨fd7, D7⟩ := c.def_ 17 (d := ⟨("NotUpgrade", some "__init__"), "__init__", "NotUpgrade.__init__", defArgs (mth 9 0), defBody (mth 9 0), defScope (mth 9 0), [], []⟩) rfl
  have F7 : FunD K "__init__" "NotUpgrade.__init__" (defArgs (mth 9 0)) (defBody (mth 9 0)) (defScope (mth 9 0)) [] [] (iA K 7) fd7 := D7
  obtain ⟨fd8, D8⟩ := c.def_ 18 (d := ⟨("BadPath", some "__init__"), "__init__", "BadPath.__init__", defArgs (mth 10 0), defBody (mth 10 0), defScope (mth 10 0), [], []⟩) rfl
  have F8 : FunD K "__init__" "BadPath.__init__" (defArgs (mth 10 0)) (defBody (mth 10 0)) (defScope (mth 10 0)) [] [] (iA K 8) fd8 := D8
  obtain ⟨fd9, D9⟩ := c.def_ 19 (d := ⟨("BadSkips", some "__init__"), "__init__", "BadSkips.__init__", defArgs (mth 11 0), defBody (mth 11 0), defScope (mth 11 0), [], []⟩) rfl
  have F9 : FunD K "__init__" "BadSkips.__init__" (defArgs (mth 11 0)) (defBody (mth 11 0)) (defScope (mth 11 0)) [] [] (iA K 9) fd9 := D9
  obtain ⟨fd10, D10⟩ := c.def_ 20 (d := ⟨("BadPrice", some "__init__"), "__init__", "BadPrice.__init__", defArgs (mth 12 0), defBody (mth 12 0), defScope (mth 12 0), [], []⟩) rfl
  have F10 : FunD K "__init__" "BadPrice.__init__" (defArgs (mth 12 0)) (defBody (mth 12 0)) (defScope (mth 12 0)) [] [] (iA K 10) fd10 := D10
  obtain ⟨fd11, D11⟩ := c.def_ 21 (d := ⟨("NotWave", some "__init__"), "__init__", "NotWave.__init__", defArgs (mth 13 0), defBody (mth 13 0), defScope (mth 13 0), [], []⟩) rfl
  have F11 : FunD K "__init__" "NotWave.__init__" (defArgs (mth 13 0)) (defBody (mth 13 0)) (defScope (mth 13 0)) [] [] (iA K 11) fd11 := D11
  obtain ⟨fd12, D12⟩ := c.def_ 22 (d := ⟨("BadState", some "__init__"), "__init__", "BadState.__init__", defArgs (mth 14 0), defBody (mth 14 0), defScope (mth 14 0), [], []⟩) rfl
  have F12 : FunD K "__init__" "BadState.__init__" (defArgs (mth 14 0)) (defBody (mth 14 0)) (defScope (mth 14 0)) [] [] (iA K 12) fd12 := D12
  obtain ⟨fd13, D13⟩ := c.def_ 23 (d := ⟨("Blocked", some "__init__"), "__init__", "Blocked.__init__", defArgs (mth 15 0), defBody (mth 15 0), defScope (mth 15 0), [], []⟩) rfl
  have F13 : FunD K "__init__" "Blocked.__init__" (defArgs (mth 15 0)) (defBody (mth 15 0)) (defScope (mth 15 0)) [] [] (iA K 13) fd13 := D13
  obtain ⟨fd14, D14⟩ := c.def_ 24 (d := ⟨("Mixed", some "__init__"), "__init__", "Mixed.__init__", defArgs (mth 16 0), defBody (mth 16 0), defScope (mth 16 0), [], []⟩) rfl
  have F14 : FunD K "__init__" "Mixed.__init__" (defArgs (mth 16 0)) (defBody (mth 16 0)) (defScope (mth 16 0)) [] [] (iA K 14) fd14 := D14
  obtain ⟨fd15, D15⟩ := c.def_ 25 (d := ⟨("TooDear", some "__init__"), "__init__", "TooDear.__init__", defArgs (mth 17 0), defBody (mth 17 0), defScope (mth 17 0), [], []⟩) rfl
  have F15 : FunD K "__init__" "TooDear.__init__" (defArgs (mth 17 0)) (defBody (mth 17 0)) (defScope (mth 17 0)) [] [] (iA K 15) fd15 := D15
  obtain ⟨fd16, D16⟩ := c.def_ 26 (d := ⟨("BadText", some "__init__"), "__init__", "BadText.__init__", defArgs (mth 19 0), defBody (mth 19 0), defScope (mth 19 0), [], []⟩) rfl
  have F16 : FunD K "__init__" "BadText.__init__" (defArgs (mth 19 0)) (defBody (mth 19 0)) (defScope (mth 19 0)) [] [] (iA K 16) fd16 := D16
  obtain ⟨fd17, D17⟩ := c.def_ 27 (d := ⟨("BadLine", some "__init__"), "__init__", "BadLine.__init__", defArgs (mth 20 0), defBody (mth 20 0), defScope (mth 20 0), [], []⟩) rfl
  have F17 : FunD K "__init__" "BadLine.__init__" (defArgs (mth 20 0)) (defBody (mth 20 0)) (defScope (mth 20 0)) [] [] (iA K 17) fd17 := D17
  obtain ⟨fd18, D18⟩ := c.def_ 28 (d := ⟨("NothingToUndo", some "__init__"), "__init__", "NothingToUndo.__init__", defArgs (mth 18 0), defBody (mth 18 0), defScope (mth 18 0), [], []⟩) rfl
  have F18 : FunD K "__init__" "NothingToUndo.__init__" (defArgs (mth 18 0)) (defBody (mth 18 0)) (defScope (mth 18 0)) [] [] (iA K 18) fd18 := D18
  obtain ⟨fd19, D19⟩ := c.def_ 29 (d := ⟨("NoFleet", some "__init__"), "__init__", "NoFleet.__init__", defArgs (mth 21 0), defBody (mth 21 0), defScope (mth 21 0), [], []⟩) rfl
  have F19 : FunD K "__init__" "NoFleet.__init__" (defArgs (mth 21 0)) (defBody (mth 21 0)) (defScope (mth 21 0)) [] [] (iA K 19) fd19 := D19
  refine ⟨fun i => ([fd0, fd1, fd2, fd3, fd4, fd5, fd6, fd7, fd8, fd9, fd10, fd11, fd12, fd13, fd14, fd15, fd16, fd17, fd18, fd19] : List FuncData).getD i fd0, ⟨fun i hi => ?_, fun i hi => ?_, fun i hi => ?_, fun i h1 h2 => ?_, fun i h1 h2 => ?_⟩⟩
  · match i, hi with
    | 0, _ => exact ok_i2 F0 FF.gU FF.uU (FF.xc 0 (by decide)).oex (FF.no 0 (by decide))
    | 1, _ => exact ok_i3 F1 FF.gU FF.uU (FF.xc 1 (by decide)).oex (FF.no 1 (by decide))
    | 2, _ => exact ok_i4 F2 FF.gU FF.uU (FF.xc 2 (by decide)).oex (FF.no 2 (by decide))
    | 3, _ => exact ok_i5 F3 FF.gU FF.uU (FF.xc 3 (by decide)).oex (FF.no 3 (by decide))
    | 4, _ => exact ok_i6 F4 FF.gU FF.uU (FF.xc 4 (by decide)).oex (FF.no 4 (by decide))
    | 5, _ => exact ok_i7 F5 FF.gU FF.uU (FF.xc 5 (by decide)).oex (FF.no 5 (by decide))
    | 6, _ => exact ok_i8 F6 FF.gU FF.uU (FF.xc 6 (by decide)).oex (FF.no 6 (by decide))
    | 7, _ => exact ok_i9 F7 FF.gU FF.uU (FF.xc 7 (by decide)).oex (FF.no 7 (by decide))
    | 8, _ => exact ok_i10 F8 FF.gU FF.uU (FF.xc 8 (by decide)).oex (FF.no 8 (by decide))
    | 9, _ => exact ok_i11 F9 FF.gU FF.uU (FF.xc 9 (by decide)).oex (FF.no 9 (by decide))
    | 10, _ => exact ok_i12 F10 FF.gU FF.uU (FF.xc 10 (by decide)).oex (FF.no 10 (by decide))
    | 11, _ => exact ok_i13 F11 FF.gU FF.uU (FF.xc 11 (by decide)).oex (FF.no 11 (by decide))
    | 12, _ => exact ok_i14 F12 FF.gU FF.uU (FF.xc 12 (by decide)).oex (FF.no 12 (by decide))
    | 13, _ => exact ok_i15 F13 FF.gU FF.uU (FF.xc 13 (by decide)).oex (FF.no 13 (by decide))
    | 14, _ => exact ok_i16 F14 FF.gU FF.uU (FF.xc 14 (by decide)).oex (FF.no 14 (by decide))
    | 15, _ => exact ok_i17 F15 FF.gU FF.uU (FF.xc 15 (by decide)).oex (FF.no 15 (by decide))
    | 16, _ => exact ok_i19 F16 FF.gU FF.uU (FF.xc 16 (by decide)).oex (FF.no 16 (by decide))
    | 17, _ => exact ok_i20 F17 FF.gU FF.uU (FF.xc 17 (by decide)).oex (FF.no 17 (by decide))
    | n + 18, hi => exact absurd hi (by omega)
  · match i, hi with
    | 0, _ => exact F0.bindsN fun _ _ _ _ _ _ us hl => match us, hl with | [_, _], _ => rfl
    | 1, _ => exact F1.bindsN fun _ _ _ _ _ _ us hl => match us, hl with | [_, _], _ => rfl
    | 2, _ => exact F2.bindsN fun _ _ _ _ _ _ us hl => match us, hl with | [_, _], _ => rfl
    | 3, _ => exact F3.bindsN fun _ _ _ _ _ _ us hl => match us, hl with | [_, _], _ => rfl
    | 4, _ => exact F4.bindsN fun _ _ _ _ _ _ us hl => match us, hl with | [_, _], _ => rfl
    | 5, _ => exact F5.bindsN fun _ _ _ _ _ _ us hl => match us, hl with | [_, _], _ => rfl
    | 6, _ => exact F6.bindsN fun _ _ _ _ _ _ us hl => match us, hl with | [_, _], _ => rfl
    | 7, _ => exact F7.bindsN fun _ _ _ _ _ _ us hl => match us, hl with | [_, _], _ => rfl
    | 8, _ => exact F8.bindsN fun _ _ _ _ _ _ us hl => match us, hl with | [_, _], _ => rfl
    | 9, _ => exact F9.bindsN fun _ _ _ _ _ _ us hl => match us, hl with | [_, _], _ => rfl
    | 10, _ => exact F10.bindsN fun _ _ _ _ _ _ us hl => match us, hl with | [_, _], _ => rfl
    | 11, _ => exact F11.bindsN fun _ _ _ _ _ _ us hl => match us, hl with | [_, _], _ => rfl
    | 12, _ => exact F12.bindsN fun _ _ _ _ _ _ us hl => match us, hl with | [_, _], _ => rfl
    | 13, _ => exact F13.bindsN fun _ _ _ _ _ _ us hl => match us, hl with | [_, _], _ => rfl
    | 14, _ => exact F14.bindsN fun _ _ _ _ _ _ us hl => match us, hl with | [_, _], _ => rfl
    | 15, _ => exact F15.bindsN fun _ _ _ _ _ _ us hl => match us, hl with | [_, _], _ => rfl
    | 16, _ => exact F16.bindsN fun _ _ _ _ _ _ us hl => match us, hl with | [_, _], _ => rfl
    | 17, _ => exact F17.bindsN fun _ _ _ _ _ _ us hl => match us, hl with | [_, _], _ => rfl
    | n + 18, hi => exact absurd hi (by omega)
  · match i, hi with
    | 0, _ => exact FunD.kb (n := 1) (ks := ["value"]) F0 fun _ _ _ _ _ _ us ws h1 h2 => match us, ws, h1, h2 with | [_], [_], _, _ => rfl
    | 1, _ => exact FunD.kb (n := 1) (ks := ["value"]) F1 fun _ _ _ _ _ _ us ws h1 h2 => match us, ws, h1, h2 with | [_], [_], _, _ => rfl
    | 2, _ => exact FunD.kb (n := 1) (ks := ["names"]) F2 fun _ _ _ _ _ _ us ws h1 h2 => match us, ws, h1, h2 with | [_], [_], _, _ => rfl
    | 3, _ => exact FunD.kb (n := 1) (ks := ["cycle"]) F3 fun _ _ _ _ _ _ us ws h1 h2 => match us, ws, h1, h2 with | [_], [_], _, _ => rfl
    | 4, _ => exact FunD.kb (n := 1) (ks := ["limit"]) F4 fun _ _ _ _ _ _ us ws h1 h2 => match us, ws, h1, h2 with | [_], [_], _, _ => rfl
    | 5, _ => exact FunD.kb (n := 1) (ks := ["value"]) F5 fun _ _ _ _ _ _ us ws h1 h2 => match us, ws, h1, h2 with | [_], [_], _, _ => rfl
    | 6, _ => exact FunD.kb (n := 1) (ks := ["index"]) F6 fun _ _ _ _ _ _ us ws h1 h2 => match us, ws, h1, h2 with | [_], [_], _, _ => rfl
    | 7, _ => exact FunD.kb (n := 1) (ks := ["value"]) F7 fun _ _ _ _ _ _ us ws h1 h2 => match us, ws, h1, h2 with | [_], [_], _, _ => rfl
    | 8, _ => exact FunD.kb (n := 1) (ks := ["value"]) F8 fun _ _ _ _ _ _ us ws h1 h2 => match us, ws, h1, h2 with | [_], [_], _, _ => rfl
    | 9, _ => exact FunD.kb (n := 1) (ks := ["value"]) F9 fun _ _ _ _ _ _ us ws h1 h2 => match us, ws, h1, h2 with | [_], [_], _, _ => rfl
    | 10, _ => exact FunD.kb (n := 1) (ks := ["name"]) F10 fun _ _ _ _ _ _ us ws h1 h2 => match us, ws, h1, h2 with | [_], [_], _, _ => rfl
    | 11, _ => exact FunD.kb (n := 1) (ks := ["value"]) F11 fun _ _ _ _ _ _ us ws h1 h2 => match us, ws, h1, h2 with | [_], [_], _, _ => rfl
    | 12, _ => exact FunD.kb (n := 1) (ks := ["value"]) F12 fun _ _ _ _ _ _ us ws h1 h2 => match us, ws, h1, h2 with | [_], [_], _, _ => rfl
    | 13, _ => exact FunD.kb (n := 1) (ks := ["services"]) F13 fun _ _ _ _ _ _ us ws h1 h2 => match us, ws, h1, h2 with | [_], [_], _, _ => rfl
    | 14, _ => exact FunD.kb (n := 1) (ks := ["present"]) F14 fun _ _ _ _ _ _ us ws h1 h2 => match us, ws, h1, h2 with | [_], [_], _, _ => rfl
    | 15, _ => exact FunD.kb (n := 1) (ks := ["price"]) F15 fun _ _ _ _ _ _ us ws h1 h2 => match us, ws, h1, h2 with | [_], [_], _, _ => rfl
    | 16, _ => exact FunD.kb (n := 1) (ks := ["value"]) F16 fun _ _ _ _ _ _ us ws h1 h2 => match us, ws, h1, h2 with | [_], [_], _, _ => rfl
    | 17, _ => exact FunD.kb (n := 1) (ks := ["line"]) F17 fun _ _ _ _ _ _ us ws h1 h2 => match us, ws, h1, h2 with | [_], [_], _, _ => rfl
    | n + 18, hi => exact absurd hi (by omega)
  · match i, h1, h2 with
    | i, h1, h2 =>
      have e : i = 18 ∨ i = 19 := by omega
      rcases e with rfl | rfl
      · exact ok_i18 F18 FF.gU FF.uU (FF.xc 18 (by decide)).oex
      · exact ok_i21 F19 FF.gU FF.uU (FF.xc 19 (by decide)).oex
  · have e : i = 18 ∨ i = 19 := by omega
    rcases e with rfl | rfl
    · exact F18.bindsN fun _ _ _ _ _ _ us hl => match us, hl with | [_], _ => rfl
    · exact F19.bindsN fun _ _ _ _ _ _ us hl => match us, hl with | [_], _ => rfl
theorem law_of {P : Program} {w : World} {K : PySem.W.Frag} {h : Heap} {mg : Str → Option Value} {f : Addr} (X : K.In h) (G : h.Ns mainGlobals mg) (hf : mg ("law" : Str) = some (.ref f)) (c : He.SaysD fa fn K) (x : exB K = true) :
    ∃ fd : FuncData, (∀ (s : Shared) (u : Value), BindsTo s fd ⟨[u], []⟩ [("_law_script", u)]) ∧ ∀ base : Heap, FnG P w K mg base (L2.CX P w) 5 f fd ["_law_script"] (toSp K [] spLaw) := by
  have FF := fx_of X G c x
  obtain ⟨fd0, D0⟩ := c.def_ 0 (d := ⟨("_law_deck", none), "_law_deck", "_law_deck", defArgs (top 23), defBody (top 23), defScope (top 23), [], []⟩) rfl
  have F0 : FnP K "_law_deck" (top 23) (He.ga K "_law_deck") fd0 := D0
  have g0 : mg "_law_deck" = some (.ref (He.ga K "_law_deck")) := He.glo_ok X G (c.fact 0 (f := .glo "_law_deck") rfl)
  obtain ⟨fd1, D1⟩ := c.def_ 1 (d := ⟨("_law_draw", none), "_law_draw", "_law_draw", defArgs (top 24), defBody (top 24), defScope (top 24), [], []⟩) rfl
  have F1 : FnP K "_law_draw" (top 24) (He.ga K "_law_draw") fd1 := D1
  have g1 : mg "_law_draw" = some (.ref (He.ga K "_law_draw")) := He.glo_ok X G (c.fact 1 (f := .glo "_law_draw") rfl)
  obtain ⟨fd2, D2⟩ := c.def_ 2 (d := ⟨("_law_any", none), "_law_any", "_law_any", defArgs (top 25), defBody (top 25), defScope (top 25), [], []⟩) rfl
  have F2 : FnP K "_law_any" (top 25) (He.ga K "_law_any") fd2 := D2
  have g2 : mg "_law_any" = some (.ref (He.ga K "_law_any")) := He.glo_ok X G (c.fact 2 (f := .glo "_law_any") rfl)
  obtain ⟨fd3, D3⟩ := c.def_ 3 (d := ⟨("_law_kinds", none), "_law_kinds", "_law_kinds", defArgs (top 26), defBody (top 26), defScope (top 26), [], []⟩) rfl
  have F3 : FnP K "_law_kinds" (top 26) (He.ga K "_law_kinds") fd3 := D3
  have g3 : mg "_law_kinds" = some (.ref (He.ga K "_law_kinds")) := He.glo_ok X G (c.fact 3 (f := .glo "_law_kinds") rfl)
  obtain ⟨fd4, D4⟩ := c.def_ 4 (d := ⟨("_law_by_place", none), "_law_by_place", "_law_by_place", defArgs (top 27), defBody (top 27), defScope (top 27), [], []⟩) rfl
  have F4 : FnP K "_law_by_place" (top 27) (He.ga K "_law_by_place") fd4 := D4
  have g4 : mg "_law_by_place" = some (.ref (He.ga K "_law_by_place")) := He.glo_ok X G (c.fact 4 (f := .glo "_law_by_place") rfl)
  obtain ⟨fd5, D5⟩ := c.def_ 5 (d := ⟨("_law_by_name", none), "_law_by_name", "_law_by_name", defArgs (top 28), defBody (top 28), defScope (top 28), [], []⟩) rfl
  have F5 : FnP K "_law_by_name" (top 28) (He.ga K "_law_by_name") fd5 := D5
  have g5 : mg "_law_by_name" = some (.ref (He.ga K "_law_by_name")) := He.glo_ok X G (c.fact 5 (f := .glo "_law_by_name") rfl)
  obtain ⟨fd6, D6⟩ := c.def_ 6 (d := ⟨("_law_kept", none), "_law_kept", "_law_kept", defArgs (top 29), defBody (top 29), defScope (top 29), [], []⟩) rfl
  have F6 : FnP K "_law_kept" (top 29) (He.ga K "_law_kept") fd6 := D6
  have g6 : mg "_law_kept" = some (.ref (He.ga K "_law_kept")) := He.glo_ok X G (c.fact 6 (f := .glo "_law_kept") rfl)
  obtain ⟨fd7, D7⟩ := c.def_ 7 (d := ⟨("_law_thing", none), "_law_thing", "_law_thing", defArgs (top 30), defBody (top 30), defScope (top 30), [], []⟩) rfl
  have F7 : FnP K "_law_thing" (top 30) (He.ga K "_law_thing") fd7 := D7
  have g7 : mg "_law_thing" = some (.ref (He.ga K "_law_thing")) := He.glo_ok X G (c.fact 7 (f := .glo "_law_thing") rfl)
  obtain ⟨fd8, D8⟩ := c.def_ 8 (d := ⟨("_law_right", none), "_law_right", "_law_right", defArgs (top 31), defBody (top 31), defScope (top 31), [], []⟩) rfl
  have F8 : FnP K "_law_right" (top 31) (He.ga K "_law_right") fd8 := D8
  have g8 : mg "_law_right" = some (.ref (He.ga K "_law_right")) := He.glo_ok X G (c.fact 8 (f := .glo "_law_right") rfl)
  obtain ⟨fd9, D9⟩ := c.def_ 9 (d := ⟨("law", none), "law", "law", defArgs (top 32), defBody (top 32), defScope (top 32), [], []⟩) rfl
  have F9 : FnP K "law" (top 32) (He.ga K "law") fd9 := D9
  have g9 : mg "law" = some (.ref (He.ga K "law")) := He.glo_ok X G (c.fact 9 (f := .glo "law") rfl)
  obtain rfl : f = He.ga K "law" := Value.ref.inj (Option.some.inj (hf.symm.trans g9))
  refine ⟨fd9, fun s u => FunD.bindsA (ps := ["_law_script"]) F9 (fun _ _ _ _ _ _ us hl => match us, hl with | [_], _ => rfl) s [u] rfl, fun base => ?_⟩
  obtain ⟨fds, I⟩ := ix_of (P := P) (w := w) (base := base) (T := []) FF c
  exact ok_law FF F9 F0 F7 F8 F3 g0 g7 g8 g3 (ok_thing FF F7 F2 F1 g2 g1) (ok_right FF I F8 F4 F5 F6 F3 g4 g5 g6 g3)
end K51
open PySem PySem.W PySem.Calls PyProof.Rows
theorem PySem.Challenge.cw_gridupgrade_k51_errors_holds : PySem.Challenge.rw_gridupgrade_k51_errors.Holds := by
  w_on; o_law
  refine HandSHeadRun.head_any (r := OpenLaw.row PySem.Challenge.rw_gridupgrade_k51_errors) (q := view (OpenLaw.row PySem.Challenge.rw_gridupgrade_k51_errors).prog [32]) (H := K51.hk) (ob := K51.ob) (M := 20000) (loose := K51.names) (d := HandSHeadRun.topDef (OpenLaw.row PySem.Challenge.rw_gridupgrade_k51_errors).prog 32) (kwd := []) K51.ob_eq
    (by kernel_rfl) (fun s => by kernel_rfl) K51.run (by kernel_rfl) (by kernel_rfl) (by kernel_rfl) (by rfl) (by first | assumption | decide +kernel) (by decide +kernel) ⟨rfl, rfl, rfl, rfl, rfl, by decide +kernel⟩ ?hw ?hc
  case hw => w_witness2
  case hc =>
    refine DL.walk_ofG (l := PySem.Challenge.rw_gridupgrade_k51_errors) (n := 63) (k := 5) (x := "_law_script") (CX := fun w => L2.CX (PySem.Challenge.rw_gridupgrade_k51_errors).prog w) rfl (by decide) (by kernel_rfl) ⟨rfl, by decide, by decide⟩ ?F (fun _ _ _ _ _ ⟨_, _, _, _, _, _, _, _, _, _, _, _, z⟩ => z)
    intro w mg fa h Y G hmg0
    obtain ⟨K, KX, c, x⟩ := Y
    have hmg : mg ("law" : PySem.Str) = some (.ref fa) := by
      have e : (HandSHeadRun.topDef (OpenLaw.row PySem.Challenge.rw_gridupgrade_k51_errors).prog 32).name = ("law" : PySem.Str) := by kernel_rfl
      rw [← e]
      exact hmg0
    obtain ⟨fd, hb, hF⟩ := K51.law_of (P := (PySem.Challenge.rw_gridupgrade_k51_errors).prog) (w := w) KX G hmg c x
    refine ⟨K, KX, fd, [], DL.toSp K [] K51.spLaw, fun p hp => (by cases hp), fun p hp => (by cases hp), fun p hp => (by cases hp), hb, fun H a ns hl _ _ hS => ?_, fun base _ _ _ => hF base⟩
    refine ⟨fun _ => none, [.dat (.list (ns.map PyData.int))], fun _ => none, H, fun v _ => v = .dat (.bool true), fun _ _ _ => False, ⟨DL.Kp.refl _, fun b e => e, fun p o e => (by cases e), fun p o e => (by cases e), fun p o e => (by cases e), fun x hx => (by cases hx)⟩, .cons (DL.At.lst hS (by rw [List.length_map]; exact Nat.le_trans hl (by decide)) (K51.atall_ints ns)) .nil, ⟨ns, rfl, rfl⟩, fun v y O' Hk' H' _ _ r e => ?_, fun _ _ _ _ _ _ _ _ _ z => z⟩
    subst e
    cases r
    rfl
