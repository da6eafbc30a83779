import PyProof.Rows.All
import Wide.All
import OpenK.AllK
import Wide.FinOn
import HandS.ForMost
import HandS.ForExc
import HandS.Deep
import HandS.Wide
import HandS.Replace
import HandS.Style
import HandS.Zip
import HandS.Rev
import KE.KExcIs
import HandS.Strs
import HandS.ReplaceLit
import KE.IntBitsLaws
import PyProof.P3Eq
import PyProof.StrLawsChain
import PySem.Challenge.RW_keptworths_k55_histories_that_are_none
set_option Elab.async false
set_option linter.all false
set_option maxRecDepth 100000
/-! DF1: data by value, the store of objects that change, how the abstract heap bears them. -/
namespace DF
open PySem PySem.Spec PyProof.Rows L2

/-! ### data -/
/-- what a value is, by value; c: a class by number -/
inductive D where
  | non | bl (b : Bool) | int (i : Int) | str (x : Str)
  | lst (ds : List D) | tup (ds : List D)
  | dic (ks : List Key) (ds : List D)
  | obj (c : Nat) (fs : List Str) (ds : List D)

/-- what an object holds: data, or an object that lives on -/
inductive KV where
  | d (x : D)
  | obj (n : Nat)
/-- a value of a name: data, an object of this frame (or of a caller), an object that lives on; the exception that a suite holds: its class, its value -/
inductive SV where
  | d (x : D)
  | loc (n : Nat)
  | obj (n : Nat)
  | err (c : Nat) (x : D)

/-- an object of the store -/
inductive Cell where
  | dead
  | frz (x : D)
  | ro (ds : List D)
  | lst (ds : List D)
  | dic (ks : List Key) (ds : List D)
  | olst (xs : List KV)
  | oins (c : Nat) (fs : List Str) (xs : List KV)

/-- an expression's value: data, a place of the store, or a new object that is in no place yet -/
inductive Res where
  | d (x : D)
  | loc (n : Nat)
  | obj (n : Nat)
  | tmp (c : Cell)

abbrev En := List (Option SV)
/-- the store: m the frames' own objects, k those that live on -/
structure Sto where
  m : List Cell
  k : List Cell
/-- where they are -/
structure Ad where
  m : List Addr
  k : List Addr
inductive Pl where
  | m (n : Nat)
  | k (n : Nat)
  deriving DecidableEq
def Sto.at (μ : Sto) : Pl → Option Cell
  | .m n => μ.m[n]?
  | .k n => μ.k[n]?
def Ad.at (ms : Ad) : Pl → Option Addr
  | .m n => ms.m[n]?
  | .k n => ms.k[n]?
def Sto.put (μ : Sto) : Pl → Cell → Sto
  | .m n, c => ⟨μ.m.set n c, μ.k⟩
  | .k n, c => ⟨μ.m, μ.k.set n c⟩
def Sto.pushM (μ : Sto) (c : Cell) : Sto := ⟨μ.m ++ [c], μ.k⟩
def Sto.pushK (μ : Sto) (c : Cell) : Sto := ⟨μ.m, μ.k ++ [c]⟩
def Ad.pushM (ms : Ad) (a : Addr) : Ad := ⟨ms.m ++ [a], ms.k⟩
def Ad.pushK (ms : Ad) (a : Addr) : Ad := ⟨ms.m, ms.k ++ [a]⟩
theorem Sto.at_put_self {μ : Sto} {p : Pl} {c d : Cell} (h : μ.at p = some d) : (μ.put p c).at p = some c := by
  cases p with
  | m n => exact List.getElem?_set_self (List.getElem?_eq_some_iff.mp h).1
  | k n => exact List.getElem?_set_self (List.getElem?_eq_some_iff.mp h).1
theorem Sto.at_put_self' {μ : Sto} {p : Pl} {c d : Cell} (h : (μ.put p c).at p = some d) : d = c := by
  cases p with
  | m n =>
    have h : (μ.m.set n c)[n]? = some d := h
    rw [List.getElem?_set_self'] at h
    cases q : μ.m[n]? with
    | none => rw [q] at h; cases h
    | some z => rw [q] at h; simpa using h.symm
  | k n =>
    have h : (μ.k.set n c)[n]? = some d := h
    rw [List.getElem?_set_self'] at h
    cases q : μ.k[n]? with
    | none => rw [q] at h; cases h
    | some z => rw [q] at h; simpa using h.symm
theorem Sto.at_put_was {μ : Sto} {p : Pl} {c d : Cell} (h : (μ.put p c).at p = some d) : ∃ e, μ.at p = some e := by
  cases p with
  | m n =>
    have h : (μ.m.set n c)[n]? = some d := h
    rw [List.getElem?_set_self'] at h
    cases q : μ.m[n]? with
    | none => rw [q] at h; cases h
    | some z => exact ⟨z, q⟩
  | k n =>
    have h : (μ.k.set n c)[n]? = some d := h
    rw [List.getElem?_set_self'] at h
    cases q : μ.k[n]? with
    | none => rw [q] at h; cases h
    | some z => exact ⟨z, q⟩
theorem Sto.at_put_ne {μ : Sto} {p q : Pl} {c : Cell} (h : p ≠ q) : (μ.put p c).at q = μ.at q := by
  cases p with
  | m n =>
    cases q with
    | m j => exact List.getElem?_set_ne fun z => h (by rw [z])
    | k j => rfl
  | k n =>
    cases q with
    | m j => rfl
    | k j => exact List.getElem?_set_ne fun z => h (by rw [z])
theorem Sto.put_put {μ : Sto} {p : Pl} {c d : Cell} : (μ.put p c).put p d = μ.put p d := by
  cases p with
  | m n => show Sto.mk ((μ.m.set n c).set n d) μ.k = _; rw [List.set_set]; rfl
  | k n => show Sto.mk μ.m ((μ.k.set n c).set n d) = _; rw [List.set_set]; rfl
/-- the lists are of one length -/
def LenOk (ms : Ad) (μ : Sto) : Prop := ms.m.length = μ.m.length ∧ ms.k.length = μ.k.length
theorem LenOk.put {ms : Ad} {μ : Sto} (h : LenOk ms μ) (p : Pl) (c : Cell) : LenOk ms (μ.put p c) := by
  cases p with
  | m n => exact ⟨by show _ = (μ.m.set n c).length; rw [List.length_set]; exact h.1, h.2⟩
  | k n => exact ⟨h.1, by show _ = (μ.k.set n c).length; rw [List.length_set]; exact h.2⟩
theorem LenOk.some {ms : Ad} {μ : Sto} (h : LenOk ms μ) {p : Pl} {c : Cell} (e : μ.at p = some c) : ∃ a, ms.at p = some a := by
  cases p with
  | m n =>
    have hn : n < ms.m.length := by rw [h.1]; exact (List.getElem?_eq_some_iff.mp e).1
    exact ⟨_, List.getElem?_eq_getElem hn⟩
  | k n =>
    have hn : n < ms.k.length := by rw [h.2]; exact (List.getElem?_eq_some_iff.mp e).1
    exact ⟨_, List.getElem?_eq_getElem hn⟩

def live : Cell → Bool
  | .dead => false | .frz _ => false | .ro _ => false
  | _ => true

/-- K: the written part; cls: the classes by number; er: the exception that is held (its address, class, own dict) -/
structure Gm where
  K : PySem.W.Frag
  cls : Nat → Addr
  er : Addr → Nat → Addr → Prop

/-- the heap bears a datum at a value -/
inductive All2 {α β : Type} (R : α → β → Prop) : List α → List β → Prop
  | nil : All2 R [] []
  | cons {a b as bs} : R a b → All2 R as bs → All2 R (a :: as) (b :: bs)

def strOk (x : Str) : Prop := ∀ c ∈ x.cps.toList, c < 0x110000

mutual
inductive Rp (G : Gm) (F : Hp) : V → D → Prop
  | non : Rp G F .non .non
  | bl (b : Bool) : Rp G F (.bl b) (.bl b)
  | int (i : Int) : Rp G F (.int i) (.int i)
  | str {x : Str} : strOk x → Rp G F (.str x) (.str x)
  | lst {a : Addr} {vs : List V} {ds : List D} : F a = some (.lst vs) → RpL G F vs ds → Rp G F (.ref a) (.lst ds)
  | tup {a : Addr} {vs : List V} {ds : List D} : SqT G.K F a vs → RpL G F vs ds → Rp G F (.ref a) (.tup ds)
  | dic {a : Addr} {kvs : List (Key × V)} {ds : List D} {ks : List Key} : F a = some (.dK kvs) → kvs.map (·.1) = ks → RpL G F (kvs.map (·.2)) ds → Rp G F (.ref a) (.dic ks ds)
  | obj {a dx : Addr} {c : Nat} {fvs : List (Str × V)} {fs : List Str} {ds : List D} : F a = some (.ins (G.cls c) dx fvs) → fvs.map (·.1) = fs → RpL G F (fvs.map (·.2)) ds → Rp G F (.ref a) (.obj c fs ds)
inductive RpL (G : Gm) (F : Hp) : List V → List D → Prop
  | nil : RpL G F [] []
  | cons {v : V} {vs : List V} {d : D} {ds : List D} : Rp G F v d → RpL G F vs ds → RpL G F (v :: vs) (d :: ds)
end

abbrev Le (F F' : Hp) : Prop := ∀ a o, F a = some o → F' a = some o
theorem Le.refl (F : Hp) : Le F F := fun _ _ h => h
theorem Le.trans {F F' F'' : Hp} (h : Le F F') (h' : Le F' F'') : Le F F'' := fun a o e => h' a o (h a o e)

section
variable {G : Gm} {F F' H H' : Hp}
theorem SqT.mono' {K : PySem.W.Frag} {a : Addr} {vs : List V} (h : Le F F') : SqT K F a vs → SqT K F' a vs
  | .inl (.inl e) => .inl (.inl (h _ _ e))
  | .inl (.inr ⟨o, e⟩) => .inl (.inr ⟨o, h _ _ e⟩)
  | .inr e => .inr e
theorem SqL.mono' {K : PySem.W.Frag} {a : Addr} {vs : List V} (h : Le F F') : SqL K F a vs → SqL K F' a vs
  | .inl (.inl e) => .inl (.inl (h _ _ e))
  | .inl (.inr ⟨o, e⟩) => .inl (.inr ⟨o, h _ _ e⟩)
  | .inr e => .inr e
mutual
theorem Rp.mono (h : Le F F') : ∀ {v : V} {d : D}, Rp G F v d → Rp G F' v d
  | _, _, .non => .non
  | _, _, .bl b => .bl b
  | _, _, .int i => .int i
  | _, _, .str x => .str x
  | _, _, .lst e r => .lst (h _ _ e) (RpL.mono h r)
  | _, _, .tup e r => .tup (SqT.mono' h e) (RpL.mono h r)
  | _, _, .dic e k r => .dic (h _ _ e) k (RpL.mono h r)
  | _, _, .obj e k r => .obj (h _ _ e) k (RpL.mono h r)
theorem RpL.mono (h : Le F F') : ∀ {vs : List V} {ds : List D}, RpL G F vs ds → RpL G F' vs ds
  | _, _, .nil => .nil
  | _, _, .cons r t => .cons (Rp.mono h r) (RpL.mono h t)
end
theorem RpL.length : ∀ {vs : List V} {ds : List D}, RpL G F vs ds → vs.length = ds.length
  | _, _, .nil => rfl
  | _, _, .cons _ t => by rw [List.length_cons, List.length_cons, RpL.length t]
theorem RpL.get : ∀ {vs : List V} {ds : List D} {i : Nat} {d : D}, RpL G F vs ds → ds[i]? = some d → ∃ v, vs[i]? = some v ∧ Rp G F v d
  | _, _, _, _, .nil, e => by simp at e
  | _, _, 0, _, .cons r _, e => by simp at e; subst e; exact ⟨_, rfl, r⟩
  | _, _, i + 1, d, .cons _ t, e => by
    obtain ⟨v, h1, h2⟩ := RpL.get (i := i) (d := d) t (by simpa using e)
    exact ⟨v, by simpa using h1, h2⟩
theorem RpL.get' : ∀ {vs : List V} {ds : List D} {i : Nat} {v : V}, RpL G F vs ds → vs[i]? = some v → ∃ d, ds[i]? = some d ∧ Rp G F v d
  | _, _, _, _, .nil, e => by simp at e
  | _, _, 0, _, .cons r _, e => by simp at e; subst e; exact ⟨_, rfl, r⟩
  | _, _, i + 1, d, .cons _ t, e => by
    obtain ⟨v, h1, h2⟩ := RpL.get' (i := i) (v := d) t (by simpa using e)
    exact ⟨v, by simpa using h1, h2⟩
theorem RpL.append : ∀ {vs ws : List V} {ds es : List D}, RpL G F vs ds → RpL G F ws es → RpL G F (vs ++ ws) (ds ++ es)
  | _, _, _, _, .nil, s => s
  | _, _, _, _, .cons r t, s => .cons r (RpL.append t s)
theorem RpL.take : ∀ {vs : List V} {ds : List D} (n : Nat), RpL G F vs ds → RpL G F (vs.take n) (ds.take n)
  | _, _, 0, _ => .nil
  | _, _, _ + 1, .nil => .nil
  | _, _, n + 1, .cons r t => .cons r (RpL.take n t)
theorem RpL.drop : ∀ {vs : List V} {ds : List D} (n : Nat), RpL G F vs ds → RpL G F (vs.drop n) (ds.drop n)
  | _, _, 0, r => r
  | _, _, _ + 1, .nil => .nil
  | _, _, n + 1, .cons _ t => RpL.drop n t
theorem RpL.set {v : V} {d : D} (r : Rp G F v d) : ∀ {vs : List V} {ds : List D} (i : Nat), RpL G F vs ds → RpL G F (vs.set i v) (ds.set i d)
  | _, _, _, .nil => .nil
  | _, _, 0, .cons _ t => .cons r t
  | _, _, i + 1, .cons q t => .cons q (RpL.set r i t)
theorem RpL.eraseIdx : ∀ {vs : List V} {ds : List D} (i : Nat), RpL G F vs ds → RpL G F (vs.eraseIdx i) (ds.eraseIdx i)
  | _, _, _, .nil => .nil
  | _, _, 0, .cons _ t => t
  | _, _, i + 1, .cons q t => .cons q (RpL.eraseIdx i t)
theorem RpL.reverse {vs : List V} {ds : List D} (h : RpL G F vs ds) : RpL G F vs.reverse ds.reverse := by
  induction vs generalizing ds with
  | nil => cases h; exact .nil
  | cons v vs ih =>
    cases h with
    | cons r t => rw [List.reverse_cons, List.reverse_cons]; exact (ih t).append (.cons r .nil)
theorem RpL.flat {vs : List V} {ds : List D} (h : RpL G F vs ds) : ∀ n : Nat, RpL G F (List.replicate n vs).flatten (List.replicate n ds).flatten
  | 0 => .nil
  | n + 1 => by rw [List.replicate_succ, List.replicate_succ, List.flatten_cons, List.flatten_cons]; exact h.append (RpL.flat h n)
theorem RpL.dropLast {vs : List V} {ds : List D} (h : RpL G F vs ds) : RpL G F vs.dropLast ds.dropLast := by
  rw [List.dropLast_eq_take, List.dropLast_eq_take, h.length]; exact h.take _
theorem RpL.ints : ∀ {ns : List Int}, RpL G F (ns.map V.int) (ns.map D.int)
  | [] => .nil
  | n :: r => .cons (.int n) RpL.ints
theorem RpL.strs : ∀ {xs : List Str}, (∀ x ∈ xs, strOk x) → RpL G F (xs.map V.str) (xs.map D.str)
  | [], _ => .nil
  | x :: r, h => .cons (.str (h x (by simp))) (RpL.strs fun y hy => h y (by simp [hy]))
theorem RpL.strs_of : ∀ {xs : List Str} {vs : List V}, RpL G F vs (xs.map D.str) → vs = xs.map V.str
  | [], _, h => by cases h; rfl
  | x :: r, _, h => by
    cases h with
    | cons h1 h2 => cases h1; rw [RpL.strs_of h2]; rfl
end

/-! ### the store -/
def Live (ms : Ad) (μ : Sto) (a : Addr) : Prop := ∃ (p : Pl) (c : Cell), ms.at p = some a ∧ μ.at p = some c ∧ live c = true

def KVR (G : Gm) (F : Hp) (ms : Ad) (v : V) : KV → Prop
  | .d x => Rp G F v x
  | .obj n => ∃ a : Addr, ms.at (.k n) = some a ∧ v = .ref a
def SVR (G : Gm) (F : Hp) (ms : Ad) (v : V) : SV → Prop
  | .d x => Rp G F v x
  | .loc n => ∃ a : Addr, ms.at (.m n) = some a ∧ v = .ref a
  | .obj n => ∃ a : Addr, ms.at (.k n) = some a ∧ v = .ref a
  | .err c x => ∃ (a dd : Addr) (w : V), v = .ref a ∧ G.er a c dd ∧ F dd = some (.xd [("value", w)]) ∧ Rp G F w x

def CR (G : Gm) (F : Hp) (ms : Ad) (H : Hp) (a : Addr) : Cell → Prop
  | .dead => True
  | .frz x => Rp G F (.ref a) x
  | .ro ds => ∃ vs, SqL G.K F a vs ∧ RpL G F vs ds
  | .lst ds => ∃ vs, H a = some (.lst vs) ∧ RpL G F vs ds
  | .dic ks ds => ∃ kvs : List (Key × V), H a = some (.dK kvs) ∧ kvs.map (·.1) = ks ∧ RpL G F (kvs.map (·.2)) ds
  | .olst xs => ∃ vs, H a = some (.lst vs) ∧ All2 (KVR G F ms) vs xs
  | .oins c fs xs => ∃ (dx : Addr) (fvs : List (Str × V)), H a = some (.ins (G.cls c) dx fvs) ∧ fvs.map (·.1) = fs ∧ All2 (KVR G F ms) (fvs.map (·.2)) xs

/-- the store stands: F what stays for ever, ms where the objects are -/
structure StOk (G : Gm) (F : Hp) (ms : Ad) (μ : Sto) (H : Hp) : Prop where
  sub : Le F H
  len : LenOk ms μ
  cell : ∀ p a c, ms.at p = some a → μ.at p = some c → CR G F ms H a c
  inj : ∀ p q a c c', ms.at p = some a → ms.at q = some a → μ.at p = some c → μ.at q = some c' → live c = true → live c' = true → p = q
  off : ∀ a, Live ms μ a → F a = none

structure EnvOk (G : Gm) (F : Hp) (ms : Ad) (σ : L2.St) (ρ : En) : Prop where
  len : ρ.length ≤ σ.length
  get : ∀ (i : Nat) x, ρ[i]? = some (some x) → ∃ v, σ[i]? = some (some v) ∧ SVR G F ms v x

abbrev Pre (ms ms' : Ad) : Prop := ∀ p a, ms.at p = some a → ms'.at p = some a
/-- how the state goes on -/
structure Go (F : Hp) (ms : Ad) (μ : Sto) (H : Hp) (F' : Hp) (ms' : Ad) (μ' : Sto) (H' : Hp) : Prop where
  mono : Le F F'
  pre : Pre ms ms'
  keep : ∀ a o, H a = some o → ¬ Live ms μ a → H' a = some o ∧ (F a = none → F' a = none)
  lives : ∀ a, Live ms' μ' a → Live ms μ a ∨ H a = none
  stay : ∀ a, H' a = none → H a = none

/-- a result stands; Ow: what the caller may own -/
def RR (G : Gm) (F : Hp) (ms : Ad) (μ : Sto) (H : Hp) (Ow : Addr → Prop) (v : V) : Res → Prop
  | .d x => Rp G F v x
  | .loc n => ∃ a : Addr, ms.at (.m n) = some a ∧ v = .ref a
  | .obj n => ∃ a : Addr, ms.at (.k n) = some a ∧ v = .ref a
  | .tmp c => ∃ a, v = .ref a ∧ F a = none ∧ ¬ Live ms μ a ∧ live c = true ∧ CR G F ms H a c ∧ Ow a

section
variable {G : Gm} {F F' F'' H H' H'' : Hp} {ms ms' ms'' : Ad} {μ μ' μ'' : Sto}
theorem SVR.mono (h : Le F F') (p : Pre ms ms') {v : V} : ∀ {x : SV}, SVR G F ms v x → SVR G F' ms' v x
  | .d _, r => Rp.mono h r
  | .loc n, ⟨a, e, q⟩ => ⟨a, p _ _ e, q⟩
  | .obj n, ⟨a, e, q⟩ => ⟨a, p _ _ e, q⟩
  | .err c x, ⟨a, dd, w, e, q, f, r⟩ => ⟨a, dd, w, e, q, h _ _ f, Rp.mono h r⟩
theorem KVR.mono (h : Le F F') (p : Pre ms ms') {v : V} : ∀ {x : KV}, KVR G F ms v x → KVR G F' ms' v x
  | .d _, r => Rp.mono h r
  | .obj n, ⟨a, e, q⟩ => ⟨a, p _ _ e, q⟩
theorem All2.mono {α β : Type} {R R' : α → β → Prop} (h : ∀ a b, R a b → R' a b) : ∀ {as : List α} {bs : List β}, All2 R as bs → All2 R' as bs
  | _, _, .nil => .nil
  | _, _, .cons r t => .cons (h _ _ r) (All2.mono h t)
theorem All2.length {α β : Type} {R : α → β → Prop} : ∀ {as : List α} {bs : List β}, All2 R as bs → as.length = bs.length
  | _, _, .nil => rfl
  | _, _, .cons _ t => by rw [List.length_cons, List.length_cons, All2.length t]
theorem All2.get {α β : Type} {R : α → β → Prop} : ∀ {as : List α} {bs : List β} {i : Nat} {b : β}, All2 R as bs → bs[i]? = some b → ∃ a, as[i]? = some a ∧ R a b
  | _, _, _, _, .nil, e => by simp at e
  | _, _, 0, _, .cons r _, e => by simp at e; subst e; exact ⟨_, rfl, r⟩
  | _, _, i + 1, b, .cons _ t, e => by
    obtain ⟨a, h1, h2⟩ := All2.get (i := i) (b := b) t (by simpa using e)
    exact ⟨a, by simpa using h1, h2⟩
theorem All2.append {α β : Type} {R : α → β → Prop} : ∀ {as as' : List α} {bs bs' : List β}, All2 R as bs → All2 R as' bs' → All2 R (as ++ as') (bs ++ bs')
  | _, _, _, _, .nil, s => s
  | _, _, _, _, .cons r t, s => .cons r (All2.append t s)
theorem All2.set {α β : Type} {R : α → β → Prop} {a : α} {b : β} (r : R a b) : ∀ {as : List α} {bs : List β} (i : Nat), All2 R as bs → All2 R (as.set i a) (bs.set i b)
  | _, _, _, .nil => .nil
  | _, _, 0, .cons _ t => .cons r t
  | _, _, i + 1, .cons q t => .cons q (All2.set r i t)
theorem Pre.refl (ms : Ad) : Pre ms ms := fun _ _ h => h
theorem Pre.trans (a : Pre ms ms') (b : Pre ms' ms'') : Pre ms ms'' := fun p x h => b p x (a p x h)
theorem EnvOk.mono {σ : L2.St} {ρ : En} (e : EnvOk G F ms σ ρ) (h : Le F F') (p : Pre ms ms') : EnvOk G F' ms' σ ρ := ⟨e.len, fun i x hx => by
  obtain ⟨v, h1, h2⟩ := e.get i x hx
  exact ⟨v, h1, h2.mono h p⟩⟩
theorem Go.refl (F : Hp) (ms : Ad) (μ : Sto) (H : Hp) : Go F ms μ H F ms μ H :=
  ⟨Le.refl _, Pre.refl _, fun _ _ h _ => ⟨h, fun z => z⟩, fun _ h => .inl h, fun _ h => h⟩
theorem Go.trans (g : Go F ms μ H F' ms' μ' H') (g' : Go F' ms' μ' H' F'' ms'' μ'' H'') : Go F ms μ H F'' ms'' μ'' H'' where
  mono := g.mono.trans g'.mono
  pre := g.pre.trans g'.pre
  keep := fun a o h nl => by
    obtain ⟨h1, h2⟩ := g.keep a o h nl
    have nl' : ¬ Live ms' μ' a := fun z => by
      rcases g.lives a z with z | z
      · exact nl z
      · rw [h] at z; cases z
    obtain ⟨h3, h4⟩ := g'.keep a o h1 nl'
    exact ⟨h3, fun z => h4 (h2 z)⟩
  lives := fun a h => by
    rcases g'.lives a h with h | h
    · exact g.lives a h
    · exact .inr (g.stay a h)
  stay := fun a h => g.stay a (g'.stay a h)
/-- an address that the start owns: live there, or not yet there -/
abbrev Own (ms : Ad) (μ : Sto) (H : Hp) (a : Addr) : Prop := Live ms μ a ∨ H a = none
theorem CR.there {a : Addr} {c : Cell} (h : CR G F ms H a c) (l : live c = true) : ∃ o, H a = some o := by
  cases c with
  | dead => cases l
  | frz _ => cases l
  | ro _ => cases l
  | lst ds => obtain ⟨vs, e, _⟩ := h; exact ⟨_, e⟩
  | olst xs => obtain ⟨vs, e, _⟩ := h; exact ⟨_, e⟩
  | dic ks ds => obtain ⟨vs, e, _⟩ := h; exact ⟨_, e⟩
  | oins c fs xs => obtain ⟨dx, vs, e, _⟩ := h; exact ⟨_, e⟩
theorem CR.go {a : Addr} {c : Cell} (h : CR G F ms H a c) (m : Le F F') (p : Pre ms ms') (k : ∀ o, H a = some o → H' a = some o) : CR G F' ms' H' a c := by
  cases c with
  | dead => trivial
  | frz x => exact Rp.mono m h
  | ro ds =>
    obtain ⟨vs, e, r⟩ := h
    exact ⟨vs, SqL.mono' m e, r.mono m⟩
  | lst ds => obtain ⟨vs, e, r⟩ := h; exact ⟨vs, k _ e, r.mono m⟩
  | olst xs => obtain ⟨vs, e, r⟩ := h; exact ⟨vs, k _ e, r.mono fun _ _ q => KVR.mono m p q⟩
  | dic ks ds => obtain ⟨vs, e, q, r⟩ := h; exact ⟨vs, k _ e, q, r.mono m⟩
  | oins c fs xs => obtain ⟨dx, vs, e, q, r⟩ := h; exact ⟨dx, vs, k _ e, q, r.mono fun _ _ q => KVR.mono m p q⟩
/-- a result goes on with the state -/
theorem RR.go {Ow : Addr → Prop} {v : V} {r : Res} (h : RR G F ms μ H Ow v r) (g : Go F ms μ H F' ms' μ' H') : RR G F' ms' μ' H' Ow v r := by
  cases r with
  | d x => exact Rp.mono g.mono h
  | loc n => exact SVR.mono (G := G) (v := v) (x := .loc n) g.mono g.pre h
  | obj n => exact SVR.mono (G := G) (v := v) (x := .obj n) g.mono g.pre h
  | tmp c =>
    obtain ⟨a, e, f, nl, l, cr, ow⟩ := h
    obtain ⟨o, ho⟩ := cr.there l
    obtain ⟨h1, h2⟩ := g.keep a o ho nl
    refine ⟨a, e, h2 f, fun z => ?_, l, cr.go g.mono g.pre fun o' ho' => (g.keep a o' ho' nl).1, ow⟩
    rcases g.lives a z with z | z
    · exact nl z
    · rw [ho] at z; cases z
theorem RR.own {Ow Ow' : Addr → Prop} {v : V} {r : Res} (h : RR G F ms μ H Ow v r) (i : ∀ a, Ow a → Ow' a) : RR G F ms μ H Ow' v r := by
  cases r with
  | d x => exact h
  | loc n => exact h
  | obj n => exact h
  | tmp c => obtain ⟨a, e, f, nl, l, cr, ow⟩ := h; exact ⟨a, e, f, nl, l, cr, i a ow⟩
/-- what the later start owns, the earlier owns too -/
theorem Go.owns (g : Go F ms μ H F' ms' μ' H') {a : Addr} (h : Own ms' μ' H' a) : Own ms μ H a := by
  rcases h with h | h
  · exact g.lives a h
  · exact .inr (g.stay a h)

/-! ### laying, freezing, placing -/
/-- a new object that is no one's yet -/
theorem StOk.lay (S : StOk G F ms μ H) {p : Addr} {o : HO} (hp : H p = none) : StOk G F ms μ (upd H p o) ∧ Go F ms μ H F ms μ (upd H p o) := by
  have k : ∀ a u, H a = some u → upd H p o a = some u := fun a u e => by rw [upd_ne (ne_of_none e hp)]; exact e
  refine ⟨⟨fun a u e => k a u (S.sub a u e), S.len, fun n a c e1 e2 => (S.cell n a c e1 e2).go (Le.refl _) (Pre.refl _) fun u e => k a u e, S.inj, S.off⟩, Le.refl _, Pre.refl _, fun a u e _ => ⟨k a u e, fun z => z⟩, fun a h => .inl h, fun a e => ?_⟩
  cases q : H a with
  | none => rfl
  | some u => rw [k a u q] at e; cases e
theorem Live.fneq {a b : Addr} (S : StOk G F ms μ H) {o : HO} (h : Live ms μ a) (e : F b = some o) : b ≠ a := fun z => by rw [z, S.off a h] at e; cases e
/-- an owned object is frozen (no live place is its) -/
theorem StOk.freeze (S : StOk G F ms μ H) {p : Addr} {o : HO} (hp : H p = some o) (hf : F p = none) (nl : ¬ Live ms μ p) : StOk G (upd F p o) ms μ H := by
  have m : Le F (upd F p o) := fun a u e => by rw [upd_ne (fun z => by rw [z, hf] at e; cases e)]; exact e
  refine ⟨fun a u e => ?_, S.len, fun n a c e1 e2 => (S.cell n a c e1 e2).go m (Pre.refl _) fun u e => e, S.inj, fun a h => ?_⟩
  · by_cases ha : a = p
    · subst ha; rw [upd_same] at e; cases e; exact hp
    · rw [upd_ne ha] at e; exact S.sub a u e
  · rw [upd_ne (fun z => nl (by rw [← z]; exact h))]; exact S.off a h
theorem Go.freeze {F₀ H₀ : Hp} {ms₀ : Ad} {μ₀ : Sto} (g : Go F₀ ms₀ μ₀ H₀ F ms μ H) {p : Addr} {o : HO} (hf : F p = none) (ow : Own ms₀ μ₀ H₀ p) : Go F₀ ms₀ μ₀ H₀ (upd F p o) ms μ H where
  mono := g.mono.trans fun a u e => by rw [upd_ne (fun z => by rw [z, hf] at e; cases e)]; exact e
  pre := g.pre
  keep := fun a u e nl => by
    obtain ⟨h1, h2⟩ := g.keep a u e nl
    refine ⟨h1, fun z => ?_⟩
    have : a ≠ p := fun q => by
      subst q
      rcases ow with ow | ow
      · exact nl ow
      · rw [e] at ow; cases ow
    rw [upd_ne this]; exact h2 z
  lives := g.lives
  stay := g.stay
/-- a place dies, or shows something frozen -/
theorem live_put {p q : Pl} {c d : Cell} (hl : live c = false) (e : (μ.put p c).at q = some d) (l : live d = true) : μ.at q = some d := by
  by_cases hm : p = q
  · subst hm
    rw [Sto.at_put_self' e, hl] at l; cases l
  · rw [Sto.at_put_ne hm] at e; exact e
theorem StOk.retire (S : StOk G F ms μ H) {p : Pl} {c : Cell} (hl : live c = false) (cr : ∀ a, ms.at p = some a → CR G F ms H a c) : StOk G F ms (μ.put p c) H := by
  refine ⟨S.sub, S.len.put p c, fun q a d e1 e2 => ?_, fun i j a d d' h1 h2 h3 h4 l l' => S.inj i j a d d' h1 h2 (live_put hl h3 l) (live_put hl h4 l') l l', fun a ⟨m, d, h1, h2, l⟩ => S.off a ⟨m, d, h1, live_put hl h2 l, l⟩⟩
  by_cases hm : p = q
  · subst hm
    rw [Sto.at_put_self' e2]
    exact cr a e1
  · rw [Sto.at_put_ne hm] at e2; exact S.cell q a d e1 e2
theorem live_retire {p : Pl} {c : Cell} {a : Addr} (hl : live c = false) (h : Live ms (μ.put p c) a) : Live ms μ a := by
  obtain ⟨q, d, e1, e2, l⟩ := h
  exact ⟨q, d, e1, live_put hl e2 l, l⟩
theorem not_live_retire (S : StOk G F ms μ H) {p : Pl} {c d : Cell} {a : Addr} (hl : live c = false) (ha : ms.at p = some a) (hd : μ.at p = some d) (ld : live d = true) : ¬ Live ms (μ.put p c) a := fun ⟨q, e, h1, h2, l⟩ => by
  by_cases hm : p = q
  · subst hm
    rw [Sto.at_put_self' h2, hl] at l; cases l
  · rw [Sto.at_put_ne hm] at h2
    exact hm (S.inj p q a d e ha h1 hd h2 ld l)
theorem Go.retire {F₀ H₀ : Hp} {ms₀ : Ad} {μ₀ : Sto} (g : Go F₀ ms₀ μ₀ H₀ F ms μ H) {p : Pl} {c : Cell} (hl : live c = false) : Go F₀ ms₀ μ₀ H₀ F ms (μ.put p c) H :=
  ⟨g.mono, g.pre, g.keep, fun a h => g.lives a (live_retire hl h), g.stay⟩
/-- an object that is no one's is given a place -/
theorem app_at {α : Type} {l : List α} {x y : α} {n : Nat} (h : (l ++ [x])[n]? = some y) : l[n]? = some y ∨ (n = l.length ∧ y = x) := by
  by_cases hn : n < l.length
  · rw [List.getElem?_append_left hn] at h; exact .inl h
  · have hn' : n = l.length := by
      have := (List.getElem?_eq_some_iff.mp h).1
      rw [List.length_append, List.length_singleton] at this; omega
    subst hn'
    rw [List.getElem?_append_right (Nat.le_refl _), Nat.sub_self] at h
    exact .inr ⟨rfl, by simpa using h.symm⟩
theorem app_pre {α : Type} {l : List α} {x y : α} {n : Nat} (h : l[n]? = some y) : (l ++ [x])[n]? = some y := by
  rw [List.getElem?_append_left (List.getElem?_eq_some_iff.mp h).1]; exact h
theorem app_new {α : Type} {l : List α} {x : α} : (l ++ [x])[l.length]? = some x := by
  rw [List.getElem?_append_right (Nat.le_refl _), Nat.sub_self]; rfl
/-- where a new place is -/
structure Pushed (ms : Ad) (μ : Sto) (a : Addr) (c : Cell) (ms' : Ad) (μ' : Sto) (p : Pl) : Prop where
  pre : Pre ms ms'
  len : LenOk ms' μ'
  old : ∀ q b d, ms'.at q = some b → μ'.at q = some d → (ms.at q = some b ∧ μ.at q = some d) ∨ (q = p ∧ b = a ∧ d = c)
  new : ms'.at p = some a ∧ μ'.at p = some c
theorem pushedM (l : LenOk ms μ) (a : Addr) (c : Cell) : Pushed ms μ a c (ms.pushM a) (μ.pushM c) (.m μ.m.length) where
  pre := fun p x h => by
    cases p with
    | m n => exact app_pre h
    | k n => exact h
  len := ⟨by show (ms.m ++ [a]).length = (μ.m ++ [c]).length; rw [List.length_append, List.length_append, l.1]; rfl, l.2⟩
  old := fun q b d h1 h2 => by
    cases q with
    | k n => exact .inl ⟨h1, h2⟩
    | m n =>
      rcases app_at (l := ms.m) h1 with h1 | ⟨e1, h1⟩
      · rcases app_at (l := μ.m) h2 with h2 | ⟨e2, h2⟩
        · exact .inl ⟨h1, h2⟩
        · have := (List.getElem?_eq_some_iff.mp h1).1
          rw [e2, ← l.1] at this; omega
      · rcases app_at (l := μ.m) h2 with h2 | ⟨e2, h2⟩
        · have := (List.getElem?_eq_some_iff.mp h2).1
          rw [e1, l.1] at this; omega
        · exact .inr ⟨by rw [e2], h1, h2⟩
  new := ⟨by show (ms.m ++ [a])[μ.m.length]? = some a; rw [← l.1]; exact app_new, app_new⟩
theorem pushedK (l : LenOk ms μ) (a : Addr) (c : Cell) : Pushed ms μ a c (ms.pushK a) (μ.pushK c) (.k μ.k.length) where
  pre := fun p x h => by
    cases p with
    | k n => exact app_pre h
    | m n => exact h
  len := ⟨l.1, by show (ms.k ++ [a]).length = (μ.k ++ [c]).length; rw [List.length_append, List.length_append, l.2]; rfl⟩
  old := fun q b d h1 h2 => by
    cases q with
    | m n => exact .inl ⟨h1, h2⟩
    | k n =>
      rcases app_at (l := ms.k) h1 with h1 | ⟨e1, h1⟩
      · rcases app_at (l := μ.k) h2 with h2 | ⟨e2, h2⟩
        · exact .inl ⟨h1, h2⟩
        · have := (List.getElem?_eq_some_iff.mp h1).1
          rw [e2, ← l.2] at this; omega
      · rcases app_at (l := μ.k) h2 with h2 | ⟨e2, h2⟩
        · have := (List.getElem?_eq_some_iff.mp h2).1
          rw [e1, l.2] at this; omega
        · exact .inr ⟨by rw [e2], h1, h2⟩
  new := ⟨by show (ms.k ++ [a])[μ.k.length]? = some a; rw [← l.2]; exact app_new, app_new⟩
theorem live_push {a b : Addr} {c : Cell} {p : Pl} (P : Pushed ms μ a c ms' μ' p) (h : Live ms' μ' b) : Live ms μ b ∨ b = a := by
  obtain ⟨n, d, e1, e2, l⟩ := h
  rcases P.old n b d e1 e2 with ⟨q1, q2⟩ | ⟨_, q, _⟩
  · exact .inl ⟨n, d, q1, q2, l⟩
  · exact .inr q
theorem StOk.push (S : StOk G F ms μ H) {a : Addr} {c : Cell} {p : Pl} (P : Pushed ms μ a c ms' μ' p) (hf : F a = none) (nl : ¬ Live ms μ a) (cr : CR G F ms H a c) : StOk G F ms' μ' H := by
  refine ⟨S.sub, P.len, fun n b d e1 e2 => ?_, fun m n b d d' h1 h2 h3 h4 l l' => ?_, fun b h => ?_⟩
  · rcases P.old n b d e1 e2 with ⟨q1, q2⟩ | ⟨_, rfl, rfl⟩
    · exact (S.cell n b d q1 q2).go (Le.refl _) P.pre fun _ e => e
    · exact cr.go (Le.refl _) P.pre fun _ e => e
  · rcases P.old m b d h1 h3 with ⟨q1, q2⟩ | ⟨q1, q2, q3⟩
    · rcases P.old n b d' h2 h4 with ⟨q1', q2'⟩ | ⟨q1', q2', q3'⟩
      · exact S.inj m n b d d' q1 q1' q2 q2' l l'
      · subst q2'; exact absurd ⟨m, d, q1, q2, l⟩ nl
    · rcases P.old n b d' h2 h4 with ⟨q1', q2'⟩ | ⟨q1', q2', q3'⟩
      · subst q2; exact absurd ⟨n, d', q1', q2', l'⟩ nl
      · rw [q1, q1']
  · rcases live_push P h with h | h
    · exact S.off b h
    · rw [h]; exact hf
theorem Go.push {F₀ H₀ : Hp} {ms₀ : Ad} {μ₀ : Sto} (g : Go F₀ ms₀ μ₀ H₀ F ms μ H) {a : Addr} {c : Cell} {p : Pl} (P : Pushed ms μ a c ms' μ' p) (ow : Own ms₀ μ₀ H₀ a) : Go F₀ ms₀ μ₀ H₀ F ms' μ' H where
  mono := g.mono
  pre := g.pre.trans P.pre
  keep := g.keep
  lives := fun b h => by
    rcases live_push P h with h | h
    · exact g.lives b h
    · rw [h]; exact ow
  stay := g.stay
/-- an object of the store is written -/
theorem StOk.write (S : StOk G F ms μ H) {p : Pl} {a : Addr} {c d : Cell} {o : HO} (ha : ms.at p = some a) (hc : μ.at p = some c) (lc : live c = true) (ld : live d = true) (cr : CR G F ms (upd H a o) a d) :
    StOk G F ms (μ.put p d) (upd H a o) ∧ Go F ms μ H F ms (μ.put p d) (upd H a o) := by
  have hL : Live ms μ a := ⟨p, c, ha, hc, lc⟩
  have lv : ∀ b, Live ms (μ.put p d) b → Live ms μ b := fun b ⟨m, e, h1, h2, l⟩ => by
    by_cases hm : p = m
    · subst hm; rw [ha] at h1; cases h1; exact hL
    · rw [Sto.at_put_ne hm] at h2; exact ⟨m, e, h1, h2, l⟩
  have atn : ∀ {m : Pl} {e : Cell}, (μ.put p d).at m = some e → live e = true → ∃ e', μ.at m = some e' ∧ live e' = true := fun {m e} h l => by
    by_cases hm : p = m
    · subst hm; exact ⟨c, hc, lc⟩
    · rw [Sto.at_put_ne hm] at h; exact ⟨e, h, l⟩
  have k : ∀ b u, b ≠ a → H b = some u → upd H a o b = some u := fun b u hb e => by rw [upd_ne hb]; exact e
  refine ⟨⟨fun b u e => k b u (Live.fneq S hL e) (S.sub b u e), S.len.put p d, fun m b e h1 h2 => ?_, fun i j b e e' h1 h2 h3 h4 l l' => ?_, fun b h => S.off b (lv b h)⟩,
    Le.refl _, Pre.refl _, fun b u e nl => ⟨k b u (fun z => nl (z ▸ hL)) e, fun z => z⟩, fun b h => .inl (lv b h), fun b e => ?_⟩
  · by_cases hm : p = m
    · subst hm
      rw [ha] at h1; cases h1
      rw [Sto.at_put_self' h2]
      exact cr
    · rw [Sto.at_put_ne hm] at h2
      have q := S.cell m b e h1 h2
      by_cases le : live e = true
      · have nb : b ≠ a := fun z => by
          subst z
          exact hm (S.inj p m b c e ha h1 hc h2 lc le)
        exact q.go (Le.refl _) (Pre.refl _) fun u hu => k b u nb hu
      · cases e with
        | dead => trivial
        | frz x => exact q
        | ro ds => exact q
        | lst _ => exact absurd rfl le
        | olst _ => exact absurd rfl le
        | dic _ _ => exact absurd rfl le
        | oins _ _ _ => exact absurd rfl le
  · obtain ⟨g, hg, lg⟩ := atn h3 l
    obtain ⟨g', hg', lg'⟩ := atn h4 l'
    exact S.inj i j b g g' h1 h2 hg hg' lg lg'
  · by_cases hb : b = a
    · subst hb; rw [upd_same] at e; cases e
    · rw [upd_ne hb] at e; exact e
/-! ### the same with another held exception -/
section
variable {er : Addr → Nat → Addr → Prop}
abbrev Gm.with (G : Gm) (er : Addr → Nat → Addr → Prop) : Gm := ⟨G.K, G.cls, er⟩
mutual
theorem Rp.with : ∀ {v : V} {d : D}, Rp G F v d → Rp (G.with er) F v d
  | _, _, .non => .non
  | _, _, .bl b => .bl b
  | _, _, .int i => .int i
  | _, _, .str x => .str x
  | _, _, .lst e r => .lst e (RpL.with r)
  | _, _, .tup e r => .tup e (RpL.with r)
  | _, _, .dic e k r => .dic e k (RpL.with r)
  | _, _, .obj e k r => .obj e k (RpL.with r)
theorem RpL.with : ∀ {vs : List V} {ds : List D}, RpL G F vs ds → RpL (G.with er) F vs ds
  | _, _, .nil => .nil
  | _, _, .cons r t => .cons (Rp.with r) (RpL.with t)
end
theorem KVR.with {v : V} : ∀ {x : KV}, KVR G F ms v x → KVR (G.with er) F ms v x
  | .d _, r => Rp.with r
  | .obj _, r => r
theorem CR.with {a : Addr} {c : Cell} (h : CR G F ms H a c) : CR (G.with er) F ms H a c := by
  cases c with
  | dead => trivial
  | frz x => exact Rp.with h
  | ro ds => obtain ⟨vs, e, r⟩ := h; exact ⟨vs, e, r.with⟩
  | lst ds => obtain ⟨vs, e, r⟩ := h; exact ⟨vs, e, r.with⟩
  | olst xs => obtain ⟨vs, e, r⟩ := h; exact ⟨vs, e, r.mono fun _ _ q => q.with⟩
  | dic ks ds => obtain ⟨vs, e, q, r⟩ := h; exact ⟨vs, e, q, r.with⟩
  | oins c fs xs => obtain ⟨dx, vs, e, q, r⟩ := h; exact ⟨dx, vs, e, q, r.mono fun _ _ q => q.with⟩
theorem StOk.with (S : StOk G F ms μ H) : StOk (G.with er) F ms μ H := ⟨S.sub, S.len, fun p a c h1 h2 => (S.cell p a c h1 h2).with, S.inj, S.off⟩
def noErr (ρ : En) : En := ρ.map fun
  | some (.err _ _) => none
  | x => x
theorem EnvOk.with {σ : L2.St} {ρ : En} (E : EnvOk G F ms σ ρ) : EnvOk (G.with er) F ms σ (noErr ρ) := by
  refine ⟨by unfold noErr; rw [List.length_map]; exact E.len, fun i x h => ?_⟩
  unfold noErr at h
  rw [List.getElem?_map] at h
  cases e : ρ[i]? with
  | none => rw [e] at h; cases h
  | some y =>
    rw [e] at h
    cases y with
    | none => simp at h
    | some z =>
      obtain ⟨v, h1, h2⟩ := E.get i z e
      cases z with
      | d d => simp at h; subst h; exact ⟨v, h1, Rp.with h2⟩
      | obj n => simp at h; subst h; exact ⟨v, h1, h2⟩
      | loc n => simp at h; subst h; exact ⟨v, h1, h2⟩
      | err c x => simp at h
theorem RR.with {Ow : Addr → Prop} {v : V} {r : Res} (h : RR G F ms μ H Ow v r) : RR (G.with er) F ms μ H Ow v r := by
  cases r with
  | d x => exact Rp.with h
  | loc n => exact h
  | obj n => exact h
  | tmp c => obtain ⟨a, e, f, nl, l, cr, ow⟩ := h; exact ⟨a, e, f, nl, l, cr.with, ow⟩
end
/-- the frame's own objects from the n-th on are forgotten -/
def Sto.cut (μ : Sto) (n : Nat) : Sto := ⟨μ.m.take n, μ.k⟩
def Ad.cut (ms : Ad) (n : Nat) : Ad := ⟨ms.m.take n, ms.k⟩
theorem Sto.at_cut {n : Nat} {p : Pl} {c : Cell} (h : (μ.cut n).at p = some c) : μ.at p = some c := by
  cases p with
  | k j => exact h
  | m j =>
    have h : (μ.m.take n)[j]? = some c := h
    rw [List.getElem?_take] at h
    split at h
    · exact h
    · cases h
theorem Ad.at_cut {n : Nat} {p : Pl} {c : Addr} (h : (ms.cut n).at p = some c) : ms.at p = some c := by
  cases p with
  | k j => exact h
  | m j =>
    have h : (ms.m.take n)[j]? = some c := h
    rw [List.getElem?_take] at h
    split at h
    · exact h
    · cases h
theorem Ad.cut_at {n j : Nat} (h : j < n) : (ms.cut n).at (.m j) = ms.at (.m j) := by
  show (ms.m.take n)[j]? = ms.m[j]?
  rw [List.getElem?_take, if_pos h]
theorem CR.cut {n : Nat} {a : Addr} {c : Cell} (h : CR G F ms H a c) : CR G F (ms.cut n) H a c := by
  have k : ∀ {v : V} {x : KV}, KVR G F ms v x → KVR G F (ms.cut n) v x := fun {v x} q => by
    cases x with
    | d x => exact q
    | obj j => exact q
  cases c with
  | dead => trivial
  | frz x => exact h
  | ro ds => exact h
  | lst ds => exact h
  | dic ks ds => exact h
  | olst xs => obtain ⟨vs, e, r⟩ := h; exact ⟨vs, e, r.mono fun _ _ q => k q⟩
  | oins c fs xs => obtain ⟨dx, vs, e, q, r⟩ := h; exact ⟨dx, vs, e, q, r.mono fun _ _ q => k q⟩
theorem StOk.cut (S : StOk G F ms μ H) (n : Nat) : StOk G F (ms.cut n) (μ.cut n) H := by
  refine ⟨S.sub, ⟨?_, S.len.2⟩, fun p a c h1 h2 => (S.cell p a c (Ad.at_cut h1) (Sto.at_cut h2)).cut, fun p q a c c' h1 h2 h3 h4 l l' => S.inj p q a c c' (Ad.at_cut h1) (Ad.at_cut h2) (Sto.at_cut h3) (Sto.at_cut h4) l l', fun a ⟨p, c, h1, h2, l⟩ => S.off a ⟨p, c, Ad.at_cut h1, Sto.at_cut h2, l⟩⟩
  show (ms.m.take n).length = (μ.m.take n).length
  rw [List.length_take, List.length_take, S.len.1]
theorem Go.cut {F₀ H₀ : Hp} {ms₀ : Ad} {μ₀ : Sto} (g : Go F₀ ms₀ μ₀ H₀ F ms μ H) {n : Nat} (hn : ms₀.m.length ≤ n) : Go F₀ ms₀ μ₀ H₀ F (ms.cut n) (μ.cut n) H where
  mono := g.mono
  pre := fun p a h => by
    have q := g.pre p a h
    cases p with
    | k j => exact q
    | m j =>
      have : j < ms₀.m.length := (List.getElem?_eq_some_iff.mp h).1
      rw [Ad.cut_at (by omega)]; exact q
  keep := g.keep
  lives := fun a ⟨p, c, h1, h2, l⟩ => g.lives a ⟨p, c, Ad.at_cut h1, Sto.at_cut h2, l⟩
  stay := g.stay
end
end DF
/-! DF2: what an expression does, as a function of the names' values and the store. -/
namespace DF
open PySem PySem.Spec PyProof.Rows L2

inductive ER where
  | ok (r : Res) (μ : Sto)
  | ex (c : Nat) (x : D) (μ : Sto)
abbrev EF := En → Sto → Option ER
inductive AR where
  | ok (rs : List SV) (μ : Sto)
  | ex (c : Nat) (x : D) (μ : Sto)
abbrev AF := En → Sto → Option AR

def xval (v : V) : HO := .xd [("value", v)]

/-- an exception that is wished for: c by number, its value -/
def KX (G : Gm) (W : WX) (σ : L2.St) (F : Hp) (ms : Ad) (μ : Sto) (H : Hp) (c : Nat) (x : D) (μ' : Sto) : Prop :=
  ∀ (dx : Addr) (v : V) (F' : Hp) (ms' : Ad) (H' : Hp), H dx = none → Go F ms μ H F' ms' μ' H' → StOk G F' ms' μ' H' → H' dx = some (xval v) → Rp G F' v x → W (.ref (G.cls c)) (some dx) σ H'
/-- what is wanted behind an expression -/
def KE (G : Gm) (W : WX) (σ : L2.St) (F : Hp) (ms : Ad) (μ : Sto) (H : Hp) (Q : VK) : ER → Prop
  | .ok r μ' => ∀ (v : V) (F' : Hp) (ms' : Ad) (H' : Hp), Go F ms μ H F' ms' μ' H' → StOk G F' ms' μ' H' → RR G F' ms' μ' H' (Own ms μ H) v r → Q v H'
  | .ex c x μ' => KX G W σ F ms μ H c x μ'
def KA (G : Gm) (W : WX) (σ : L2.St) (F : Hp) (ms : Ad) (μ : Sto) (H : Hp) (Q : List V → Hp → Prop) : AR → Prop
  | .ok rs μ' => ∀ (vs : List V) (F' : Hp) (ms' : Ad) (H' : Hp), Go F ms μ H F' ms' μ' H' → StOk G F' ms' μ' H' → All2 (SVR G F' ms') vs rs → Q vs H'
  | .ex c x μ' => KX G W σ F ms μ H c x μ'
/-- .. behind a test -/
def KT (G : Gm) (W : WX) (σ : L2.St) (F : Hp) (ms : Ad) (μ : Sto) (H : Hp) (Q : Bool → Hp → Prop) : ER → Prop
  | .ok (.d (.bl b)) μ' => ∀ (F' : Hp) (ms' : Ad) (H' : Hp), Go F ms μ H F' ms' μ' H' → StOk G F' ms' μ' H' → Q b H'
  | .ok _ _ => False
  | .ex c x μ' => KX G W σ F ms μ H c x μ'

def tE (G : Gm) (W : WX) (f : EF) : TE := fun σ H Q => ∃ (F : Hp) (ms : Ad) (ρ : En) (μ : Sto), StOk G F ms μ H ∧ EnvOk G F ms σ ρ ∧ ∃ o, f ρ μ = some o ∧ KE G W σ F ms μ H Q o
def tT (G : Gm) (W : WX) (f : EF) : TT := fun σ H Q => ∃ (F : Hp) (ms : Ad) (ρ : En) (μ : Sto), StOk G F ms μ H ∧ EnvOk G F ms σ ρ ∧ ∃ o, f ρ μ = some o ∧ KT G W σ F ms μ H Q o
def tA (G : Gm) (W : WX) (f : AF) : TA := fun σ H Q => ∃ (F : Hp) (ms : Ad) (ρ : En) (μ : Sto), StOk G F ms μ H ∧ EnvOk G F ms σ ρ ∧ ∃ o, f ρ μ = some o ∧ KA G W σ F ms μ H Q o

abbrev DE (G : Gm) (W : WX) (X : Cx) (e : Expr) (f : EF) : Prop := PE X e (tE G W f)
abbrev DT (G : Gm) (W : WX) (X : Cx) (e : Expr) (f : EF) : Prop := PT X e (tT G W f)
abbrev DW (G : Gm) (W : WX) (X : Cx) (e : Expr) (f : EF) : Prop := PW X e (tT G W f)
abbrev DA (G : Gm) (W : WX) (X : Cx) (es : List Expr) (f : AF) : Prop := PA X es (tA G W f)

section
variable {G : Gm} {W : WX} {X : Cx} {F F' H H' : Hp} {ms ms' : Ad} {μ μ' : Sto} {σ : L2.St} {ρ : En}
theorem PE.mono {e : Expr} {t t' : TE} (h : PE X e t) (i : ∀ σ H Q, t' σ H Q → t σ H Q) : PE X e t' := ⟨fun pins s σ H Q I q => h.run pins s σ H Q I (i σ H Q q)⟩
theorem PT.mono {e : Expr} {t t' : TT} (h : PT X e t) (i : ∀ σ H Q, t' σ H Q → t σ H Q) : PT X e t' := ⟨fun pins s σ H Q I q => h.run pins s σ H Q I (i σ H Q q)⟩
theorem PW.mono {e : Expr} {t t' : TT} (h : PW X e t) (i : ∀ σ H Q, t' σ H Q → t σ H Q) : PW X e t' := ⟨fun wh pins s σ H Q I q => h.run wh pins s σ H Q I (i σ H Q q)⟩
theorem PA.mono {es : List Expr} {t t' : TA} (h : PA X es t) (i : ∀ σ H Q, t' σ H Q → t σ H Q) : PA X es t' := ⟨fun pos pins s σ H Q I q => h.run pos pins s σ H Q I (i σ H Q q)⟩

theorem KX.shift (g : Go F ms μ H F' ms' μ' H') {c : Nat} {x : D} {ν : Sto} (h : KX G W σ F ms μ H c x ν) : KX G W σ F' ms' μ' H' c x ν := fun dx v F2 ms2 H2 hx g2 => h dx v F2 ms2 H2 (g.stay dx hx) (g.trans g2)
theorem KE.shift (g : Go F ms μ H F' ms' μ' H') {Q : VK} : ∀ {o : ER}, KE G W σ F ms μ H Q o → KE G W σ F' ms' μ' H' Q o
  | .ok r ν, h => fun v F2 ms2 H2 g2 S2 r2 => h v F2 ms2 H2 (g.trans g2) S2 (r2.own fun _ z => g.owns z)
  | .ex c x ν, h => KX.shift g h
theorem KA.shift (g : Go F ms μ H F' ms' μ' H') {Q : List V → Hp → Prop} : ∀ {o : AR}, KA G W σ F ms μ H Q o → KA G W σ F' ms' μ' H' Q o
  | .ok r ν, h => fun v F2 ms2 H2 g2 S2 r2 => h v F2 ms2 H2 (g.trans g2) S2 r2
  | .ex c x ν, h => KX.shift g h
theorem KT.shift (g : Go F ms μ H F' ms' μ' H') {Q : Bool → Hp → Prop} : ∀ {o : ER}, KT G W σ F ms μ H Q o → KT G W σ F' ms' μ' H' Q o
  | .ok (.d (.bl b)) ν, h => fun F2 ms2 H2 g2 S2 => h F2 ms2 H2 (g.trans g2) S2
  | .ok (.d .non) _, h => h.elim
  | .ok (.d (.int _)) _, h => h.elim
  | .ok (.d (.str _)) _, h => h.elim
  | .ok (.d (.lst _)) _, h => h.elim
  | .ok (.d (.tup _)) _, h => h.elim
  | .ok (.d (.dic _ _)) _, h => h.elim
  | .ok (.d (.obj _ _ _)) _, h => h.elim
  | .ok (.loc _) _, h => h.elim
  | .ok (.obj _) _, h => h.elim
  | .ok (.tmp _) _, h => h.elim
  | .ex c x ν, h => KX.shift g h

/-! ### the top of a datum in the heap as it is -/
def TR (G : Gm) (F H : Hp) (v : V) : D → Prop
  | .lst ds => ∃ (a : Addr) (vs : List V), v = .ref a ∧ H a = some (.lst vs) ∧ RpL G F vs ds
  | .tup ds => ∃ (a : Addr) (vs : List V), v = .ref a ∧ SqT G.K H a vs ∧ RpL G F vs ds
  | .dic ks ds => ∃ (a : Addr) (kvs : List (Key × V)), v = .ref a ∧ H a = some (.dK kvs) ∧ kvs.map (·.1) = ks ∧ RpL G F (kvs.map (·.2)) ds
  | .obj c fs ds => ∃ (a dx : Addr) (fvs : List (Str × V)), v = .ref a ∧ H a = some (.ins (G.cls c) dx fvs) ∧ fvs.map (·.1) = fs ∧ RpL G F (fvs.map (·.2)) ds
  | .non => v = .non
  | .bl b => v = .bl b
  | .int i => v = .int i
  | .str x => v = .str x ∧ strOk x
theorem Rp.top (s : Le F H) {v : V} {d : D} (h : Rp G F v d) : TR G F H v d := by
  cases h with
  | non => rfl
  | bl b => rfl
  | int i => rfl
  | str x => exact ⟨rfl, x⟩
  | lst e r => exact ⟨_, _, rfl, s _ _ e, r⟩
  | tup e r => exact ⟨_, _, rfl, SqT.mono' s e, r⟩
  | dic e k r => exact ⟨_, _, rfl, s _ _ e, k, r⟩
  | obj e k r => exact ⟨_, _, _, rfl, s _ _ e, k, r⟩
def cpeek : Cell → Option D
  | .frz x => some x
  | .lst ds => some (.lst ds)
  | .dic ks ds => some (.dic ks ds)
  | _ => none
def peekC (μ : Sto) (p : Pl) : Option D := match μ.at p with
  | some c => cpeek c
  | none => none
def peek (μ : Sto) : Res → Option D
  | .d x => some x
  | .loc n => peekC μ (.m n)
  | .obj n => peekC μ (.k n)
  | .tmp c => cpeek c
theorem CR.top (s : Le F H) {a : Addr} {c : Cell} {d : D} (h : CR G F ms H a c) (e : cpeek c = some d) : TR G F H (.ref a) d := by
  cases c with
  | frz x => cases e; exact Rp.top s h
  | lst ds => cases e; obtain ⟨vs, e, r⟩ := h; exact ⟨_, _, rfl, e, r⟩
  | dic ks ds => cases e; obtain ⟨kvs, e, k, r⟩ := h; exact ⟨_, _, rfl, e, k, r⟩
  | dead => cases e
  | ro _ => cases e
  | olst _ => cases e
  | oins _ _ _ => cases e
theorem peekC_top (S : StOk G F ms μ H) {p : Pl} {a : Addr} {d : D} (ha : ms.at p = some a) (e : peekC μ p = some d) : TR G F H (.ref a) d := by
  unfold peekC at e
  cases q : μ.at p with
  | none => rw [q] at e; cases e
  | some c => rw [q] at e; exact (S.cell p a c ha q).top S.sub e
theorem peek_top (S : StOk G F ms μ H) {Ow : Addr → Prop} {v : V} {r : Res} {d : D} (h : RR G F ms μ H Ow v r) (e : peek μ r = some d) : TR G F H v d := by
  cases r with
  | d x => cases e; exact Rp.top S.sub h
  | loc n =>
    obtain ⟨a, ha, rfl⟩ := h
    exact peekC_top S ha e
  | obj n =>
    obtain ⟨a, ha, rfl⟩ := h
    exact peekC_top S ha e
  | tmp c =>
    obtain ⟨a, rfl, _, _, _, cr, _⟩ := h
    exact cr.top S.sub e
/-- a value that is no object of its own is data at once -/
def atom : D → Bool
  | .non => true | .bl _ => true | .int _ => true | .str _ => true
  | _ => false
theorem TR.atom {v : V} {d : D} (h : TR G F H v d) (a : atom d = true) : Rp G F v d := by
  cases d with
  | non => cases (show v = .non from h); exact .non
  | bl b => cases (show v = .bl b from h); exact .bl b
  | int i => cases (show v = .int i from h); exact .int i
  | str x => obtain ⟨rfl, k⟩ := (show v = .str x ∧ strOk x from h); exact .str k
  | lst _ => cases a
  | tup _ => cases a
  | dic _ _ => cases a
  | obj _ _ _ => cases a

/-! ### names, constants -/
def eVar (i : Nat) : EF := fun ρ μ => match ρ[i]? with
  | some (some (.d x)) => some (.ok (.d x) μ)
  | some (some (.loc n)) => some (.ok (.loc n) μ)
  | some (some (.obj n)) => some (.ok (.obj n) μ)
  | _ => none
def eC (x : D) : EF := fun _ μ => some (.ok (.d x) μ)
theorem de_var {i : Nat} {e : Expr} (h : PE X e (tVar i)) : DE G W X e (eVar i) := by
  refine PE.mono h fun σ H Q q => ?_
  obtain ⟨F, ms, ρ, μ, S, E, o, ho, k⟩ := q
  unfold eVar at ho
  cases er : ρ[i]? with
  | none => rw [er] at ho; cases ho
  | some y =>
    cases y with
    | none => rw [er] at ho; cases ho
    | some x =>
      obtain ⟨v, hv, r⟩ := E.get i x er
      refine ⟨v, hv, ?_⟩
      rw [er] at ho
      cases x with
      | d x => cases ho; exact k v F ms H (Go.refl ..) S r
      | loc n => cases ho; exact k v F ms H (Go.refl ..) S r
      | obj n => cases ho; exact k v F ms H (Go.refl ..) S r
      | err c x => cases ho
theorem de_c {e : Expr} {v : V} {x : D} (h : PE X e (tC v)) (r : ∀ F, Rp G F v x) : DE G W X e (eC x) := by
  refine PE.mono h fun σ H Q q => ?_
  obtain ⟨F, ms, ρ, μ, S, E, o, ho, k⟩ := q
  cases ho
  exact k v F ms H (Go.refl ..) S (r F)
theorem de_int {i : Int} {j} {pos : Pos} : DE G W X (.Constant (.int i) j pos) (eC (.int i)) := de_c pe_int fun _ => .int i
theorem de_bl {b : Bool} {j} {pos : Pos} : DE G W X (.Constant (.bool b) j pos) (eC (.bl b)) := de_c pe_bl fun _ => .bl b
theorem de_non {j} {pos : Pos} : DE G W X (.Constant .none j pos) (eC .non) := de_c pe_non fun _ => .non
def okB (x : Str) : Bool := x.cps.toList.all (· < 0x110000)
theorem strOk_of {x : Str} (h : okB x = true) : strOk x := fun c hc => by
  have := List.all_eq_true.mp h c hc
  simpa using this
theorem de_str {x : Str} {j} {pos : Pos} (h : okB x = true) : DE G W X (.Constant (.str x) j pos) (eC (.str x)) := de_c pe_str fun _ => .str (strOk_of h)

/-- run a part: its outcome is what the whole goes on with -/
theorem run_part {f : EF} (S : StOk G F ms μ H) (E : EnvOk G F ms σ ρ) {r : Res} (h : f ρ μ = some (.ok r μ')) {Q : VK}
    (k : ∀ v F' ms' H', Go F ms μ H F' ms' μ' H' → StOk G F' ms' μ' H' → EnvOk G F' ms' σ ρ → RR G F' ms' μ' H' (Own ms μ H) v r → Q v H') : tE G W f σ H Q :=
  ⟨F, ms, ρ, μ, S, E, _, h, fun v F' ms' H' g S' r' => k v F' ms' H' g S' (E.mono g.mono g.pre) r'⟩
theorem run_part_ex {f : EF} (S : StOk G F ms μ H) (E : EnvOk G F ms σ ρ) {c : Nat} {x : D} (h : f ρ μ = some (.ex c x μ')) {Q : VK} (k : KX G W σ F ms μ H c x μ') : tE G W f σ H Q :=
  ⟨F, ms, ρ, μ, S, E, _, h, k⟩
/-! ### two operands -/
abbrev OpF := Sto → Res → Res → Option ER
def eBin (op : OpF) (f g : EF) : EF := fun ρ μ => match f ρ μ with
  | some (.ok r μ1) => match g ρ μ1 with
    | some (.ok r' μ2) => op μ2 r r'
    | some (.ex c x μ2) => some (.ex c x μ2)
    | none => none
  | some (.ex c x μ1) => some (.ex c x μ1)
  | none => none
/-- an operation's function is what its rule asks -/
structure OpS (G : Gm) (op : OpF) (r : R2) : Prop where
  run : ∀ {W : WX} {σ : L2.St} {F : Hp} {ms : Ad} {μ : Sto} {H : Hp} {Ow : Addr → Prop} {x y : V} {rx ry : Res} {o : ER} {Q : VK}, StOk G F ms μ H → RR G F ms μ H Ow x rx → RR G F ms μ H Ow y ry → op μ rx ry = some o → KE G W σ F ms μ H Q o → r x y H Q
theorem de_tOp {e a b : Expr} {op : OpF} {r : R2} {f g : EF} (h : PE X e (tOp r (tE G W f) (tE G W g))) (hs : OpS G op r) : DE G W X e (eBin op f g) := by
  refine PE.mono h fun σ H Q q => ?_
  obtain ⟨F, ms, ρ, μ, S, E, o, ho, k⟩ := q
  unfold eBin at ho
  cases e1 : f ρ μ with
  | none => rw [e1] at ho; cases ho
  | some o1 =>
    rw [e1] at ho
    cases o1 with
    | ex c x μ1 => cases ho; exact run_part_ex S E e1 k
    | ok r μ1 =>
      dsimp only at ho
      refine run_part S E e1 fun v F1 ms1 H1 g1 S1 E1 r1 => ?_
      cases e2 : g ρ μ1 with
      | none => rw [e2] at ho; cases ho
      | some o2 =>
        rw [e2] at ho
        cases o2 with
        | ex c x μ2 => cases ho; exact run_part_ex S1 E1 e2 (KX.shift g1 k)
        | ok r' μ2 =>
          dsimp only at ho
          refine run_part S1 E1 e2 fun v' F2 ms2 H2 g2 S2 E2 r2 => ?_
          exact hs.run S2 (r1.go g2) (r2.own fun _ z => g1.owns z) ho (KE.shift (g1.trans g2) k)
theorem de_op {a b : Expr} {opr : Operator} {op : OpF} {r : R2} {f g : EF} {pos : Pos} (ho : OpR X (binaryOp opr) r) (hs : OpS G op r) (ha : DE G W X a f) (hb : DE G W X b g) : DE G W X (.BinOp a opr b pos) (eBin op f g) :=
  de_tOp (a := a) (b := b) (pe_op ho ha hb) hs
theorem de_cmp {a b : Expr} {opr : CmpOp} {op : OpF} {r : R2} {f g : EF} {pos : Pos} (ho : OpR X (compareOp opr) r) (hs : OpS G op r) (ha : DE G W X a f) (hb : DE G W X b g) (hm : behindInMarks opr b = false) : DE G W X (.Compare a [opr] [b] pos) (eBin op f g) :=
  de_tOp (a := a) (b := b) (pe_cmpR ho ha hb hm) hs
theorem de_ix {a b : Expr} {op : OpF} {r : R2} {f g : EF} {pos : Pos} (ho : IxR X r) (hs : OpS G op r) (ha : DE G W X a f) (hb : DE G W X b g) (hx : PlainIx b) : DE G W X (.Subscript a b pos) (eBin op f g) :=
  de_tOp (a := a) (b := b) (pe_ix ho ha hb hx) hs

/-- results that are data at once, or a new object -/
def okD (μ : Sto) (x : D) : Option ER := some (.ok (.d x) μ)
theorem KE.data {Q : VK} {x : D} {v : V} (S : StOk G F ms μ H) (k : KE G W σ F ms μ H Q (.ok (.d x) μ)) (r : Rp G F v x) : Q v H := k v F ms H (Go.refl ..) S r
/-- a new list, no one's yet -/
theorem KE.newList {Q : VK} {ds : List D} {vs : List V} (S : StOk G F ms μ H) (k : KE G W σ F ms μ H Q (.ok (.tmp (.lst ds)) μ)) (r : RpL G F vs ds) (p : Addr) (hp : H p = none) : Q (.ref p) (upd H p (.lst vs)) := by
  obtain ⟨S', g⟩ := S.lay (o := .lst vs) hp
  refine k _ F ms _ g S' ⟨p, rfl, ?_, fun z => ?_, rfl, ⟨vs, upd_same, r⟩, .inr hp⟩
  · cases q : F p with
    | none => rfl
    | some o => rw [S.sub p o q] at hp; cases hp
  · obtain ⟨n, c, e1, e2, l⟩ := z
    obtain ⟨o, ho⟩ := (S.cell n p c e1 e2).there l
    rw [hp] at ho; cases ho
/-- a new tuple, which stays -/
theorem StOk.frozenNew (S : StOk G F ms μ H) {p : Addr} {o : HO} (hp : H p = none) : StOk G (upd F p o) ms μ (upd H p o) ∧ Go F ms μ H (upd F p o) ms μ (upd H p o) := by
  have nl : ¬ Live ms μ p := fun z => by
    obtain ⟨n, c, e1, e2, l⟩ := z
    obtain ⟨o, ho⟩ := (S.cell n p c e1 e2).there l
    rw [hp] at ho; cases ho
  have hf : F p = none := by
    cases q : F p with
    | none => rfl
    | some o => rw [S.sub p o q] at hp; cases hp
  obtain ⟨S', g⟩ := S.lay (o := o) hp
  exact ⟨S'.freeze upd_same hf nl, g.freeze hf (.inr hp)⟩
theorem KE.newTup {Q : VK} {ds : List D} {vs : List V} (S : StOk G F ms μ H) (k : KE G W σ F ms μ H Q (.ok (.d (.tup ds)) μ)) (r : RpL G F vs ds) (p : Addr) (hp : H p = none) : Q (.ref p) (upd H p (.tup vs)) := by
  obtain ⟨S', g⟩ := S.frozenNew (o := .tup vs) hp
  exact k _ _ ms _ g S' (.tup (.inl (.inl upd_same)) (r.mono g.mono))
end
end DF
/-! DF3: operations upon data. -/
namespace DF
open PySem PySem.Spec PyProof.Rows L2

/-! ### data as the model's own data -/
mutual
def toP : D → PyData
  | .non => .none | .bl b => .bool b | .int i => .int i | .str x => .str x
  | .lst ds => .list (toPs ds) | .tup ds => .tuple (toPs ds)
  | .dic _ _ => .dict [] | .obj _ _ _ => .dict []
def toPs : List D → List PyData
  | [] => []
  | d :: ds => toP d :: toPs ds
end
mutual
def noObj : D → Bool
  | .dic _ _ => false | .obj _ _ _ => false
  | .lst ds => noObjs ds | .tup ds => noObjs ds
  | .non => true | .bl _ => true | .int _ => true | .str _ => true
def noObjs : List D → Bool
  | [] => true
  | d :: ds => noObj d && noObjs ds
end
mutual
def dep : D → Nat
  | .lst ds => deps ds + 1 | .tup ds => deps ds + 1
  | .dic _ _ => 0 | .obj _ _ _ => 0 | .non => 0 | .bl _ => 0 | .int _ => 0 | .str _ => 0
def deps : List D → Nat
  | [] => 0
  | d :: ds => max (dep d) (deps ds)
end
theorem toPs_map : ∀ ds : List D, toPs ds = ds.map toP
  | [] => by rw [toPs]; rfl
  | d :: ds => by rw [toPs, toPs_map ds]; rfl
mutual
theorem dep_toP : ∀ d : D, noObj d = true → (toP d).depth = dep d
  | .non, _ => by simp [toP, dep, PyData.depth]
  | .bl _, _ => by simp [toP, dep, PyData.depth]
  | .int _, _ => by simp [toP, dep, PyData.depth]
  | .str _, _ => by simp [toP, dep, PyData.depth]
  | .lst ds, h => by rw [toP, dep, PyData.depth, deps_toP ds (by rw [noObj] at h; exact h)]
  | .tup ds, h => by rw [toP, dep, PyData.depth, deps_toP ds (by rw [noObj] at h; exact h)]
  | .dic _ _, h => by rw [noObj] at h; cases h
  | .obj _ _ _, h => by rw [noObj] at h; cases h
theorem deps_toP : ∀ ds : List D, noObjs ds = true → PyData.depthAll (toPs ds) = deps ds
  | [], _ => by simp [toPs, deps, PyData.depthAll]
  | d :: ds, h => by
    rw [noObjs, Bool.and_eq_true] at h
    rw [toPs, deps, PyData.depthAll, dep_toP d h.1, deps_toP ds h.2]
end
theorem okS {x : Str} (h : strOk x) : PyData.strOk x = true := by
  unfold PyData.strOk
  rw [← Array.all_toList]
  exact List.all_eq_true.mpr fun c hc => decide_eq_true (h c hc)

section
variable {G : Gm} {W : WX} {X : Cx} {F F' H H' : Hp} {ms ms' : Ad} {μ μ' : Sto} {σ : L2.St} {ρ : En}
mutual
theorem Rp.dp (s : Le F H) : ∀ {v : V} {d : D}, Rp G F v d → noObj d = true → Dp G.K H v (toP d) ∧ (toP d).canLay0 = true
  | _, _, .non, _ => by rw [toP]; exact ⟨.non, by simp [PyData.canLay0]⟩
  | _, _, .bl b, _ => by rw [toP]; exact ⟨.bl b, by simp [PyData.canLay0]⟩
  | _, _, .int i, _ => by rw [toP]; exact ⟨.int i, by simp [PyData.canLay0]⟩
  | _, _, .str (x := x) h, _ => by rw [toP]; exact ⟨.str x, by rw [PyData.canLay0]; exact okS h⟩
  | _, _, .lst e r, h => by
    rw [noObj] at h
    obtain ⟨h1, h2⟩ := RpL.dp s r h
    rw [toP]; exact ⟨.lst (SqL.of (s _ _ e)) h1, by rw [PyData.canLay0]; exact h2⟩
  | _, _, .tup e r, h => by
    rw [noObj] at h
    obtain ⟨h1, h2⟩ := RpL.dp s r h
    rw [toP]; exact ⟨.tup (SqT.mono' s e) h1, by rw [PyData.canLay0]; exact h2⟩
  | _, _, .dic _ _ _, h => by rw [noObj] at h; cases h
  | _, _, .obj _ _ _, h => by rw [noObj] at h; cases h
theorem RpL.dp (s : Le F H) : ∀ {vs : List V} {ds : List D}, RpL G F vs ds → noObjs ds = true → DpAll G.K H vs (toPs ds) ∧ PyData.canLayAll0 (toPs ds) = true
  | _, _, .nil, _ => by rw [toPs]; exact ⟨.nil, by simp [PyData.canLayAll0]⟩
  | _, _, .cons r t, h => by
    rw [noObjs, Bool.and_eq_true] at h
    obtain ⟨h1, h2⟩ := Rp.dp s r h.1
    obtain ⟨h3, h4⟩ := RpL.dp s t h.2
    rw [toPs]; exact ⟨.cons h1 h3, by rw [PyData.canLayAll0, h2, h4]; rfl⟩
end
theorem TR.dp (s : Le F H) {v : V} {d : D} (h : TR G F H v d) (n : noObj d = true) : Dp G.K H v (toP d) ∧ (toP d).canLay0 = true := by
  cases d with
  | lst ds =>
    obtain ⟨a, vs, rfl, e, r⟩ := h
    rw [noObj] at n
    obtain ⟨h1, h2⟩ := r.dp s n
    rw [toP]; exact ⟨.lst (SqL.of e) h1, by rw [PyData.canLay0]; exact h2⟩
  | tup ds =>
    obtain ⟨a, vs, rfl, e, r⟩ := h
    rw [noObj] at n
    obtain ⟨h1, h2⟩ := r.dp s n
    rw [toP]; exact ⟨.tup e h1, by rw [PyData.canLay0]; exact h2⟩
  | dic _ _ => rw [noObj] at n; cases n
  | obj _ _ _ => rw [noObj] at n; cases n
  | non => exact (TR.atom h rfl).dp s n
  | bl b => exact (TR.atom h rfl).dp s n
  | int i => exact (TR.atom h rfl).dp s n
  | str x => exact (TR.atom h rfl).dp s n

/-! ### == and in of data -/
def rEqM (K : PySem.W.Frag) (neg : Bool) : R2 := fun x y H Q => ∃ d e, Dp K H x d ∧ Dp K H y e ∧ d.canLay0 = true ∧ e.canLay0 = true ∧ min d.depth e.depth ≤ 64 ∧ Q (.bl (if neg then !PyData.eqv d e else PyData.eqv d e)) H
theorem op_eqM (hu : X.A.units + 64 < cLine) : OpR X (compareOp .Eq) (rEqM X.K false) := by
  intro pins s σ H x y v u Q I rx ry ⟨d, e, hd, he, sd, se, hm, q⟩
  obtain ⟨as, r1⟩ := Dp.reads I d x v hd rx
  obtain ⟨bs, r2⟩ := Dp.reads I e y u he ry
  exact SeqAt.compareEq_reads r1 r2 sd se (by omega) ⟨.bl _, H, I, rfl, q⟩
theorem op_neM (hu : X.A.units + 64 < cLine) : OpR X (compareOp .NotEq) (rEqM X.K true) := by
  intro pins s σ H x y v u Q I rx ry ⟨d, e, hd, he, sd, se, hm, q⟩
  obtain ⟨as, r1⟩ := Dp.reads I d x v hd rx
  obtain ⟨bs, r2⟩ := Dp.reads I e y u he ry
  exact SeqAt.compareNe_reads r1 r2 sd se (by omega) ⟨.bl _, H, I, rfl, q⟩
def rInM (K : PySem.W.Frag) (neg : Bool) : R2 := fun x y H Q => ∃ d ds, Dp K H x d ∧ (Dp K H y (.list ds) ∨ Dp K H y (.tuple ds)) ∧ d.canLay0 = true ∧ PyData.canLayAll0 ds = true ∧ min (PyData.depthAll ds) d.depth ≤ 64 ∧
  Q (.bl (if neg then !ds.any fun z => PyData.eqv z d else ds.any fun z => PyData.eqv z d)) H
theorem op_inM (hu : X.A.units + 65 < cLine) : OpR X (compareOp .In) (rInM X.K false) := by
  intro pins s σ H x y v u Q I rx ry ⟨d, ds, hd, he, sd, se, hm, q⟩
  obtain ⟨as, r1⟩ := Dp.reads I d x v hd rx
  rcases he with he | he
  · obtain ⟨bs, r2⟩ := Dp.reads I _ y u he ry
    exact SeqAt.in_list_reads r2 r1 se sd (by omega) ⟨.bl _, H, I, rfl, q⟩
  · obtain ⟨bs, r2⟩ := Dp.reads I _ y u he ry
    exact SeqAt.in_tuple_reads r2 r1 se sd (by omega) ⟨.bl _, H, I, rfl, q⟩
theorem op_notInM (hu : X.A.units + 65 < cLine) : OpR X (compareOp .NotIn) (rInM X.K true) := by
  intro pins s σ H x y v u Q I rx ry ⟨d, ds, hd, he, sd, se, hm, q⟩
  obtain ⟨as, r1⟩ := Dp.reads I d x v hd rx
  rcases he with he | he
  · obtain ⟨bs, r2⟩ := Dp.reads I _ y u he ry
    exact SeqAt.notIn_list_reads r2 r1 se sd (by omega) ⟨.bl _, H, I, rfl, q⟩
  · obtain ⟨bs, r2⟩ := Dp.reads I _ y u he ry
    exact SeqAt.notIn_tuple_reads r2 r1 se sd (by omega) ⟨.bl _, H, I, rfl, q⟩
def D.eq (a b : D) : Bool := PyData.eqv (toP a) (toP b)
def guardE (c : Bool) (o : Option ER) : Option ER := if c = true then o else none
def op2 (f : Sto → D → D → Option ER) : OpF := fun μ a b => match peek μ a, peek μ b with
  | some x, some y => f μ x y
  | _, _ => none
def fEq (neg : Bool) (μ : Sto) (x y : D) : Option ER := guardE (noObj x && noObj y && decide (min (dep x) (dep y) ≤ 64)) (okD μ (.bl (if neg then !D.eq x y else D.eq x y)))
abbrev opEq (neg : Bool) : OpF := op2 (fEq neg)
theorem guardE_of {c : Bool} {o : Option ER} {r : ER} (h : guardE c o = some r) : c = true ∧ o = some r := by
  unfold guardE at h
  split at h
  · exact ⟨by assumption, h⟩
  · cases h
/-- both operands, looked at -/
theorem OpS.of2 {r : R2} {f : Sto → D → D → Option ER}
    (h : ∀ (W : WX) (σ : L2.St) (F : Hp) (ms : Ad) (μ : Sto) (H : Hp) (x y : V) (dx dy : D) (o : ER) (Q : VK), StOk G F ms μ H → TR G F H x dx → TR G F H y dy → f μ dx dy = some o → KE G W σ F ms μ H Q o → r x y H Q) : OpS G (op2 f) r := by
  refine ⟨fun {W σ F ms μ H Ow x y rx ry o Q} S hx hy e k => ?_⟩
  unfold op2 at e
  cases e1 : peek μ rx with
  | none => rw [e1] at e; cases e
  | some dx =>
    cases e2 : peek μ ry with
    | none => rw [e1, e2] at e; cases e
    | some dy =>
      rw [e1, e2] at e
      exact h _ _ _ _ _ _ _ _ _ _ _ _ S (peek_top S hx e1) (peek_top S hy e2) e k
theorem eq_ok (neg : Bool) : OpS G (opEq neg) (rEqM G.K neg) := OpS.of2 fun W σ F ms μ H x y dx dy o Q S hx hy e k => by
  obtain ⟨c, e⟩ := guardE_of e
  rw [Bool.and_eq_true, Bool.and_eq_true] at c
  obtain ⟨⟨c1, c2⟩, c3⟩ := c
  have c3 := of_decide_eq_true c3
  cases e
  obtain ⟨p1, q1⟩ := hx.dp S.sub c1
  obtain ⟨p2, q2⟩ := hy.dp S.sub c2
  refine ⟨_, _, p1, p2, q1, q2, by rw [dep_toP _ c1, dep_toP _ c2]; exact c3, k.data S ?_⟩
  exact .bl _
theorem de_eq {a b : Expr} {f g : EF} {pos : Pos} (hK : X.K = G.K) (hu : X.A.units + 64 < cLine) (ha : DE G W X a f) (hb : DE G W X b g) : DE G W X (.Compare a [.Eq] [b] pos) (eBin (opEq false) f g) :=
  de_cmp (op_eqM hu) (by rw [hK]; exact eq_ok false) ha hb (nomark _)
theorem de_ne {a b : Expr} {f g : EF} {pos : Pos} (hK : X.K = G.K) (hu : X.A.units + 64 < cLine) (ha : DE G W X a f) (hb : DE G W X b g) : DE G W X (.Compare a [.NotEq] [b] pos) (eBin (opEq true) f g) :=
  de_cmp (op_neM hu) (by rw [hK]; exact eq_ok true) ha hb (nomark _)
def inSeq (neg : Bool) (μ : Sto) (x : D) (ds : List D) : Option ER :=
  guardE (noObj x && noObjs ds && decide (min (deps ds) (dep x) ≤ 64)) (okD μ (.bl (if neg then !ds.any fun z => D.eq z x else ds.any fun z => D.eq z x)))
def fIn (neg : Bool) (μ : Sto) (x : D) : D → Option ER
  | .lst ds => inSeq neg μ x ds
  | .tup ds => inSeq neg μ x ds
  | .str z => match x with
    | .str c => match c.cps.toList with
      | [k] => okD μ (.bl (if neg then !decide (k ∈ z.cps.toList) else decide (k ∈ z.cps.toList)))
      | _ => none
    | _ => none
  | _ => none
abbrev opIn (neg : Bool) : OpF := op2 (fIn neg)
def rInS (neg : Bool) : R2 := fun x y H Q => ∃ (c : Nat) (z : Str), x = .str ⟨#[c]⟩ ∧ y = .str z ∧ Q (.bl (if neg then !decide (c ∈ z.cps.toList) else decide (c ∈ z.cps.toList))) H
theorem any_toP (x : D) : ∀ ds : List D, (toPs ds).any (fun z => PyData.eqv z (toP x)) = ds.any fun z => D.eq z x
  | [] => by rw [toPs]; rfl
  | d :: ds => by rw [toPs, List.any_cons, List.any_cons, any_toP x ds]; rfl
theorem inSeq_ok {neg : Bool} {W : WX} {F : Hp} {H : Hp} {x y : V} {dx : D} {ds : List D} {o : ER} {Q : VK} (S : StOk G F ms μ H) (hx : TR G F H x dx) (hy : TR G F H y (.lst ds) ∨ TR G F H y (.tup ds)) (e : inSeq neg μ dx ds = some o) (k : KE G W σ F ms μ H Q o) : rInM G.K neg x y H Q := by
  obtain ⟨c, e⟩ := guardE_of e
  rw [Bool.and_eq_true, Bool.and_eq_true] at c
  obtain ⟨⟨c1, c2⟩, c3⟩ := c
  have c3 := of_decide_eq_true c3
  cases e
  obtain ⟨p1, q1⟩ := hx.dp S.sub c1
  have k := k.data S (v := .bl (if neg then !ds.any fun z => D.eq z dx else ds.any fun z => D.eq z dx)) (.bl _)
  rcases hy with hy | hy
  · obtain ⟨p2, q2⟩ := hy.dp S.sub (by rw [noObj]; exact c2)
    rw [toP] at p2 q2
    rw [PyData.canLay0] at q2
    refine ⟨_, _, p1, .inl p2, q1, q2, by rw [dep_toP _ c1, deps_toP _ c2]; exact c3, ?_⟩
    rw [any_toP]; exact k
  · obtain ⟨p2, q2⟩ := hy.dp S.sub (by rw [noObj]; exact c2)
    rw [toP] at p2 q2
    rw [PyData.canLay0] at q2
    refine ⟨_, _, p1, .inr p2, q1, q2, by rw [dep_toP _ c1, deps_toP _ c2]; exact c3, ?_⟩
    rw [any_toP]; exact k
theorem in_ok (neg : Bool) : OpS G (opIn neg) (fun x y H Q => rInM G.K neg x y H Q ∨ rInS neg x y H Q) := OpS.of2 fun W σ F ms μ H x y dx dy o Q S hx hy e k => by
  unfold fIn at e
  cases dy with
  | lst ds => exact .inl (inSeq_ok S hx (.inl hy) e k)
  | tup ds => exact .inl (inSeq_ok S hx (.inr hy) e k)
  | str z =>
    cases dx with
    | str c =>
      dsimp only at e
      split at e
      · rename_i k' hk
        obtain ⟨rfl, _⟩ := (show x = .str c ∧ strOk c from hx)
        obtain ⟨rfl, _⟩ := (show y = .str z ∧ strOk z from hy)
        cases e
        refine .inr ⟨k', z, ?_, rfl, k.data S (.bl _)⟩
        obtain ⟨⟨l⟩⟩ := c
        simp only at hk
        rw [hk]
      · cases e
    | non => cases e
    | bl _ => cases e
    | int _ => cases e
    | lst _ => cases e
    | tup _ => cases e
    | dic _ _ => cases e
    | obj _ _ _ => cases e
  | non => cases e
  | bl _ => cases e
  | int _ => cases e
  | dic _ _ => cases e
  | obj _ _ _ => cases e
theorem de_in {a b : Expr} {f g : EF} {pos : Pos} (hK : X.K = G.K) (hu : X.A.units + 65 < cLine) (ha : DE G W X a f) (hb : DE G W X b g) (hm : behindInMarks .In b = false := by rfl) : DE G W X (.Compare a [.In] [b] pos) (eBin (opIn false) f g) :=
  de_cmp (OpR.or (op_inM hu) op_in_sign) (by rw [hK]; exact in_ok false) ha hb hm
theorem de_notIn {a b : Expr} {f g : EF} {pos : Pos} (hK : X.K = G.K) (hu : X.A.units + 65 < cLine) (ha : DE G W X a f) (hb : DE G W X b g) (hm : behindInMarks .NotIn b = false := by rfl) : DE G W X (.Compare a [.NotIn] [b] pos) (eBin (opIn true) f g) :=
  de_cmp (OpR.or (op_notInM hu) op_notIn_sign) (by rw [hK]; exact in_ok true) ha hb hm

/-! ### ints -/
def fI (p : Int → Int → Bool) (f : Int → Int → D) (μ : Sto) : D → D → Option ER
  | .int i, .int j => guardE (p i j) (okD μ (f i j))
  | _, _ => none
abbrev opI (p : Int → Int → Bool) (f : Int → Int → D) : OpF := op2 (fI p f)
theorem opI_ok {p : Int → Int → Bool} {f : Int → Int → D} {g : Int → Int → V} {C : Int → Int → Prop} (hp : ∀ i j, p i j = true → C i j) (hf : ∀ F i j, Rp G F (g i j) (f i j)) : OpS G (opI p f) (rI C g) :=
  OpS.of2 fun W σ F ms μ H x y dx dy o Q S hx hy e k => by
    cases dx with
    | int i =>
      cases dy with
      | int j =>
        obtain ⟨c, e⟩ := guardE_of e
        cases e
        cases (show x = .int i from hx)
        cases (show y = .int j from hy)
        exact ⟨i, j, rfl, rfl, hp i j c, k.data S (hf F i j)⟩
      | _ => cases e
    | _ => cases e
theorem opI0_ok {f : Int → Int → D} {g : Int → Int → V} (hf : ∀ F i j, Rp G F (g i j) (f i j)) : OpS G (opI (fun _ _ => true) f) (rI0 g) :=
  OpS.of2 fun W σ F ms μ H x y dx dy o Q S hx hy e k => by
    cases dx with
    | int i =>
      cases dy with
      | int j =>
        obtain ⟨c, e⟩ := guardE_of e
        cases e
        cases (show x = .int i from hx)
        cases (show y = .int j from hy)
        exact ⟨i, j, rfl, rfl, k.data S (hf F i j)⟩
      | _ => cases e
    | _ => cases e
abbrev opSub : OpF := opI (fun _ _ => true) fun i j => .int (i - j)
def pMul (i j : Int) : Bool := (decide (-(2 ^ 64) < i) && decide (i < 2 ^ 64)) || (decide (-(2 ^ 64) < j) && decide (j < 2 ^ 64))
theorem pMul_ok {i j : Int} (h : pMul i j = true) : CMul i j := by
  unfold pMul at h
  simp only [Bool.or_eq_true, Bool.and_eq_true, decide_eq_true_eq] at h
  exact h
def pDiv (i j : Int) : Bool := decide (0 < j) && decide (j < 1073741824)
theorem pDiv_ok {i j : Int} (h : pDiv i j = true) : CDiv i j := by
  unfold pDiv at h
  simp only [Bool.and_eq_true, decide_eq_true_eq] at h
  exact h
def pPow (i j : Int) : Bool := decide (0 ≤ j) && decide (j ≤ 1000000) && decide (i.natAbs < 2 ^ 64)
abbrev opFdiv : OpF := opI pDiv fun i j => .int (i / j)
abbrev opMod : OpF := opI (fun _ j => decide (0 < j)) fun i j => .int (i % j)
theorem de_sub {a b : Expr} {f g : EF} {pos : Pos} (ha : DE G W X a f) (hb : DE G W X b g) : DE G W X (.BinOp a .Sub b pos) (eBin opSub f g) :=
  de_op op_sub (opI0_ok fun _ i j => .int (i - j)) ha hb
theorem de_fdiv {a b : Expr} {f g : EF} {pos : Pos} (ha : DE G W X a f) (hb : DE G W X b g) : DE G W X (.BinOp a .FloorDiv b pos) (eBin opFdiv f g) :=
  de_op op_fdiv (opI_ok (fun _ _ h => pDiv_ok h) fun _ i j => .int (i / j)) ha hb
theorem de_mod {a b : Expr} {f g : EF} {pos : Pos} (ha : DE G W X a f) (hb : DE G W X b g) : DE G W X (.BinOp a .Mod b pos) (eBin opMod f g) :=
  de_op op_mod (opI_ok (fun _ _ h => of_decide_eq_true h) fun _ i j => .int (i % j)) ha hb
/-- an int's power: the product's size must be known -/
def rPow (c : Nat) : R2 := rI (fun i j => j = (c : Int) ∧ (Builtin.Int.intBits i : Int) * c ≤ 2 ^ 27) fun i j => .int (i ^ j.toNat)
theorem de_lt {a b : Expr} {f g : EF} {pos : Pos} (ha : DE G W X a f) (hb : DE G W X b g) : DE G W X (.Compare a [.Lt] [b] pos) (eBin (opI (fun _ _ => true) fun i j => .bl (decide (i < j))) f g) :=
  de_cmp op_lt (opI0_ok fun _ i j => .bl (decide (i < j))) ha hb (nomark _)
theorem de_le {a b : Expr} {f g : EF} {pos : Pos} (ha : DE G W X a f) (hb : DE G W X b g) : DE G W X (.Compare a [.LtE] [b] pos) (eBin (opI (fun _ _ => true) fun i j => .bl (decide (i ≤ j))) f g) :=
  de_cmp op_le (opI0_ok fun _ i j => .bl (decide (i ≤ j))) ha hb (nomark _)
theorem de_gt {a b : Expr} {f g : EF} {pos : Pos} (ha : DE G W X a f) (hb : DE G W X b g) : DE G W X (.Compare a [.Gt] [b] pos) (eBin (opI (fun _ _ => true) fun i j => .bl (decide (j < i))) f g) :=
  de_cmp op_gt (opI0_ok fun _ i j => .bl (decide (j < i))) ha hb (nomark _)
theorem de_ge {a b : Expr} {f g : EF} {pos : Pos} (ha : DE G W X a f) (hb : DE G W X b g) : DE G W X (.Compare a [.GtE] [b] pos) (eBin (opI (fun _ _ => true) fun i j => .bl (decide (j ≤ i))) f g) :=
  de_cmp op_ge (opI0_ok fun _ i j => .bl (decide (j ≤ i))) ha hb (nomark _)
end
end DF
/-! DF4: freezing, displays, calls of built-ins, methods, subscripts, slices. -/
namespace DF
open PySem PySem.Spec PyProof.Rows L2

/-! ### a result as data -/
def toDk : KV → Option D
  | .d x => some x
  | .obj _ => none
def toDks : List KV → Option (List D)
  | [] => some []
  | x :: xs => match toDk x, toDks xs with
    | some d, some ds => some (d :: ds)
    | _, _ => none
def toD : SV → Option D
  | .d x => some x
  | _ => none
def toDs : List SV → Option (List D)
  | [] => some []
  | x :: xs => match toD x, toDs xs with
    | some d, some ds => some (d :: ds)
    | _, _ => none
def cellD : Cell → Option D
  | .frz x => some x
  | .lst ds => some (.lst ds)
  | .dic ks ds => some (.dic ks ds)
  | .oins c fs xs => match toDks xs with
    | some ds => some (.obj c fs ds)
    | none => none
  | _ => none
def valAt (μ : Sto) (p : Pl) : Option (D × Sto) := match μ.at p with
  | some c => match cellD c with
    | some x => some (x, μ.put p (.frz x))
    | none => none
  | none => none
def toVal (μ : Sto) : Res → Option (D × Sto)
  | .d x => some (x, μ)
  | .loc n => valAt μ (.m n)
  | .obj n => valAt μ (.k n)
  | .tmp c => match cellD c with
    | some x => some (x, μ)
    | none => none

section
variable {G : Gm} {W : WX} {X : Cx} {F F' H H' F₀ H₀ : Hp} {ms ms' ms₀ : Ad} {μ μ' μ₀ : Sto} {σ : L2.St} {ρ : En} {Ow : Addr → Prop}
theorem toDks_ok : ∀ {xs : List KV} {ds : List D} {vs : List V}, All2 (KVR G F ms) vs xs → toDks xs = some ds → RpL G F vs ds
  | [], _, _, h, e => by cases h; cases e; exact .nil
  | x :: xs, _, _, h, e => by
    cases h with
    | cons h1 h2 =>
      unfold toDks at e
      cases x with
      | obj n => simp [toDk] at e
      | d x =>
        cases e2 : toDks xs with
        | none => rw [e2] at e; cases e
        | some ds => rw [e2] at e; cases e; exact .cons h1 (toDks_ok h2 e2)
theorem toDs_ok : ∀ {xs : List SV} {ds : List D} {vs : List V}, All2 (SVR G F ms) vs xs → toDs xs = some ds → RpL G F vs ds
  | [], _, _, h, e => by cases h; cases e; exact .nil
  | x :: xs, _, _, h, e => by
    cases h with
    | cons h1 h2 =>
      unfold toDs at e
      cases x with
      | loc n => simp [toD] at e
      | obj n => simp [toD] at e
      | err c x => simp [toD] at e
      | d x =>
        cases e2 : toDs xs with
        | none => rw [e2] at e; cases e
        | some ds => rw [e2] at e; cases e; exact .cons h1 (toDs_ok h2 e2)
/-- a cell's object, frozen -/
theorem cell_freeze (S : StOk G F ms μ H) (g : Go F₀ ms₀ μ₀ H₀ F ms μ H) {a : Addr} {c : Cell} {x : D} (cr : CR G F ms H a c) (hl : live c = true) (e : cellD c = some x) (hf : F a = none) (nl : ¬ Live ms μ a) (ow : Own ms₀ μ₀ H₀ a) :
    ∃ F', StOk G F' ms μ H ∧ Go F₀ ms₀ μ₀ H₀ F' ms μ H ∧ Le F F' ∧ Rp G F' (.ref a) x := by
  have m : ∀ o : HO, Le F (upd F a o) := fun o b u q => by rw [upd_ne (fun z => by rw [z, hf] at q; cases q)]; exact q
  cases c with
  | dead => cases hl
  | frz _ => cases hl
  | ro _ => cases hl
  | olst _ => cases e
  | lst ds =>
    cases e
    obtain ⟨vs, hH, r⟩ := cr
    exact ⟨upd F a (.lst vs), S.freeze hH hf nl, g.freeze hf ow, m _, .lst upd_same (r.mono (m _))⟩
  | dic ks ds =>
    cases e
    obtain ⟨kvs, hH, k, r⟩ := cr
    exact ⟨upd F a (.dK kvs), S.freeze hH hf nl, g.freeze hf ow, m _, .dic upd_same k (r.mono (m _))⟩
  | oins c fs xs =>
    unfold cellD at e
    dsimp only at e
    cases e2 : toDks xs with
    | none => rw [e2] at e; cases e
    | some ds =>
      rw [e2] at e
      cases e
      obtain ⟨dx, fvs, hH, k, r⟩ := cr
      have r := toDks_ok r e2
      exact ⟨upd F a (.ins (G.cls c) dx fvs), S.freeze hH hf nl, g.freeze hf ow, m _, .obj upd_same k (r.mono (m _))⟩
theorem valAt_ok (S : StOk G F ms μ H) (g : Go F₀ ms₀ μ₀ H₀ F ms μ H) {a : Addr} {p : Pl} {x : D} (ha : ms.at p = some a) (e : valAt μ p = some (x, μ')) :
    ∃ F', StOk G F' ms μ' H ∧ Go F₀ ms₀ μ₀ H₀ F' ms μ' H ∧ Le F F' ∧ Rp G F' (.ref a) x := by
  unfold valAt at e
  cases e1 : μ.at p with
  | none => rw [e1] at e; cases e
  | some c =>
    rw [e1] at e
    dsimp only at e
    cases e2 : cellD c with
    | none => rw [e2] at e; cases e
    | some y =>
      rw [e2] at e
      cases e
      have cr := S.cell p a c ha e1
      by_cases hl : live c = true
      · have hL : Live ms μ a := ⟨p, c, ha, e1, hl⟩
        have S1 : StOk G F ms (μ.put p .dead) H := S.retire rfl fun _ _ => trivial
        have g1 : Go F₀ ms₀ μ₀ H₀ F ms (μ.put p .dead) H := g.retire rfl
        have nl1 := not_live_retire (c := .dead) S rfl ha e1 hl
        obtain ⟨F', S2, g2, m, r⟩ := cell_freeze S1 g1 cr hl e2 (S.off a hL) nl1 (g.lives a hL)
        have S3 := S2.retire (p := p) (c := .frz x) rfl fun b hb => by rw [ha] at hb; cases hb; exact r
        have g3 := g2.retire (p := p) (c := .frz x) rfl
        rw [Sto.put_put] at S3 g3
        exact ⟨F', S3, g3, m, r⟩
      · have : ∃ z, c = .frz z := by
          cases c with
          | frz z => exact ⟨z, rfl⟩
          | dead => cases e2
          | ro _ => cases e2
          | olst _ => cases e2
          | lst _ => exact absurd rfl hl
          | dic _ _ => exact absurd rfl hl
          | oins _ _ _ => exact absurd rfl hl
        obtain ⟨z, rfl⟩ := this
        cases e2
        exact ⟨F, S.retire rfl fun b hb => by rw [ha] at hb; cases hb; exact cr, g.retire rfl, Le.refl _, cr⟩
theorem toVal_ok (S : StOk G F ms μ H) (g : Go F₀ ms₀ μ₀ H₀ F ms μ H) {v : V} {r : Res} {x : D} (h : RR G F ms μ H (Own ms₀ μ₀ H₀) v r) (e : toVal μ r = some (x, μ')) :
    ∃ F', StOk G F' ms μ' H ∧ Go F₀ ms₀ μ₀ H₀ F' ms μ' H ∧ Le F F' ∧ Rp G F' v x := by
  cases r with
  | d y => cases e; exact ⟨F, S, g, Le.refl _, h⟩
  | loc n => obtain ⟨a, ha, rfl⟩ := h; exact valAt_ok S g ha e
  | obj n => obtain ⟨a, ha, rfl⟩ := h; exact valAt_ok S g ha e
  | tmp c =>
    obtain ⟨a, rfl, hf, nl, hl, cr, ow⟩ := h
    unfold toVal at e
    dsimp only at e
    cases e2 : cellD c with
    | none => rw [e2] at e; cases e
    | some y =>
      rw [e2] at e
      cases e
      exact cell_freeze S g cr hl e2 hf nl ow
end

/-! ### a result as a value of a name -/
/-- v: data, whatever it is; a: a new object becomes data; n: a new object becomes the frame's own; o: .. one that lives on -/
inductive Md where
  | v | a | n | o
def convV (μ : Sto) (r : Res) : Option (SV × Sto) := match toVal μ r with
  | some (x, μ') => some (.d x, μ')
  | none => none
def convT (μ : Sto) (c : Cell) : Md → Option (SV × Sto)
  | .n => some (.loc μ.m.length, μ.pushM c)
  | .o => some (.obj μ.k.length, μ.pushK c)
  | _ => match cellD c with
    | some x => some (.d x, μ)
    | none => none
def convR (μ : Sto) (m : Md) : Res → Option (SV × Sto)
  | .d x => some (.d x, μ)
  | .loc n => some (.loc n, μ)
  | .obj n => some (.obj n, μ)
  | .tmp c => convT μ c m
def conv (μ : Sto) (m : Md) (r : Res) : Option (SV × Sto) := match m with
  | .v => convV μ r
  | .a => convR μ .a r
  | .n => convR μ .n r
  | .o => convR μ .o r
section
variable {G : Gm} {W : WX} {X : Cx} {F F' H H' F₀ H₀ : Hp} {ms ms' ms₀ : Ad} {μ μ' μ₀ : Sto} {σ : L2.St} {ρ : En} {Ow : Addr → Prop}
theorem convV_ok (S : StOk G F ms μ H) (g : Go F₀ ms₀ μ₀ H₀ F ms μ H) {v : V} {r : Res} {x : SV} (h : RR G F ms μ H (Own ms₀ μ₀ H₀) v r) (e : convV μ r = some (x, μ')) :
    ∃ F' ms', StOk G F' ms' μ' H ∧ Go F₀ ms₀ μ₀ H₀ F' ms' μ' H ∧ Le F F' ∧ Pre ms ms' ∧ SVR G F' ms' v x := by
  unfold convV at e
  cases e1 : toVal μ r with
  | none => rw [e1] at e; cases e
  | some p =>
    obtain ⟨y, ν⟩ := p
    rw [e1] at e
    cases e
    obtain ⟨F', S', g', m, r'⟩ := toVal_ok S g h e1
    exact ⟨F', ms, S', g', m, Pre.refl _, r'⟩
theorem convT_ok (S : StOk G F ms μ H) (g : Go F₀ ms₀ μ₀ H₀ F ms μ H) {v : V} {c : Cell} {m : Md} {x : SV} (h : RR G F ms μ H (Own ms₀ μ₀ H₀) v (.tmp c)) (e : convT μ c m = some (x, μ')) :
    ∃ F' ms', StOk G F' ms' μ' H ∧ Go F₀ ms₀ μ₀ H₀ F' ms' μ' H ∧ Le F F' ∧ Pre ms ms' ∧ SVR G F' ms' v x := by
  obtain ⟨a, rfl, hf, nl, hl, cr, ow⟩ := h
  have fz : ∀ {y : D}, cellD c = some y → x = .d y → μ' = μ → ∃ F' ms', StOk G F' ms' μ' H ∧ Go F₀ ms₀ μ₀ H₀ F' ms' μ' H ∧ Le F F' ∧ Pre ms ms' ∧ SVR G F' ms' (.ref a) x := fun {y} e1 ex em => by
    subst ex em
    obtain ⟨F', S', g', m, r'⟩ := cell_freeze S g cr hl e1 hf nl ow
    exact ⟨F', ms, S', g', m, Pre.refl _, r'⟩
  cases m with
  | n =>
    cases e
    have P := pushedM S.len a c
    exact ⟨F, _, S.push P hf nl cr, g.push P ow, Le.refl _, P.pre, a, P.new.1, rfl⟩
  | o =>
    cases e
    have P := pushedK S.len a c
    exact ⟨F, _, S.push P hf nl cr, g.push P ow, Le.refl _, P.pre, a, P.new.1, rfl⟩
  | v =>
    unfold convT at e
    dsimp only at e
    cases e1 : cellD c with
    | none => rw [e1] at e; cases e
    | some y => rw [e1] at e; cases e; exact fz e1 rfl rfl
  | a =>
    unfold convT at e
    dsimp only at e
    cases e1 : cellD c with
    | none => rw [e1] at e; cases e
    | some y => rw [e1] at e; cases e; exact fz e1 rfl rfl
theorem conv_ok (S : StOk G F ms μ H) (g : Go F₀ ms₀ μ₀ H₀ F ms μ H) {v : V} {r : Res} {m : Md} {x : SV} (h : RR G F ms μ H (Own ms₀ μ₀ H₀) v r) (e : conv μ m r = some (x, μ')) :
    ∃ F' ms', StOk G F' ms' μ' H ∧ Go F₀ ms₀ μ₀ H₀ F' ms' μ' H ∧ Le F F' ∧ Pre ms ms' ∧ SVR G F' ms' v x := by
  have go : ∀ m, convR μ m r = some (x, μ') → ∃ F' ms', StOk G F' ms' μ' H ∧ Go F₀ ms₀ μ₀ H₀ F' ms' μ' H ∧ Le F F' ∧ Pre ms ms' ∧ SVR G F' ms' v x := fun m e => by
    cases r with
    | d y => cases e; exact ⟨F, ms, S, g, Le.refl _, Pre.refl _, h⟩
    | loc n => cases e; exact ⟨F, ms, S, g, Le.refl _, Pre.refl _, h⟩
    | obj n => cases e; exact ⟨F, ms, S, g, Le.refl _, Pre.refl _, h⟩
    | tmp c => exact convT_ok S g h e
  cases m with
  | v => exact convV_ok S g h e
  | a => exact go _ e
  | n => exact go _ e
  | o => exact go _ e

/-! ### argument lists -/
def aNil : AF := fun _ μ => some (.ok [] μ)
def aCons (m : Md) (f : EF) (g : AF) : AF := fun ρ μ => match f ρ μ with
  | some (.ok r μ1) => match conv μ1 m r with
    | some (x, μ1) => match g ρ μ1 with
      | some (.ok xs μ2) => some (.ok (x :: xs) μ2)
      | some (.ex c x μ2) => some (.ex c x μ2)
      | none => none
    | none => none
  | some (.ex c x μ1) => some (.ex c x μ1)
  | none => none
theorem da_nil : DA G W X [] aNil := by
  refine PA.mono pa_nil fun σ H Q q => ?_
  obtain ⟨F, ms, ρ, μ, S, E, o, ho, k⟩ := q
  cases ho
  exact k [] F ms H (Go.refl ..) S .nil
theorem da_cons {m : Md} {e : Expr} {es : List Expr} {f : EF} {g : AF} (hf : DE G W X e f) (hg : DA G W X es g) (hs : starEach (e :: es) X.env = (false, eval e X.env) :: starEach es X.env := by rfl) : DA G W X (e :: es) (aCons m f g) := by
  refine PA.mono (pa_cons hf hg hs) fun σ H Q q => ?_
  obtain ⟨F, ms, ρ, μ, S, E, o, ho, k⟩ := q
  unfold aCons at ho
  cases e1 : f ρ μ with
  | none => rw [e1] at ho; cases ho
  | some o1 =>
    rw [e1] at ho
    cases o1 with
    | ex c x μ1 => cases ho; exact run_part_ex S E e1 k
    | ok r μ1 =>
      dsimp only at ho
      refine run_part S E e1 fun v F1 ms1 H1 g1 S1 E1 r1 => ?_
      cases e3 : conv μ1 m r with
      | none => rw [e3] at ho; cases ho
      | some p =>
        obtain ⟨y, ν⟩ := p
        rw [e3] at ho
        dsimp only at ho
        obtain ⟨F2, ms2, S2, g2, m2, p2, r2⟩ := conv_ok S1 g1 r1 e3
        have E2 := E1.mono m2 p2
        cases e2 : g ρ ν with
        | none => rw [e2] at ho; cases ho
        | some o2 =>
          rw [e2] at ho
          cases o2 with
          | ex c x μ2 => cases ho; exact ⟨F2, ms2, ρ, ν, S2, E2, _, e2, KX.shift g2 k⟩
          | ok rs μ2 =>
            cases ho
            refine ⟨F2, ms2, ρ, ν, S2, E2, _, e2, fun vs F3 ms3 H3 g3 S3 r3 => ?_⟩
            exact k (v :: vs) F3 ms3 H3 (g2.trans g3) S3 (.cons (r2.mono g3.mono g3.pre) r3)

/-! ### displays -/
def eLst (g : AF) : EF := fun ρ μ => match g ρ μ with
  | some (.ok xs μ1) => match toDs xs with
    | some ds => guardE (decide (ds.length ≤ sizeLine)) (some (.ok (.tmp (.lst ds)) μ1))
    | none => none
  | some (.ex c x μ1) => some (.ex c x μ1)
  | none => none
def eTup (g : AF) : EF := fun ρ μ => match g ρ μ with
  | some (.ok xs μ1) => match toDs xs with
    | some ds => guardE (decide (ds.length ≤ sizeLine)) (some (.ok (.d (.tup ds)) μ1))
    | none => none
  | some (.ex c x μ1) => some (.ex c x μ1)
  | none => none
theorem de_lst {es : List Expr} {g : AF} {pos : Pos} (h : DA G W X es g) : DE G W X (.List es pos) (eLst g) := by
  refine PE.mono (pe_lst h) fun σ H Q q => ?_
  obtain ⟨F, ms, ρ, μ, S, E, o, ho, k⟩ := q
  unfold eLst at ho
  cases e1 : g ρ μ with
  | none => rw [e1] at ho; cases ho
  | some o1 =>
    rw [e1] at ho
    cases o1 with
    | ex c x μ1 => cases ho; exact ⟨F, ms, ρ, μ, S, E, _, e1, k⟩
    | ok xs μ1 =>
      dsimp only at ho
      cases e2 : toDs xs with
      | none => rw [e2] at ho; cases ho
      | some ds =>
        rw [e2] at ho
        obtain ⟨c, ho⟩ := guardE_of ho
        cases ho
        refine ⟨F, ms, ρ, μ, S, E, _, e1, fun vs F1 ms1 H1 g1 S1 r1 => ?_⟩
        have r2 := toDs_ok r1 e2
        refine ⟨by rw [r2.length]; exact of_decide_eq_true c, fun p hp => ?_⟩
        exact KE.newList S1 (KE.shift g1 k) r2 p hp
theorem de_tup {es : List Expr} {g : AF} {n} {pos : Pos} (h : DA G W X es g) : DE G W X (.Tuple es n pos) (eTup g) := by
  refine PE.mono (pe_tup h) fun σ H Q q => ?_
  obtain ⟨F, ms, ρ, μ, S, E, o, ho, k⟩ := q
  unfold eTup at ho
  cases e1 : g ρ μ with
  | none => rw [e1] at ho; cases ho
  | some o1 =>
    rw [e1] at ho
    cases o1 with
    | ex c x μ1 => cases ho; exact ⟨F, ms, ρ, μ, S, E, _, e1, k⟩
    | ok xs μ1 =>
      dsimp only at ho
      cases e2 : toDs xs with
      | none => rw [e2] at ho; cases ho
      | some ds =>
        rw [e2] at ho
        obtain ⟨c, ho⟩ := guardE_of ho
        cases ho
        refine ⟨F, ms, ρ, μ, S, E, _, e1, fun vs F1 ms1 H1 g1 S1 r1 => ?_⟩
        have r2 := toDs_ok r1 e2
        refine ⟨by rw [r2.length]; exact of_decide_eq_true c, fun p hp => ?_⟩
        exact KE.newTup S1 (KE.shift g1 k) r2 p hp

/-! ### calls of built-ins -/
abbrev CaF := Sto → List SV → Option ER
def eCall (cf : CaF) (g : AF) : EF := fun ρ μ => match g ρ μ with
  | some (.ok xs μ1) => cf μ1 xs
  | some (.ex c x μ1) => some (.ex c x μ1)
  | none => none
structure CaS (G : Gm) (cf : CaF) (r : List V → Hp → VK → Prop) : Prop where
  run : ∀ {W : WX} {σ : L2.St} {F : Hp} {ms : Ad} {μ : Sto} {H : Hp} {vs : List V} {xs : List SV} {o : ER} {Q : VK}, StOk G F ms μ H → All2 (SVR G F ms) vs xs → cf μ xs = some o → KE G W σ F ms μ H Q o → r vs H Q
theorem de_tCB {e : Expr} {cf : CaF} {r : List V → Hp → VK → Prop} {g : AF} (h : PE X e (tCB r (tA G W g))) (hs : CaS G cf r) : DE G W X e (eCall cf g) := by
  refine PE.mono h fun σ H Q q => ?_
  obtain ⟨F, ms, ρ, μ, S, E, o, ho, k⟩ := q
  unfold eCall at ho
  cases e1 : g ρ μ with
  | none => rw [e1] at ho; cases ho
  | some o1 =>
    rw [e1] at ho
    cases o1 with
    | ex c x μ1 => cases ho; exact ⟨F, ms, ρ, μ, S, E, _, e1, k⟩
    | ok xs μ1 =>
      dsimp only at ho
      exact ⟨F, ms, ρ, μ, S, E, _, e1, fun vs F1 ms1 H1 g1 S1 r1 => hs.run S1 r1 ho (KE.shift g1 k)⟩
theorem de_callB {x : Str} {id : String} {p pos : Pos} {e : Expr} {es : List Expr} {cf : CaF} {r : List V → Hp → VK → Prop} {g : AF} (hc : CallR X (.builtin id) r) (hs : CaS G cf r) (hg : Gl X x) (hm : X.mg x = none) (hv : bootBuiltins x = some (.builtin id)) (ha : DA G W X (e :: es) g)
    (hn : x ≠ "__name__" := by decide) (hdb : (x == ("__debug__" : Str)) = false := by decide)
    (he : starEach (e :: es) X.env = (false, eval e X.env) :: starEach es X.env := by rfl) (hpl : (backTo pos (starEach es X.env)).any (·.1) = false := by rfl) : DE G W X (.Call (.Name x p) (e :: es) [] pos) (eCall cf g) :=
  de_tCB (pe_callB hc hg hm hv ha hn hdb he hpl) hs
theorem de_callTy {x : Str} {T : String} {p pos : Pos} {e : Expr} {es : List Expr} {cf : CaF} {r : List V → Hp → VK → Prop} {g : AF} (hc : CallR X (.type T) r) (hs : CaS G cf r) (hg : Gl X x) (hm : X.mg x = none) (hv : bootBuiltins x = some (.type T)) (ha : DA G W X (e :: es) g)
    (hn : x ≠ "__name__" := by decide) (hdb : (x == ("__debug__" : Str)) = false := by decide)
    (he : starEach (e :: es) X.env = (false, eval e X.env) :: starEach es X.env := by rfl) (hpl : (backTo pos (starEach es X.env)).any (·.1) = false := by rfl) : DE G W X (.Call (.Name x p) (e :: es) [] pos) (eCall cf g) :=
  de_tCB (pe_callTy hc hg hm hv ha hn hdb he hpl) hs
/-- a value of a name, looked at -/
def peekV (μ : Sto) : SV → Option D
  | .d x => some x
  | .loc n => peekC μ (.m n)
  | .obj n => peekC μ (.k n)
  | .err _ _ => none
theorem peekV_top (S : StOk G F ms μ H) {v : V} {x : SV} {d : D} (h : SVR G F ms v x) (e : peekV μ x = some d) : TR G F H v d := by
  cases x with
  | d x => exact peek_top (r := .d x) (Ow := fun _ => True) S h e
  | loc n => exact peek_top (r := .loc n) (Ow := fun _ => True) S h e
  | obj n => exact peek_top (r := .obj n) (Ow := fun _ => True) S h e
  | err c x => cases e
/-- of one argument, of two -/
def ca1 (f : Sto → D → Option ER) : CaF := fun μ xs => match xs with
  | [x] => match peekV μ x with
    | some d => f μ d
    | none => none
  | _ => none
def ca2 (f : Sto → D → D → Option ER) : CaF := fun μ xs => match xs with
  | [x, y] => match peekV μ x, peekV μ y with
    | some d, some e => f μ d e
    | _, _ => none
  | _ => none
theorem CaS.of1 {f : Sto → D → Option ER} {r : List V → Hp → VK → Prop}
    (h : ∀ (W : WX) (σ : L2.St) (F : Hp) (ms : Ad) (μ : Sto) (H : Hp) (v : V) (d : D) (o : ER) (Q : VK), StOk G F ms μ H → TR G F H v d → f μ d = some o → KE G W σ F ms μ H Q o → r [v] H Q) : CaS G (ca1 f) r := by
  refine ⟨fun {W σ F ms μ H vs xs o Q} S hv e k => ?_⟩
  unfold ca1 at e
  cases hv with
  | nil => cases e
  | cons h1 h2 =>
    cases h2 with
    | cons _ _ => cases e
    | nil =>
      dsimp only at e
      rename_i v x
      cases e1 : peekV μ x with
      | none => rw [e1] at e; cases e
      | some d => rw [e1] at e; exact h W σ F ms μ H v d o Q S (peekV_top S h1 e1) e k
theorem CaS.of2 {f : Sto → D → D → Option ER} {r : List V → Hp → VK → Prop}
    (h : ∀ (W : WX) (σ : L2.St) (F : Hp) (ms : Ad) (μ : Sto) (H : Hp) (v v' : V) (d d' : D) (o : ER) (Q : VK), StOk G F ms μ H → TR G F H v d → TR G F H v' d' → f μ d d' = some o → KE G W σ F ms μ H Q o → r [v, v'] H Q) : CaS G (ca2 f) r := by
  refine ⟨fun {W σ F ms μ H vs xs o Q} S hv e k => ?_⟩
  unfold ca2 at e
  cases hv with
  | nil => cases e
  | cons h1 h2 =>
    cases h2 with
    | nil => cases e
    | cons h2 h3 =>
      cases h3 with
      | cons _ _ => cases e
      | nil =>
        dsimp only at e
        rename_i v x v' x'
        cases e1 : peekV μ x with
        | none => rw [e1] at e; cases e
        | some d =>
          cases e2 : peekV μ x' with
          | none => rw [e1, e2] at e; cases e
          | some d' => rw [e1, e2] at e; exact h W σ F ms μ H v v' d d' o Q S (peekV_top S h1 e1) (peekV_top S h2 e2) e k
/-- len -/
def fLen (μ : Sto) : D → Option ER
  | .lst ds => okD μ (.int ds.length)
  | .tup ds => okD μ (.int ds.length)
  | .str x => guardE (decide (x.length ≤ sizeLine)) (okD μ (.int x.length))
  | _ => none
theorem len_ok : CaS G (ca1 fLen) (fun xs H Q => ∃ x n, xs = [x] ∧ LenV G.K x H n ∧ Q (.int n) H) := CaS.of1 fun W σ F ms μ H v d o Q S hd e k => by
  cases d with
  | lst ds =>
    obtain ⟨a, vs, rfl, hH, r⟩ := hd
    cases e
    exact ⟨_, _, rfl, .inl ⟨vs, SqL.of hH, r.length.symm⟩, k.data S (.int _)⟩
  | tup ds =>
    obtain ⟨a, vs, rfl, hH, r⟩ := hd
    cases e
    exact ⟨_, _, rfl, .inr ⟨vs, hH, r.length.symm⟩, k.data S (.int _)⟩
  | str x =>
    obtain ⟨rfl, ok⟩ := hd
    obtain ⟨c, e⟩ := guardE_of e
    cases e
    exact ⟨_, _, rfl, ⟨of_decide_eq_true c, rfl⟩, k.data S (.int _)⟩
  | _ => cases e
end
end DF
/-! DF5: +, *, **, subscripts, slices, tests, built-ins, texts' methods, lists' methods. -/
namespace DF
open PySem PySem.Spec PyProof.Rows L2

section
variable {G : Gm} {W : WX} {X : Cx} {F F' H H' F₀ H₀ : Hp} {ms ms' ms₀ : Ad} {μ μ' μ₀ : Sto} {σ : L2.St} {ρ : En} {Ow : Addr → Prop}

/-! ### texts stay texts -/
theorem strOk_app {x y : Str} (h : strOk x) (h' : strOk y) : strOk (x ++ y) := fun c hc => by
  have : c ∈ (x.cps ++ y.cps).toList := hc
  rw [Array.toList_append, List.mem_append] at this
  exact this.elim (h c) (h' c)
theorem strOk_sub {x y : Str} (h : strOk x) (s : ∀ c ∈ y.cps.toList, c ∈ x.cps.toList) : strOk y := fun c hc => h c (s c hc)
theorem strOk_one {x : Str} {c : Nat} (h : strOk x) (hc : c ∈ x.cps.toList) : strOk ⟨#[c]⟩ := fun d hd => by
  have : d = c := by simpa using hd
  rw [this]; exact h c hc

/-! ### + -/
def fAdd (μ : Sto) : D → D → Option ER
  | .int i, .int j => okD μ (.int (i + j))
  | .str x, .str y => guardE (decide (x.length + y.length ≤ sizeLine)) (okD μ (.str (x ++ y)))
  | .lst ds, .lst es => guardE (decide (ds.length + es.length ≤ sizeLine)) (some (.ok (.tmp (.lst (ds ++ es))) μ))
  | .tup ds, .tup es => guardE (decide (ds.length + es.length ≤ sizeLine) && !ds.isEmpty && !es.isEmpty) (okD μ (.tup (ds ++ es)))
  | _, _ => none
def rAddAll (K : PySem.W.Frag) : R2 := fun x y H Q => rI0 (fun i j => .int (i + j)) x y H Q ∨ (∃ i j, x = .str i ∧ y = .str j ∧ i.length + j.length ≤ sizeLine ∧ Q (.str (i ++ j)) H) ∨ rCat x y H Q ∨ rCatT K x y H Q
theorem op_addAll : OpR X (binaryOp .Add) (rAddAll X.K) := op_add.or (op_add_str.or (op_cat.or op_catT))
theorem add_ok : OpS G (op2 fAdd) (rAddAll G.K) := OpS.of2 fun W σ F ms μ H x y dx dy o Q S hx hy e k => by
  unfold fAdd at e
  split at e
  · cases e
    exact .inl ⟨_, _, hx, hy, k.data S (.int _)⟩
  · obtain ⟨c, e⟩ := guardE_of e
    cases e
    exact .inr (.inl ⟨_, _, hx.1, hy.1, of_decide_eq_true c, k.data S (.str (strOk_app hx.2 hy.2))⟩)
  · obtain ⟨c, e⟩ := guardE_of e
    cases e
    obtain ⟨a, vs, rfl, hH, r⟩ := hx
    obtain ⟨b, ws, rfl, hH', r'⟩ := hy
    refine .inr (.inr (.inl ⟨a, b, vs, ws, rfl, rfl, hH, hH', by rw [r.length, r'.length]; exact of_decide_eq_true c, fun p hp => KE.newList S k (r.append r') p hp⟩))
  · obtain ⟨c, e⟩ := guardE_of e
    cases e
    simp only [Bool.and_eq_true, decide_eq_true_eq, Bool.not_eq_true'] at c
    obtain ⟨⟨c1, c2⟩, c3⟩ := c
    obtain ⟨a, vs, rfl, hH, r⟩ := hx
    obtain ⟨b, ws, rfl, hH', r'⟩ := hy
    have n1 : vs ≠ [] := fun z => by subst z; cases r; cases c2
    have n2 : ws ≠ [] := fun z => by subst z; cases r'; cases c3
    exact .inr (.inr (.inr ⟨a, b, vs, ws, rfl, rfl, hH, hH', n1, by rw [r.length, r'.length]; exact c1, fun z => absurd z n2, fun _ p hp => KE.newTup S k (r.append r') p hp⟩))
  · cases e
theorem de_add {a b : Expr} {f g : EF} {pos : Pos} (hK : X.K = G.K) (ha : DE G W X a f) (hb : DE G W X b g) : DE G W X (.BinOp a .Add b pos) (eBin (op2 fAdd) f g) :=
  de_op op_addAll (by rw [hK]; exact add_ok) ha hb

/-! ### * -/
def fMul (μ : Sto) : D → D → Option ER
  | .int i, .int j => guardE (pMul i j) (okD μ (.int (i * j)))
  | .lst ds, .int k => guardE (decide (-(2 ^ 63) ≤ k) && decide (k < 2 ^ 63) && decide (ds.length * k.toNat ≤ sizeLine)) (some (.ok (.tmp (.lst (List.replicate k.toNat ds).flatten)) μ))
  | _, _ => none
theorem mul_ok : OpS G (op2 fMul) (fun x y H Q => rI CMul (fun i j => .int (i * j)) x y H Q ∨ rRep x y H Q) := OpS.of2 fun W σ F ms μ H x y dx dy o Q S hx hy e k => by
  unfold fMul at e
  split at e
  · obtain ⟨c, e⟩ := guardE_of e
    cases e
    exact .inl ⟨_, _, hx, hy, pMul_ok c, k.data S (.int _)⟩
  · obtain ⟨c, e⟩ := guardE_of e
    cases e
    simp only [Bool.and_eq_true, decide_eq_true_eq] at c
    obtain ⟨a, vs, rfl, hH, r⟩ := hx
    exact .inr ⟨a, _, vs, rfl, hy, hH, c.1.1, c.1.2, by rw [r.length]; exact c.2, fun p hp => KE.newList S k (r.flat _) p hp⟩
  · cases e
theorem de_mul {a b : Expr} {f g : EF} {pos : Pos} (ha : DE G W X a f) (hb : DE G W X b g) : DE G W X (.BinOp a .Mult b pos) (eBin (op2 fMul) f g) :=
  de_op (OpR.or op_mul op_rep) mul_ok ha hb

/-! ### ** -/
def pPowB (i j : Int) : Bool := decide (0 ≤ j) && decide ((Builtin.Int.intBits i : Int) * j ≤ 2 ^ 27)
theorem op_powB : OpR X (binaryOp .Pow) (rI (fun i j => 0 ≤ j ∧ (Builtin.Int.intBits i : Int) * j ≤ 2 ^ 27) fun i j => .int (i ^ j.toNat)) := L2.opI fun _ _ _ _ _ _ _ hc q => PyProof.Rows.pow_int hc.1 hc.2 q
theorem de_pow {a b : Expr} {f g : EF} {pos : Pos} (ha : DE G W X a f) (hb : DE G W X b g) : DE G W X (.BinOp a .Pow b pos) (eBin (opI pPowB fun i j => .int (i ^ j.toNat)) f g) :=
  de_op op_powB (opI_ok (fun i j h => by unfold pPowB at h; simpa only [Bool.and_eq_true, decide_eq_true_eq] using h) fun _ i j => .int _) ha hb

/-! ### one operand -/
def eUn (f : Sto → Res → Option ER) (g : EF) : EF := fun ρ μ => match g ρ μ with
  | some (.ok r μ1) => f μ1 r
  | some (.ex c x μ1) => some (.ex c x μ1)
  | none => none
theorem eUn_run {f : Sto → Res → Option ER} {g : EF} {o : ER} {t : V → Hp → VK → Prop} {Q : VK} (S : StOk G F ms μ H) (E : EnvOk G F ms σ ρ) (h : eUn f g ρ μ = some o) (k : KE G W σ F ms μ H Q o)
    (hs : ∀ {F' : Hp} {ms' : Ad} {μ' : Sto} {H' : Hp} {v : V} {r : Res} {o : ER}, StOk G F' ms' μ' H' → RR G F' ms' μ' H' (Own ms μ H) v r → f μ' r = some o → KE G W σ F' ms' μ' H' Q o → t v H' Q) : tE G W g σ H fun x H1 => t x H1 Q := by
  unfold eUn at h
  cases e1 : g ρ μ with
  | none => rw [e1] at h; cases h
  | some o1 =>
    rw [e1] at h
    cases o1 with
    | ex c x μ1 => cases h; exact run_part_ex S E e1 k
    | ok r μ1 =>
      dsimp only at h
      exact run_part S E e1 fun v F1 ms1 H1 g1 S1 E1 r1 => hs S1 r1 h (KE.shift g1 k)
def fNeg (μ : Sto) (r : Res) : Option ER := match peek μ r with
  | some (.int i) => okD μ (.int (-i))
  | _ => none
theorem de_neg {a : Expr} {f : EF} {pos : Pos} (ha : DE G W X a f) : DE G W X (.UnaryOp .USub a pos) (eUn fNeg f) := by
  refine PE.mono (pe_un un_neg ha) fun σ H Q ⟨F, ms, ρ, μ, S, E, o, ho, k⟩ => ?_
  refine eUn_run (t := rU fun i => .int (-i)) S E ho k fun {F' ms' μ' H' v r o} S' r' e k' => ?_
  unfold fNeg at e
  split at e
  · rename_i i e1
    cases e
    have q := peek_top S' r' e1
    exact ⟨i, q, k'.data S' (.int _)⟩
  · cases e

/-! ### o[i] -/
def itemsOf (μ : Sto) : Res → Option (List D)
  | .d (.lst ds) => some ds
  | .d (.tup ds) => some ds
  | .loc n => match μ.at (.m n) with
    | some (.ro ds) => some ds
    | some (.lst ds) => some ds
    | some (.frz (.lst ds)) => some ds
    | some (.frz (.tup ds)) => some ds
    | _ => none
  | .obj n => match μ.at (.k n) with
    | some (.lst ds) => some ds
    | some (.frz (.lst ds)) => some ds
    | some (.frz (.tup ds)) => some ds
    | _ => none
  | .tmp (.lst ds) => some ds
  | _ => none
/-- a sequence of data, to be read -/
def SqD (G : Gm) (F H : Hp) (v : V) (ds : List D) : Prop := ∃ (a : Addr) (vs : List V), v = .ref a ∧ (SqL G.K H a vs ∨ SqT G.K H a vs) ∧ RpL G F vs ds
theorem Rp.sq (s : Le F H) {v : V} {x : D} {ds : List D} (h : Rp G F v x) (e : x = .lst ds ∨ x = .tup ds) : SqD G F H v ds := by
  cases h with
  | lst e1 r => rcases e with e | e <;> cases e; exact ⟨_, _, rfl, .inl (SqL.of (s _ _ e1)), r⟩
  | tup e1 r => rcases e with e | e <;> cases e; exact ⟨_, _, rfl, .inr (SqT.mono' s e1), r⟩
  | _ => rcases e with e | e <;> cases e
theorem itemsOf_ok (S : StOk G F ms μ H) {v : V} {r : Res} {ds : List D} (h : RR G F ms μ H Ow v r) (e : itemsOf μ r = some ds) : SqD G F H v ds := by
  cases r with
  | d x =>
    cases x with
    | lst es => cases e; exact Rp.sq S.sub h (.inl rfl)
    | tup es => cases e; exact Rp.sq S.sub h (.inr rfl)
    | _ => cases e
  | loc n =>
    obtain ⟨a, ha, rfl⟩ := h
    unfold itemsOf at e
    dsimp only at e
    split at e
    · rename_i es q; cases e
      obtain ⟨vs, hq, r⟩ := S.cell _ _ _ ha q
      exact ⟨a, vs, rfl, .inl (SqL.mono' S.sub hq), r⟩
    · rename_i es q; cases e
      obtain ⟨vs, hq, r⟩ := S.cell _ _ _ ha q
      exact ⟨a, vs, rfl, .inl (SqL.of hq), r⟩
    · rename_i es q; cases e; exact Rp.sq S.sub (S.cell _ _ _ ha q) (.inl rfl)
    · rename_i es q; cases e; exact Rp.sq S.sub (S.cell _ _ _ ha q) (.inr rfl)
    · cases e
  | obj n =>
    obtain ⟨a, ha, rfl⟩ := h
    unfold itemsOf at e
    dsimp only at e
    split at e
    · rename_i es q; cases e
      obtain ⟨vs, hq, r⟩ := S.cell _ _ _ ha q
      exact ⟨a, vs, rfl, .inl (SqL.of hq), r⟩
    · rename_i es q; cases e; exact Rp.sq S.sub (S.cell _ _ _ ha q) (.inl rfl)
    · rename_i es q; cases e; exact Rp.sq S.sub (S.cell _ _ _ ha q) (.inr rfl)
    · cases e
  | tmp c =>
    cases c with
    | lst es =>
      cases e
      obtain ⟨a, rfl, _, _, _, cr, _⟩ := h
      obtain ⟨vs, hq, r⟩ := cr
      exact ⟨a, vs, rfl, .inl (SqL.of hq), r⟩
    | _ => cases e
def resOfK : KV → Res
  | .d x => .d x
  | .obj n => .obj n
theorem KVR.rr {v : V} {x : KV} (h : KVR G F ms v x) : RR G F ms μ H Ow v (resOfK x) := by
  cases x with
  | d x => exact h
  | obj n => exact h
/-- a list of objects that live on -/
def objsOf (μ : Sto) : Res → Option (List KV)
  | .loc n => match μ.at (.m n) with
    | some (.olst xs) => some xs
    | _ => none
  | .obj n => match μ.at (.k n) with
    | some (.olst xs) => some xs
    | _ => none
  | .tmp (.olst xs) => some xs
  | _ => none
def SqO (G : Gm) (F : Hp) (ms : Ad) (H : Hp) (v : V) (xs : List KV) : Prop := ∃ (a : Addr) (vs : List V), v = .ref a ∧ H a = some (.lst vs) ∧ All2 (KVR G F ms) vs xs
theorem objsOf_ok (S : StOk G F ms μ H) {v : V} {r : Res} {xs : List KV} (h : RR G F ms μ H Ow v r) (e : objsOf μ r = some xs) : SqO G F ms H v xs := by
  cases r with
  | d x => cases e
  | loc n =>
    obtain ⟨a, ha, rfl⟩ := h
    unfold objsOf at e
    dsimp only at e
    split at e
    · rename_i es q; cases e
      obtain ⟨vs, hq, r⟩ := S.cell _ _ _ ha q
      exact ⟨a, vs, rfl, hq, r⟩
    · cases e
  | obj n =>
    obtain ⟨a, ha, rfl⟩ := h
    unfold objsOf at e
    dsimp only at e
    split at e
    · rename_i es q; cases e
      obtain ⟨vs, hq, r⟩ := S.cell _ _ _ ha q
      exact ⟨a, vs, rfl, hq, r⟩
    · cases e
  | tmp c =>
    cases c with
    | olst es =>
      cases e
      obtain ⟨a, rfl, _, _, _, cr, _⟩ := h
      obtain ⟨vs, hq, r⟩ := cr
      exact ⟨a, vs, rfl, hq, r⟩
    | _ => cases e
def opIx : OpF := fun μ a b => match peek μ b with
  | some (.int i) => match itemsOf μ a with
    | some ds => match atI ds i with
      | some x => okD μ x
      | none => none
    | none => match objsOf μ a with
      | some xs => match atI xs i with
        | some x => some (.ok (resOfK x) μ)
        | none => none
      | none => match peek μ a with
        | some (.str z) => match atI z.cps.toList i with
          | some c => guardE (decide (z.length ≤ sizeLine)) (okD μ (.str ⟨#[c]⟩))
          | none => none
        | _ => none
  | _ => none
theorem atI_len {α β : Type} {xs : List α} {ys : List β} (h : xs.length = ys.length) {i : Int} {y : β} (e : atI ys i = some y) : ∃ j : Nat, ys[j]? = some y ∧ ∀ x, xs[j]? = some x → atI xs i = some x := by
  unfold atI at e ⊢
  rw [h]
  cases q : ixN ys.length i with
  | none => rw [q] at e; cases e
  | some j => rw [q] at e; exact ⟨j, e, fun x hx => hx⟩
theorem ix_ok : OpS G opIx (rIx G.K) := ⟨fun {W σ F ms μ H Ow x y rx ry o Q} S hx hy e k => by
  unfold opIx at e
  split at e
  · rename_i i ei
    have ey := peek_top S hy ei
    split at e
    · rename_i ds ed
      obtain ⟨a, vs, rfl, hs, r⟩ := itemsOf_ok S hx ed
      split at e
      · rename_i d hd
        cases e
        obtain ⟨j, h1, h2⟩ := atI_len r.length hd
        obtain ⟨v, hv, rv⟩ := r.get h1
        have q := k.data S rv
        rcases hs with hs | hs
        · exact .inl ⟨a, vs, i, v, rfl, ey, hs, h2 v hv, q⟩
        · exact .inr (.inl ⟨a, vs, i, v, rfl, ey, hs, h2 v hv, q⟩)
      · cases e
    · split at e
      · rename_i xs ex
        obtain ⟨a, vs, rfl, hs, r⟩ := objsOf_ok S hx ex
        split at e
        · rename_i d hd
          cases e
          obtain ⟨j, h1, h2⟩ := atI_len r.length hd
          obtain ⟨v, hv, rv⟩ := r.get h1
          exact .inl ⟨a, vs, i, v, rfl, ey, SqL.of hs, h2 v hv, k v F ms H (Go.refl ..) S rv.rr⟩
        · cases e
      · split at e
        · rename_i z ez
          obtain ⟨rfl, oz⟩ := peek_top S hx ez
          split at e
          · rename_i c hc
            obtain ⟨g, e⟩ := guardE_of e
            cases e
            obtain ⟨j, _, h1, _⟩ := atI_get hc
            exact .inr (.inr ⟨z, i, c, rfl, ey, of_decide_eq_true g, hc, k.data S (.str (strOk_one oz (List.mem_of_getElem? h1)))⟩)
          · cases e
        · cases e
  · cases e⟩
theorem de_sub' {a b : Expr} {f g : EF} {pos : Pos} (hK : X.K = G.K) (ha : DE G W X a f) (hb : DE G W X b g) (hx : PlainIx b := by exact fun _ _ => rfl) : DE G W X (.Subscript a b pos) (eBin opIx f g) :=
  de_ix ix_seq (by rw [hK]; exact ix_ok) ha hb hx

/-! ### slices -/
/-- a part of a slice: left out, or an int -/
def pNo : EF := fun _ μ => some (.ok (.d .non) μ)
def ixOf : D → Option (Option Int)
  | .non => some none
  | .int i => some (some i)
  | _ => none
def ixR : Res → Option (Option Int)
  | .d x => ixOf x
  | _ => none
/-- what a slice's part is -/
structure DO (G : Gm) (W : WX) (X : Cx) (e : Option Expr) (f : EF) : Prop where
  run : ∃ t : TO, PO X e t ∧ ∀ (σ : L2.St) (F : Hp) (ms : Ad) (ρ : En) (μ : Sto) (H : Hp) (Q : Option Int → Hp → Prop), StOk G F ms μ H → EnvOk G F ms σ ρ → ∀ o, f ρ μ = some o →
    (match o with
      | .ok r μ1 => ∃ i, ixR r = some i ∧ ∀ (F' : Hp) (ms' : Ad) (H' : Hp), Go F ms μ H F' ms' μ1 H' → StOk G F' ms' μ1 H' → Q i H'
      | .ex c x μ1 => KX G W σ F ms μ H c x μ1) → t σ H Q
theorem do_none : DO G W X none pNo := ⟨_, po_none, fun σ F ms ρ μ H Q S E o ho k => by
  cases ho
  obtain ⟨i, e, k⟩ := k
  cases e
  exact k F ms H (Go.refl ..) S⟩
def eI (f : EF) : EF := fun ρ μ => match f ρ μ with
  | some (.ok r μ1) => match peek μ1 r with
    | some (.int i) => okD μ1 (.int i)
    | _ => none
  | some (.ex c x μ1) => some (.ex c x μ1)
  | none => none
theorem do_some {e : Expr} {f : EF} (h : DE G W X e f) : DO G W X (some e) (eI f) := ⟨_, po_some h, fun σ F ms ρ μ H Q S E o ho k => by
  unfold eI at ho
  cases e1 : f ρ μ with
  | none => rw [e1] at ho; cases ho
  | some o1 =>
    rw [e1] at ho
    cases o1 with
    | ex c x μ1 => cases ho; exact run_part_ex S E e1 k
    | ok r μ1 =>
      dsimp only at ho
      refine run_part S E e1 fun v F1 ms1 H1 g1 S1 E1 r1 => ?_
      cases e2 : peek μ1 r with
      | none => rw [e2] at ho; cases ho
      | some d =>
        rw [e2] at ho
        cases d with
        | int i =>
          cases ho
          obtain ⟨j, ej, k⟩ := k
          cases ej
          exact ⟨i, peek_top S1 r1 e2, k F1 ms1 H1 g1 S1⟩
        | _ => cases ho⟩
def cutL {α : Type} (xs : List α) (lo hi : Option Int) : List α := (xs.drop (HT.sIx xs.length 0 lo)).take (HT.sIx xs.length xs.length hi - HT.sIx xs.length 0 lo)
theorem RpL.cut {vs : List V} {ds : List D} (h : RpL G F vs ds) (lo hi : Option Int) : RpL G F (cutV vs lo hi) (cutL ds lo hi) := by
  unfold cutV cutL
  rw [h.length]
  exact (h.drop _).take _
def fSl (μ : Sto) (x : D) (lo hi : Option Int) : Option ER := match x with
  | .lst ds => some (.ok (.tmp (.lst (cutL ds lo hi))) μ)
  | .tup ds => guardE (!(decide (HT.sIx ds.length 0 lo = 0) && decide (HT.sIx ds.length ds.length hi = ds.length))) (okD μ (.tup (cutL ds lo hi)))
  | .str z => guardE (decide (z.length ≤ sizeLine)) (okD μ (.str (cutS z lo hi)))
  | _ => none
def eSl (f lo hi : EF) : EF := fun ρ μ => match f ρ μ with
  | some (.ok r μ1) => match lo ρ μ1 with
    | some (.ok rl μ2) => match ixR rl with
      | some l => match hi ρ μ2 with
        | some (.ok rh μ3) => match ixR rh with
          | some h => match peek μ3 r with
            | some x => fSl μ3 x l h
            | none => none
          | none => none
        | some (.ex c x μ3) => some (.ex c x μ3)
        | none => none
      | none => none
    | some (.ex c x μ2) => some (.ex c x μ2)
    | none => none
  | some (.ex c x μ1) => some (.ex c x μ1)
  | none => none
theorem cutS_ok {z : Str} (h : strOk z) (lo hi : Option Int) : strOk (cutS z lo hi) := strOk_sub h fun c hc => by
  have : c ∈ ((z.cps.toList.drop (HT.sIx z.length 0 lo)).take (HT.sIx z.length z.length hi - HT.sIx z.length 0 lo)) := by
    unfold cutS at hc
    simpa using hc
  exact List.mem_of_mem_drop (List.mem_of_mem_take this)
theorem de_slice {a : Expr} {lo hi : Option Expr} {f fl fh : EF} {p2 pos : Pos} (hK : X.K = G.K) (ha : DE G W X a f) (hl : DO G W X lo fl) (hh : DO G W X hi fh) : DE G W X (.Subscript a (.Slice lo hi none p2) pos) (eSl f fl fh) := by
  obtain ⟨tl, pl, kl⟩ := hl
  obtain ⟨th, ph, kh⟩ := hh
  refine PE.mono (pe_slice (SlR.or sl_list (SlR.or sl_tup sl_str)) ha pl ph) fun σ H Q ⟨F, ms, ρ, μ, S, E, o, ho, k⟩ => ?_
  unfold eSl at ho
  cases e1 : f ρ μ with
  | none => rw [e1] at ho; cases ho
  | some o1 =>
    rw [e1] at ho
    cases o1 with
    | ex c x μ1 => cases ho; exact run_part_ex S E e1 k
    | ok r μ1 =>
      dsimp only at ho
      refine run_part S E e1 fun v F1 ms1 H1 g1 S1 E1 r1 => ?_
      cases e2 : fl ρ μ1 with
      | none => rw [e2] at ho; cases ho
      | some o2 =>
        rw [e2] at ho
        refine kl σ F1 ms1 ρ μ1 H1 _ S1 E1 o2 e2 ?_
        cases o2 with
        | ex c x μ2 => cases ho; exact KX.shift g1 k
        | ok rl μ2 =>
          dsimp only at ho ⊢
          cases e4 : ixR rl with
          | none => rw [e4] at ho; cases ho
          | some l =>
            rw [e4] at ho
            dsimp only at ho
            refine ⟨l, rfl, fun F2 ms2 H2 g2 S2 => ?_⟩
            have E2 := E1.mono g2.mono g2.pre
            cases e3 : fh ρ μ2 with
            | none => rw [e3] at ho; cases ho
            | some o3 =>
              rw [e3] at ho
              refine kh σ F2 ms2 ρ μ2 H2 _ S2 E2 o3 e3 ?_
              cases o3 with
              | ex c x μ3 => cases ho; exact KX.shift (g1.trans g2) k
              | ok rh μ3 =>
                dsimp only at ho ⊢
                cases e5 : ixR rh with
                | none => rw [e5] at ho; cases ho
                | some h =>
                  rw [e5] at ho
                  dsimp only at ho
                  refine ⟨h, rfl, fun F3 ms3 H3 g3 S3 => ?_⟩
                  have r3 := (r1.go g2).go g3
                  have k3 := KE.shift ((g1.trans g2).trans g3) k
                  cases e6 : peek μ3 r with
                  | none => rw [e6] at ho; cases ho
                  | some x =>
                    rw [e6] at ho
                    dsimp only at ho
                    have t := peek_top S3 r3 e6
                    unfold fSl at ho
                    split at ho
                    · cases ho
                      obtain ⟨a, vs, rfl, hs, q⟩ := t
                      exact .inl ⟨a, vs, rfl, SqL.of hs, fun p hp => KE.newList S3 k3 (q.cut l h) p hp⟩
                    · obtain ⟨c, ho⟩ := guardE_of ho
                      cases ho
                      obtain ⟨a, vs, rfl, hs, q⟩ := t
                      rw [← hK] at hs
                      refine .inr (.inl ⟨a, vs, rfl, hs, ?_, fun p hp => KE.newTup S3 k3 (q.cut l h) p hp⟩)
                      rw [q.length]
                      simp only [Bool.not_eq_true', Bool.and_eq_false_iff, decide_eq_false_iff_not] at c
                      rintro ⟨z1, z2⟩
                      rcases c with c | c
                      · exact c z1
                      · exact c z2
                    · obtain ⟨c, ho⟩ := guardE_of ho
                      cases ho
                      obtain ⟨rfl, oz⟩ := t
                      exact .inr (.inr ⟨_, rfl, of_decide_eq_true c, k3.data S3 (.str (cutS_ok oz l h))⟩)
                    · cases ho
end
end DF
/-! DF6: tests, and, or, not, conditional expressions, chains, None; built-ins. -/
namespace DF
open PySem PySem.Spec PyProof.Rows L2

section
variable {G : Gm} {W : WX} {X : Cx} {F F' H H' F₀ H₀ : Hp} {ms ms' ms₀ : Ad} {μ μ' μ₀ : Sto} {σ : L2.St} {ρ : En} {Ow : Addr → Prop}

/-! ### tests -/
theorem KT.bl {Q : Bool → Hp → Prop} {b : Bool} (S : StOk G F ms μ H) (k : KT G W σ F ms μ H Q (.ok (.d (.bl b)) μ)) : Q b H := k F ms H (Go.refl ..) S
theorem KT.ke {Q : Bool → Hp → Prop} {o : ER} (k : KT G W σ F ms μ H Q o) : KE G W σ F ms μ H (fun x H' => ∃ b, x = .bl b ∧ Q b H') o := by
  cases o with
  | ex c x μ' => exact k
  | ok r μ' =>
    intro v F' ms' H' g S' r'
    cases r with
    | d x =>
      cases x with
      | bl b => cases r'; exact ⟨b, rfl, k F' ms' H' g S'⟩
      | _ => exact k.elim
    | _ => exact k.elim
/-- a test that is a bool's expression by its own rule -/
theorem dt_tTest {e : Expr} {op : OpF} {r : R2} {f g : EF} (h : PT X e (tTest (tOp r (tE G W f) (tE G W g)))) (hs : OpS G op r) : DT G W X e (eBin op f g) := by
  refine PT.mono h fun σ H Q q => ?_
  obtain ⟨F, ms, ρ, μ, S, E, o, ho, k⟩ := q
  have k := KT.ke k
  show tE G W f σ H fun x H1 => tE G W g σ H1 fun y H2 => r x y H2 fun x H' => ∃ k, x = .bl k ∧ Q k H'
  unfold eBin at ho
  cases e1 : f ρ μ with
  | none => rw [e1] at ho; cases ho
  | some o1 =>
    rw [e1] at ho
    cases o1 with
    | ex c x μ1 => cases ho; exact run_part_ex S E e1 k
    | ok r μ1 =>
      dsimp only at ho
      refine run_part S E e1 fun v F1 ms1 H1 g1 S1 E1 r1 => ?_
      cases e2 : g ρ μ1 with
      | none => rw [e2] at ho; cases ho
      | some o2 =>
        rw [e2] at ho
        cases o2 with
        | ex c x μ2 => cases ho; exact run_part_ex S1 E1 e2 (KX.shift g1 k)
        | ok r' μ2 =>
          dsimp only at ho
          refine run_part S1 E1 e2 fun v' F2 ms2 H2 g2 S2 E2 r2 => ?_
          exact hs.run S2 (r1.go g2) (r2.own fun _ z => g1.owns z) ho (KE.shift (g1.trans g2) k)
theorem dt_cmp {a b : Expr} {opr : CmpOp} {op : OpF} {r : R2} {f g : EF} {pos : Pos} (ho : OpR X (compareOp opr) r) (hs : OpS G op r) (ha : DE G W X a f) (hb : DE G W X b g) (hm : behindInMarks opr b = false) : DT G W X (.Compare a [opr] [b] pos) (eBin op f g) :=
  dt_tTest (pt_cmpR ho ha hb hm) hs
theorem dt_eq {a b : Expr} {f g : EF} {pos : Pos} (hK : X.K = G.K) (hu : X.A.units + 64 < cLine) (ha : DE G W X a f) (hb : DE G W X b g) : DT G W X (.Compare a [.Eq] [b] pos) (eBin (opEq false) f g) :=
  dt_cmp (op_eqM hu) (by rw [hK]; exact eq_ok false) ha hb (nomark _)
theorem dt_ne {a b : Expr} {f g : EF} {pos : Pos} (hK : X.K = G.K) (hu : X.A.units + 64 < cLine) (ha : DE G W X a f) (hb : DE G W X b g) : DT G W X (.Compare a [.NotEq] [b] pos) (eBin (opEq true) f g) :=
  dt_cmp (op_neM hu) (by rw [hK]; exact eq_ok true) ha hb (nomark _)
theorem dt_in {a b : Expr} {f g : EF} {pos : Pos} (hK : X.K = G.K) (hu : X.A.units + 65 < cLine) (ha : DE G W X a f) (hb : DE G W X b g) (hm : behindInMarks .In b = false := by rfl) : DT G W X (.Compare a [.In] [b] pos) (eBin (opIn false) f g) :=
  dt_cmp (OpR.or (op_inM hu) op_in_sign) (by rw [hK]; exact in_ok false) ha hb hm
theorem dt_notIn {a b : Expr} {f g : EF} {pos : Pos} (hK : X.K = G.K) (hu : X.A.units + 65 < cLine) (ha : DE G W X a f) (hb : DE G W X b g) (hm : behindInMarks .NotIn b = false := by rfl) : DT G W X (.Compare a [.NotIn] [b] pos) (eBin (opIn true) f g) :=
  dt_cmp (OpR.or (op_notInM hu) op_notIn_sign) (by rw [hK]; exact in_ok true) ha hb hm
abbrev opLt : OpF := opI (fun _ _ => true) fun i j => .bl (decide (i < j))
abbrev opLe : OpF := opI (fun _ _ => true) fun i j => .bl (decide (i ≤ j))
abbrev opGt : OpF := opI (fun _ _ => true) fun i j => .bl (decide (j < i))
abbrev opGe : OpF := opI (fun _ _ => true) fun i j => .bl (decide (j ≤ i))
theorem lt_ok : OpS G opLt (rI0 fun i j => .bl (decide (i < j))) := opI0_ok fun _ i j => .bl (decide (i < j))
theorem le_ok : OpS G opLe (rI0 fun i j => .bl (decide (i ≤ j))) := opI0_ok fun _ i j => .bl (decide (i ≤ j))
theorem gt_ok : OpS G opGt (rI0 fun i j => .bl (decide (j < i))) := opI0_ok fun _ i j => .bl (decide (j < i))
theorem ge_ok : OpS G opGe (rI0 fun i j => .bl (decide (j ≤ i))) := opI0_ok fun _ i j => .bl (decide (j ≤ i))
theorem dt_lt {a b : Expr} {f g : EF} {pos : Pos} (ha : DE G W X a f) (hb : DE G W X b g) : DT G W X (.Compare a [.Lt] [b] pos) (eBin opLt f g) := dt_cmp op_lt lt_ok ha hb (nomark _)
theorem dt_le {a b : Expr} {f g : EF} {pos : Pos} (ha : DE G W X a f) (hb : DE G W X b g) : DT G W X (.Compare a [.LtE] [b] pos) (eBin opLe f g) := dt_cmp op_le le_ok ha hb (nomark _)
theorem dt_gt {a b : Expr} {f g : EF} {pos : Pos} (ha : DE G W X a f) (hb : DE G W X b g) : DT G W X (.Compare a [.Gt] [b] pos) (eBin opGt f g) := dt_cmp op_gt gt_ok ha hb (nomark _)
theorem dt_ge {a b : Expr} {f g : EF} {pos : Pos} (ha : DE G W X a f) (hb : DE G W X b g) : DT G W X (.Compare a [.GtE] [b] pos) (eBin opGe f g) := dt_cmp op_ge ge_ok ha hb (nomark _)
/-- is None, is not None -/
def opIs (neg : Bool) : OpF := fun μ a b => match b with
  | .d .non => match a with
    | .d .non => okD μ (.bl (!neg))
    | _ => okD μ (.bl neg)
  | _ => none
theorem is_ok (neg : Bool) : OpS G (opIs neg) (fun x y H Q => y = .non ∧ Q (.bl (if neg then !decide (x = .non) else decide (x = .non))) H) := ⟨fun {W σ F ms μ H Ow x y rx ry o Q} S hx hy e k => by
  unfold opIs at e
  split at e
  · cases (show Rp G F y .non from hy)
    have nn : ∀ {x : V}, x ≠ .non → decide (x = V.non) = false := fun {x} h => decide_eq_false h
    have fin : x ≠ .non → okD μ (.bl neg) = some o → (V.non : V) = .non ∧ Q (.bl (if neg then !decide (x = .non) else decide (x = .non))) H := fun h e => by
      cases e
      refine ⟨rfl, ?_⟩
      rw [nn h]
      have := k.data S (v := .bl neg) (.bl _)
      cases neg <;> exact this
    cases rx with
    | d dx =>
      cases dx with
      | non =>
        cases (show Rp G F x .non from hx)
        cases e
        refine ⟨rfl, ?_⟩
        have := k.data S (v := .bl (!neg)) (.bl _)
        cases neg <;> exact this
      | bl b => cases (show Rp G F x (.bl b) from hx); exact fin (fun z => nomatch z) e
      | int i => cases (show Rp G F x (.int i) from hx); exact fin (fun z => nomatch z) e
      | str s => cases (show Rp G F x (.str s) from hx) with | str _ => exact fin (fun z => nomatch z) e
      | lst ds => cases (show Rp G F x (.lst ds) from hx) with | lst _ _ => exact fin (fun z => nomatch z) e
      | tup ds => cases (show Rp G F x (.tup ds) from hx) with | tup _ _ => exact fin (fun z => nomatch z) e
      | dic ks ds => cases (show Rp G F x (.dic ks ds) from hx) with | dic _ _ _ => exact fin (fun z => nomatch z) e
      | obj c fs ds => cases (show Rp G F x (.obj c fs ds) from hx) with | obj _ _ _ => exact fin (fun z => nomatch z) e
    | loc n => obtain ⟨a, _, rfl⟩ := hx; exact fin (fun z => nomatch z) e
    | obj n => obtain ⟨a, _, rfl⟩ := hx; exact fin (fun z => nomatch z) e
    | tmp c => obtain ⟨a, rfl, _⟩ := hx; exact fin (fun z => nomatch z) e
  · cases e⟩
theorem de_is {a b : Expr} {f g : EF} {pos : Pos} (ha : DE G W X a f) (hb : DE G W X b g) : DE G W X (.Compare a [.Is] [b] pos) (eBin (opIs false) f g) := de_cmp op_isN (is_ok false) ha hb (nomark _)
theorem de_isNot {a b : Expr} {f g : EF} {pos : Pos} (ha : DE G W X a f) (hb : DE G W X b g) : DE G W X (.Compare a [.IsNot] [b] pos) (eBin (opIs true) f g) := de_cmp op_notN (is_ok true) ha hb (nomark _)
theorem dt_is {a b : Expr} {f g : EF} {pos : Pos} (ha : DE G W X a f) (hb : DE G W X b g) : DT G W X (.Compare a [.Is] [b] pos) (eBin (opIs false) f g) := dt_cmp op_isN (is_ok false) ha hb (nomark _)
theorem dt_isNot {a b : Expr} {f g : EF} {pos : Pos} (ha : DE G W X a f) (hb : DE G W X b g) : DT G W X (.Compare a [.IsNot] [b] pos) (eBin (opIs true) f g) := dt_cmp op_notN (is_ok true) ha hb (nomark _)

/-- what a test's expression has come to -/
def asB : Res → Option Bool
  | .d (.bl b) => some b
  | _ => none
theorem asB_of {r : Res} {b : Bool} (h : asB r = some b) : r = .d (.bl b) := by
  unfold asB at h
  split at h
  · cases h; rfl
  · cases h
/-- run a test -/
theorem run_test {f : EF} (S : StOk G F ms μ H) (E : EnvOk G F ms σ ρ) {r : Res} {b : Bool} (h : f ρ μ = some (.ok r μ')) (hb : asB r = some b) {Q : Bool → Hp → Prop}
    (k : ∀ F' ms' H', Go F ms μ H F' ms' μ' H' → StOk G F' ms' μ' H' → EnvOk G F' ms' σ ρ → Q b H') : tT G W f σ H Q := by
  cases asB_of hb
  exact ⟨F, ms, ρ, μ, S, E, _, h, fun F' ms' H' g S' => k F' ms' H' g S' (E.mono g.mono g.pre)⟩
theorem run_test_ex {f : EF} (S : StOk G F ms μ H) (E : EnvOk G F ms σ ρ) {c : Nat} {x : D} (h : f ρ μ = some (.ex c x μ')) {Q : Bool → Hp → Prop} (k : KX G W σ F ms μ H c x μ') : tT G W f σ H Q :=
  ⟨F, ms, ρ, μ, S, E, _, h, k⟩
/-- f, then by its answer -/
def eIf (f g h : EF) : EF := fun ρ μ => match f ρ μ with
  | some (.ok r μ1) => match asB r with
    | some true => g ρ μ1
    | some false => h ρ μ1
    | none => none
  | some (.ex c x μ1) => some (.ex c x μ1)
  | none => none
theorem eIf_run {f g h : EF} {o : ER} {P : Prop} {Q : Bool → Hp → Prop} (S : StOk G F ms μ H) (E : EnvOk G F ms σ ρ) (e : eIf f g h ρ μ = some o) (kx : ∀ c x μ', o = .ex c x μ' → KX G W σ F ms μ H c x μ')
    (ht : ∀ F' ms' μ' H', Go F ms μ H F' ms' μ' H' → StOk G F' ms' μ' H' → EnvOk G F' ms' σ ρ → g ρ μ' = some o → Q true H')
    (hf : ∀ F' ms' μ' H', Go F ms μ H F' ms' μ' H' → StOk G F' ms' μ' H' → EnvOk G F' ms' σ ρ → h ρ μ' = some o → Q false H') : tT G W f σ H Q := by
  unfold eIf at e
  cases e1 : f ρ μ with
  | none => rw [e1] at e; cases e
  | some o1 =>
    rw [e1] at e
    cases o1 with
    | ex c x μ1 => cases e; exact run_test_ex S E e1 (kx _ _ _ rfl)
    | ok r μ1 =>
      dsimp only at e
      cases e2 : asB r with
      | none => rw [e2] at e; cases e
      | some b =>
        rw [e2] at e
        refine run_test S E e1 e2 fun F' ms' H' g1 S' E' => ?_
        cases b with
        | true => exact ht F' ms' μ1 H' g1 S' E' e
        | false => exact hf F' ms' μ1 H' g1 S' E' e
theorem de_if {c a b : Expr} {f g h : EF} {pos : Pos} (hc : DT G W X c f) (ha : DE G W X a g) (hb : DE G W X b h) : DE G W X (.IfExp c a b pos) (eIf f g h) := by
  refine PE.mono (pe_ifExp hc ha hb) fun σ H Q ⟨F, ms, ρ, μ, S, E, o, ho, k⟩ => ?_
  refine eIf_run (P := True) S E ho (fun c x μ' e => by subst e; exact k) (fun F' ms' μ' H' g1 S' E' e => ?_) fun F' ms' μ' H' g1 S' E' e => ?_
  · rw [if_pos rfl]; exact ⟨F', ms', ρ, μ', S', E', o, e, KE.shift g1 k⟩
  · rw [if_neg Bool.false_ne_true]; exact ⟨F', ms', ρ, μ', S', E', o, e, KE.shift g1 k⟩
def eB (b : Bool) : EF := fun _ μ => okD μ (.bl b)
abbrev eAnd (f g : EF) : EF := eIf f g (eB false)
abbrev eOr (f g : EF) : EF := eIf f (eB true) g
abbrev eNot (f : EF) : EF := eIf f (eB false) (eB true)
theorem dt_not {a : Expr} {f : EF} {pos : Pos} (ha : DT G W X a f) : DT G W X (.UnaryOp .Not a pos) (eNot f) := by
  refine PT.mono (pt_not ha) fun σ H Q ⟨F, ms, ρ, μ, S, E, o, ho, k⟩ => ?_
  refine eIf_run (P := True) (Q := fun c H1 => Q (!c) H1) S E ho (fun c x μ' e => by subst e; exact k) (fun F' ms' μ' H' g1 S' E' e => ?_) fun F' ms' μ' H' g1 S' E' e => ?_
  · cases e; exact KT.bl S' (KT.shift g1 k)
  · cases e; exact KT.bl S' (KT.shift g1 k)
theorem dw_and1 {a : Expr} {f : EF} {pos : Pos} (ha : DT G W X a f) : DW G W X (.BoolOp .And [a] pos) f := pw_and1 ha
theorem dw_or1 {a : Expr} {f : EF} {pos : Pos} (ha : DT G W X a f) : DW G W X (.BoolOp .Or [a] pos) f := pw_or1 ha
theorem dw_and {a b : Expr} {rest : List Expr} {f g : EF} {pos : Pos} (ha : DT G W X a f) (hb : DW G W X (.BoolOp .And (b :: rest) pos) g) : DW G W X (.BoolOp .And (a :: b :: rest) pos) (eAnd f g) := by
  refine PW.mono (pw_and ha hb) fun σ H Q ⟨F, ms, ρ, μ, S, E, o, ho, k⟩ => ?_
  refine eIf_run (P := True) S E ho (fun c x μ' e => by subst e; exact k) (fun F' ms' μ' H' g1 S' E' e => ?_) fun F' ms' μ' H' g1 S' E' e => ?_
  · rw [if_pos rfl]; exact ⟨F', ms', ρ, μ', S', E', o, e, KT.shift g1 k⟩
  · cases e; rw [if_neg Bool.false_ne_true]; exact KT.bl S' (KT.shift g1 k)
theorem dw_or {a b : Expr} {rest : List Expr} {f g : EF} {pos : Pos} (ha : DT G W X a f) (hb : DW G W X (.BoolOp .Or (b :: rest) pos) g) : DW G W X (.BoolOp .Or (a :: b :: rest) pos) (eOr f g) := by
  refine PW.mono (pw_or ha hb) fun σ H Q ⟨F, ms, ρ, μ, S, E, o, ho, k⟩ => ?_
  refine eIf_run (P := True) S E ho (fun c x μ' e => by subst e; exact k) (fun F' ms' μ' H' g1 S' E' e => ?_) fun F' ms' μ' H' g1 S' E' e => ?_
  · cases e; rw [if_pos rfl]; exact KT.bl S' (KT.shift g1 k)
  · rw [if_neg Bool.false_ne_true]; exact ⟨F', ms', ρ, μ', S', E', o, e, KT.shift g1 k⟩
theorem dt_w {e : Expr} {f : EF} (h : DW G W X e f) : DT G W X e f := h.pt
/-- .. as values -/
theorem eIf_val {f g h : EF} {o : ER} {Q : VK} (S : StOk G F ms μ H) (E : EnvOk G F ms σ ρ) (e : eIf f g h ρ μ = some o) (k : KE G W σ F ms μ H Q o) {t : Bool → Hp → Prop}
    (ht : ∀ F' ms' μ' H', Go F ms μ H F' ms' μ' H' → StOk G F' ms' μ' H' → EnvOk G F' ms' σ ρ → g ρ μ' = some o → KE G W σ F' ms' μ' H' Q o → t true H')
    (hf : ∀ F' ms' μ' H', Go F ms μ H F' ms' μ' H' → StOk G F' ms' μ' H' → EnvOk G F' ms' σ ρ → h ρ μ' = some o → KE G W σ F' ms' μ' H' Q o → t false H') : tE G W f σ H fun x H1 => ∃ c, x = .bl c ∧ t c H1 := by
  unfold eIf at e
  cases e1 : f ρ μ with
  | none => rw [e1] at e; cases e
  | some o1 =>
    rw [e1] at e
    cases o1 with
    | ex c x μ1 => cases e; exact run_part_ex S E e1 k
    | ok r μ1 =>
      dsimp only at e
      cases e2 : asB r with
      | none => rw [e2] at e; cases e
      | some b =>
        rw [e2] at e
        cases asB_of e2
        refine run_part S E e1 fun v F' ms' H' g1 S' E' r' => ?_
        cases (show Rp G F' v (.bl b) from r')
        refine ⟨b, rfl, ?_⟩
        cases b with
        | true => exact ht F' ms' μ1 H' g1 S' E' e (KE.shift g1 k)
        | false => exact hf F' ms' μ1 H' g1 S' E' e (KE.shift g1 k)
theorem de_one {op : BoolOp} {a : Expr} {f : EF} {pos : Pos} (ha : DE G W X a f) : DE G W X (.BoolOp op [a] pos) f := pe_one ha
theorem de_and {a b : Expr} {rest : List Expr} {f g : EF} {pos : Pos} (ha : DE G W X a f) (hb : DE G W X (.BoolOp .And (b :: rest) pos) g) : DE G W X (.BoolOp .And (a :: b :: rest) pos) (eAnd f g) := by
  refine PE.mono (pe_and ha hb) fun σ H Q ⟨F, ms, ρ, μ, S, E, o, ho, k⟩ => ?_
  refine eIf_val (t := fun c H1 => if c = true then tE G W g σ H1 Q else Q (.bl false) H1) S E ho k (fun F' ms' μ' H' g1 S' E' e k' => ?_) fun F' ms' μ' H' g1 S' E' e k' => ?_
  · rw [if_pos rfl]; exact ⟨F', ms', ρ, μ', S', E', o, e, k'⟩
  · rw [if_neg Bool.false_ne_true]; cases e; exact k'.data S' (.bl _)
theorem de_or {a b : Expr} {rest : List Expr} {f g : EF} {pos : Pos} (ha : DE G W X a f) (hb : DE G W X (.BoolOp .Or (b :: rest) pos) g) : DE G W X (.BoolOp .Or (a :: b :: rest) pos) (eOr f g) := by
  refine PE.mono (pe_or ha hb) fun σ H Q ⟨F, ms, ρ, μ, S, E, o, ho, k⟩ => ?_
  refine eIf_val (t := fun c H1 => if c = true then Q (.bl true) H1 else tE G W g σ H1 Q) S E ho k (fun F' ms' μ' H' g1 S' E' e k' => ?_) fun F' ms' μ' H' g1 S' E' e k' => ?_
  · rw [if_pos rfl]; cases e; exact k'.data S' (.bl _)
  · rw [if_neg Bool.false_ne_true]; exact ⟨F', ms', ρ, μ', S', E', o, e, k'⟩
theorem de_not {a : Expr} {f : EF} {pos : Pos} (ha : DE G W X a f) : DE G W X (.UnaryOp .Not a pos) (eNot f) := by
  refine PE.mono (pe_not ha) fun σ H Q ⟨F, ms, ρ, μ, S, E, o, ho, k⟩ => ?_
  refine eIf_val (t := fun c H1 => Q (.bl (!c)) H1) S E ho k (fun F' ms' μ' H' g1 S' E' e k' => ?_) fun F' ms' μ' H' g1 S' E' e k' => ?_
  · cases e; exact k'.data S' (.bl _)
  · cases e; exact k'.data S' (.bl _)
/-- any other expression, by its truth -/
def truth : D → Option Bool
  | .non => some false
  | .bl b => some b
  | .int i => some (i != 0)
  | .str x => if x.length ≤ sizeLine then some ((x.length : Int) != 0) else none
  | .lst ds => some (!ds.isEmpty)
  | .tup ds => some (!ds.isEmpty)
  | .dic ks _ => some (!ks.isEmpty)
  | .obj _ _ _ => none
def fTru (μ : Sto) (r : Res) : Option ER := match peek μ r with
  | some d => match truth d with
    | some b => okD μ (.bl b)
    | none => none
  | none => none
abbrev eTru (f : EF) : EF := eUn fTru f
theorem TR.tru {v : V} {d : D} {b : Bool} (h : TR G F H v d) (e : truth d = some b) : TruV G.K v H b := by
  unfold truth at e
  split at e
  · cases (show v = .non from h); cases e; rfl
  · cases (show v = .bl _ from h); cases e; rfl
  · cases (show v = .int _ from h); cases e; rfl
  · obtain ⟨rfl, _⟩ := h
    split at e
    · cases e; exact ⟨by assumption, rfl⟩
    · cases e
  · obtain ⟨a, vs, rfl, hs, r⟩ := h; cases e; refine .inl ⟨vs, SqL.of hs, ?_⟩; cases r <;> rfl
  · obtain ⟨a, vs, rfl, hs, r⟩ := h; cases e; refine .inr (.inl ⟨vs, hs, ?_⟩); cases r <;> rfl
  · obtain ⟨a, kvs, rfl, hs, q, r⟩ := h; cases e; refine .inr (.inr ⟨kvs, hs, ?_⟩); subst q; cases kvs <;> rfl
  · cases e
theorem dt_tru {a : Expr} {f : EF} (hK : X.K = G.K) (ha : DE G W X a f) (he : ∀ whole, isTrue a X.env whole = (do let v ← whole; standAt a.pos; holding [v] (truthy v)) := by intro _; rfl) : DT G W X a (eTru f) := by
  refine PT.mono (pt_truth ha he) fun σ H Q ⟨F, ms, ρ, μ, S, E, o, ho, k⟩ => ?_
  have k := KT.ke k
  refine eUn_run (t := fun x H1 Q' => ∃ k, TruV X.K x H1 k ∧ Q k H1) (Q := fun x H' => ∃ b, x = .bl b ∧ Q b H') S E ho k fun {F' ms' μ' H' v r o} S' r' e k' => ?_
  unfold fTru at e
  split at e
  · rename_i d ed
    split at e
    · rename_i b eb
      cases e
      obtain ⟨b', e1, q⟩ := k'.data S' (v := .bl b) (.bl _)
      cases e1
      exact ⟨b, by rw [hK]; exact (peek_top S' r' ed).tru eb, q⟩
    · cases e
  · cases e

/-! ### chains -/
def eChain (op op' : OpF) (f g h : EF) : EF := fun ρ μ => match f ρ μ with
  | some (.ok r1 μ1) => match g ρ μ1 with
    | some (.ok (.d y) μ2) => match op μ2 r1 (.d y) with
      | some (.ok r μ3) => match asB r with
        | some true => match h ρ μ3 with
          | some (.ok r3 μ4) => op' μ4 (.d y) r3
          | some (.ex c x μ4) => some (.ex c x μ4)
          | none => none
        | some false => okD μ3 (.bl false)
        | none => none
      | _ => none
    | some (.ex c x μ2) => some (.ex c x μ2)
    | _ => none
  | some (.ex c x μ1) => some (.ex c x μ1)
  | none => none
theorem eChain_run {op op' : OpF} {r r' : R2} {f g h : EF} {o : ER} {Q : VK} (hs : OpS G op r) (hs' : OpS G op' r') (S : StOk G F ms μ H) (E : EnvOk G F ms σ ρ) (e : eChain op op' f g h ρ μ = some o) (k : KE G W σ F ms μ H Q o) :
    tChain r r' (tE G W f) (tE G W g) (tE G W h) σ H Q := by
  unfold eChain at e
  cases e1 : f ρ μ with
  | none => rw [e1] at e; cases e
  | some o1 =>
    rw [e1] at e
    cases o1 with
    | ex c x μ1 => cases e; exact run_part_ex S E e1 k
    | ok r1 μ1 =>
      dsimp only at e
      refine run_part S E e1 fun v F1 ms1 H1 g1 S1 E1 q1 => ?_
      cases e2 : g ρ μ1 with
      | none => rw [e2] at e; cases e
      | some o2 =>
        rw [e2] at e
        cases o2 with
        | ex c x μ2 => cases e; exact run_part_ex S1 E1 e2 (KX.shift g1 k)
        | ok r2 μ2 =>
          cases r2 with
          | d y =>
            dsimp only at e
            refine run_part S1 E1 e2 fun v' F2 ms2 H2 g2 S2 E2 q2 => ?_
            cases e3 : op μ2 r1 (.d y) with
            | none => rw [e3] at e; cases e
            | some o3 =>
              rw [e3] at e
              cases o3 with
              | ex c x μ3 => cases e
              | ok r3 μ3 =>
                dsimp only at e
                refine hs.run (W := W) (σ := σ) (Ow := Own ms μ H) (ry := .d y) S2 (q1.go g2) (show Rp G F2 v' y from q2) e3 fun v3 F3 ms3 H3 g3 S3 q3 => ?_
                have E3 := E2.mono g3.mono g3.pre
                cases e4 : asB r3 with
                | none => rw [e4] at e; cases e
                | some b =>
                  rw [e4] at e
                  cases asB_of e4
                  cases (show Rp G F3 v3 (.bl b) from q3)
                  refine ⟨b, rfl, ?_⟩
                  have k3 := KE.shift ((g1.trans g2).trans g3) k
                  cases b with
                  | false => rw [if_neg Bool.false_ne_true]; cases e; exact k3.data S3 (.bl _)
                  | true =>
                    rw [if_pos rfl]
                    dsimp only at e
                    cases e5 : h ρ μ3 with
                    | none => rw [e5] at e; cases e
                    | some o5 =>
                      rw [e5] at e
                      cases o5 with
                      | ex c x μ4 => cases e; exact run_part_ex S3 E3 e5 k3
                      | ok r5 μ4 =>
                        dsimp only at e
                        refine run_part S3 E3 e5 fun v5 F4 ms4 H4 g4 S4 E4 q4 => ?_
                        exact hs'.run (Ow := Own ms3 μ3 H3) (rx := .d y) S4 (Rp.mono (g3.mono.trans g4.mono) (show Rp G F2 v' y from q2)) q4 e (KE.shift g4 k3)
          | _ => cases e
theorem de_chain {a b c : Expr} {o1 o2 : CmpOp} {op op' : OpF} {r r' : R2} {f g h : EF} {pos : Pos} (ho : OpR X (compareOp o1) r) (ho' : OpR X (compareOp o2) r') (hs : OpS G op r) (hs' : OpS G op' r') (ha : DE G W X a f) (hb : DE G W X b g) (hc : DE G W X c h)
    (hm : lastMarks [o1, o2] [b, c] = false := by with_unfolding_all rfl) : DE G W X (.Compare a [o1, o2] [b, c] pos) (eChain op op' f g h) :=
  PE.mono (pe_chain ho ho' ha hb hc hm) fun σ H Q ⟨F, ms, ρ, μ, S, E, o, e, k⟩ => eChain_run hs hs' S E e k
theorem dt_chain {a b c : Expr} {o1 o2 : CmpOp} {op op' : OpF} {r r' : R2} {f g h : EF} {pos : Pos} (ho : OpR X (compareOp o1) r) (ho' : OpR X (compareOp o2) r') (hs : OpS G op r) (hs' : OpS G op' r') (ha : DE G W X a f) (hb : DE G W X b g) (hc : DE G W X c h)
    (hm : lastMarks [o1, o2] [b, c] = false := by with_unfolding_all rfl) : DT G W X (.Compare a [o1, o2] [b, c] pos) (eChain op op' f g h) :=
  PT.mono (pt_chain ho ho' ha hb hc hm) fun σ H Q ⟨F, ms, ρ, μ, S, E, o, e, k⟩ => eChain_run hs hs' S E e (KT.ke k)

/-! ### built-ins -/
def fAbs (μ : Sto) : D → Option ER
  | .int i => okD μ (.int (if i < 0 then -i else i))
  | _ => none
theorem abs_ok : CaS G (ca1 fAbs) (fun xs H Q => ∃ i, xs = [.int i] ∧ Q (.int (if i < 0 then -i else i)) H) := CaS.of1 fun W σ F ms μ H v d o Q S hd e k => by
  unfold fAbs at e
  split at e
  · cases e; cases (show v = .int _ from hd); exact ⟨_, rfl, k.data S (.int _)⟩
  · cases e
def fMax (μ : Sto) : D → D → Option ER
  | .int i, .int j => okD μ (.int (if j > i then j else i))
  | _, _ => none
theorem max_ok : CaS G (ca2 fMax) (fun xs H Q => ∃ i j, xs = [.int i, .int j] ∧ Q (.int (if j > i then j else i)) H) := CaS.of2 fun W σ F ms μ H v v' d d' o Q S hd hd' e k => by
  unfold fMax at e
  split at e
  · cases e; cases (show v = .int _ from hd); cases (show v' = .int _ from hd'); exact ⟨_, _, rfl, k.data S (.int _)⟩
  · cases e
def fMin (μ : Sto) : D → D → Option ER
  | .int i, .int j => okD μ (.int (if j < i then j else i))
  | _, _ => none
theorem min_ok : CaS G (ca2 fMin) (fun xs H Q => ∃ i j, xs = [.int i, .int j] ∧ Q (.int (if j < i then j else i)) H) := CaS.of2 fun W σ F ms μ H v v' d d' o Q S hd hd' e k => by
  unfold fMin at e
  split at e
  · cases e; cases (show v = .int _ from hd); cases (show v' = .int _ from hd'); exact ⟨_, _, rfl, k.data S (.int _)⟩
  · cases e
def fInt (μ : Sto) : D → Option ER
  | .int i => okD μ (.int i)
  | .bl b => okD μ (.int (if b then 1 else 0))
  | _ => none
theorem int_ok : CaS G (ca1 fInt) (fun xs H Q => (∃ i, xs = [.int i] ∧ Q (.int i) H) ∨ ∃ k, xs = [.bl k] ∧ Q (.int (if k then 1 else 0)) H) := CaS.of1 fun W σ F ms μ H v d o Q S hd e k => by
  unfold fInt at e
  split at e
  · cases e; cases (show v = .int _ from hd); exact .inl ⟨_, rfl, k.data S (.int _)⟩
  · cases e; cases (show v = .bl _ from hd); exact .inr ⟨_, rfl, k.data S (.int _)⟩
  · cases e
def fList (μ : Sto) : D → Option ER
  | .lst ds => some (.ok (.tmp (.lst ds)) μ)
  | .tup ds => some (.ok (.tmp (.lst ds)) μ)
  | _ => none
theorem list_ok : CaS G (ca1 fList) (fun xs H Q => ∃ p ys, xs = [.ref p] ∧ (SqL G.K H p ys ∨ SqT G.K H p ys) ∧ ∀ l, H l = none → Q (.ref l) (upd H l (.lst ys))) := CaS.of1 fun W σ F ms μ H v d o Q S hd e k => by
  unfold fList at e
  split at e
  · cases e; obtain ⟨a, vs, rfl, hs, r⟩ := hd; exact ⟨a, vs, rfl, .inl (SqL.of hs), fun p hp => KE.newList S k r p hp⟩
  · cases e; obtain ⟨a, vs, rfl, hs, r⟩ := hd; exact ⟨a, vs, rfl, .inr hs, fun p hp => KE.newList S k r p hp⟩
  · cases e
def fTuple (μ : Sto) : SV → Option ER
  | .d (.tup ds) => okD μ (.tup ds)
  | x => match peekV μ x with
    | some (.lst ds) => okD μ (.tup ds)
    | _ => none
def caTuple : CaF := fun μ xs => match xs with
  | [x] => fTuple μ x
  | _ => none
theorem tuple_ok : CaS G caTuple (fun xs H Q => ∃ p ys, xs = [.ref p] ∧ ((SqL G.K H p ys ∧ ∀ l, H l = none → Q (.ref l) (upd H l (.tup ys))) ∨ (SqT G.K H p ys ∧ Q (.ref p) H))) := ⟨fun {W σ F ms μ H vs xs o Q} S hv e k => by
  unfold caTuple at e
  split at e
  · rename_i x
    cases hv with
    | cons h1 h2 =>
      cases h2
      unfold fTuple at e
      split at e
      · rename_i ds
        cases e
        cases (show Rp G F _ (.tup ds) from h1) with
        | tup e1 r => exact ⟨_, _, rfl, .inr ⟨SqT.mono' S.sub e1, k.data S (.tup e1 r)⟩⟩
      · split at e
        · rename_i ds ed
          cases e
          obtain ⟨a, vs, rfl, hs, r⟩ := peekV_top S h1 ed
          exact ⟨a, vs, rfl, .inl ⟨SqL.of hs, fun p hp => KE.newTup S k r p hp⟩⟩
        · cases e
  · cases e⟩
/-- a list of bools -/
def blsOf : List D → Option (List Bool)
  | [] => some []
  | .bl b :: ds => match blsOf ds with
    | some bs => some (b :: bs)
    | none => none
  | _ :: _ => none
theorem blsOf_ok : ∀ {ds : List D} {bs : List Bool} {vs : List V}, blsOf ds = some bs → RpL G F vs ds → vs = bs.map V.bl
  | [], bs, _, e, h => by cases h; cases e; rfl
  | d :: ds, bs, _, e, h => by
    cases h with
    | cons h1 h2 =>
      cases d with
      | bl b =>
        unfold blsOf at e
        cases e1 : blsOf ds with
        | none => rw [e1] at e; cases e
        | some bs' => rw [e1] at e; cases e; cases h1; rw [blsOf_ok e1 h2]; rfl
      | _ => cases e
def fAll (any : Bool) (μ : Sto) : D → Option ER
  | .lst ds => match blsOf ds with
    | some bs => okD μ (.bl (if any then bs.any id else bs.all id))
    | none => none
  | _ => none
theorem all_ok : CaS G (ca1 (fAll false)) (rAll G.K) := CaS.of1 fun W σ F ms μ H v d o Q S hd e k => by
  unfold fAll at e
  split at e
  · split at e
    · rename_i ds bs eb
      cases e
      obtain ⟨a, vs, rfl, hs, r⟩ := hd
      rw [blsOf_ok eb r] at hs
      exact ⟨a, bs, rfl, SqL.of hs, k.data S (.bl _)⟩
    · cases e
  · cases e
theorem any_ok : CaS G (ca1 (fAll true)) (rAny G.K) := CaS.of1 fun W σ F ms μ H v d o Q S hd e k => by
  unfold fAll at e
  split at e
  · split at e
    · rename_i ds bs eb
      cases e
      obtain ⟨a, vs, rfl, hs, r⟩ := hd
      rw [blsOf_ok eb r] at hs
      exact ⟨a, bs, rfl, SqL.of hs, k.data S (.bl _)⟩
    · cases e
  · cases e
end
end DF
/-! DF7: methods of lists and texts. -/
namespace DF
open PySem PySem.Spec PyProof.Rows L2

/-! ### texts: what is made of texts stays in bounds -/
theorem mem_join {y : Str} {c : Nat} : ∀ {ps : List Str} {p : Str}, p ∈ ps → c ∈ p.cps.toList → c ∈ (Str.join y ps).cps.toList
  | [], _, h, _ => by cases h
  | [x], p, h, hc => by
    have : p = x := by simpa using h
    subst this
    exact hc
  | x :: z :: r, p, h, hc => by
    show c ∈ (x ++ y ++ Str.join y (z :: r)).cps.toList
    have e : (x ++ y ++ Str.join y (z :: r)).cps.toList = x.cps.toList ++ y.cps.toList ++ (Str.join y (z :: r)).cps.toList := by
      show (x.cps ++ y.cps ++ (Str.join y (z :: r)).cps).toList = _
      simp
    rw [e, List.mem_append, List.mem_append]
    rcases List.mem_cons.mp h with h | h
    · subst h; exact .inl (.inl hc)
    · exact .inr (mem_join h hc)
theorem strOk_split {x y : Str} (h : strOk x) : ∀ p ∈ Txt.split x y, strOk p := fun p hp c hc => h c (by
  have := mem_join (y := y) hp hc
  rwa [StrLaws.join_split] at this)
theorem strOk_join {y : Str} (hy : strOk y) : ∀ {ps : List Str}, (∀ p ∈ ps, strOk p) → strOk (Txt.join y ps) := by
  have go : ∀ {ps : List Str}, (∀ p ∈ ps, strOk p) → strOk (Str.join y ps) := fun {ps} => by
    induction ps with
    | nil => intro _ c hc; exact absurd (show c ∈ ([] : List Nat) from hc) (by simp)
    | cons x r ih =>
      intro h
      cases r with
      | nil => exact h x (by simp)
      | cons z r => exact strOk_app (strOk_app (h x (by simp)) hy) (ih fun p hp => h p (List.mem_cons_of_mem _ hp))
  intro ps h
  show strOk (Builtin.Str.glued y ps)
  rw [StrLaws.glued_eq_join]
  exact go h

section
variable {G : Gm} {W : WX} {X : Cx} {F F' H H' F₀ H₀ : Hp} {ms ms' ms₀ : Ad} {μ μ' μ₀ : Sto} {σ : L2.St} {ρ : En} {Ow : Addr → Prop}
abbrev MF := Sto → Res → List SV → Option ER
/-- is it of this built-in type -/
def tyOk (T : String) (μ : Sto) (r : Res) : Bool := match peek μ r with
  | some (.str _) => T == "str"
  | some (.lst _) => T == "list"
  | some (.dic _ _) => T == "dict"
  | _ => match objsOf μ r with
    | some _ => T == "list"
    | none => false
theorem tyOk_ok {T : String} (S : StOk G F ms μ H) {v : V} {r : Res} (h : RR G F ms μ H Ow v r) (e : tyOk T μ r = true) : tyV G.K T v H := by
  unfold tyOk at e
  split at e
  · rename_i x ex
    obtain ⟨rfl, _⟩ := peek_top S h ex
    exact eq_of_beq e
  · rename_i ds ex
    obtain ⟨a, vs, rfl, hs, _⟩ := peek_top S h ex
    exact .inl ⟨eq_of_beq e, vs, SqL.of hs⟩
  · rename_i ks ds ex
    obtain ⟨a, kvs, rfl, hs, _⟩ := peek_top S h ex
    exact .inr (.inr (.inl ⟨eq_of_beq e, .inl ⟨kvs, hs⟩⟩))
  · split at e
    · rename_i xs ex
      obtain ⟨a, vs, rfl, hs, _⟩ := objsOf_ok S h ex
      exact .inl ⟨eq_of_beq e, vs, SqL.of hs⟩
    · cases e
def eMeth (T : String) (mf : MF) (f : EF) (g : AF) : EF := fun ρ μ => match f ρ μ with
  | some (.ok r μ1) => if tyOk T μ1 r = true then (match g ρ μ1 with
    | some (.ok xs μ2) => mf μ2 r xs
    | some (.ex c x μ2) => some (.ex c x μ2)
    | none => none) else none
  | some (.ex c x μ1) => some (.ex c x μ1)
  | none => none
def eMeth0 (T : String) (mf : MF) (f : EF) : EF := fun ρ μ => match f ρ μ with
  | some (.ok r μ1) => if tyOk T μ1 r = true then mf μ1 r [] else none
  | some (.ex c x μ1) => some (.ex c x μ1)
  | none => none
structure MeS (G : Gm) (mf : MF) (r : V → List V → Hp → VK → Prop) : Prop where
  run : ∀ {W : WX} {σ : L2.St} {F : Hp} {ms : Ad} {μ : Sto} {H : Hp} {Ow : Addr → Prop} {x : V} {vs : List V} {rx : Res} {xs : List SV} {o : ER} {Q : VK}, StOk G F ms μ H → RR G F ms μ H Ow x rx → All2 (SVR G F ms) vs xs → mf μ rx xs = some o → KE G W σ F ms μ H Q o → r x vs H Q
theorem de_meth {T id : String} {o e : Expr} {es : List Expr} {name : Str} {mf : MF} {r : V → List V → Hp → VK → Prop} {f : EF} {g : AF} {apos cpos : Pos} (hK : X.K = G.K) (pa : PlainAttrs T) (slot : Slot T name id) (hty : typeOf (.builtin id) = pure (.type "method_descriptor")) (hm : MtR X id r) (hs : MeS G mf r)
    (ho : DE G W X o f) (ha : DA G W X (e :: es) g) (hbase : attributeBase o name X.env (eval o X.env) = eval o X.env := by rfl)
    (hfew : ((backTo cpos (starEach (e :: es) X.env)).all (fun x => !x.1) && (backToKw cpos (keywordEach [] X.env)).all (fun x => x.1.isSome)
      && decide ((e :: es).length + ([] : List Keyword).length + (if ([] : List Keyword).isEmpty then 0 else 1) < 30)) = true := by rfl)
    (hline : (apos.endLine == cpos.line) = true := by rfl) (hst : starEach (e :: es) X.env = (false, eval e X.env) :: starEach es X.env := by rfl) (hplain : (backTo cpos (starEach es X.env)).any (·.1) = false := by rfl) :
    DE G W X (.Call (.Attribute o name apos) (e :: es) [] cpos) (eMeth T mf f g) := by
  refine PE.mono (pe_bm pa slot hty hm ho ha hbase hfew hline hst hplain) fun σ H Q ⟨F, ms, ρ, μ, S, E, o, h, k⟩ => ?_
  unfold eMeth at h
  cases e1 : f ρ μ with
  | none => rw [e1] at h; cases h
  | some o1 =>
    rw [e1] at h
    cases o1 with
    | ex c x μ1 => cases h; exact run_part_ex S E e1 k
    | ok r μ1 =>
      dsimp only at h
      split at h
      · rename_i ht
        refine run_part S E e1 fun v F1 ms1 H1 g1 S1 E1 r1 => ⟨by rw [hK]; exact tyOk_ok S1 r1 ht, ?_⟩
        cases e2 : g ρ μ1 with
        | none => rw [e2] at h; cases h
        | some o2 =>
          rw [e2] at h
          refine ⟨F1, ms1, ρ, μ1, S1, E1, _, e2, ?_⟩
          cases o2 with
          | ex c x μ2 => cases h; exact KX.shift g1 k
          | ok xs μ2 => exact fun vs F2 ms2 H2 g2 S2 r2 => hs.run S2 (r1.go g2) r2 h (KE.shift (g1.trans g2) k)
      · cases h
theorem de_meth0 {T id : String} {o : Expr} {name : Str} {mf : MF} {r : V → List V → Hp → VK → Prop} {f : EF} {apos cpos : Pos} (hK : X.K = G.K) (pa : PlainAttrs T) (slot : Slot T name id) (hty : typeOf (.builtin id) = pure (.type "method_descriptor")) (hm : MtR X id r) (hs : MeS G mf r)
    (ho : DE G W X o f) (hbase : attributeBase o name X.env (eval o X.env) = eval o X.env := by rfl) (hline : (apos.endLine == cpos.line) = true := by rfl) :
    DE G W X (.Call (.Attribute o name apos) [] [] cpos) (eMeth0 T mf f) := by
  refine PE.mono (pe_bm0 pa slot hty hm ho hbase hline) fun σ H Q ⟨F, ms, ρ, μ, S, E, o, h, k⟩ => ?_
  unfold eMeth0 at h
  cases e1 : f ρ μ with
  | none => rw [e1] at h; cases h
  | some o1 =>
    rw [e1] at h
    cases o1 with
    | ex c x μ1 => cases h; exact run_part_ex S E e1 k
    | ok r μ1 =>
      dsimp only at h
      split at h
      · rename_i ht
        exact run_part S E e1 fun v F1 ms1 H1 g1 S1 E1 r1 => ⟨by rw [hK]; exact tyOk_ok S1 r1 ht, hs.run S1 r1 .nil h (KE.shift g1 k)⟩
      · cases h

/-! ### lists' methods -/
def plOf : Res → Option Pl
  | .loc n => some (.m n)
  | .obj n => some (.k n)
  | _ => none
theorem plOf_ok {v : V} {r : Res} {p : Pl} (h : RR G F ms μ H Ow v r) (e : plOf r = some p) : ∃ a : Addr, ms.at p = some a ∧ v = .ref a := by
  cases r with
  | loc n => cases e; exact h
  | obj n => cases e; exact h
  | d _ => cases e
  | tmp _ => cases e
def toKV : SV → Option KV
  | .d x => some (.d x)
  | .obj n => some (.obj n)
  | _ => none
theorem toKV_ok {v : V} {x : SV} {y : KV} (h : SVR G F ms v x) (e : toKV x = some y) : KVR G F ms v y := by
  cases x with
  | d x => cases e; exact h
  | obj n => cases e; exact h
  | loc n => cases e
  | err c x => cases e
theorem RpL.kv : ∀ {vs : List V} {ds : List D}, RpL G F vs ds → All2 (KVR G F ms) vs (ds.map KV.d)
  | _, _, .nil => .nil
  | _, _, .cons r t => .cons r (RpL.kv t)
/-- one more item -/
def cellApp (c : Cell) (x : SV) : Option Cell := match c with
  | .lst ds => guardC (decide (ds.length < sizeLine)) (match x with
    | .d d => some (.lst (ds ++ [d]))
    | .obj n => some (.olst (ds.map KV.d ++ [.obj n]))
    | _ => none)
  | .olst xs => guardC (decide (xs.length < sizeLine)) (match toKV x with
    | some y => some (.olst (xs ++ [y]))
    | none => none)
  | _ => none
where guardC (b : Bool) (o : Option Cell) : Option Cell := if b = true then o else none
theorem guardC_of {b : Bool} {o : Option Cell} {c : Cell} (h : cellApp.guardC b o = some c) : b = true ∧ o = some c := by
  unfold cellApp.guardC at h
  split at h
  · exact ⟨by assumption, h⟩
  · cases h
theorem cellApp_ok {a : Addr} {c c' : Cell} {x : SV} {v : V} (cr : CR G F ms H a c) (r : SVR G F ms v x) (e : cellApp c x = some c') : live c = true ∧ live c' = true ∧ ∃ vs, H a = some (.lst vs) ∧ vs.length < sizeLine ∧ CR G F ms (upd H a (.lst (vs ++ [v]))) a c' := by
  cases c with
  | lst ds =>
    obtain ⟨vs, hH, q⟩ := cr
    obtain ⟨g, e⟩ := guardC_of e
    have g := of_decide_eq_true g
    rw [← q.length] at g
    cases x with
    | d d => cases e; exact ⟨rfl, rfl, vs, hH, g, _, upd_same, q.append (.cons r .nil)⟩
    | obj n => cases e; exact ⟨rfl, rfl, vs, hH, g, _, upd_same, q.kv.append (.cons r .nil)⟩
    | loc n => cases e
    | err c x => cases e
  | olst xs =>
    obtain ⟨vs, hH, q⟩ := cr
    obtain ⟨g, e⟩ := guardC_of e
    have g := of_decide_eq_true g
    rw [← q.length] at g
    cases e1 : toKV x with
    | none => rw [e1] at e; cases e
    | some y => rw [e1] at e; cases e; exact ⟨rfl, rfl, vs, hH, g, _, upd_same, q.append (.cons (toKV_ok r e1) .nil)⟩
  | _ => cases e
def mAppend : MF := fun μ r xs => match xs with
  | [x] => match plOf r with
    | some p => match μ.at p with
      | some c => match cellApp c x with
        | some c' => some (.ok (.d .non) (μ.put p c'))
        | none => none
      | none => none
    | none => none
  | _ => none
theorem All2.one {α β : Type} {R : α → β → Prop} {as : List α} {b : β} (h : All2 R as [b]) : ∃ a, as = [a] ∧ R a b := by
  cases h with
  | cons h1 h2 => cases h2; exact ⟨_, rfl, h1⟩
theorem All2.two {α β : Type} {R : α → β → Prop} {as : List α} {b c : β} (h : All2 R as [b, c]) : ∃ a a', as = [a, a'] ∧ R a b ∧ R a' c := by
  cases h with
  | cons h1 h2 => obtain ⟨a', rfl, h3⟩ := h2.one; exact ⟨_, a', rfl, h1, h3⟩
/-- an object of the store is written, the answer is None -/
theorem KE.wrote {Q : VK} {p : Pl} {a : Addr} {c c' : Cell} {o : HO} {x : D} {v : V} (S : StOk G F ms μ H) (k : KE G W σ F ms μ H Q (.ok (.d x) (μ.put p c'))) (ha : ms.at p = some a) (hc : μ.at p = some c) (l : live c = true) (l' : live c' = true) (cr : CR G F ms (upd H a o) a c') (r : Rp G F v x) : Q v (upd H a o) := by
  obtain ⟨S', g⟩ := S.write ha hc l l' cr
  exact k v F ms _ g S' r
theorem append_ok : MeS G mAppend rAppend := ⟨fun {W σ F ms μ H Ow x vs rx xs o Q} S hx hv e k => by
  unfold mAppend at e
  split at e
  · obtain ⟨v, rfl, rv⟩ := hv.one
    cases e1 : plOf rx with
    | none => rw [e1] at e; cases e
    | some p =>
      rw [e1] at e
      dsimp only at e
      obtain ⟨a, ha, rfl⟩ := plOf_ok hx e1
      cases e2 : μ.at p with
      | none => rw [e2] at e; cases e
      | some c =>
        rw [e2] at e
        dsimp only at e
        rename_i y
        cases e3 : cellApp c y with
        | none => rw [e3] at e; cases e
        | some c' =>
          rw [e3] at e
          cases e
          obtain ⟨l, l', us, hH, hz, cr⟩ := cellApp_ok (S.cell p a c ha e2) rv e3
          exact ⟨a, us, v, rfl, rfl, hH, hz, KE.wrote S k ha e2 l l' cr .non⟩
  · cases e⟩
theorem de_append {o e : Expr} {f : EF} {g : AF} {apos cpos : Pos} (hK : X.K = G.K) (ho : DE G W X o f) (ha : DA G W X [e] g) (hbase : attributeBase o "append" X.env (eval o X.env) = eval o X.env := by rfl)
    (hline : (apos.endLine == cpos.line) = true := by rfl) (hst : starEach [e] X.env = (false, eval e X.env) :: starEach [] X.env := by rfl)
    (hfew : ((backTo cpos (starEach [e] X.env)).all (fun x => !x.1) && (backToKw cpos (keywordEach [] X.env)).all (fun x => x.1.isSome)
      && decide ([e].length + ([] : List Keyword).length + (if ([] : List Keyword).isEmpty then 0 else 1) < 30)) = true := by rfl) :
    DE G W X (.Call (.Attribute o "append" apos) [e] [] cpos) (eMeth "list" mAppend f g) :=
  de_meth hK PySem.F.plainAttrs_list PySem.F.slot_list_append PySem.F.type_list_append mt_append append_ok ho ha hbase hfew hline hst rfl
/-- a list is written -/
def mList1 (h : List D → D → Option (D × List D)) : MF := fun μ r xs => match xs with
  | [x] => match plOf r with
    | some p => match μ.at p with
      | some (.lst ds) => match peekV μ x with
        | some y => match h ds y with
          | some (z, ds') => some (.ok (.d z) (μ.put p (.lst ds')))
          | none => none
        | none => none
      | _ => none
    | none => none
  | _ => none
def mList0 (h : List D → Option (D × List D)) : MF := fun μ r xs => match xs with
  | [] => match plOf r with
    | some p => match μ.at p with
      | some (.lst ds) => match h ds with
        | some (z, ds') => some (.ok (.d z) (μ.put p (.lst ds')))
        | none => none
      | _ => none
    | none => none
  | _ => none
def hExtend (ds : List D) : D → Option (D × List D)
  | .lst es => if ds.length + es.length ≤ sizeLine then some (.non, ds ++ es) else none
  | _ => none
theorem extend_ok : MeS G (mList1 hExtend) rExtend := ⟨fun {W σ F ms μ H Ow x vs rx xs o Q} S hx hv e k => by
  unfold mList1 at e
  split at e
  · obtain ⟨v, rfl, rv⟩ := hv.one
    split at e
    · rename_i p ep
      obtain ⟨a, ha, rfl⟩ := plOf_ok hx ep
      split at e
      · rename_i ds eds
        split at e
        · rename_i y ey
          split at e
          · rename_i z ds' eh
            cases e
            unfold hExtend at eh
            split at eh
            · rename_i es
              split at eh
              · rename_i hz
                cases eh
                obtain ⟨b, ws, rfl, hb, rb⟩ := peekV_top S rv ey
                obtain ⟨us, hH, q⟩ := S.cell p a _ ha eds
                exact ⟨a, b, us, ws, rfl, rfl, hH, hb, by rw [q.length, rb.length]; exact hz, KE.wrote S k ha eds rfl rfl ⟨_, upd_same, q.append rb⟩ .non⟩
              · cases eh
            · cases eh
          · cases e
        · cases e
      · cases e
    · cases e
  · cases e⟩
def hPopAt (ds : List D) : D → Option (D × List D)
  | .int i => if -(2 ^ 63) ≤ i ∧ i < 2 ^ 63 then (match ixN ds.length i with
    | some j => match ds[j]? with
      | some x => some (x, ds.eraseIdx j)
      | none => none
    | none => none) else none
  | _ => none
theorem popAt_ok : MeS G (mList1 hPopAt) rPopAt := ⟨fun {W σ F ms μ H Ow x vs rx xs o Q} S hx hv e k => by
  unfold mList1 at e
  split at e
  · obtain ⟨v, rfl, rv⟩ := hv.one
    split at e
    · rename_i p ep
      obtain ⟨a, ha, rfl⟩ := plOf_ok hx ep
      split at e
      · rename_i ds eds
        split at e
        · rename_i y ey
          split at e
          · rename_i z ds' eh
            cases e
            unfold hPopAt at eh
            split at eh
            · rename_i i
              split at eh
              · rename_i hz
                split at eh
                · rename_i j ej
                  split at eh
                  · rename_i w ew
                    cases eh
                    have hv : v = .int i := peekV_top S rv ey
                    obtain ⟨us, hH, q⟩ := S.cell p a _ ha eds
                    obtain ⟨u, hu, ru⟩ := q.get ew
                    rw [← q.length] at ej
                    exact ⟨a, us, i, j, u, rfl, by rw [hv], hH, hz.1, hz.2, (ixN_seq ej).1, hu, KE.wrote S k ha eds rfl rfl ⟨_, upd_same, q.eraseIdx j⟩ ru⟩
                  · cases eh
                · cases eh
              · cases eh
            · cases eh
          · cases e
        · cases e
      · cases e
    · cases e
  · cases e⟩
def hPop (ds : List D) : Option (D × List D) := match ds[ds.length - 1]? with
  | some x => some (x, ds.dropLast)
  | none => none
theorem pop_ok : MeS G (mList0 hPop) rPop := ⟨fun {W σ F ms μ H Ow x vs rx xs o Q} S hx hv e k => by
  unfold mList0 at e
  split at e
  · cases hv
    split at e
    · rename_i p ep
      obtain ⟨a, ha, rfl⟩ := plOf_ok hx ep
      split at e
      · rename_i ds eds
        split at e
        · rename_i z ds' eh
          cases e
          unfold hPop at eh
          split at eh
          · rename_i w ew
            cases eh
            obtain ⟨us, hH, q⟩ := S.cell p a _ ha eds
            obtain ⟨u, hu, ru⟩ := q.get ew
            rw [← q.length] at hu
            exact ⟨a, us, u, rfl, rfl, hH, hu, KE.wrote S k ha eds rfl rfl ⟨_, upd_same, q.dropLast⟩ ru⟩
          · cases eh
        · cases e
      · cases e
    · cases e
  · cases e⟩
def hReverse (ds : List D) : Option (D × List D) := some (.non, ds.reverse)
theorem reverse_ok : MeS G (mList0 hReverse) rReverse := ⟨fun {W σ F ms μ H Ow x vs rx xs o Q} S hx hv e k => by
  unfold mList0 at e
  split at e
  · cases hv
    split at e
    · rename_i p ep
      obtain ⟨a, ha, rfl⟩ := plOf_ok hx ep
      split at e
      · rename_i ds eds
        split at e
        · rename_i z ds' eh
          cases e
          cases eh
          obtain ⟨us, hH, q⟩ := S.cell p a _ ha eds
          exact ⟨a, us, rfl, rfl, hH, KE.wrote S k ha eds rfl rfl ⟨_, upd_same, q.reverse⟩ .non⟩
        · cases e
      · cases e
    · cases e
  · cases e⟩
def hClear (_ : List D) : Option (D × List D) := some (.non, [])
theorem clear_ok : MeS G (mList0 hClear) rClear := ⟨fun {W σ F ms μ H Ow x vs rx xs o Q} S hx hv e k => by
  unfold mList0 at e
  split at e
  · cases hv
    split at e
    · rename_i p ep
      obtain ⟨a, ha, rfl⟩ := plOf_ok hx ep
      split at e
      · rename_i ds eds
        split at e
        · rename_i z ds' eh
          cases e
          cases eh
          obtain ⟨us, hH, q⟩ := S.cell p a _ ha eds
          exact ⟨a, us, rfl, rfl, hH, KE.wrote S k ha eds rfl rfl ⟨_, upd_same, .nil⟩ .non⟩
        · cases e
      · cases e
    · cases e
  · cases e⟩

/-! ### texts' methods -/
def mStr1 (h : Sto → Str → D → Option ER) : MF := fun μ r xs => match xs with
  | [x] => match peek μ r with
    | some (.str a) => match peekV μ x with
      | some y => h μ a y
      | none => none
    | _ => none
  | _ => none
theorem MeS.str1 {h : Sto → Str → D → Option ER} {r : V → List V → Hp → VK → Prop}
    (hs : ∀ (W : WX) (σ : L2.St) (F : Hp) (ms : Ad) (μ : Sto) (H : Hp) (a : Str) (v : V) (y : D) (o : ER) (Q : VK), StOk G F ms μ H → strOk a → TR G F H v y → h μ a y = some o → KE G W σ F ms μ H Q o → r (.str a) [v] H Q) : MeS G (mStr1 h) r := ⟨fun {W σ F ms μ H Ow x vs rx xs o Q} S hx hv e k => by
  unfold mStr1 at e
  split at e
  · obtain ⟨v, rfl, rv⟩ := hv.one
    split at e
    · rename_i a ea
      obtain ⟨rfl, oa⟩ := peek_top S hx ea
      split at e
      · rename_i y ey
        exact hs W σ F ms μ H a v y o Q S oa (peekV_top S rv ey) e k
      · cases e
    · cases e
  · cases e⟩
def hSplit (μ : Sto) (a : Str) : D → Option ER
  | .str b => guardE (!(b.length == 0) && decide (a.length + 2 ≤ sizeLine)) (some (.ok (.tmp (.lst ((Txt.split a b).map D.str))) μ))
  | _ => none
theorem split_ok : MeS G (mStr1 hSplit) (fun x xs H Q => ∃ a b, x = .str a ∧ xs = [.str b] ∧ (b.length == 0) = false ∧ a.length + 2 ≤ sizeLine ∧ rNewStrs (Txt.split a b) H Q) := MeS.str1 fun W σ F ms μ H a v y o Q S oa hv e k => by
  unfold hSplit at e
  split at e
  · rename_i b
    obtain ⟨g, e⟩ := guardE_of e
    cases e
    obtain ⟨rfl, ob⟩ := hv
    simp only [Bool.and_eq_true, Bool.not_eq_true', decide_eq_true_eq] at g
    exact ⟨a, b, rfl, rfl, g.1, g.2, fun p hp => KE.newList S k (RpL.strs (strOk_split oa)) p hp⟩
  · cases e
def hPartition (μ : Sto) (a : Str) : D → Option ER
  | .str b => guardE (!(b.length == 0) && decide (a.length ≤ sizeLine) && okB (Txt.partition a b).1 && okB (Txt.partition a b).2.1 && okB (Txt.partition a b).2.2) (okD μ (.tup [.str (Txt.partition a b).1, .str (Txt.partition a b).2.1, .str (Txt.partition a b).2.2]))
  | _ => none
theorem partition_ok : MeS G (mStr1 hPartition) (fun x xs H Q => ∃ a b, x = .str a ∧ xs = [.str b] ∧ (b.length == 0) = false ∧ a.length ≤ sizeLine ∧
    ∀ p, H p = none → Q (.ref p) (upd H p (.tup [.str (Txt.partition a b).1, .str (Txt.partition a b).2.1, .str (Txt.partition a b).2.2]))) := MeS.str1 fun W σ F ms μ H a v y o Q S oa hv e k => by
  unfold hPartition at e
  split at e
  · rename_i b
    obtain ⟨g, e⟩ := guardE_of e
    cases e
    obtain ⟨rfl, ob⟩ := hv
    simp only [Bool.and_eq_true, Bool.not_eq_true', decide_eq_true_eq] at g
    exact ⟨a, b, rfl, rfl, g.1.1.1.1, g.1.1.1.2, fun p hp => KE.newTup S k (.cons (.str (strOk_of g.1.1.2)) (.cons (.str (strOk_of g.1.2)) (.cons (.str (strOk_of g.2)) .nil))) p hp⟩
  · cases e
/-- a list of texts -/
def strsOf : List D → Option (List Str)
  | [] => some []
  | .str x :: ds => match strsOf ds with
    | some xs => some (x :: xs)
    | none => none
  | _ :: _ => none
theorem strsOf_ok : ∀ {ds : List D} {xs : List Str} {vs : List V}, strsOf ds = some xs → RpL G F vs ds → vs = xs.map V.str ∧ ∀ x ∈ xs, strOk x
  | [], xs, _, e, h => by cases h; cases e; exact ⟨rfl, fun _ z => by cases z⟩
  | d :: ds, xs, _, e, h => by
    cases h with
    | cons h1 h2 =>
      cases d with
      | str x =>
        unfold strsOf at e
        cases e1 : strsOf ds with
        | none => rw [e1] at e; cases e
        | some ys =>
          rw [e1] at e; cases e
          cases h1 with
          | str ox =>
            obtain ⟨q1, q2⟩ := strsOf_ok e1 h2
            refine ⟨by rw [q1]; rfl, fun y hy => ?_⟩
            rcases List.mem_cons.mp hy with rfl | hy
            · exact ox
            · exact q2 y hy
      | _ => cases e
def hJoin (μ : Sto) (a : Str) (y : D) : Option ER := match (match y with | .lst ds => strsOf ds | .tup ds => strsOf ds | _ => none) with
  | some xs => guardE (decide ((xs.map (·.length)).sum + xs.length * a.length ≤ 16777216)) (okD μ (.str (Txt.join a xs)))
  | none => none
theorem join_ok : MeS G (mStr1 hJoin) (fun x xs H Q => ∃ a p, ∃ ys : List Str, x = .str a ∧ xs = [.ref p] ∧ (SqL G.K H p (ys.map V.str) ∨ SqT G.K H p (ys.map V.str)) ∧
    (ys.map (·.length)).sum + ys.length * a.length ≤ 16777216 ∧ Q (.str (Txt.join a ys)) H) := MeS.str1 fun W σ F ms μ H a v y o Q S oa hv e k => by
  unfold hJoin at e
  split at e
  · rename_i xs ex
    obtain ⟨g, e⟩ := guardE_of e
    cases e
    have g := of_decide_eq_true g
    split at ex
    · obtain ⟨b, vs, rfl, hs, r⟩ := hv
      obtain ⟨rfl, ok⟩ := strsOf_ok ex r
      exact ⟨a, b, xs, rfl, rfl, .inl (SqL.of hs), g, k.data S (.str (strOk_join oa ok))⟩
    · obtain ⟨b, vs, rfl, hs, r⟩ := hv
      obtain ⟨rfl, ok⟩ := strsOf_ok ex r
      exact ⟨a, b, xs, rfl, rfl, .inr hs, g, k.data S (.str (strOk_join oa ok))⟩
    · cases ex
  · cases e
def hEnds (μ : Sto) (a : Str) : D → Option ER
  | .str b => okD μ (.bl (Txt.endswith a b))
  | _ => none
end
end DF
/-! DF8: targets, what is walked, comprehensions, statements. -/
namespace DF
open PySem PySem.Spec PyProof.Rows L2

/-! ### targets -/
mutual
inductive Tg where
  | nm (i : Nat)
  | tp (ts : Tgs)
inductive Tgs where
  | nil
  | cons (t : Tg) (ts : Tgs)
end
def Tgs.len : Tgs → Nat
  | .nil => 0
  | .cons _ ts => ts.len + 1
mutual
def Tg.slots : Tg → List Nat
  | .nm i => [i]
  | .tp ts => ts.slots
def Tgs.slots : Tgs → List Nat
  | .nil => []
  | .cons t ts => t.slots ++ ts.slots
end
mutual
def gOf (K : PySem.W.Frag) : Tg → TG
  | .nm i => gName i
  | .tp ts => gTup K ts.len (gOfs K ts)
def gOfs (K : PySem.W.Frag) : Tgs → TGs
  | .nil => gNil
  | .cons t ts => gCons (gOf K t) (gOfs K ts)
end
mutual
def asg : Tg → SV → En → Option En
  | .nm i, x, ρ => some (ρ.set i (some x))
  | .tp ts, .d (.tup ds), ρ => if ds.length = ts.len then asgs ts ds ρ else none
  | .tp _, _, _ => none
def asgs : Tgs → List D → En → Option En
  | .nil, [], ρ => some ρ
  | .cons t ts, d :: ds, ρ => match asg t (.d d) ρ with
    | some ρ1 => asgs ts ds ρ1
    | none => none
  | _, _, _ => none
end

/-! ### slots forgotten -/
def wipeE (ρ : En) : List Nat → En
  | [] => ρ
  | v :: vs => (wipeE ρ vs).set v none
theorem wipeE_get {ρ : En} {i : Nat} {x : SV} : ∀ {vs : List Nat}, (wipeE ρ vs)[i]? = some (some x) → ρ[i]? = some (some x) ∧ i ∉ vs
  | [], h => ⟨h, by simp⟩
  | v :: vs, h => by
    have h : ((wipeE ρ vs).set v none)[i]? = some (some x) := h
    by_cases e : v = i
    · subst e
      rw [List.getElem?_set_self'] at h
      cases q : (wipeE ρ vs)[v]? with
      | none => rw [q] at h; cases h
      | some z => rw [q] at h; simp at h
    · rw [List.getElem?_set_ne e] at h
      obtain ⟨h1, h2⟩ := wipeE_get h
      exact ⟨h1, by rw [List.mem_cons]; rintro (z | z); exact e z.symm; exact h2 z⟩
theorem wipeE_length (ρ : En) : ∀ vs : List Nat, (wipeE ρ vs).length = ρ.length
  | [] => rfl
  | v :: vs => by show ((wipeE ρ vs).set v none).length = _; rw [List.length_set, wipeE_length ρ vs]
theorem wipe_keep {σ : L2.St} {i : Nat} : ∀ {vs : List Nat}, i ∉ vs → (wipe σ vs)[i]? = σ[i]?
  | [], _ => rfl
  | v :: vs, h => by
    show ((wipe σ vs).set v none)[i]? = _
    rw [List.getElem?_set_ne (fun e => h (by rw [e]; simp)), wipe_keep (fun z => h (List.mem_cons_of_mem _ z))]
theorem wipe_at {σ : L2.St} {i : Nat} : ∀ {vs : List Nat}, i ∈ vs → i < σ.length → (wipe σ vs)[i]? = some none
  | [], h, _ => by cases h
  | v :: vs, h, hl => by
    show ((wipe σ vs).set v none)[i]? = _
    by_cases e : v = i
    · subst e
      rw [List.getElem?_set_self (by rw [wipe_length]; exact hl)]
    · rw [List.getElem?_set_ne e]
      rcases List.mem_cons.mp h with z | z
      · exact absurd z.symm e
      · exact wipe_at z hl
theorem wipe_eq {σ σ' : L2.St} {vs : List Nat} (hl : σ.length = σ'.length) (h : ∀ i, i ∉ vs → σ[i]? = σ'[i]?) : wipe σ vs = wipe σ' vs := by
  apply List.ext_getElem?
  intro i
  by_cases hi : i ∈ vs
  · by_cases hb : i < σ.length
    · rw [wipe_at hi hb, wipe_at hi (hl ▸ hb)]
    · rw [List.getElem?_eq_none (by rw [wipe_length]; omega), List.getElem?_eq_none (by rw [wipe_length]; omega)]
  · rw [wipe_keep hi, wipe_keep hi, h i hi]
theorem wipe_wipe {σ : L2.St} {vs : List Nat} : wipe (wipe σ vs) vs = wipe σ vs := wipe_eq (wipe_length ..) fun i hi => wipe_keep hi

section
variable {G : Gm} {W : WX} {X : Cx} {F F' H H' F₀ H₀ : Hp} {ms ms' ms₀ : Ad} {μ μ' μ₀ : Sto} {σ : L2.St} {ρ : En} {Ow : Addr → Prop}
theorem EnvOk.wipe (E : EnvOk G F ms σ ρ) (vs : List Nat) : EnvOk G F ms (wipe σ vs) (wipeE ρ vs) := ⟨by rw [wipe_length, wipeE_length]; exact E.len, fun i x h => by
  obtain ⟨h1, h2⟩ := wipeE_get h
  obtain ⟨v, h3, h4⟩ := E.get i x h1
  exact ⟨v, by rw [wipe_keep h2]; exact h3, h4⟩⟩
theorem EnvOk.forget (E : EnvOk G F ms σ ρ) (vs : List Nat) : EnvOk G F ms σ (wipeE ρ vs) := ⟨by rw [wipeE_length]; exact E.len, fun i x h => E.get i x (wipeE_get h).1⟩
/-- slot by slot, but these -/
def SameBut (σ σ' : L2.St) (vs : List Nat) : Prop := σ'.length = σ.length ∧ ∀ i, i ∉ vs → σ'[i]? = σ[i]?
theorem SameBut.trans {σ σ' σ'' : L2.St} {vs ws us : List Nat} (a : SameBut σ σ' vs) (b : SameBut σ' σ'' ws) (h : ∀ i, i ∈ vs ∨ i ∈ ws → i ∈ us) : SameBut σ σ'' us :=
  ⟨b.1.trans a.1, fun i hi => (b.2 i fun z => hi (h i (.inr z))).trans (a.2 i fun z => hi (h i (.inl z)))⟩
theorem EnvOk.set {v : V} {x : SV} (E : EnvOk G F ms σ ρ) (i : Nat) (r : SVR G F ms v x) : EnvOk G F ms (σ.set i (some v)) (ρ.set i (some x)) := ⟨by rw [List.length_set, List.length_set]; exact E.len, fun j y h => by
  by_cases e : i = j
  · subst e
    rw [List.getElem?_set_self'] at h
    cases q : ρ[i]? with
    | none => rw [q] at h; cases h
    | some z =>
      rw [q] at h
      simp at h
      subst h
      have hi : i < σ.length := Nat.lt_of_lt_of_le (List.getElem?_eq_some_iff.mp q).1 E.len
      exact ⟨v, by rw [List.getElem?_set_self hi], r⟩
  · rw [List.getElem?_set_ne e] at h
    obtain ⟨w, h1, h2⟩ := E.get j y h
    exact ⟨w, by rw [List.getElem?_set_ne e]; exact h1, h2⟩⟩

mutual
theorem asg_ok (s : Le F H) : ∀ {t : Tg} {x : SV} {σ : L2.St} {ρ ρ' : En} {v : V} {Q : L2.St → Hp → Prop}, SVR G F ms v x → EnvOk G F ms σ ρ → asg t x ρ = some ρ' →
    (∀ σ', EnvOk G F ms σ' ρ' → SameBut σ σ' t.slots → Q σ' H) → gOf G.K t v σ H Q
  | .nm i, x, σ, ρ, ρ', v, Q, r, E, h, k => by
    rw [asg] at h
    cases h
    rw [gOf]
    refine k _ (E.set i r) ⟨by rw [List.length_set], fun j hj => ?_⟩
    rw [List.getElem?_set_ne]
    intro e; subst e
    exact hj (by rw [Tg.slots]; simp)
  | .tp ts, x, σ, ρ, ρ', v, Q, r, E, h, k => by
    cases x with
    | d d =>
      cases d with
      | tup ds =>
        rw [asg] at h
        split at h
        · rename_i hl
          have r : Rp G F v (.tup ds) := r
          cases r with
          | tup e q =>
            rename_i a vs
            rw [gOf]
            refine ⟨a, vs, rfl, SqT.mono' s e, by rw [q.length]; exact hl, ?_⟩
            exact asgs_ok s q E h fun σ' E' B => k σ' E' (by rw [Tg.slots]; exact B)
        · cases h
      | _ => simp [asg] at h
    | _ => simp [asg] at h
theorem asgs_ok (s : Le F H) : ∀ {ts : Tgs} {ds : List D} {σ : L2.St} {ρ ρ' : En} {vs : List V} {Q : L2.St → Hp → Prop}, RpL G F vs ds → EnvOk G F ms σ ρ → asgs ts ds ρ = some ρ' →
    (∀ σ', EnvOk G F ms σ' ρ' → SameBut σ σ' ts.slots → Q σ' H) → gOfs G.K ts vs σ H Q
  | .nil, [], σ, ρ, ρ', vs, Q, r, E, h, k => by
    rw [asgs] at h
    cases h
    cases r
    rw [gOfs]
    exact ⟨rfl, k σ E ⟨rfl, fun _ _ => rfl⟩⟩
  | .nil, d :: ds, σ, ρ, ρ', vs, Q, r, E, h, k => by simp [asgs] at h
  | .cons t ts, [], σ, ρ, ρ', vs, Q, r, E, h, k => by simp [asgs] at h
  | .cons t ts, d :: ds, σ, ρ, ρ', vs, Q, r, E, h, k => by
    rw [asgs] at h
    cases e : asg t (.d d) ρ with
    | none => rw [e] at h; cases h
    | some ρ1 =>
      rw [e] at h
      cases r with
      | cons r1 r2 =>
        rw [gOfs]
        refine ⟨_, _, rfl, asg_ok s (x := .d d) r1 E e fun σ1 E1 B1 => ?_⟩
        exact asgs_ok s r2 E1 h fun σ2 E2 B2 => k σ2 E2 (B1.trans B2 fun i hi => by rw [Tgs.slots, List.mem_append]; exact hi)
end
abbrev DG (G : Gm) (X : Cx) (tg : Expr) (t : Tg) : Prop := PG X tg (gOf G.K t)
abbrev DGs (G : Gm) (X : Cx) (tg : List Expr) (t : Tgs) : Prop := PGs X tg (gOfs G.K t)
theorem dg_name {i : Nat} {x : Str} {pos : Pos} (hN : X.N.Nodup) (hi : X.N[i]? = some x) (hx : Loc X.env.scope x) (hf : X.fn x = true ∨ X.env.scope.names.lookup x = some .local := by first | exact .inl rfl | exact .inr rfl | assumption) : DG G X (.Name x pos) (.nm i) := by
  show PG X _ (gOf G.K (.nm i))
  rw [gOf]
  exact pg_name hN hi hx hf
theorem dgs_nil : DGs G X [] .nil := by
  show PGs X _ (gOfs G.K .nil)
  rw [gOfs]
  exact pgs_nil
theorem dgs_cons {e : Expr} {es : List Expr} {t : Tg} {ts : Tgs} (h1 : DG G X e t) (h2 : DGs G X es ts)
    (hs : (assignEach (e :: es) X.env).map (·.2) = assign e X.env :: (assignEach es X.env).map (·.2) := by rfl) : DGs G X (e :: es) (.cons t ts) := by
  show PGs X _ (gOfs G.K (.cons t ts))
  rw [gOfs]
  exact pgs_cons h1 h2 hs
theorem dg_tup {es : List Expr} {k : Nat} {ts : Tgs} {pos : Pos} (hK : X.K = G.K) (hc : X.calm = true) (h : DGs G X es ts)
    (hn : (assignEach es X.env).length = ts.len := by rfl) (hst : (assignEach es X.env).findIdx? (·.1) = none := by rfl) : DG G X (.Tuple es k pos) (.tp ts) := by
  show PG X _ (gOf G.K (.tp ts))
  rw [gOf, ← hK]
  exact pg_tup hc (by rw [hK]; exact h) hn hst

/-! ### what is walked -/
def kvSV : KV → SV
  | .d x => .d x
  | .obj n => .obj n
theorem KVR.sv {v : V} {x : KV} (h : KVR G F ms v x) : SVR G F ms v (kvSV x) := by
  cases x with
  | d x => exact h
  | obj n => exact h
inductive IR where
  | ok (xs : List KV) (μ : Sto)
  | ex (c : Nat) (x : D) (μ : Sto)
abbrev IF := En → Sto → Option IR
/-- J yields these things, whatever is done meanwhile -/
def Yields (G : Gm) (J : It) (xs : List KV) (F : Hp) (ms : Ad) (μ : Sto) (H : Hp) : Prop :=
  ∀ (i : Nat) (F2 : Hp) (ms2 : Ad) (μ2 : Sto) (H2 : Hp), Go F ms μ H F2 ms2 μ2 H2 → StOk G F2 ms2 μ2 H2 →
    (xs.length ≤ i → J.stop i H2) ∧ ∀ x, xs[i]? = some x → J.go i H2 ∧ ∀ v H3, J.yld i H2 v H3 → ∃ F3, Go F2 ms2 μ2 H2 F3 ms2 μ2 H3 ∧ StOk G F3 ms2 μ2 H3 ∧ KVR G F3 ms2 v x
structure DI (G : Gm) (W : WX) (X : Cx) (tg iter : Expr) (f : IF) : Prop where
  run : ∃ wi : TI, PI X tg iter wi ∧ ∀ (σ : L2.St) (F : Hp) (ms : Ad) (ρ : En) (μ : Sto) (H : Hp) (R : It → Hp → Prop), StOk G F ms μ H → EnvOk G F ms σ ρ → ∀ o, f ρ μ = some o →
    (match o with
      | .ok xs μ1 => ∀ (J : It) (F' : Hp) (ms' : Ad) (H' : Hp), Go F ms μ H F' ms' μ1 H' → StOk G F' ms' μ1 H' → Yields G J xs F' ms' μ1 H' → R J H'
      | .ex c x μ1 => KX G W σ F ms μ H c x μ1) → wi σ H R
/-- over a list or a tuple of data -/
def kvs (ds : List D) : List KV := ds.map KV.d
def iVal (f : EF) : IF := fun ρ μ => match f ρ μ with
  | some (.ok r μ1) => match toVal μ1 r with
    | some (.lst ds, μ2) => some (.ok (kvs ds) μ2)
    | _ => none
  | some (.ex c x μ1) => some (.ex c x μ1)
  | none => none
def iValT (f : EF) : IF := fun ρ μ => match f ρ μ with
  | some (.ok (.d (.tup ds)) μ1) => some (.ok (kvs ds) μ1)
  | some (.ex c x μ1) => some (.ex c x μ1)
  | _ => none
theorem kvs_get {ds : List D} {i : Nat} {x : KV} (h : (kvs ds)[i]? = some x) : ∃ d, ds[i]? = some d ∧ x = .d d := by
  unfold kvs at h
  rw [List.getElem?_map] at h
  cases e : ds[i]? with
  | none => rw [e] at h; cases h
  | some d => rw [e] at h; exact ⟨d, rfl, by simpa using h.symm⟩
theorem yields_list {v : V} {ds : List D} (S : StOk G F ms μ H) (r : Rp G F v (.lst ds)) : ∃ a vs, v = .ref a ∧ F a = some (.lst vs) ∧ Yields G (Itl G.K a) (kvs ds) F ms μ H := by
  cases r with
  | lst e q =>
    rename_i a vs
    refine ⟨a, vs, rfl, e, fun i F2 ms2 μ2 H2 g S2 => ?_⟩
    have h2 : SqL G.K H2 a vs := SqL.of (S2.sub _ _ (g.mono _ _ e))
    refine ⟨fun hi => ⟨vs, h2, by rw [q.length]; unfold kvs at hi; simpa using hi⟩, fun x hx => ?_⟩
    obtain ⟨d, hd, rfl⟩ := kvs_get hx
    obtain ⟨w, hw, rw'⟩ := q.get hd
    refine ⟨⟨vs, w, h2, hw⟩, fun v H3 y => ?_⟩
    obtain ⟨rfl, y⟩ := y
    have := y vs h2
    rw [hw] at this
    cases this
    exact ⟨F2, Go.refl .., S2, rw'.mono g.mono⟩
theorem yields_tup {v : V} {ds : List D} (S : StOk G F ms μ H) (r : Rp G F v (.tup ds)) : ∃ a vs, v = .ref a ∧ SqT G.K F a vs ∧ Yields G (Itt G.K a) (kvs ds) F ms μ H := by
  cases r with
  | tup e q =>
    rename_i a vs
    refine ⟨a, vs, rfl, e, fun i F2 ms2 μ2 H2 g S2 => ?_⟩
    have h2 : SqT G.K H2 a vs := SqT.mono' (g.mono.trans S2.sub) e
    refine ⟨fun hi => ⟨vs, h2, by rw [q.length]; unfold kvs at hi; simpa using hi⟩, fun x hx => ?_⟩
    obtain ⟨d, hd, rfl⟩ := kvs_get hx
    obtain ⟨w, hw, rw'⟩ := q.get hd
    refine ⟨⟨vs, w, h2, hw⟩, fun v H3 y => ?_⟩
    obtain ⟨rfl, y⟩ := y
    have := y vs h2
    rw [hw] at this
    cases this
    exact ⟨F2, Go.refl .., S2, rw'.mono g.mono⟩
theorem di_list {tg e : Expr} {f : EF} (hK : X.K = G.K) (h : DE G W X e f) : DI G W X tg e (iVal f) := ⟨_, pi_list h, fun σ F ms ρ μ H R S E o ho k => by
  unfold iVal at ho
  cases e1 : f ρ μ with
  | none => rw [e1] at ho; cases ho
  | some o1 =>
    rw [e1] at ho
    cases o1 with
    | ex c x μ1 => cases ho; exact run_part_ex S E e1 k
    | ok r μ1 =>
      dsimp only at ho
      refine run_part S E e1 fun v F1 ms1 H1 g1 S1 E1 r1 => ?_
      split at ho
      · rename_i ds μ2 ev
        cases ho
        obtain ⟨F2, S2, g2, m2, r2⟩ := toVal_ok S1 g1 r1 ev
        obtain ⟨a, vs, rfl, ea, Y⟩ := yields_list S2 r2
        exact ⟨a, rfl, ⟨vs, SqL.of (S2.sub _ _ ea)⟩, k _ F2 ms1 H1 g2 S2 (by rw [hK]; exact Y)⟩
      · cases ho⟩
theorem di_tup {tg e : Expr} {f : EF} (hK : X.K = G.K) (h : DE G W X e f) : DI G W X tg e (iValT f) := ⟨_, pi_tup h, fun σ F ms ρ μ H R S E o ho k => by
  unfold iValT at ho
  split at ho
  · rename_i ds μ1 e1
    cases ho
    refine run_part S E e1 fun v F1 ms1 H1 g1 S1 E1 r1 => ?_
    obtain ⟨a, vs, rfl, ea, Y⟩ := yields_tup S1 (show Rp G F1 v (.tup ds) from r1)
    exact ⟨a, rfl, ⟨vs, by rw [hK]; exact SqT.mono' S1.sub ea⟩, k _ F1 ms1 H1 g1 S1 (by rw [hK]; exact Y)⟩
  · rename_i c x μ1 e1
    cases ho
    exact run_part_ex S E e1 k
  · cases ho⟩
/-- over a range -/
def rngI (lo : Int) (n : Nat) : List KV := (List.range n).map fun (i : Nat) => .d (.int (lo + (i : Int)))
def iRng (g : AF) : IF := fun ρ μ => match g ρ μ with
  | some (.ok [x] μ1) => match peekV μ1 x with
    | some (.int j) => if -(2 ^ 62) ≤ j ∧ j < 2 ^ 62 then some (.ok (rngI 0 j.toNat) μ1) else none
    | _ => none
  | some (.ex c x μ1) => some (.ex c x μ1)
  | _ => none
def iRngB (g : AF) : IF := fun ρ μ => match g ρ μ with
  | some (.ok [x, y] μ1) => match peekV μ1 x, peekV μ1 y with
    | some (.int i), some (.int j) => if -(2 ^ 62) ≤ i ∧ i < 2 ^ 62 ∧ -(2 ^ 62) ≤ j ∧ j < 2 ^ 62 then some (.ok (rngI i (j - i).toNat) μ1) else none
    | _, _ => none
  | some (.ex c x μ1) => some (.ex c x μ1)
  | _ => none
theorem yields_rng {lo : Int} {n : Nat} : Yields G (Itr lo n) (rngI lo n) F ms μ H := fun i F2 ms2 μ2 H2 g S2 => by
  unfold rngI
  refine ⟨fun hi => ?_, fun x hx => ?_⟩
  · show n ≤ i; simpa using hi
  · rw [List.getElem?_map] at hx
    by_cases hi : i < n
    · rw [List.getElem?_range hi] at hx
      have hx : x = .d (.int (lo + (i : Int))) := by simpa using hx.symm
      subst hx
      refine ⟨hi, fun v H3 y => ?_⟩
      obtain ⟨rfl, rfl⟩ := y
      exact ⟨F2, Go.refl .., S2, .int _⟩
    · rw [List.getElem?_eq_none (by simpa using hi)] at hx; cases hx
theorem di_range {tg a : Expr} {g : AF} {p pos : Pos} (hg : Gl X "range") (hm : X.mg "range" = none) (ha : DA G W X [a] g) (hs : starEach [a] X.env = [(false, eval a X.env)] := by rfl) : DI G W X tg (.Call (.Name "range" p) [a] [] pos) (iRng g) := ⟨_, pi_range1 hg hm ha hs, fun σ F ms ρ μ H R S E o ho k => by
  unfold iRng at ho
  split at ho
  · rename_i x μ1 e1
    split at ho
    · rename_i j ej
      split at ho
      · rename_i hb
        cases ho
        refine ⟨F, ms, ρ, μ, S, E, _, e1, fun vs F1 ms1 H1 g1 S1 r1 => ?_⟩
        obtain ⟨v, rfl, rv⟩ := r1.one
        have : v = .int j := peekV_top S1 rv ej
        exact ⟨j, by rw [this], hb.1, hb.2, k _ F1 ms1 H1 g1 S1 yields_rng⟩
      · cases ho
    · cases ho
  · rename_i c x μ1 e1
    cases ho
    exact ⟨F, ms, ρ, μ, S, E, _, e1, k⟩
  · cases ho⟩
theorem di_range2 {tg a b : Expr} {g : AF} {p pos : Pos} (hg : Gl X "range") (hm : X.mg "range" = none) (ha : DA G W X [a, b] g) (hs : starEach [a, b] X.env = [(false, eval a X.env), (false, eval b X.env)] := by rfl) (hs2 : starEach [b] X.env = [(false, eval b X.env)] := by rfl) :
    DI G W X tg (.Call (.Name "range" p) [a, b] [] pos) (iRngB g) := ⟨_, pi_range2 hg hm ha hs hs2, fun σ F ms ρ μ H R S E o ho k => by
  unfold iRngB at ho
  split at ho
  · rename_i x y μ1 e1
    split at ho
    · rename_i i j ei ej
      split at ho
      · rename_i hb
        cases ho
        refine ⟨F, ms, ρ, μ, S, E, _, e1, fun vs F1 ms1 H1 g1 S1 r1 => ?_⟩
        obtain ⟨v, v', rfl, rv, rv'⟩ := r1.two
        have h1 : v = .int i := peekV_top S1 rv ei
        have h2 : v' = .int j := peekV_top S1 rv' ej
        exact ⟨i, j, by rw [h1, h2], hb, k _ F1 ms1 H1 g1 S1 yields_rng⟩
      · cases ho
    · cases ho
  · rename_i c x μ1 e1
    cases ho
    exact ⟨F, ms, ρ, μ, S, E, _, e1, k⟩
  · cases ho⟩
/-- over a text, sign by sign -/
def iStrF (f : EF) : IF := fun ρ μ => match f ρ μ with
  | some (.ok r μ1) => match peek μ1 r with
    | some (.str x) => some (.ok (x.cps.toList.map fun c => .d (.str ⟨#[c]⟩)) μ1)
    | _ => none
  | some (.ex c x μ1) => some (.ex c x μ1)
  | none => none
theorem yields_str {x : Str} (ok : strOk x) : Yields G (Its x) (x.cps.toList.map fun c => .d (.str ⟨#[c]⟩)) F ms μ H := fun i F2 ms2 μ2 H2 g S2 => by
  refine ⟨fun hi => ?_, fun y hy => ?_⟩
  · show x.cps.size ≤ i; simpa using hi
  · rw [List.getElem?_map] at hy
    cases e : x.cps.toList[i]? with
    | none => rw [e] at hy; cases hy
    | some c =>
      rw [e] at hy
      have hy : y = .d (.str ⟨#[c]⟩) := by simpa using hy.symm
      subst hy
      have hi : i < x.cps.size := by simpa using (List.getElem?_eq_some_iff.mp e).1
      refine ⟨hi, fun v H3 y => ?_⟩
      obtain ⟨rfl, c', hc', rfl⟩ := y
      have e' : x.cps[i]? = some c := by rw [← Array.getElem?_toList]; exact e
      rw [e'] at hc'
      cases hc'
      exact ⟨F2, Go.refl .., S2, .str (strOk_one ok (List.mem_of_getElem? e))⟩
theorem di_str {tg e : Expr} {f : EF} (h : DE G W X e f) : DI G W X tg e (iStrF f) := ⟨_, pi_str h, fun σ F ms ρ μ H R S E o ho k => by
  unfold iStrF at ho
  cases e1 : f ρ μ with
  | none => rw [e1] at ho; cases ho
  | some o1 =>
    rw [e1] at ho
    cases o1 with
    | ex c x μ1 => cases ho; exact run_part_ex S E e1 k
    | ok r μ1 =>
      dsimp only at ho
      refine run_part S E e1 fun v F1 ms1 H1 g1 S1 E1 r1 => ?_
      split at ho
      · rename_i x ex
        cases ho
        obtain ⟨rfl, ok⟩ := peek_top S1 r1 ex
        exact ⟨x, rfl, k _ F1 ms1 H1 g1 S1 (yields_str ok)⟩
      · cases ho⟩
/-- enumerate of a list -/
def enumI (ds : List D) : List KV := (ds.zipIdx.map fun p => .d (.tup [.int (p.2 : Int), p.1]))
def iEnumF (g : AF) : IF := fun ρ μ => match g ρ μ with
  | some (.ok [.d (.lst ds)] μ1) => some (.ok (enumI ds) μ1)
  | some (.ex c x μ1) => some (.ex c x μ1)
  | _ => none
theorem enumI_get {ds : List D} {i : Nat} {x : KV} (h : (enumI ds)[i]? = some x) : ∃ d, ds[i]? = some d ∧ x = .d (.tup [.int (i : Int), d]) := by
  unfold enumI at h
  rw [List.getElem?_map, List.getElem?_zipIdx] at h
  cases e : ds[i]? with
  | none => rw [e] at h; cases h
  | some d => rw [e] at h; exact ⟨d, rfl, by simpa using h.symm⟩
theorem yields_enum {v : V} {ds : List D} (S : StOk G F ms μ H) (r : Rp G F v (.lst ds)) : ∃ a vs, v = .ref a ∧ F a = some (.lst vs) ∧ Yields G (Ite G.K a) (enumI ds) F ms μ H := by
  cases r with
  | lst e q =>
    rename_i a vs
    refine ⟨a, vs, rfl, e, fun i F2 ms2 μ2 H2 g S2 => ?_⟩
    have h2 : SqL G.K H2 a vs := SqL.of (S2.sub _ _ (g.mono _ _ e))
    refine ⟨fun hi => ⟨vs, h2, by rw [q.length]; unfold enumI at hi; simpa using hi⟩, fun x hx => ?_⟩
    obtain ⟨d, hd, rfl⟩ := enumI_get hx
    obtain ⟨w, hw, rw'⟩ := q.get hd
    refine ⟨⟨vs, w, h2, hw⟩, fun v H3 y => ?_⟩
    obtain ⟨T, x, rfl, hT, rfl, y⟩ := y
    have := y vs h2
    rw [hw] at this
    cases this
    obtain ⟨S3, g3⟩ := S2.frozenNew (o := .tup [.int (i : Nat), w]) hT
    exact ⟨_, g3, S3, .tup (.inl (.inl upd_same)) (.cons (.int _) (.cons ((rw'.mono g.mono).mono g3.mono) .nil))⟩
theorem di_enum {e : Expr} {elts : List Expr} {kk : Nat} {tpos p pos : Pos} {g : AF} (hK : X.K = G.K) (hg : Gl X "enumerate") (hm : X.mg "enumerate" = none) (ha : DA G W X [e] g) (hs : starEach [e] X.env = [(false, eval e X.env)] := by rfl) : DI G W X (.Tuple elts kk tpos) (.Call (.Name "enumerate" p) [e] [] pos) (iEnumF g) := ⟨_, pi_enum hg hm ha hs, fun σ F ms ρ μ H R S E o ho k => by
  unfold iEnumF at ho
  split at ho
  · rename_i ds μ1 e1
    cases ho
    refine ⟨F, ms, ρ, μ, S, E, _, e1, fun vs F1 ms1 H1 g1 S1 r1 => ?_⟩
    obtain ⟨v, rfl, rv⟩ := r1.one
    obtain ⟨a, ws, rfl, ea, Y⟩ := yields_enum S1 (show Rp G F1 v (.lst ds) from rv)
    exact ⟨a, ws, rfl, SqL.of (S1.sub _ _ ea), k _ F1 ms1 H1 g1 S1 (by rw [hK]; exact Y)⟩
  · rename_i c x μ1 e1
    cases ho
    exact ⟨F, ms, ρ, μ, S, E, _, e1, k⟩
  · cases ho⟩
end
end DF
/-! DF9: list comprehensions; statements. -/
namespace DF
open PySem PySem.Spec PyProof.Rows L2

/-! ### list comprehensions -/
def W0 : WX := fun _ _ _ _ => False
def compLoop (t : Tg) (ρ' : En) (ft fe : EF) : List KV → List D → Sto → Option ER
  | [], acc, μ => some (.ok (.tmp (.lst acc)) μ)
  | x :: xs, acc, μ => match asg t (kvSV x) ρ' with
    | none => none
    | some ρ2 => match ft ρ2 μ with
      | some (.ok r μ1) => match asB r with
        | some true => match fe ρ2 μ1 with
          | some (.ok r2 μ2) => match toVal μ2 r2 with
            | some (y, μ3) => if acc.length < sizeLine then compLoop t ρ' ft fe xs (acc ++ [y]) μ3 else none
            | none => none
          | _ => none
        | some false => compLoop t ρ' ft fe xs acc μ1
        | none => none
      | _ => none
def eComp (fi : IF) (t : Tg) (own : List Nat) (ft fe : EF) : EF := fun ρ μ => match fi ρ μ with
  | some (.ok xs μ1) => compLoop t (wipeE ρ own) ft fe xs [] μ1
  | some (.ex c x μ1) => some (.ex c x μ1)
  | none => none

section
variable {G : Gm} {W : WX} {X : Cx} {F F' H H' F₀ H₀ : Hp} {ms ms' ms₀ : Ad} {μ μ' μ₀ : Sto} {σ : L2.St} {ρ : En} {Ow : Addr → Prop}
abbrev DTs (G : Gm) (X : Cx) (ifs : List Expr) (f : EF) : Prop := PTs X ifs (tT G W0 f)
theorem dts_nil {X : Cx} : DTs G X [] (eB true) := ⟨fun pins s σ H Q I h => by
  obtain ⟨F, ms, ρ, μ, S, E, o, ho, k⟩ := h
  cases ho
  exact pts_nil.run pins s σ H Q I (KT.bl S k)⟩
theorem dts_one {X : Cx} {c : Expr} {f : EF} (h : DT G W0 X c f) : DTs G X [c] f := pts_one h

/-- what a comprehension's reading is shown by -/
theorem tLc_of {tg iter : Expr} {own : List Nat} {fi : IF} {t : Tg} {ft fe : EF} (hi : DI G W X tg iter fi) (ht : t.slots.all (fun i => own.contains i) = true) :
    ∃ wi, PI X tg iter wi ∧ ∀ (σ : L2.St) (H : Hp) (Q : VK), tE G W (eComp fi t own ft fe) σ H Q → tLc wi (gOf G.K t) (tT G W0 ft) (tE G W0 fe) own σ H Q := by
  obtain ⟨wi, pi, run⟩ := hi
  refine ⟨wi, pi, fun σ H Q q => ?_⟩
  obtain ⟨F, ms, ρ, μ, S, E, o, ho, k⟩ := q
  unfold eComp at ho
  cases e1 : fi ρ μ with
  | none => rw [e1] at ho; cases ho
  | some o1 =>
    rw [e1] at ho
    refine run σ F ms ρ μ H _ S E o1 e1 ?_
    cases o1 with
    | ex c x μ1 => cases ho; exact k
    | ok xs μ1 =>
      dsimp only at ho ⊢
      intro J F1 ms1 H1 g1 S1 Y D hD
      obtain ⟨S1', g1'⟩ := S1.lay (o := .lst []) hD
      have nl1 : ¬ Live ms1 μ1 D := fun ⟨n, c, a1, a2, l⟩ => by
        obtain ⟨o, ho⟩ := (S1.cell n D c a1 a2).there l
        rw [hD] at ho; cases ho
      have hf1 : F1 D = none := by
        cases q : F1 D with
        | none => rfl
        | some u => rw [S1.sub D u q] at hD; cases hD
      refine ⟨fun i m H2 => m = xs.length - i ∧ i ≤ xs.length ∧ ∃ F2 ms2 μ2 acc us, StOk G F2 ms2 μ2 H2 ∧ Go F1 ms1 μ1 H1 F2 ms2 μ2 H2 ∧ H2 D = some (.lst us) ∧ RpL G F2 us acc ∧ F2 D = none ∧ ¬ Live ms2 μ2 D ∧
        compLoop t (wipeE ρ own) ft fe (xs.drop i) acc μ2 = some o, ⟨xs.length, rfl, Nat.zero_le _, F1, ms1, μ1, [], [], S1', g1', upd_same, .nil, hf1, nl1, ho⟩, ?_⟩
      rintro i m H2 ⟨rfl, hi, F2, ms2, μ2, acc, us, S2, gY, hD2, ra, hf2, nl2, hl⟩
      have E2 : EnvOk G F2 ms2 (wipe σ own) (wipeE ρ own) := (E.mono (g1.mono.trans gY.mono) (g1.pre.trans gY.pre)).wipe _
      by_cases hlt : i < xs.length
      · refine .inr ?_
        obtain ⟨go, yl⟩ := (Y i F2 ms2 μ2 H2 gY S2).2 xs[i] (List.getElem?_eq_getElem hlt)
        refine ⟨go, fun H' => ∃ F3 ms3 μ3 acc' us', StOk G F3 ms3 μ3 H' ∧ Go F1 ms1 μ1 H1 F3 ms3 μ3 H' ∧ H' D = some (.lst us') ∧ RpL G F3 us' acc' ∧ F3 D = none ∧ ¬ Live ms3 μ3 D ∧
          compLoop t (wipeE ρ own) ft fe (xs.drop (i + 1)) acc' μ3 = some o, fun H' h => ⟨xs.length - (i + 1), by omega, rfl, hlt, h⟩, fun x H3 hy => ?_⟩
        obtain ⟨F3, g3, S3, rx⟩ := yl x H3 hy
        have hx : xs.drop i = xs[i] :: xs.drop (i + 1) := List.drop_eq_getElem_cons hlt
        rw [hx] at hl
        unfold compLoop at hl
        cases e2 : asg t (kvSV xs[i]) (wipeE ρ own) with
        | none => rw [e2] at hl; cases hl
        | some ρ2 =>
          rw [e2] at hl
          dsimp only at hl
          refine asg_ok S3.sub rx.sv (E2.mono g3.mono g3.pre) e2 fun σ2 E3 B => ⟨?_, ?_⟩
          · rw [← wipe_wipe (σ := σ)]
            refine wipe_eq B.1 fun j hj => B.2 j fun z => hj ?_
            have := List.all_eq_true.mp ht j z
            simpa using this
          · cases e3 : ft ρ2 μ2 with
            | none => rw [e3] at hl; cases hl
            | some o3 =>
              rw [e3] at hl
              cases o3 with
              | ex c y ν => cases hl
              | ok r3 μ3 =>
                dsimp only at hl
                cases e4 : asB r3 with
                | none => rw [e4] at hl; cases hl
                | some b =>
                  rw [e4] at hl
                  refine run_test S3 E3 e3 e4 fun F4 ms4 H4 g4 S4 E4 => ?_
                  have kD : ∀ {Fa : Hp} {msa : Ad} {μa : Sto} {Ha : Hp}, Go F2 ms2 μ2 H2 Fa msa μa Ha → Ha D = some (.lst us) ∧ Fa D = none ∧ ¬ Live msa μa D := fun {Fa msa μa Ha} g => by
                    obtain ⟨h1, h2⟩ := g.keep D _ hD2 nl2
                    refine ⟨h1, h2 hf2, fun z => ?_⟩
                    rcases g.lives D z with z | z
                    · exact nl2 z
                    · rw [hD2] at z; cases z
                  have g24 := g3.trans g4
                  cases b with
                  | false =>
                    rw [if_neg Bool.false_ne_true]
                    obtain ⟨h1, h2, h3⟩ := kD g24
                    exact ⟨F4, ms4, μ3, acc, us, S4, gY.trans g24, h1, ra.mono g24.mono, h2, h3, hl⟩
                  | true =>
                    rw [if_pos rfl]
                    dsimp only at hl
                    cases e5 : fe ρ2 μ3 with
                    | none => rw [e5] at hl; cases hl
                    | some o5 =>
                      rw [e5] at hl
                      cases o5 with
                      | ex c y ν => cases hl
                      | ok r5 μ5 =>
                        dsimp only at hl
                        cases e6 : toVal μ5 r5 with
                        | none => rw [e6] at hl; cases hl
                        | some p =>
                          obtain ⟨y, μ6⟩ := p
                          rw [e6] at hl
                          dsimp only at hl
                          split at hl
                          · rename_i hz
                            refine run_part S4 E4 e5 fun v F5 ms5 H5 g5 S5 E5 r5' => ?_
                            have g25 := g24.trans g5
                            obtain ⟨F6, S6, g6, m6, r6⟩ := toVal_ok S5 g25 (r5'.own fun a z => g24.owns z) e6
                            obtain ⟨h1, h2, h3⟩ := kD g6
                            have ra6 := ra.mono g6.mono
                            refine ⟨us, h1, by rw [ra.length]; exact hz, ?_⟩
                            have up : ∀ b u, b ≠ D → H5 b = some u → upd H5 D (.lst (us ++ [v])) b = some u := fun b u hb e => by rw [upd_ne hb]; exact e
                            have nDl : ∀ b, Live ms5 μ6 b → b ≠ D := fun b z w => h3 (by rw [← w]; exact z)
                            have S7 : StOk G F6 ms5 μ6 (upd H5 D (.lst (us ++ [v]))) := ⟨fun b u e => up b u (fun w => by rw [w, h2] at e; cases e) (S6.sub b u e), S6.len, fun n b c a1 a2 => by
                                have q := S6.cell n b c a1 a2
                                by_cases lc : live c = true
                                · exact q.go (Le.refl _) (Pre.refl _) fun u hu => up b u (nDl b ⟨n, c, a1, a2, lc⟩) hu
                                · cases c with
                                  | dead => trivial
                                  | frz _ => exact q
                                  | ro _ => exact q
                                  | lst _ => exact absurd rfl lc
                                  | dic _ _ => exact absurd rfl lc
                                  | olst _ => exact absurd rfl lc
                                  | oins _ _ _ => exact absurd rfl lc, S6.inj, S6.off⟩
                            refine ⟨F6, ms5, μ6, acc ++ [y], us ++ [v], S7, ?_, upd_same, ra6.append (.cons r6 .nil), h2, h3, hl⟩
                            have g7 := gY.trans g6
                            refine ⟨g7.mono, g7.pre, fun a u e nl => ?_, fun a z => g7.lives a z, fun a e => ?_⟩
                            · have ha : a ≠ D := fun z => by rw [z, hD] at e; cases e
                              obtain ⟨q1, q2⟩ := g7.keep a u e nl
                              exact ⟨up a u ha q1, q2⟩
                            · by_cases ha : a = D
                              · subst ha; exact hD
                              · rw [upd_ne ha] at e; exact g7.stay a e
                          · cases hl
      · have ei : i = xs.length := by omega
        subst ei
        refine .inl ⟨(Y _ F2 ms2 μ2 H2 gY S2).1 (Nat.le_refl _), ?_⟩
        rw [List.drop_length] at hl
        unfold compLoop at hl
        cases hl
        exact k _ F2 ms2 H2 (g1.trans gY) S2 ⟨D, rfl, hf2, nl2, rfl, ⟨us, hD2, ra⟩, .inr (g1.stay D hD)⟩
theorem de_comp {elt tg iter : Expr} {ifs : List Expr} {scope : Scope} (own : List (Str × Nat)) {pos : Pos} {fi : IF} {t : Tg} {ft fe : EF} (hc : X.calm = true) (hN : X.N.Nodup) (hi : DI G W X tg iter fi) (ok : BlkOk X.N X.env.scope scope own)
    (hg : ∀ (s : Shared) (H : Hp) (C : Addr) (cl : List (Str × Addr)) (fp : List Addr), DG G (X.blk s H scope (compEnvC scope cl C X.env) fp) tg t)
    (htt : ∀ (s : Shared) (H : Hp) (C : Addr) (cl : List (Str × Addr)) (fp : List Addr), DTs G (X.blk s H scope (compEnvC scope cl C X.env) fp) ifs ft)
    (he : ∀ (s : Shared) (H : Hp) (C : Addr) (cl : List (Str × Addr)) (fp : List Addr), DE G W0 (X.blk s H scope (compEnvC scope cl C X.env) fp) elt fe)
    (ht : t.slots.all (fun i => (own.map (·.2)).contains i) = true := by rfl) (hs : ∀ x, foldedSetIterable iter X.env x = pure x := by intro _; rfl) : DE G W X (.ListComp elt [⟨tg, iter, ifs, 0⟩] scope pos) (eComp fi t (own.map (·.2)) ft fe) := by
  obtain ⟨wi, pi, h⟩ := tLc_of (ft := ft) (fe := fe) hi ht
  exact PE.mono (pe_lc hc hN pi ok hg htt he hs) h

/-! ### statements -/
inductive SO where
  | nx (ρ : En) (μ : Sto)
  | rt (r : Res) (μ : Sto)
  | bk (ρ : En) (μ : Sto)
  | ct (ρ : En) (μ : Sto)
  | ex (c : Nat) (x : D) (ρ : En) (μ : Sto)
abbrev SF := En → Sto → Option SO
def KN (G : Gm) (F : Hp) (ms : Ad) (μ : Sto) (H : Hp) (N : L2.St → Hp → Prop) (ρ' : En) (μ' : Sto) : Prop :=
  ∀ (σ' : L2.St) (F' : Hp) (ms' : Ad) (H' : Hp), Go F ms μ H F' ms' μ' H' → StOk G F' ms' μ' H' → EnvOk G F' ms' σ' ρ' → N σ' H'
def KS (G : Gm) (W : WX) (F : Hp) (ms : Ad) (μ : Sto) (H : Hp) (D : Ends) : SO → Prop
  | .nx ρ' μ' => KN G F ms μ H D.nx ρ' μ'
  | .bk ρ' μ' => KN G F ms μ H D.bk ρ' μ'
  | .ct ρ' μ' => KN G F ms μ H D.ct ρ' μ'
  | .rt r μ' => ∀ (v : V) (F' : Hp) (ms' : Ad) (H' : Hp), Go F ms μ H F' ms' μ' H' → StOk G F' ms' μ' H' → RR G F' ms' μ' H' (Own ms μ H) v r → D.rt v H'
  | .ex c x ρ' μ' => ∀ (dx : Addr) (v : V) (σ' : L2.St) (F' : Hp) (ms' : Ad) (H' : Hp), H dx = none → Go F ms μ H F' ms' μ' H' → StOk G F' ms' μ' H' → EnvOk G F' ms' σ' ρ' → H' dx = some (xval v) → Rp G F' v x → W (.ref (G.cls c)) (some dx) σ' H'
def tS (G : Gm) (W : WX) (f : SF) : TS := fun D σ H => ∃ (F : Hp) (ms : Ad) (ρ : En) (μ : Sto), StOk G F ms μ H ∧ EnvOk G F ms σ ρ ∧ ∃ o, f ρ μ = some o ∧ KS G W F ms μ H D o
abbrev DS (G : Gm) (W : WX) (X : Cx) (st : Stmt) (f : SF) : Prop := PS X st (tS G W f)
abbrev DSs (G : Gm) (W : WX) (X : Cx) (st : List Stmt) (f : SF) : Prop := PSs X st (tS G W f)
theorem PS.mono {st : Stmt} {t t' : TS} (h : PS X st t) (i : ∀ D σ H, t' D σ H → t D σ H) : PS X st t' := ⟨fun pins s σ H D I q => h.run pins s σ H D I (i D σ H q)⟩
theorem PSs.mono {st : List Stmt} {t t' : TS} (h : PSs X st t) (i : ∀ D σ H, t' D σ H → t D σ H) : PSs X st t' := ⟨fun pins s σ H D I q => h.run pins s σ H D I (i D σ H q)⟩
theorem KN.shift (g : Go F ms μ H F' ms' μ' H') {N : L2.St → Hp → Prop} {ρ' : En} {ν : Sto} (h : KN G F ms μ H N ρ' ν) : KN G F' ms' μ' H' N ρ' ν := fun σ' F2 ms2 H2 g2 => h σ' F2 ms2 H2 (g.trans g2)
theorem KS.shift (g : Go F ms μ H F' ms' μ' H') {D : Ends} : ∀ {o : SO}, KS G W F ms μ H D o → KS G W F' ms' μ' H' D o
  | .nx _ _, h => KN.shift g h
  | .bk _ _, h => KN.shift g h
  | .ct _ _, h => KN.shift g h
  | .rt _ _, h => fun v F2 ms2 H2 g2 S2 r2 => h v F2 ms2 H2 (g.trans g2) S2 (r2.own fun _ z => g.owns z)
  | .ex _ _ _ _, h => fun dx v σ' F2 ms2 H2 hx g2 => h dx v σ' F2 ms2 H2 (g.stay dx hx) (g.trans g2)
/-- another next end -/
theorem KS.nx {D D' : Ends} (h1 : D'.rt = D.rt) (h2 : D'.bk = D.bk) (h3 : D'.ct = D.ct) : ∀ {o : SO}, (∀ ρ' μ', o = .nx ρ' μ' → KN G F ms μ H D'.nx ρ' μ') → KS G W F ms μ H D o → KS G W F ms μ H D' o
  | .nx ρ' μ', h, _ => h _ _ rfl
  | .bk _ _, _, k => by show KN _ _ _ _ _ D'.bk _ _; rw [h2]; exact k
  | .ct _ _, _, k => by show KN _ _ _ _ _ D'.ct _ _; rw [h3]; exact k
  | .rt _ _, _, k => fun v F2 ms2 H2 g2 S2 r2 => by rw [h1]; exact k v F2 ms2 H2 g2 S2 r2
  | .ex _ _ _ _, _, k => k
def sNx : SF := fun ρ μ => some (.nx ρ μ)
def sSeq (f g : SF) : SF := fun ρ μ => match f ρ μ with
  | some (.nx ρ1 μ1) => g ρ1 μ1
  | o => o
theorem dss_nil : DSs G W X [] sNx := PSs.mono pss_nil fun D σ H ⟨F, ms, ρ, μ, S, E, o, ho, k⟩ => by
  cases ho
  exact k σ F ms H (Go.refl ..) S E
theorem dss_one {st : Stmt} {f : SF} (h : DS G W X st f) : DSs G W X [st] f := pss_one h
theorem dss_cons {st : Stmt} {rest : List Stmt} {f g : SF} (h1 : DS G W X st f) (h2 : DSs G W X rest g) : DSs G W X (st :: rest) (sSeq f g) := PSs.mono (pss_cons h1 h2) fun D σ H ⟨F, ms, ρ, μ, S, E, o, ho, k⟩ => by
  unfold sSeq at ho
  cases e1 : f ρ μ with
  | none => rw [e1] at ho; cases ho
  | some o1 =>
    rw [e1] at ho
    refine ⟨F, ms, ρ, μ, S, E, o1, e1, ?_⟩
    cases o1 with
    | nx ρ1 μ1 => exact fun σ' F' ms' H' g1 S' E' => ⟨F', ms', ρ1, μ1, S', E', o, ho, KS.shift g1 k⟩
    | bk _ _ => cases ho; exact k
    | ct _ _ => cases ho; exact k
    | rt _ _ => cases ho; exact k
    | ex _ _ _ _ => cases ho; exact k
theorem ds_pass {pos : Pos} : DS G W X (.Pass pos) sNx := PS.mono ps_pass fun D σ H ⟨F, ms, ρ, μ, S, E, o, ho, k⟩ => by
  cases ho
  exact k σ F ms H (Go.refl ..) S E
def sBk : SF := fun ρ μ => some (.bk ρ μ)
def sCt : SF := fun ρ μ => some (.ct ρ μ)
theorem ds_break {pos : Pos} : DS G W X (.Break pos) sBk := PS.mono ps_break fun D σ H ⟨F, ms, ρ, μ, S, E, o, ho, k⟩ => by
  cases ho
  exact k σ F ms H (Go.refl ..) S E
theorem ds_continue {pos : Pos} : DS G W X (.Continue pos) sCt := PS.mono ps_continue fun D σ H ⟨F, ms, ρ, μ, S, E, o, ho, k⟩ => by
  cases ho
  exact k σ F ms H (Go.refl ..) S E
/-- an expression, then what is done with its value -/
def sThen (f : EF) (g : Res → SF) : SF := fun ρ μ => match f ρ μ with
  | some (.ok r μ1) => g r ρ μ1
  | some (.ex c x μ1) => some (.ex c x ρ μ1)
  | none => none
theorem sThen_run {f : EF} {g : Res → SF} {o : SO} {D : Ends} {t : V → Hp → Prop} (S : StOk G F ms μ H) (E : EnvOk G F ms σ ρ) (h : sThen f g ρ μ = some o) (k : KS G W F ms μ H D o)
    (hs : ∀ (v : V) (r : Res) (μ' : Sto) (F' : Hp) (ms' : Ad) (H' : Hp), Go F ms μ H F' ms' μ' H' → StOk G F' ms' μ' H' → EnvOk G F' ms' σ ρ → RR G F' ms' μ' H' (Own ms μ H) v r → g r ρ μ' = some o → t v H') : tE G W f σ H t := by
  unfold sThen at h
  cases e1 : f ρ μ with
  | none => rw [e1] at h; cases h
  | some o1 =>
    rw [e1] at h
    cases o1 with
    | ex c x μ1 => cases h; exact run_part_ex S E e1 (fun dx v F' ms' H' hx g1 S' e r => k dx v σ F' ms' H' hx g1 S' (E.mono g1.mono g1.pre) e r)
    | ok r μ1 => exact run_part S E e1 fun v F' ms' H' g1 S' E' r1 => hs v r μ1 F' ms' H' g1 S' E' r1 h
def sExpr (f : EF) : SF := sThen f fun _ ρ μ => some (.nx ρ μ)
theorem ds_expr {e : Expr} {f : EF} {pos : Pos} (h : DE G W X e f) (hs : swapsWith e none pos.line X.env = pure false := by rfl) : DS G W X (.Expr e pos) (sExpr f) := PS.mono (ps_expr h hs) fun D σ H ⟨F, ms, ρ, μ, S, E, o, ho, k⟩ =>
  sThen_run (t := fun _ H1 => D.nx σ H1) S E ho k fun v r μ' F' ms' H' g S' E' r' e => by
    cases e
    exact k σ F' ms' H' g S' E'
def sRet (f : EF) : SF := sThen f fun r _ μ => some (.rt r μ)
theorem ds_ret {e : Expr} {f : EF} {pos : Pos} (h : DE G W X e f) : DS G W X (.Return (some e) pos) (sRet f) := PS.mono (ps_ret h) fun D σ H ⟨F, ms, ρ, μ, S, E, o, ho, k⟩ =>
  sThen_run (t := D.rt) S E ho k fun v r μ' F' ms' H' g S' E' r' e => by
    cases e
    exact k v F' ms' H' g S' r'
def sRetN : SF := fun _ μ => some (.rt (.d .non) μ)
theorem ds_retN {pos : Pos} : DS G W X (.Return none pos) sRetN := PS.mono ps_retN fun D σ H ⟨F, ms, ρ, μ, S, E, o, ho, k⟩ => by
  cases ho
  exact k .non F ms H (Go.refl ..) S .non
/-- x = e -/
def sSet (i : Nat) (m : Md) (f : EF) : SF := sThen f fun r ρ μ => match conv μ m r with
  | some (x, μ') => some (.nx (ρ.set i (some x)) μ')
  | none => none
theorem ds_set {i : Nat} {m : Md} {x : Str} {e : Expr} {f : EF} {pos pos' : Pos} (hN : X.N.Nodup) (hi : X.N[i]? = some x) (hx : Loc X.env.scope x) (he : DE G W X e f) (hs : swapsWith e (some (.Name x pos')) pos.line X.env = pure false := by rfl)
    (hf : X.fn x = true ∨ X.env.scope.names.lookup x = some .local := by first | exact .inl rfl | exact .inr rfl | assumption) : DS G W X (.Assign [.Name x pos'] e pos) (sSet i m f) := PS.mono (ps_set hN hi hx he hs hf) fun D σ H ⟨F, ms, ρ, μ, S, E, o, ho, k⟩ =>
  sThen_run (t := fun v H1 => gName i v σ H1 D.nx) S E ho k fun v r μ' F' ms' H' g S' E' r' e => by
    split at e
    · rename_i x μ2 ec
      cases e
      obtain ⟨F2, ms2, S2, g2, m2, p2, r2⟩ := conv_ok S' g r' ec
      exact k _ F2 ms2 H' g2 S2 ((E'.mono m2 p2).set i r2)
    · cases e
/-- name = [..] on one line -/
theorem ds_setLc {i : Nat} {m : Md} {y : Str} {py : Pos} {elt tg iter : Expr} {ifs : List Expr} {scope : Scope} (own : List (Str × Nat)) {pos spos : Pos} {fi : IF} {t : Tg} {ft fe : EF} (hc : X.calm = true) (hN : X.N.Nodup) (hy : X.N[i]? = some y) (hyl : X.env.scope.names.lookup y = some .local)
    (hsw : swapsWith (.ListComp elt [⟨tg, iter, ifs, 0⟩] scope pos) (some (.Name y py)) spos.line X.env = pure true) (hi : DI G W X tg iter fi) (ok : BlkOk X.N X.env.scope scope own)
    (hg : ∀ (s : Shared) (H : Hp) (C : Addr) (cl : List (Str × Addr)) (fp : List Addr), DG G (X.blk s H scope (compEnvC scope cl C X.env) fp) tg t)
    (htt : ∀ (s : Shared) (H : Hp) (C : Addr) (cl : List (Str × Addr)) (fp : List Addr), DTs G (X.blk s H scope (compEnvC scope cl C X.env) fp) ifs ft)
    (he : ∀ (s : Shared) (H : Hp) (C : Addr) (cl : List (Str × Addr)) (fp : List Addr), DE G W0 (X.blk s H scope (compEnvC scope cl C X.env) fp) elt fe)
    (ht : t.slots.all (fun i => (own.map (·.2)).contains i) = true := by rfl) (hs : ∀ x, foldedSetIterable iter X.env x = pure x := by intro _; rfl) :
    DS G W X (.Assign [.Name y py] (.ListComp elt [⟨tg, iter, ifs, 0⟩] scope pos) spos) (sSet i m (eComp fi t (own.map (·.2)) ft fe)) := by
  obtain ⟨wi, pi, h⟩ := tLc_of (ft := ft) (fe := fe) hi ht
  refine PS.mono (ps_setLc hc hN hy hyl hsw pi ok hg htt he hs) fun D σ H ⟨F, ms, ρ, μ, S, E, o, ho, k⟩ => ?_
  refine h σ H _ (sThen_run (t := fun v H1 => gName i v σ H1 D.nx) S E ho k fun v r μ' F' ms' H' g S' E' r' e => ?_)
  split at e
  · rename_i x μ2 ec
    cases e
    obtain ⟨F2, ms2, S2, g2, m2, p2, r2⟩ := conv_ok S' g r' ec
    exact k _ F2 ms2 H' g2 S2 ((E'.mono m2 p2).set i r2)
  · cases e
/-- a target of names = e -/
def sAsg (t : Tg) (f : EF) : SF := sThen f fun r ρ μ => match convV μ r with
  | some (x, μ') => match asg t x ρ with
    | some ρ' => some (.nx ρ' μ')
    | none => none
  | none => none
theorem ds_asg {tg e : Expr} {t : Tg} {f : EF} {pos : Pos} (he : DE G W X e f) (hg : DG G X tg t) (hs : swapsWithSole [tg] e pos.line X.env = pure false := by rfl) (hw : swappedStores [tg] e X.env = pure none := by rfl)
    (h1 : (assignEach [tg] X.env).map (·.2) = [assign tg X.env] := by rfl) : DS G W X (.Assign [tg] e pos) (sAsg t f) := PS.mono (ps_asg he hg hs hw h1) fun D σ H ⟨F, ms, ρ, μ, S, E, o, ho, k⟩ =>
  sThen_run (t := fun v H1 => gOf G.K t v σ H1 D.nx) S E ho k fun v r μ' F' ms' H' g S' E' r' e => by
    split at e
    · rename_i x μ2 ec
      split at e
      · rename_i ρ' ea
        cases e
        obtain ⟨F2, ms2, S2, g2, m2, p2, r2⟩ := convV_ok S' g r' ec
        exact asg_ok S2.sub r2 (E'.mono m2 p2) ea fun σ' E2 B => k σ' F2 ms2 H' g2 S2 E2
      · cases e
    · cases e
/-- a, b = x, y -/
def sPar (i j : Nat) (g : AF) : SF := fun ρ μ => match g ρ μ with
  | some (.ok [x, y] μ1) => some (.nx ((ρ.set i (some x)).set j (some y)) μ1)
  | some (.ex c x μ1) => some (.ex c x ρ μ1)
  | _ => none
theorem ds_par {i j : Nat} {x y : Str} {a b : Expr} {g : AF} {px py pt pos : Pos} {kt k2 pt2} (hc : X.calm = true) (hN : X.N.Nodup) (hi : X.N[i]? = some x) (hj : X.N[j]? = some y) (hij : i ≠ j)
    (hx : X.env.scope.names.lookup x = some .local) (hy : X.env.scope.names.lookup y = some .local) (ha : DA G W X [a, b] g)
    (hw : swappedStores [.Tuple [.Name x px, .Name y py] kt pt] (.Tuple [a, b] k2 pt2) X.env = pure (some [x, y]))
    (hs : swapsWithSole [.Tuple [.Name x px, .Name y py] kt pt] (.Tuple [a, b] k2 pt2) pos.line X.env = pure false := by rfl) :
    DS G W X (.Assign [.Tuple [.Name x px, .Name y py] kt pt] (.Tuple [a, b] k2 pt2) pos) (sPar i j g) := PS.mono (ps_par hc hN hi hj hij hx hy ha hw hs) fun D σ H ⟨F, ms, ρ, μ, S, E, o, ho, k⟩ => by
  unfold sPar at ho
  split at ho
  · rename_i p q μ1 e1
    cases ho
    refine ⟨F, ms, ρ, μ, S, E, _, e1, fun vs F1 ms1 H1 g1 S1 r1 => ?_⟩
    obtain ⟨v, v', rfl, rv, rv'⟩ := r1.two
    exact ⟨v, v', rfl, k _ F1 ms1 H1 g1 S1 (((E.mono g1.mono g1.pre).set i rv).set j rv')⟩
  · rename_i c x μ1 e1
    cases ho
    exact ⟨F, ms, ρ, μ, S, E, _, e1, fun dx v F' ms' H' hx g1 S' e r => k dx v σ F' ms' H' hx g1 S' (E.mono g1.mono g1.pre) e r⟩
  · cases ho
/-- if -/
def sIf (f : EF) (g h : SF) : SF := fun ρ μ => match f ρ μ with
  | some (.ok r μ1) => match asB r with
    | some true => g ρ μ1
    | some false => h ρ μ1
    | none => none
  | some (.ex c x μ1) => some (.ex c x ρ μ1)
  | none => none
theorem ds_if {c : Expr} {a b : List Stmt} {f : EF} {g h : SF} {pos : Pos} (hc : DT G W X c f) (ha : DSs G W X a g) (hb : DSs G W X b h) : DS G W X (.If c a b pos) (sIf f g h) := PS.mono (ps_if hc ha hb) fun D σ H ⟨F, ms, ρ, μ, S, E, o, ho, k⟩ => by
  unfold sIf at ho
  show tT G W f σ H fun b H1 => if b = true then tS G W g D σ H1 else tS G W h D σ H1
  cases e1 : f ρ μ with
  | none => rw [e1] at ho; cases ho
  | some o1 =>
    rw [e1] at ho
    cases o1 with
    | ex c x μ1 => cases ho; exact run_test_ex S E e1 (fun dx v F' ms' H' hx g1 S' e r => k dx v σ F' ms' H' hx g1 S' (E.mono g1.mono g1.pre) e r)
    | ok r μ1 =>
      dsimp only at ho
      cases e2 : asB r with
      | none => rw [e2] at ho; cases ho
      | some b =>
        rw [e2] at ho
        refine run_test S E e1 e2 fun F' ms' H' g1 S' E' => ?_
        cases b with
        | true => rw [if_pos rfl]; exact ⟨F', ms', ρ, μ1, S', E', o, ho, KS.shift g1 k⟩
        | false => rw [if_neg Bool.false_ne_true]; exact ⟨F', ms', ρ, μ1, S', E', o, ho, KS.shift g1 k⟩
/-- what a loop leaves of the names: the frame's objects from the L-th on are gone, and these slots -/
def trim (L : Nat) (ρ : En) (drop : List Nat) : En := wipeE (ρ.map fun
  | some (.loc n) => if n < L then some (.loc n) else none
  | x => x) drop
theorem EnvOk.trim (E : EnvOk G F ms σ ρ) (L : Nat) (drop : List Nat) : EnvOk G F (ms.cut L) σ (trim L ρ drop) := by
  refine EnvOk.forget ⟨by rw [List.length_map]; exact E.len, fun i x h => ?_⟩ drop
  rw [List.getElem?_map] at h
  cases e : ρ[i]? with
  | none => rw [e] at h; cases h
  | some y =>
    rw [e] at h
    cases y with
    | none => simp at h
    | some z =>
      obtain ⟨v, h1, h2⟩ := E.get i z e
      cases z with
      | d d => simp at h; subst h; exact ⟨v, h1, h2⟩
      | obj n => simp at h; subst h; exact ⟨v, h1, h2⟩
      | err c y => simp at h; subst h; exact ⟨v, h1, h2⟩
      | loc n =>
        simp only [Option.map_some, Option.some.injEq] at h
        split at h
        · rename_i hn
          cases h
          obtain ⟨a, ha, ev⟩ := h2
          exact ⟨v, h1, a, by rw [Ad.cut_at hn]; exact ha, ev⟩
        · cases h
/-- for -/
def forLoop (t : Tg) (body : SF) (L : Nat) (drop : List Nat) : List KV → En → Sto → Option SO
  | [], ρ, μ => some (.nx ρ μ)
  | x :: xs, ρ, μ => match asg t (kvSV x) ρ with
    | none => none
    | some ρ1 => match body ρ1 μ with
      | some (.nx ρ2 μ2) => forLoop t body L drop xs (trim L ρ2 drop) (μ2.cut L)
      | some (.ct ρ2 μ2) => forLoop t body L drop xs (trim L ρ2 drop) (μ2.cut L)
      | some (.bk ρ2 μ2) => some (.nx ρ2 μ2)
      | o => o
def sFor (fi : IF) (t : Tg) (body : SF) (drop : List Nat) : SF := fun ρ μ => match fi ρ μ with
  | some (.ok xs μ1) => forLoop t body μ1.m.length drop xs (wipeE ρ drop) μ1
  | some (.ex c x μ1) => some (.ex c x ρ μ1)
  | none => none
theorem ds_for {tg iter : Expr} {body : List Stmt} {fi : IF} {t : Tg} {f : SF} (drop : List Nat) {pos : Pos} (hp : PassesOwn (model X.prog X.w) X.A X.env X.xe) (hc : X.calm = true) (hi : DI G W X tg iter fi) (hg : DG G X tg t) (hb : DSs G W X body f)
    (hs : ∀ x, foldedSetIterable iter X.env x = pure x := by intro _; rfl) : DS G W X (.For tg iter body [] pos) (sFor fi t f drop) := by
  obtain ⟨wi, pi, run⟩ := hi
  refine PS.mono (ps_for hp hc pi hg hb hs) fun D σ H ⟨F, ms, ρ, μ, S, E, o, ho, k⟩ => ?_
  unfold sFor at ho
  cases e1 : fi ρ μ with
  | none => rw [e1] at ho; cases ho
  | some o1 =>
    rw [e1] at ho
    refine run σ F ms ρ μ H _ S E o1 e1 ?_
    cases o1 with
    | ex c x μ1 => cases ho; exact fun dx v F' ms' H' hx g1 S' e r => k dx v σ F' ms' H' hx g1 S' (E.mono g1.mono g1.pre) e r
    | ok xs μ1 =>
      dsimp only at ho ⊢
      intro J F1 ms1 H1 g1 S1 Y
      generalize hL : μ1.m.length = L at ho
      refine ⟨fun i m σ2 H2 => m = xs.length - i ∧ i ≤ xs.length ∧ ∃ F2 ms2 ρ2 μ2, StOk G F2 ms2 μ2 H2 ∧ Go F1 ms1 μ1 H1 F2 ms2 μ2 H2 ∧ EnvOk G F2 ms2 σ2 ρ2 ∧ forLoop t f L drop (xs.drop i) ρ2 μ2 = some o,
        ⟨xs.length, rfl, Nat.zero_le _, F1, ms1, _, μ1, S1, Go.refl .., (E.mono g1.mono g1.pre).forget drop, ho⟩, ?_⟩
      rintro i m σ2 H2 ⟨rfl, hi, F2, ms2, ρ2, μ2, S2, g2, E2, hl⟩
      by_cases hlt : i < xs.length
      · refine .inr ?_
        obtain ⟨go, yl⟩ := (Y i F2 ms2 μ2 H2 g2 S2).2 xs[i] (List.getElem?_eq_getElem hlt)
        refine ⟨go, fun σ' H' => ∃ F3 ms3 ρ3 μ3, StOk G F3 ms3 μ3 H' ∧ Go F1 ms1 μ1 H1 F3 ms3 μ3 H' ∧ EnvOk G F3 ms3 σ' ρ3 ∧ forLoop t f L drop (xs.drop (i + 1)) ρ3 μ3 = some o,
          fun σ' H' h => ⟨xs.length - (i + 1), by omega, rfl, hlt, h⟩, fun x H3 hy => ?_⟩
        obtain ⟨F3, g3, S3, rx⟩ := yl x H3 hy
        have hx : xs.drop i = xs[i] :: xs.drop (i + 1) := List.drop_eq_getElem_cons hlt
        rw [hx] at hl
        unfold forLoop at hl
        cases e2 : asg t (kvSV xs[i]) ρ2 with
        | none => rw [e2] at hl; cases hl
        | some ρ3 =>
          rw [e2] at hl
          dsimp only at hl
          refine asg_ok S3.sub rx.sv (E2.mono g3.mono g3.pre) e2 fun σ3 E3 B => ?_
          have g13 := g2.trans g3
          have again : ∀ (σ' : L2.St) (F4 : Hp) (ms4 : Ad) (H4 : Hp) (ρ4 : En) (μ4 : Sto), Go F3 ms2 μ2 H3 F4 ms4 μ4 H4 → StOk G F4 ms4 μ4 H4 → EnvOk G F4 ms4 σ' ρ4 → forLoop t f L drop (xs.drop (i + 1)) (DF.trim L ρ4 drop) (μ4.cut L) = some o →
              ∃ F3 ms3 ρ3 μ3, StOk G F3 ms3 μ3 H4 ∧ Go F1 ms1 μ1 H1 F3 ms3 μ3 H4 ∧ EnvOk G F3 ms3 σ' ρ3 ∧ forLoop t f L drop (xs.drop (i + 1)) ρ3 μ3 = some o := fun σ' F4 ms4 H4 ρ4 μ4 g4 S4 E4 h =>
            ⟨F4, ms4.cut L, _, μ4.cut L, S4.cut L, (g13.trans g4).cut (by rw [← hL, S1.len.1]; exact Nat.le_refl _), E4.trim L drop, h⟩
          cases e3 : f ρ3 μ2 with
          | none => rw [e3] at hl; cases hl
          | some o3 =>
            rw [e3] at hl
            refine ⟨F3, ms2, ρ3, μ2, S3, E3, o3, e3, ?_⟩
            cases o3 with
            | nx ρ4 μ4 => exact fun σ' F4 ms4 H4 g4 S4 E4 => again σ' F4 ms4 H4 ρ4 μ4 g4 S4 E4 hl
            | ct ρ4 μ4 => exact fun σ' F4 ms4 H4 g4 S4 E4 => again σ' F4 ms4 H4 ρ4 μ4 g4 S4 E4 hl
            | bk ρ4 μ4 => cases hl; exact fun σ' F4 ms4 H4 g4 S4 E4 => k σ' F4 ms4 H4 (g1.trans (g13.trans g4)) S4 E4
            | rt r μ4 => cases hl; exact KS.shift (D := D) (o := .rt r μ4) (g1.trans g13) k
            | ex c y ρ4 μ4 => cases hl; exact KS.shift (D := D) (o := .ex c y ρ4 μ4) (g1.trans g13) k
      · have ei : i = xs.length := by omega
        subst ei
        rw [List.drop_length] at hl
        unfold forLoop at hl
        cases hl
        exact .inl ⟨(Y _ F2 ms2 μ2 H2 g2 S2).1 (Nat.le_refl _), k σ2 F2 ms2 H2 (g1.trans g2) S2 E2⟩
/-- while, so many turns at most -/
def whileLoop (c : EF) (body : SF) (L : Nat) (drop : List Nat) : Nat → En → Sto → Option SO
  | 0, _, _ => none
  | n + 1, ρ, μ => match c ρ μ with
    | some (.ok r μ1) => match asB r with
      | some true => match body ρ μ1 with
        | some (.nx ρ2 μ2) => whileLoop c body L drop n (trim L ρ2 drop) (μ2.cut L)
        | some (.ct ρ2 μ2) => whileLoop c body L drop n (trim L ρ2 drop) (μ2.cut L)
        | some (.bk ρ2 μ2) => some (.nx ρ2 μ2)
        | o => o
      | some false => some (.nx ρ μ1)
      | none => none
    | some (.ex k x μ1) => some (.ex k x ρ μ1)
    | none => none
def sWhile (n : Nat) (c : EF) (body : SF) (drop : List Nat) : SF := fun ρ μ => whileLoop c body μ.m.length drop n (wipeE ρ drop) μ
theorem ds_while {c : Expr} {body : List Stmt} {fc : EF} {f : SF} (drop : List Nat) (n : Nat) {pos : Pos} (hp : PassesOwn (model X.prog X.w) X.A X.env X.xe) (hc : DT G W X c fc) (hb : DSs G W X body f) : DS G W X (.While c body [] pos) (sWhile n fc f drop) :=
  PS.mono (ps_while hp hc hb) fun D σ H ⟨F, ms, ρ, μ, S, E, o, ho, k⟩ => by
  unfold sWhile at ho
  generalize hL : μ.m.length = L at ho
  refine ⟨fun m σ2 H2 => ∃ F2 ms2 ρ2 μ2, StOk G F2 ms2 μ2 H2 ∧ Go F ms μ H F2 ms2 μ2 H2 ∧ EnvOk G F2 ms2 σ2 ρ2 ∧ whileLoop fc f L drop m ρ2 μ2 = some o, ⟨n, F, ms, _, μ, S, Go.refl .., E.forget drop, ho⟩, ?_⟩
  rintro m σ2 H2 ⟨F2, ms2, ρ2, μ2, S2, g2, E2, hl⟩
  cases m with
  | zero => cases hl
  | succ m =>
    unfold whileLoop at hl
    cases e1 : fc ρ2 μ2 with
    | none => rw [e1] at hl; cases hl
    | some o1 =>
      rw [e1] at hl
      cases o1 with
      | ex c x μ1 => cases hl; exact run_test_ex S2 E2 e1 (fun dx v F' ms' H' hx g1 S' e r => k dx v σ2 F' ms' H' (g2.stay dx hx) (g2.trans g1) S' (E2.mono g1.mono g1.pre) e r)
      | ok r μ1 =>
        dsimp only at hl
        cases e2 : asB r with
        | none => rw [e2] at hl; cases hl
        | some b =>
          rw [e2] at hl
          refine run_test S2 E2 e1 e2 fun F3 ms3 H3 g3 S3 E3 => ?_
          have g13 := g2.trans g3
          cases b with
          | false => rw [if_neg Bool.false_ne_true]; cases hl; exact k σ2 F3 ms3 H3 g13 S3 E3
          | true =>
            rw [if_pos rfl]
            dsimp only at hl
            refine ⟨fun σ' H' => ∃ F3 ms3 ρ3 μ3, StOk G F3 ms3 μ3 H' ∧ Go F ms μ H F3 ms3 μ3 H' ∧ EnvOk G F3 ms3 σ' ρ3 ∧ whileLoop fc f L drop m ρ3 μ3 = some o, fun σ' H' h => ⟨m, Nat.lt_succ_self m, h⟩, ?_⟩
            cases e3 : f ρ2 μ1 with
            | none => rw [e3] at hl; cases hl
            | some o3 =>
              rw [e3] at hl
              refine ⟨F3, ms3, ρ2, μ1, S3, E3, o3, e3, ?_⟩
              have again : ∀ (σ' : L2.St) (F4 : Hp) (ms4 : Ad) (H4 : Hp) (ρ4 : En) (μ4 : Sto), Go F3 ms3 μ1 H3 F4 ms4 μ4 H4 → StOk G F4 ms4 μ4 H4 → EnvOk G F4 ms4 σ' ρ4 → whileLoop fc f L drop m (DF.trim L ρ4 drop) (μ4.cut L) = some o →
                  ∃ F3 ms3 ρ3 μ3, StOk G F3 ms3 μ3 H4 ∧ Go F ms μ H F3 ms3 μ3 H4 ∧ EnvOk G F3 ms3 σ' ρ3 ∧ whileLoop fc f L drop m ρ3 μ3 = some o := fun σ' F4 ms4 H4 ρ4 μ4 g4 S4 E4 h =>
                ⟨F4, ms4.cut L, _, μ4.cut L, S4.cut L, (g13.trans g4).cut (by rw [← hL, S.len.1]; exact Nat.le_refl _), E4.trim L drop, h⟩
              cases o3 with
              | nx ρ4 μ4 => exact fun σ' F4 ms4 H4 g4 S4 E4 => again σ' F4 ms4 H4 ρ4 μ4 g4 S4 E4 hl
              | ct ρ4 μ4 => exact fun σ' F4 ms4 H4 g4 S4 E4 => again σ' F4 ms4 H4 ρ4 μ4 g4 S4 E4 hl
              | bk ρ4 μ4 => cases hl; exact fun σ' F4 ms4 H4 g4 S4 E4 => k σ' F4 ms4 H4 (g13.trans g4) S4 E4
              | rt r μ4 => cases hl; exact KS.shift (D := D) (o := .rt r μ4) g13 k
              | ex c y ρ4 μ4 => cases hl; exact KS.shift (D := D) (o := .ex c y ρ4 μ4) g13 k
end
end DF
/-! DF10: stores to places, defs and their calls. -/
namespace DF
open PySem PySem.Spec PyProof.Rows L2

section
variable {G : Gm} {W : WX} {X : Cx} {F F' H H' F₀ H₀ : Hp} {ms ms' ms₀ : Ad} {μ μ' μ₀ : Sto} {σ : L2.St} {ρ : En} {Ow : Addr → Prop}

/-! ### o[i] = e -/
def cellSet (c : Cell) (i : Int) (x : D) : Option Cell := match c with
  | .lst ds => match ixN ds.length i with
    | some j => some (.lst (ds.set j x))
    | none => none
  | .olst xs => match ixN xs.length i with
    | some j => some (.olst (xs.set j (.d x)))
    | none => none
  | _ => none
def sSub (fe fo fi : EF) : SF := sThen fe fun r ρ μ => match toVal μ r with
  | some (x, μ1) => (sThen fo fun ro ρ μ2 => match plOf ro with
    | some p => (sThen fi fun ri ρ μ3 => match peek μ3 ri with
      | some (.int i) => match μ3.at p with
        | some c => match cellSet c i x with
          | some c' => some (.nx ρ (μ3.put p c'))
          | none => none
        | none => none
      | _ => none) ρ μ2
    | none => none) ρ μ1
  | none => none
theorem ds_sub {o i e : Expr} {fe fo fi : EF} {pos pos' : Pos} (he : DE G W X e fe) (ho : DE G W X o fo) (hi : DE G W X i fi)
    (ha : ∀ v, assign (.Subscript o i pos') X.env v = (do
      let ov ← holding [v] (eval o X.env)
      let iv ← holding [v, ov] (eval i X.env)
      standAt pos'
      holding [v, ov, iv] (setItem ov iv v)
      release [v, ov, iv] []) := by intro _; rfl)
    (hs : swapsWithSole [.Subscript o i pos'] e pos.line X.env = pure false := by rfl) (hw : swappedStores [.Subscript o i pos'] e X.env = pure none := by rfl)
    (h1 : (assignEach [.Subscript o i pos'] X.env).map (·.2) = [assign (.Subscript o i pos') X.env] := by rfl) : DS G W X (.Assign [.Subscript o i pos'] e pos) (sSub fe fo fi) :=
  PS.mono (ps_asg he (pg_sub ho hi set_list ha) hs hw h1) fun D σ H ⟨F, ms, ρ, μ, S, E, o, hq, k⟩ =>
  sThen_run (t := fun v H1 => gSub (tE G W fo) (tE G W fi) rSetL v σ H1 D.nx) S E hq k fun v r μ' F1 ms1 H1 g1 S1 E1 r1 e => by
    split at e
    · rename_i x μ1 ev
      obtain ⟨F2, S2, g2, m2, r2⟩ := toVal_ok S1 g1 r1 ev
      have E2 := E1.mono m2 (Pre.refl _)
      have k2 := KS.shift g2 k
      refine sThen_run (t := fun o H2 => tE G W fi σ H2 fun i H3 => rSetL o i v H3 fun H4 => D.nx σ H4) S2 E2 e k2 fun vo ro μ3 F3 ms3 H3 g3 S3 E3 r3 e => ?_
      split at e
      · rename_i p ep
        obtain ⟨a, ha, rfl⟩ := plOf_ok r3 ep
        have k3 := KS.shift g3 k2
        refine sThen_run (t := fun i H3 => rSetL (.ref a) i v H3 fun H4 => D.nx σ H4) S3 E3 e k3 fun vi ri μ4 F4 ms4 H4 g4 S4 E4 r4 e => ?_
        split at e
        · rename_i i ei
          cases (show vi = .int i from peek_top S4 r4 ei)
          split at e
          · rename_i c hc
            split at e
            · rename_i c' hc'
              cases e
              have ha4 := g4.pre _ _ ha
              have cr := S4.cell p a c ha4 hc
              have rx := (r2.mono g3.mono).mono g4.mono
              have k4 := KS.shift g4 k3
              cases c with
              | lst ds =>
                obtain ⟨vs, hH, q⟩ := cr
                unfold cellSet at hc'
                dsimp only at hc'
                split at hc'
                · rename_i j ej
                  cases hc'
                  refine ⟨a, vs, i, j, rfl, rfl, hH, by rw [q.length]; exact ej, ?_⟩
                  obtain ⟨S5, g5⟩ := S4.write (o := .lst (vs.set j v)) ha4 hc rfl rfl (show CR G F4 ms4 _ a (.lst (ds.set j x)) from ⟨_, upd_same, q.set rx j⟩)
                  exact k4 σ F4 ms4 _ g5 S5 E4
                · cases hc'
              | olst xs =>
                obtain ⟨vs, hH, q⟩ := cr
                unfold cellSet at hc'
                dsimp only at hc'
                split at hc'
                · rename_i j ej
                  cases hc'
                  refine ⟨a, vs, i, j, rfl, rfl, hH, by rw [q.length]; exact ej, ?_⟩
                  obtain ⟨S5, g5⟩ := S4.write (o := .lst (vs.set j v)) ha4 hc rfl rfl (show CR G F4 ms4 _ a (.olst (xs.set j (.d x))) from ⟨_, upd_same, q.set (b := .d x) rx j⟩)
                  exact k4 σ F4 ms4 _ g5 S5 E4
                · cases hc'
              | _ => cases hc'
            · cases e
          · cases e
        · cases e
      · cases e
    · cases e

/-! ### x op= e, of ints -/
def sAug (i : Nat) (f : Int → Int → Int) (g : EF) : SF := fun ρ μ => match ρ[i]? with
  | some (some (.d (.int a))) => (sThen g fun r ρ μ1 => match peek μ1 r with
    | some (.int b) => some (.nx (ρ.set i (some (.d (.int (f a b))))) μ1)
    | _ => none) ρ μ
  | _ => none
theorem ds_aug {i : Nat} {x : Str} {e : Expr} {g : EF} {op : Operator} {f : Int → Int → Int} {pos pos' : Pos} (hN : X.N.Nodup) (hi : X.N[i]? = some x) (hx : Loc X.env.scope x) (he : DE G W X e g) (ho : PIp X op (ipI f))
    (hf : X.fn x = true ∨ X.env.scope.names.lookup x = some .local := by first | exact .inl rfl | exact .inr rfl | assumption) : DS G W X (.AugAssign (.Name x pos') op e pos) (sAug i f g) := PS.mono (ps_aug hN hi hx he ho hf) fun D σ H ⟨F, ms, ρ, μ, S, E, o, hq, k⟩ => by
  unfold sAug at hq
  split at hq
  · rename_i a ea
    obtain ⟨v, hv, rv⟩ := E.get i _ ea
    cases (show Rp G F v (.int a) from rv)
    refine ⟨_, hv, sThen_run (t := fun y H1 => ipI f (.int a) y H1 fun z H2 => D.nx (σ.set i (some z)) H2) S E hq k fun v r μ' F1 ms1 H1 g1 S1 E1 r1 e => ?_⟩
    split at e
    · rename_i b eb
      cases e
      exact ⟨a, b, rfl, peek_top S1 r1 eb, k _ F1 ms1 H1 g1 S1 (E1.set i (x := .d _) (.int _))⟩
    · cases e
  · cases hq

/-! ### defs -/
inductive FO where
  | rt (r : Res) (μ : Sto)
  | ex (c : Nat) (x : D) (μ : Sto)
abbrev FF := List SV → Sto → Option FO
def KF (G : Gm) (F : Hp) (ms : Ad) (μ : Sto) (H : Hp) (Q : VK) (E : XK) : FO → Prop
  | .rt r μ' => ∀ (v : V) (F' : Hp) (ms' : Ad) (H' : Hp), Go F ms μ H F' ms' μ' H' → StOk G F' ms' μ' H' → RR G F' ms' μ' H' (Own ms μ H) v r → Q v H'
  | .ex c x μ' => ∀ (dx : Addr) (v : V) (F' : Hp) (ms' : Ad) (H' : Hp), H dx = none → Go F ms μ H F' ms' μ' H' → StOk G F' ms' μ' H' → H' dx = some (xval v) → Rp G F' v x → E (.ref (G.cls c)) (some dx) H'
/-- what a def promises: it does what f says -/
def spF (G : Gm) (np : Nat) (f : FF) : Sp := fun vs H Q E => vs.length = np ∧ ∃ (F : Hp) (ms : Ad) (xs : List SV) (μ : Sto), StOk G F ms μ H ∧ All2 (SVR G F ms) vs xs ∧ ∃ o, f xs μ = some o ∧ KF G F ms μ H Q E o
/-- what a def hands back of its own: it is the caller's from now on -/
def handR (L : Nat) (μ : Sto) : Res → Option Res
  | .loc n => if n < L then some (.loc n) else match μ.at (.m n) with
    | some (.frz x) => some (.d x)
    | some c => if live c = true then some (.tmp c) else none
    | none => none
  | r => some r
def callF (n : Nat) (g : SF) : FF := fun xs μ => match g (xs.map some ++ List.replicate (n - xs.length) none) μ with
  | some (.nx _ μ') => some (.rt (.d .non) (μ'.cut μ.m.length))
  | some (.rt r μ') => match handR μ.m.length μ' r with
    | some r => some (.rt r (μ'.cut μ.m.length))
    | none => none
  | some (.ex c x _ μ') => some (.ex c x (μ'.cut μ.m.length))
  | _ => none
theorem RR.cut {v : V} {r : Res} {L : Nat} (h : RR G F ms μ H Ow v r) (hr : ∀ n, r = .loc n → n < L) : RR G F (ms.cut L) (μ.cut L) H Ow v r := by
  cases r with
  | d x => exact h
  | loc n => obtain ⟨a, ha, e⟩ := h; exact ⟨a, by rw [Ad.cut_at (hr n rfl)]; exact ha, e⟩
  | obj n => exact h
  | tmp c =>
    obtain ⟨a, e, f, nl, l, cr, ow⟩ := h
    exact ⟨a, e, f, fun ⟨p, d, h1, h2, l'⟩ => nl ⟨p, d, Ad.at_cut h1, Sto.at_cut h2, l'⟩, l, cr.cut, ow⟩
theorem handR_ok {L : Nat} (S : StOk G F ms μ H) (g : Go F₀ ms₀ μ₀ H₀ F ms μ H) {v : V} {r r' : Res} (h : RR G F ms μ H (Own ms₀ μ₀ H₀) v r) (e : handR L μ r = some r') : RR G F (ms.cut L) (μ.cut L) H (Own ms₀ μ₀ H₀) v r' := by
  cases r with
  | d x => cases e; exact h
  | obj n => cases e; exact h
  | tmp c => cases e; exact h.cut fun n z => by cases z
  | loc n =>
    unfold handR at e
    dsimp only at e
    split at e
    · rename_i hn
      cases e
      exact h.cut fun m z => by cases z; exact hn
    · rename_i hn
      obtain ⟨a, ha, rfl⟩ := h
      split at e
      · rename_i x ex
        cases e
        exact S.cell _ _ _ ha ex
      · rename_i c hne ec
        split at e
        · rename_i lc
          cases e
          have hL : Live ms μ a := ⟨_, c, ha, ec, lc⟩
          refine ⟨a, rfl, S.off a hL, fun ⟨p, d, h1, h2, l'⟩ => ?_, lc, (S.cell _ a c ha ec).cut, g.lives a hL⟩
          have e1 := S.inj _ p a c d ha (Ad.at_cut h1) ec (Sto.at_cut h2) lc l'
          subst e1
          have h1 : (ms.m.take L)[n]? = some a := h1
          rw [List.getElem?_take] at h1
          split at h1
          · rename_i q; exact hn q
          · cases h1
        · cases e
      · cases e
theorem envOk_start {N : List Str} {vs : List V} {xs : List SV} (h : All2 (SVR G F ms) vs xs) : EnvOk G F ms (L2.start N vs) (xs.map some ++ List.replicate (N.length - xs.length) none) := by
  refine ⟨?_, fun i x hx => ?_⟩
  · unfold L2.start
    rw [List.length_append, List.length_append, List.length_map, List.length_map, List.length_replicate, List.length_replicate, h.length]
    exact Nat.le_refl _
  · by_cases hi : i < xs.length
    · rw [List.getElem?_append_left (by simpa using hi), List.getElem?_map] at hx
      cases e : xs[i]? with
      | none => rw [e] at hx; cases hx
      | some y =>
        rw [e] at hx
        have hx : y = x := by simpa using hx
        subst hx
        obtain ⟨v, hv, r⟩ := h.get e
        refine ⟨v, ?_, r⟩
        unfold L2.start
        rw [List.getElem?_append_left (by rw [List.length_map, h.length]; exact hi), List.getElem?_map, hv]
        rfl
    · rw [List.getElem?_append_right (by simpa using Nat.le_of_not_lt hi), List.getElem?_replicate] at hx
      split at hx <;> cases hx
/-- a def keeps its promise -/
theorem callF_run {n : Nat} {g : SF} {N : List Str} (hn : n = N.length) {np : Nat} {vs : List V} {Q : VK} {E : XK} (h : spF G np (callF n g) vs H Q E) : tS G (fun cls d _ H => E cls d H) g { nx := fun _ H' => Q .non H', rt := Q } (L2.start N vs) H := by
  subst hn
  obtain ⟨_, F, ms, xs, μ, S, r, o, ho, k⟩ := h
  unfold callF at ho
  cases e1 : g (xs.map some ++ List.replicate (N.length - xs.length) none) μ with
  | none => rw [e1] at ho; cases ho
  | some o1 =>
    rw [e1] at ho
    refine ⟨F, ms, _, μ, S, envOk_start r, o1, e1, ?_⟩
    have le : ms.m.length ≤ μ.m.length := Nat.le_of_eq S.len.1
    cases o1 with
    | nx ρ' μ' => cases ho; exact fun σ' F' ms' H' g1 S' E' => k .non F' (ms'.cut _) H' (g1.cut le) (S'.cut _) .non
    | bk _ _ => cases ho
    | ct _ _ => cases ho
    | rt r μ' =>
      dsimp only at ho
      split at ho
      · rename_i r' er
        cases ho
        exact fun v F' ms' H' g1 S' r1 => k v F' (ms'.cut _) H' (g1.cut le) (S'.cut _) (handR_ok S' g1 r1 er)
      · cases ho
    | ex c x ρ' μ' => cases ho; exact fun dx v σ' F' ms' H' hx g1 S' E' e r => k dx v F' (ms'.cut _) H' hx (g1.cut le) (S'.cut _) e r
theorem dfn {P : Program} {w : World} {K : PySem.W.Frag} {mg : Str → Option Value} {base : Heap} {x qual : Str} {st : Stmt} {f : Addr} {fd : FuncData} {N ps : List Str} {k n : Nat} {g : SF} (Fn : Fun K x qual st f fd) (Sc : FnScope N ps (defScope st)) (hn : n = N.length)
    (hb : ∀ (cdv : Value) (A : Around) (outer : List Env) (s : Shared) (H : Hp) (E : XK), Room k (A.deeper (envOfC qual (defScope st) s.heap.objs.size f cdv)) →
      DSs G (fun cls d _ H => E cls d H) (cxOf (L2.CX P w) P w K mg base N qual (defScope st) f cdv A outer s H E) (defBody st) g) : FnOk P w K mg base (L2.CX P w) (k + 1) f fd ps (spF G ps.length (callF n g)) :=
  Fn.okX Sc (fun _ _ _ _ h => h.1) fun cdv A outer s H vs Q E hr h => ⟨_, hb cdv A outer s H E hr, callF_run hn h⟩
/-- a def of one's own is called -/
def eFn (f : FF) (g : AF) : EF := fun ρ μ => match g ρ μ with
  | some (.ok xs μ1) => match f xs μ1 with
    | some (.rt r μ2) => some (.ok r μ2)
    | some (.ex c x μ2) => some (.ex c x μ2)
    | none => none
  | some (.ex c x μ1) => some (.ex c x μ1)
  | none => none
theorem KE.kf {Q : VK} {f : FO} (k : KE G W σ F ms μ H Q (match f with | .rt r μ2 => .ok r μ2 | .ex c x μ2 => .ex c x μ2)) : KF G F ms μ H Q (WE W σ) f := by
  cases f with
  | rt r μ2 => exact k
  | ex c x μ2 => exact k
theorem eFn_run {f : FF} {g : AF} {np : Nat} {o : ER} {Q : VK} (S : StOk G F ms μ H) (E : EnvOk G F ms σ ρ) (h : eFn f g ρ μ = some o) (k : KE G W σ F ms μ H Q o) (hn : ∀ xs μ', g ρ μ = some (.ok xs μ') → xs.length = np) :
    tA G W g σ H fun vs H1 => spF G np f vs H1 Q (WE W σ) := by
  unfold eFn at h
  cases e1 : g ρ μ with
  | none => rw [e1] at h; cases h
  | some o1 =>
    rw [e1] at h
    refine ⟨F, ms, ρ, μ, S, E, o1, e1, ?_⟩
    cases o1 with
    | ex c x μ1 => cases h; exact k
    | ok xs μ1 =>
      dsimp only at h
      intro vs F1 ms1 H1 g1 S1 r1
      cases e2 : f xs μ1 with
      | none => rw [e2] at h; cases h
      | some o2 =>
        rw [e2] at h
        refine ⟨by rw [r1.length]; exact hn xs μ1 e1, F1, ms1, xs, μ1, S1, r1, o2, e2, KE.kf ?_⟩
        have k := KE.shift g1 (o := o) k
        cases o2 with
        | rt r μ2 => cases h; exact k
        | ex c x μ2 => cases h; exact k
/-- how long an argument list is -/
def LenA (g : AF) (n : Nat) : Prop := ∀ ρ μ xs μ', g ρ μ = some (.ok xs μ') → xs.length = n
theorem lenA_nil : LenA aNil 0 := fun ρ μ xs μ' h => by cases h; rfl
theorem lenA_cons {m : Md} {f : EF} {g : AF} {n : Nat} (h : LenA g n) : LenA (aCons m f g) (n + 1) := fun ρ μ xs μ' e => by
  unfold aCons at e
  split at e
  · split at e
    · split at e
      · rename_i q; cases e; rw [List.length_cons, h _ _ _ _ q]
      · cases e
      · cases e
    · cases e
  · cases e
  · cases e
theorem de_call {k np : Nat} {f : Addr} {fd : FuncData} {ps : List Str} {ff : FF} {x : Str} {p pos : Pos} {e : Expr} {es : List Expr} {g : AF} (Fo : FnOk X.prog X.w X.K X.mg X.base (L2.CX X.prog X.w) k f fd ps (spF G np ff)) (hr : Room k X.A) (hm : X.mg x = some (.ref f)) (hk : PySem.W.keepIn X.K (.ref f) = true)
    (hb : Binds X.K fd ps []) (tk : Takes X W) (ha : DA G W X (e :: es) g) (hl : LenA g np) (hg : Gl X x := by rfl)
    (hdb : (x == ("__debug__" : Str)) = false := by decide) (he : starEach (e :: es) X.env = (false, eval e X.env) :: starEach es X.env := by rfl) (hpl : (backTo pos (starEach es X.env)).any (·.1) = false := by rfl) :
    DE G W X (.Call (.Name x p) (e :: es) [] pos) (eFn ff g) :=
  PE.mono (pe_callS Fo hr hg hm hk hb (E := WE W) (fun σ => passAt tk σ) ha hdb he hpl) fun σ H Q ⟨F, ms, ρ, μ, S, E, o, ho, k⟩ => eFn_run S E ho k fun xs μ' h => hl ρ μ xs μ' h
/-- a promise of more depth -/
theorem FnOk.le {P : Program} {w : World} {K : PySem.W.Frag} {mg : Str → Option Value} {base : Heap} {CX : CXT} {j k : Nat} {f : Addr} {fd : FuncData} {ps : List Str} {sp : Sp} (Fo : FnOk P w K mg base CX j f fd ps sp) (h : j ≤ k) : FnOk P w K mg base CX k f fd ps sp := Fo.mono h
end
end DF
/-! DF11: errors of the program's own: raised, caught, asked. Turned from the skeleton of an own error class: the class may be one that has its __init__ from an elder own class; the attribute is `value`. -/
namespace PySem
namespace ErrX
open PySem.W PySem.Calls PyProof.Rows PySem.HandSPX
def iA (p1 p2 : Pos) : Arguments := { posonlyargs := [], args := [{ arg := "self", annotation := none, pos := p1 }, { arg := "value", annotation := none, pos := p2 }], vararg := none, kwonlyargs := [], kw_defaults := [], kwarg := none, defaults := [] }
def iB (q1 q2 q3 q4 : Pos) : List Stmt := [.Assign [.Attribute (.Name "self" q1) "value" q2] (.Name "value" q3) q4]
def iS : Scope := { kind := .function, names := [(PySem.Str.ofString "self", .local), (PySem.Str.ofString "value", .local)], isGenerator := false, isCoroutine := false, more := [] }
/-- the one __init__ that all errors have -/
structure InitTxt (K : Frag) (fI : Addr) : Prop where
  tC : typeIn K (.ref fI) = some (.type "function")
  fn : ∃ (oc : Value) (od : Option Addr) (doc pm : Value) (an : Option Addr) (cdv ct : Value) (osl : Array (Option Value)) (p1 p2 q1 q2 q3 q4 : Pos),
    K.lookup fI = some ⟨oc, od, .func (fnOf "__init__" "WorthError.__init__" (iA p1 p2) (iB q1 q2 q3 q4) iS .none .none doc pm an cdv ct), osl⟩ ∧ codeIn K cdv "WorthError.__init__" = true
/-- what the written part says of an error's class, at C -/
structure ErrTxt (K : Frag) (mg : Str → Option Value) (x : Str) (C fI : Addr) : Prop where
  ini : InitTxt K fI
  gC : mg x = some (.ref C)
  cls : ∃ nm q N bs bm sn sub ab col dd k0 k1 k2 k3 k5, K.lookup C = some (excClassObj nm q C N bs bm true sn sub ab col dd k0 k1 k2 k3 k5 "ValueError.__new__") ∧ refsVE bm = true
  sa : findIn K (.ref C) "__setattr__" = some (some (.builtin "object.__setattr__"))
  ga : findIn K (.ref C) "__getattribute__" = some (some (.builtin "BaseException.__getattribute__"))
  gg : findIn K (.ref C) "__getattr__" = some none
  noN : findIn K (.ref C) "value" = some none
  iC : findIn K (.ref C) "__init__" = some (some (.ref fI))
  kC : keepIn K (.ref C) = true
  exC : subIn K (.ref C) (.type "BaseException") = some true
  tyC : typeIn K (.ref C) = some (.type "type")
  hdC : hasDictIn K C = true
theorem one_sz (v : Value) : [v].length ≤ sizeLine := by
  rw [sizeLine_eq]
  exact (by decide : 1 ≤ 16777216)
theorem ldE {M : Model} {s : Shared} {name : Str} {scope : Scope} {L a : Addr} {cd : Value} {m : Str → Option Value} {x : Str} {pos : Pos} {v : Value} {Q : Value → Shared → Prop} {A : Around} {E : Value → Shared → Prop} (hn : s.heap.Ns L m) (hv : m x = some v) (h : Q v s)
    (hk : scope.kind = .function := by rfl) (hl : (envOfC name scope L a cd).kindOf x = some .local := by rfl) (hd : (x == ("__debug__" : Str)) = false := by decide) :
    wpAny M A (eval (.Name x pos) (envOfC name scope L a cd)) Q E s := wpAny_Name (wpAny_loadName_local hk hl hn hv h) hd
/-- what __init__ leaves of a fresh error at x -/
structure Inited (h h' : Heap) (x C dx t1 : Addr) (v : Value) : Prop where
  keep : ∀ b o, b ≠ x → h.get? b = some o → h'.get? b = some o
  obj : h'.get? x = some { cls := .ref C, dict := some dx, data := .fields #[.ref t1, .none, .none, .none, .bool false, .none] }
  dbig : h.objs.size ≤ dx
  dne : dx ≠ x
  ns : h'.Ns1 dx (fun y => if y = "value" then some v else none)
/-- a made error -/
structure ErrMade (h h' : Heap) (e C d : Addr) (v : Value) : Prop where
  keep : ∀ b o, h.get? b = some o → h'.get? b = some o
  new : h.objs.size ≤ e
  obj : ∃ oe vs, h'.get? e = some oe ∧ oe.cls = .ref C ∧ oe.dict = some d ∧ oe.data = .fields vs ∧ vs[1]? = some .none
  dbig : h.objs.size ≤ d
  dne : d ≠ e
  ns : h'.Ns1 d (fun y => if y = "value" then some v else none)
section
variable {prog : Program} {w : World} {A : Around} {E : Value → Shared → Prop} {R : Result → Shared → Prop} {s : Shared} {K : Frag} {mg : Str → Option Value} {x₀ : Str} {C fI : Addr}
theorem err_init (T : ErrTxt K mg x₀ C fI) {x t0 : Addr} {v : Value} (X : K.In s.heap) (hlim : s.heap.NoLimit) (hx : s.heap.get? x = some (excO C t0)) (hnx : K.lookup x = none) (hroom : A.depth < recursionLimit)
    (hq : ∀ h' tk dx, Inited s.heap h' x C dx t0 v → R (.ok (.ret .none)) { s with heap := h', toks := tk }) :
    codeAny (model prog w) A (.call (.ref fI) ⟨[.ref x, v], []⟩) R s := by
  obtain ⟨oc, od, doc, pm, an, cdv, ct, osl, p1, p2, q1, q2, q3, q4, ho, hcd⟩ := T.ini.fn
  obtain ⟨nm, q, N, bs, bm, sn, sub, ab, col, dd, k0, k1, k2, k3, k5, hC, hbm⟩ := T.cls
  have hcl : clsIn K C = some { name := nm, bases := bs, mro := .ref C :: bm, ns := N, qualname := q, hasDict := true, slotNames := sn, subclasses := sub, abstract := ab, collection := col, hasDel := false } := by unfold clsIn; rw [hC] <;> rfl
  refine Att.call_fn (binds := [("self", .ref x), ("value", v)]) X hlim ho hcd hroom (BindsTo.of_eq (by first | rfl | with_unfolding_all rfl)) (by first | rfl | decide | with_unfolding_all rfl) (fun s₁ IC => ?_) rfl rfl rfl
  obtain ⟨h₁, tk₁, rfl⟩ := IC.toInCall.same
  have k : ∀ b o, s.heap.get? b = some o → h₁.get? b = some o := IC.toInCall.keep
  have hn := IC.toInCall.ns
  have hxL : s.heap.objs.size ≠ x := Nat.ne_of_gt (Heap.lt_size hx)
  have X₁ : K.In h₁ := X.keeps k
  have hx₁ := k _ _ hx
  show wpAny _ _ (execs _ _) _ _ _
  refine wpAny_execs_cons (plainObj_wpAny_Assign_Attribute ?_)
  refine ldE (v := v) hn (by first | rfl | with_unfolding_all rfl | kernel_rfl) (ldE (v := .ref x) hn (by first | rfl | with_unfolding_all rfl | kernel_rfl) ?_)
  refine set_plain X₁ (ox := excO C t0) (od := none) ⟨hx₁, rfl, rfl, trivial⟩ T.sa ?_
  refine exc_osa X₁ hx₁ hcl (show refsVE (.ref C :: bm) = true from hbm) rfl T.noN (fun h₃ tk₃ dx k₃ dn dne hx₃ hn₃ => ?_)
  show wpAny _ _ (execs _ _) _ _ _
  have z : s.heap.objs.size < h₁.objs.size := hn.lt
  exact wpAny_execs_nil (hq h₃ tk₃ dx ⟨fun b o hb e => k₃ b o hb (k b o e), hx₃, Nat.le_of_lt (Nat.lt_of_lt_of_le z dn), dne, hn₃⟩)
theorem err_made (T : ErrTxt K mg x₀ C fI) {v : Value} (X : K.In s.heap) (hlim : s.heap.NoLimit) (hroom : A.depth + 1 < recursionLimit)
    (hq : ∀ h' tk e d, ErrMade s.heap h' e C d v → R (.ok (.ret (.ref e))) { s with heap := h', toks := tk }) :
    codeAny (model prog w) A (.call (.ref C) ⟨[v], []⟩) R s := by
  obtain ⟨nm, q, N, bs, bm, sn, sub, ab, col, dd, k0, k1, k2, k3, k5, hC, hbm⟩ := T.cls
  obtain ⟨hp, g, dr, tk, os⟩ := s
  have k : ∀ b o, hp.get? b = some o → ((hp.push (kdv_tup [v])).push (excO C hp.objs.size)).get? b = some o := fun b o e => Heap.get?_push_of_some _ (Heap.get?_push_of_some _ e)
  have hget : ((hp.push (kdv_tup [v])).push (excO C hp.objs.size)).get? (hp.objs.size + 1) = some (excO C hp.objs.size) := by heap_get
  have hnx : K.lookup (hp.objs.size + 1) = none := by
    cases e : K.lookup (hp.objs.size + 1) with
    | none => rfl
    | some o =>
      have z : hp.get? (hp.objs.size + 1) = some o := X _ _ e
      exact absurd (Nat.lt_of_succ_lt (Heap.lt_size z)) (Nat.lt_irrefl _)
  refine call_own F.excBase_ValueError (fun X => refsVE_contains X bm hbm) (X _ _ hC) (looks_findIn X T.iC) (fun self => bind_fn X self T.ini.tC) (one_sz v) ?_
  refine err_init (s := ⟨(hp.push (kdv_tup [v])).push (excO C hp.objs.size), g, dr, tk, os⟩) T (X.keeps k) (hlim.keeps k) hget hnx ?_ fun h' tk' dx ⟨k', hx, dn, dne, hns⟩ => ?_
  · show A.depth + 1 < recursionLimit
    exact hroom
  · have old : ∀ b o, hp.get? b = some o → h'.get? b = some o := fun b o e => k' b o (Nat.ne_of_lt (Nat.lt_succ_of_lt (Heap.lt_size e))) (k b o e)
    have z : hp.objs.size + 1 + 1 ≤ dx := by
      first
        | (simpa only [Heap.size_push] using dn)
        | exact dn
        | (have q := dn; rw [Heap.size_push, Heap.size_push] at q; exact q)
    exact ⟨rfl, hq h' tk' (hp.objs.size + 1) dx ⟨old, Nat.le_succ _, ⟨_, _, hx, rfl, rfl, rfl, rfl⟩, Nat.le_trans (Nat.le_trans (Nat.le_succ _) (Nat.le_succ _)) z, dne, hns⟩⟩
end
end ErrX
end PySem
namespace DF
open PySem PySem.Spec PyProof.Rows L2
theorem relO_err {v : V} {v' : Value} (r : RelV v v') (f : Str) : RelO (List.lookup f [(("value" : Str), v)]) (if f = "value" then some v' else none) := by
  by_cases hw : f = "value"
  · subst hw
    rw [if_pos rfl]
    have q : List.lookup ("value" : Str) [(("value" : Str), v)] = some v := by simp [List.lookup]
    rw [q]
    exact r
  · rw [if_neg hw]
    have qw : (f == ("value" : Str)) = false := by simpa using hw
    have q2 : List.lookup f [(("value" : Str), v)] = none := by simp [List.lookup, qw]
    rw [q2]
    trivial
section
variable {G : Gm} {W : WX} {X : Cx} {F F' H H' F₀ H₀ : Hp} {ms ms' ms₀ : Ad} {μ μ' μ₀ : Sto} {σ : L2.St} {ρ : En} {Ow : Addr → Prop} {C fI : Addr} {x₀ : Str}
/-- an error is made -/
def tMkErr (C : Addr) (ta : TA) : L2.St → Hp → XK → Prop := fun σ H Q => ta σ H fun vs H1 => ∃ v, vs = [v] ∧ ∀ d, H1 d = none → Q (.ref C) (some d) (upd H1 d (xval v))
theorem pmk_err {a : Expr} {ta : TA} {p pos : Pos} {k : Nat} (T : PySem.ErrX.ErrTxt X.K X.mg x₀ C fI) (hr : Room k X.A) (ha : PA X [a] ta) (hg : Gl X x₀ := by rfl) (hdb : (x₀ == ("__debug__" : Str)) = false := by decide)
    (he : starEach (a :: []) X.env = (false, eval a X.env) :: starEach [] X.env := by rfl) (hpl : (backTo pos (starEach [] X.env)).any (·.1) = false := by rfl) :
    PMk X (.Call (.Name x₀ p) [a] [] pos) (tMkErr C ta) := by
  intro pins s σ H Q I h
  refine wpAny_Call_Name_kw (ld_glob I hg T.gC ?_ hdb)
  refine PySem.W.callWith_K (h₀ := X.base) I.ok.mod.kin T.kC (thn (ha.run pos pins s σ H _ I h) fun us s1 hh => ?_) he hpl
  obtain ⟨vs, H1, I1, r1, v, ev, q1⟩ := hh
  subst ev
  refine ⟨I1.kIn, ?_⟩
  cases r1 with
  | cons rv rn =>
    rename_i v' us'
    cases rn
    show wpAny _ _ (call (.ref C) [v']) _ _ _
    have hlim := I1.nolimit
    obtain ⟨hp, g, dr, tk, os⟩ := s1
    refine wpAny_call (PySem.ErrX.err_made T I1.kIn hlim (by have := hr.dp; omega) fun h' tk' e d M => ?_)
    show MkP X pins σ Q (.ref e) ⟨h', g, dr, tk', os⟩
    obtain ⟨oe, fv, hoe, hc, hd, hdat, h1⟩ := M.obj
    have hns := M.ns
    obtain ⟨G', g1, g2⟩ := restrict h' fun b => decide (b ≠ e)
    have gk : ∀ b, b ≠ e → G'.get? b = h'.get? b := fun b hb => g1 b (decide_eq_true hb)
    have ge : G'.get? e = none := g2 e (by simp)
    have old : ∀ b o, hp.get? b = some o → G'.get? b = some o := fun b o q => (gk b (Nat.ne_of_lt (Nat.lt_of_lt_of_le (Heap.lt_size q) M.new))).trans (M.keep b o q)
    have ob : ObjOk X.prog X.w (upd H1 d (xval v)) G' d (xval v) :=
      ⟨_, hns.at (fun o q => (gk d M.dne).trans q), fun f => relO_err rv f⟩
    have J : Inv X pins σ (upd H1 d (xval v)) ⟨G', g, dr, tk', os⟩ := I1.laid (t' := tk') old M.dbig ob
    refine ⟨e, oe, fv, ⟨G', g, dr, tk', os⟩, _, .ref C, some d, rfl, J, fun b o q => ?_, ge, hoe, ⟨hc, hd⟩, hdat, h1, ?_, rfl, I1.bare, raises_own T.exC T.tyC, q1 d (I1.hok.fresh M.dbig)⟩
    · by_cases hb : b = e
      · have q' : G'.get? b = some o := q
        rw [hb, ge] at q'; cases q'
      · exact (gk b hb).symm.trans q
    · rw [upd_ne (Ne.symm M.dne)]
      exact I1.hok.fresh M.new
/-- raise C(e) -/
def sRaise (c : Nat) (g : AF) : SF := fun ρ μ => match g ρ μ with
  | some (.ok [.d x] μ1) => some (.ex c x ρ μ1)
  | some (.ex c x μ1) => some (.ex c x ρ μ1)
  | _ => none
theorem ds_raise {a : Expr} {g : AF} {c : Nat} {p pos pos2 : Pos} {k : Nat} (hc : X.calm = true) (T : PySem.ErrX.ErrTxt X.K X.mg x₀ (G.cls c) fI) (hr : Room k X.A) (tk : Takes X W) (ha : DA G W X [a] g) (hg : Gl X x₀ := by rfl) (hdb : (x₀ == ("__debug__" : Str)) = false := by decide)
    (he : starEach (a :: []) X.env = (false, eval a X.env) :: starEach [] X.env := by rfl) (hpl : (backTo pos (starEach [] X.env)).any (·.1) = false := by rfl) :
    DS G W X (.Raise (some (.Call (.Name x₀ p) [a] [] pos)) none pos2) (sRaise c g) := PS.mono (ps_raise hc tk (pmk_err T hr ha hg hdb he hpl)) fun D σ H ⟨F, ms, ρ, μ, S, E, o, ho, k⟩ => by
  unfold sRaise at ho
  split at ho
  · rename_i x μ1 e1
    cases ho
    refine ⟨F, ms, ρ, μ, S, E, _, e1, fun vs F1 ms1 H1 g1 S1 r1 => ?_⟩
    obtain ⟨v, rfl, rv⟩ := r1.one
    refine ⟨v, rfl, fun d hd => ?_⟩
    obtain ⟨S2, g2⟩ := S1.lay (o := xval v) hd
    exact k d v σ F1 ms1 _ (g1.stay d hd) (g1.trans g2) S2 (E.mono g1.mono g1.pre) upd_same rv
  · rename_i c x μ1 e1
    cases ho
    exact ⟨F, ms, ρ, μ, S, E, _, e1, fun dx v F' ms' H' hx g1 S' e r => k dx v σ F' ms' H' hx g1 S' (E.mono g1.mono g1.pre) e r⟩
  · cases ho

theorem StOk.back {er : Addr → Nat → Addr → Prop} (S : StOk (G.with er) F ms μ H) : StOk G F ms μ H := StOk.with (G := G.with er) (er := G.er) S
theorem EnvOk.back {er : Addr → Nat → Addr → Prop} (S : EnvOk (G.with er) F ms σ ρ) : EnvOk G F ms σ (noErr ρ) := EnvOk.with (G := G.with er) (er := G.er) S
theorem RR.back {er : Addr → Nat → Addr → Prop} {v : V} {r : Res} (S : RR (G.with er) F ms μ H Ow v r) : RR G F ms μ H Ow v r := RR.with (G := G.with er) (er := G.er) S
/-! ### try .. except C as n -/
def sTry (i : Nat) (hm : Nat → Option Bool) (f g : SF) : SF := fun ρ μ => match f ρ μ with
  | some (.ex c x ρ1 μ1) => match hm c with
    | some true => match g ((noErr ρ1).set i (some (.err c x))) μ1 with
      | some (.nx ρ2 μ2) => some (.nx ((noErr ρ2).set i none) μ2)
      | some (.bk ρ2 μ2) => some (.bk ((noErr ρ2).set i none) μ2)
      | some (.ct ρ2 μ2) => some (.ct ((noErr ρ2).set i none) μ2)
      | some (.rt r μ2) => some (.rt r μ2)
      | _ => none
    | some false => some (.ex c x ρ1 μ1)
    | none => none
  | o => o
theorem EnvOk.setN (E : EnvOk G F ms σ ρ) (i : Nat) : EnvOk G F ms (σ.set i none) (ρ.set i none) := ⟨by rw [List.length_set, List.length_set]; exact E.len, fun j y h => by
  by_cases e : i = j
  · subst e
    rw [List.getElem?_set_self'] at h
    cases q : ρ[i]? with
    | none => rw [q] at h; cases h
    | some z => rw [q] at h; simp at h
  · rw [List.getElem?_set_ne e] at h
    obtain ⟨w, h1, h2⟩ := E.get j y h
    exact ⟨w, by rw [List.getElem?_set_ne e]; exact h1, h2⟩⟩
/-- an error's own dict is frozen -/
theorem StOk.freezeX (S : StOk G F ms μ H) {d : Addr} {v : V} (hd : H d = some (xval v)) : StOk G (upd F d (xval v)) ms μ H ∧ Le F (upd F d (xval v)) := by
  have m : Le F (upd F d (xval v)) := fun b u e => by
    by_cases hb : b = d
    · subst hb
      have := S.sub b u e
      rw [hd] at this
      rw [upd_same]; exact this
    · rw [upd_ne hb]; exact e
  refine ⟨⟨fun b u e => ?_, S.len, fun p a c h1 h2 => (S.cell p a c h1 h2).go m (Pre.refl _) fun _ z => z, S.inj, fun a h => ?_⟩, m⟩
  · by_cases hb : b = d
    · subst hb; rw [upd_same] at e; cases e; exact hd
    · rw [upd_ne hb] at e; exact S.sub b u e
  · have ha : a ≠ d := fun z => by
      subst z
      obtain ⟨p, c, h1, h2, l⟩ := h
      have cr := S.cell p a c h1 h2
      cases c with
      | lst ds => obtain ⟨vs, e, _⟩ := cr; rw [hd] at e; cases e
      | olst xs => obtain ⟨vs, e, _⟩ := cr; rw [hd] at e; cases e
      | dic ks ds => obtain ⟨vs, e, _⟩ := cr; rw [hd] at e; cases e
      | oins c fs xs => obtain ⟨dx, vs, e, _⟩ := cr; rw [hd] at e; cases e
      | dead => cases l
      | frz _ => cases l
      | ro _ => cases l
    rw [upd_ne ha]; exact S.off a h
theorem ds_try {x n : Str} {hc : Value} {i : Nat} {body suite : List Stmt} {b₀ : Stmt} {np pos pos' : Pos} {hm : Nat → Option Bool} {f g : SF} (hs : X.stack = X.env :: X.outer) (hf : X.env.frame = some X.env.locals) (hN : X.N.Nodup) (hi : X.N[i]? = some n) (hln : X.env.kindOf n = some .local) (hcl : Names X x hc) (tk : Takes X W)
    (hK : X.K = G.K) (hmm : ∀ c b, hm c = some b → PySem.W.exmOne G.K (.ref (G.cls c)) hc = some b)
    (hb : ∀ (W' : WX) (pn : List (Addr × Obj)) (xe : Value → Shared → Prop), Takes (X.tr pn xe) W' → PassesOwn (model X.prog X.w) X.A X.env xe → DSs G W' (X.tr pn xe) body f)
    (hsu : ∀ (a : Addr) (oe : Obj) (cls : Value) (d : Option Addr) (pn : List (Addr × Obj)), Zc cls d oe → (∃ vs, oe.data = .fields vs) →
      DSs (G.with fun a' c' d' => a' = a ∧ cls = .ref (G.cls c') ∧ d = some d') W0 (X.suite a ((a, oe) :: pn)) (b₀ :: suite) g) :
    DS G W X (.Try body [.ExceptHandler (some (.Name x np)) (some n) (b₀ :: suite) pos'] [] [] pos) (sTry i hm f g) := by
  refine PS.mono (ps_try_as hs hf hN hi hln hcl tk (tb := fun W' => tS G W' f) hb (ts := fun a cls d => tS (G.with fun a' c' d' => a' = a ∧ cls = .ref (G.cls c') ∧ d = some d') W0 g) hsu) fun D σ H ⟨F, ms, ρ, μ, S, E, o, ho, k⟩ => ?_
  unfold sTry at ho
  cases e1 : f ρ μ with
  | none => rw [e1] at ho; cases ho
  | some o1 =>
    rw [e1] at ho
    refine ⟨F, ms, ρ, μ, S, E, o1, e1, ?_⟩
    cases o1 with
    | nx _ _ => cases ho; exact k
    | bk _ _ => cases ho; exact k
    | ct _ _ => cases ho; exact k
    | rt _ _ => cases ho; exact k
    | ex c y ρ1 μ1 =>
      dsimp only at ho
      intro dx v σ1 F1 ms1 H1 hdx g1 S1 E1 hd r
      cases e2 : hm c with
      | none => rw [e2] at ho; cases ho
      | some b =>
        rw [e2] at ho
        have hx := hmm c b e2
        rw [← hK] at hx
        refine ⟨b, hx, fun hb1 a ha => ?_, fun hb0 => ?_⟩
        · subst hb1
          dsimp only at ho
          obtain ⟨S2, m2⟩ := S1.freezeX hd
          have g2 : Go F ms μ H (upd F1 dx (xval v)) ms1 μ1 H1 := ⟨g1.mono.trans m2, g1.pre, fun b o e nl => by
              obtain ⟨q1, q2⟩ := g1.keep b o e nl
              refine ⟨q1, fun z => ?_⟩
              have hb : b ≠ dx := fun w => by rw [w, hdx] at e; cases e
              rw [upd_ne hb]; exact q2 z, g1.lives, g1.stay⟩
          cases e3 : g ((noErr ρ1).set i (some (.err c y))) μ1 with
          | none => rw [e3] at ho; cases ho
          | some o3 =>
            rw [e3] at ho
            have E2 : EnvOk G (upd F1 dx (xval v)) ms1 σ1 ρ1 := E1.mono m2 (Pre.refl _)
            have E3 := (E2.with (er := fun a' c' d' => a' = a ∧ Value.ref (G.cls c) = .ref (G.cls c') ∧ some dx = some d')).set i (v := .ref a) (x := .err c y) ⟨a, dx, v, rfl, ⟨rfl, rfl, rfl⟩, upd_same, (r.mono m2).with⟩
            refine ⟨_, ms1, _, μ1, S2.with, E3, o3, e3, ?_⟩
            cases o3 with
            | nx ρ2 μ2 => cases ho; exact fun σ' F' ms' H' g3 S' E' => k _ F' ms' H' (g2.trans g3) S'.back (E'.back.setN i)
            | bk ρ2 μ2 => cases ho; exact fun σ' F' ms' H' g3 S' E' => k _ F' ms' H' (g2.trans g3) S'.back (E'.back.setN i)
            | ct ρ2 μ2 => cases ho; exact fun σ' F' ms' H' g3 S' E' => k _ F' ms' H' (g2.trans g3) S'.back (E'.back.setN i)
            | rt r2 μ2 => cases ho; exact fun v' F' ms' H' g3 S' r3 => k v' F' ms' H' (g2.trans g3) S'.back (r3.back.own fun a z => g2.owns z)
            | ex _ _ _ _ => cases ho
        · subst hb0
          cases ho
          exact k dx v σ1 F1 ms1 H1 hdx g1 S1 E1 hd r

/-! ### what a suite asks of its error -/
def eErrVal (i : Nat) : EF := fun ρ μ => match ρ[i]? with
  | some (some (.err _ x)) => okD μ x
  | _ => none
theorem de_errVal {i : Nat} {a : Addr} {oe : Obj} {cls : Value} {d : Option Addr} {pn : List (Addr × Obj)} {e : Expr} {pos : Pos} (hK : X.K = G.K) (he : PE (X.suite a ((a, oe) :: pn)) e (tVar i)) (hz : Zc cls d oe) (hf : ∃ vs, oe.data = .fields vs)
    (her : ∀ a' c' d', G.er a' c' d' → a' = a ∧ cls = .ref (G.cls c') ∧ d = some d')
    (Tx : ∀ c, cls = .ref (G.cls c) → PySem.W.findIn X.K (.ref (G.cls c)) "__getattribute__" = some (some (.builtin "BaseException.__getattribute__")) ∧ PySem.W.findIn X.K (.ref (G.cls c)) "__getattr__" = some none ∧
      PySem.W.findIn X.K (.ref (G.cls c)) "value" = some none ∧ PySem.W.subIn X.K (.ref (G.cls c)) (.type "BaseException") = some true ∧ PySem.W.hasDictIn X.K (G.cls c) = true)
    (hb : attributeBase e "value" X.env (eval e X.env) = eval e X.env := by rfl) : DE G W0 (X.suite a ((a, oe) :: pn)) (.Attribute e "value" pos) (eErrVal i) := by
  refine ⟨fun pins s σ H Q I q => ?_⟩
  obtain ⟨F, ms, ρ, μ, S, E, o, ho, k⟩ := q
  unfold eErrVal at ho
  split at ho
  · rename_i c x ex
    cases ho
    obtain ⟨v, hv, a', dd, w, rfl, hr, hF, rx⟩ := E.get i _ ex
    obtain ⟨rfl, rfl, rfl⟩ := her _ _ _ hr
    obtain ⟨ga, gg, noN, exC, hdC⟩ := Tx c rfl
    refine attr_of hb (thn (he.run pins s σ H (fun y H1 => y = .ref a' ∧ H1 = H) I ⟨_, hv, rfl, rfl⟩) fun u s1 hh => ?_)
    obtain ⟨y, H1, I1, ry, rfl, rfl⟩ := hh
    obtain rfl : u = Value.ref a' := ry
    obtain ⟨ha, _⟩ := I1.pin (a', oe) (List.mem_append_left _ List.mem_cons_self)
    obtain ⟨vs, hd⟩ := hf
    have hx : ObjOk X.prog X.w H1 s1.heap dd (xval w) := I1.hok dd _ (S.sub _ _ hF)
    obtain ⟨mA, hns, hr'⟩ := hx
    obtain ⟨od, ho, hl⟩ := lookIn_ns hns
    have l : List.lookup ("value" : Str) [(("value" : Str), w)] = some w := by simp [List.lookup]
    obtain ⟨u, hu, ru⟩ := RelO.some_of (v := w) (o := mA "value") (by rw [← l]; exact hr' "value")
    have J : PySem.W.InstAt s1.heap a' oe (G.cls c) (some od) := ⟨ha, hz.1, by unfold PySem.W.notCls; rw [hd] <;> rfl, by rw [hz.2]; exact ho⟩
    exact HandSPX.exc_get I1.kIn J ga gg exC (PySem.W.findObj_own hdC noN rfl (by rw [hl, hu])) (handed_of ru) ⟨w, H1, I1.tok _, ru, k.data S rx⟩
  · cases ho
/-- isinstance(e, C), isinstance(e, (C, ..)) of the held error -/
def eIsErr (i : Nat) (h : Nat → Option Bool) : EF := fun ρ μ => match ρ[i]? with
  | some (some (.err c _)) => match h c with
    | some b => okD μ (.bl b)
    | none => none
  | _ => none
/-- what is known of an error's class, for isinstance -/
structure IsTxt (K : PySem.W.Frag) (C : Addr) : Prop where
  cl : (PySem.W.clsIn K C).isSome = true
  ga : PySem.W.findIn K (.ref C) "__getattribute__" = some (some (.builtin "BaseException.__getattribute__"))
  gg : PySem.W.findIn K (.ref C) "__getattr__" = some none
  ex : PySem.W.subIn K (.ref C) (.type "BaseException") = some true
  ca : PySem.W.findIn K (.ref C) "__class__" = some (some (.builtin "object.__class__"))
  ge : PySem.W.specialIn K (.builtin "object.__class__") "__get__" = some (some (.builtin "getset_descriptor.__get__"))
  tk : PySem.W.takesIn K (.builtin "object.__class__") = some true
  mo : PySem.W.mroIn K C (.type "object") = some true
  no : PySem.W.findIn K (.ref C) "value" = some none
  hd : PySem.W.hasDictIn K C = true
def rIsErr (K : PySem.W.Frag) (a : Addr) (cls : Value) (d : Option Addr) : List V → Hp → VK → Prop := fun xs H Q => ∃ (C : Addr) (b : Bool) (dd : Addr) (w : V), cls = .ref C ∧ IsTxt K C ∧ d = some dd ∧ H dd = some (xval w) ∧
  ((∃ c u, xs = [.ref a, c] ∧ RelV c u ∧ (∀ u', RelV c u' → u' = u) ∧ PySem.W.kitOne K (.ref C) u = some b ∧ Q (.bl b) H) ∨
    ∃ (tp : Addr) (cs : List V) (us : List Value), xs = [.ref a, .ref tp] ∧ H tp = some (.tup cs) ∧ Vals cs us ∧ (∀ us', Vals cs us' → us' = us) ∧ PySem.W.kitAny K (.ref C) us = some b ∧ Q (.bl b) H)
theorem call_isErr {a : Addr} {oe : Obj} {cls : Value} {d : Option Addr} {pn : List (Addr × Obj)} (hz : Zc cls d oe) (hf : ∃ vs, oe.data = .fields vs) : CallR (X.suite a ((a, oe) :: pn)) (.builtin "isinstance") (rIsErr X.K a cls d) := by
  intro pins s σ H xs us Q I r h
  obtain ⟨C, b, dd, w, rfl, T, rfl, hH, h⟩ := h
  obtain ⟨ha, _⟩ := I.pin (a, oe) (List.mem_append_left _ List.mem_cons_self)
  obtain ⟨vs, hd⟩ := hf
  have hcls : oe.cls = .ref C := hz.1
  have hdict : oe.dict = some dd := hz.2
  have notC : PySem.W.notCls oe := by unfold PySem.W.notCls; rw [hd] <;> rfl
  have J : ∃ od, PySem.W.InstAt s.heap a oe C od := by
    obtain ⟨mA, hns, _⟩ := (show ObjOk X.prog X.w H s.heap dd (xval w) from I.hok dd _ hH)
    obtain ⟨od, ho, _⟩ := lookIn_ns hns
    exact ⟨some od, ha, hcls, notC, by rw [hdict]; exact ho⟩
  obtain ⟨od, J⟩ := J
  have Z := PySem.W.kitx_exc (x := a) (ox := oe) (od := od) T.cl T.ga T.gg T.ex T.ca T.ge T.tk T.mo
  rcases h with ⟨c, u, rfl, rc, uc, e, q⟩ | ⟨tp, cs, ws, rfl, hT, rw', uw, e, q⟩
  · obtain ⟨u1, u2, rfl, r1, r2⟩ := vals2 r
    cases (show u1 = Value.ref a from r1)
    cases uc u2 r2
    exact PySem.W.kia_one Z I.kIn J e (fun z => nomatch z) fun tk => ⟨.bl b, H, I.tok tk, rfl, q⟩
  · obtain ⟨u1, u2, rfl, r1, r2⟩ := vals2 r
    cases (show u1 = Value.ref a from r1)
    cases (show u2 = Value.ref tp from r2)
    obtain ⟨_, its, rv, o, h1, h2, n, h3⟩ := (show ObjOk X.prog X.w H s.heap tp (.tup cs) from I.hok tp _ hT)
    have ei : its = ws := uw its rv
    subst ei
    have h4 : s.heap.get? tp = some ⟨.type "tuple", o.dict, .seq its.toArray n, o.slots⟩ := by
      rw [h1]
      obtain ⟨oc, od', odt, osl⟩ := o
      simp only at h2 h3
      rw [h2, h3]
    exact PySem.W.kia_tup Z I.kIn J h4 e (fun z => nomatch z) fun tk => ⟨.bl b, H, I.tok tk, rfl, q⟩
theorem Vals.refs_eq : ∀ {cs : List Addr} {us : List Value}, Vals (cs.map V.ref) us → us = cs.map Value.ref
  | [], _, h => by cases h; rfl
  | c :: cs, _, h => by
    cases h with
    | cons r t => cases r; rw [Vals.refs_eq t]; rfl
theorem Vals.refs_of : ∀ {cs : List Addr}, Vals (cs.map V.ref) (cs.map Value.ref)
  | [] => .nil
  | c :: cs => .cons rfl Vals.refs_of
theorem de_isErr1 {i : Nat} {a C' : Addr} {oe : Obj} {cls : Value} {d : Option Addr} {pn : List (Addr × Obj)} {e t : Expr} {h : Nat → Option Bool} {pos p : Pos} (hK : X.K = G.K) (hm : X.mg "isinstance" = none) (he : PE (X.suite a ((a, oe) :: pn)) e (tVar i)) (ht : PE (X.suite a ((a, oe) :: pn)) t (tC (.ref C')))
    (hz : Zc cls d oe) (hf : ∃ vs, oe.data = .fields vs) (her : ∀ a' c' d', G.er a' c' d' → a' = a ∧ cls = .ref (G.cls c') ∧ d = some d') (Tx : ∀ c b, h c = some b → IsTxt G.K (G.cls c) ∧ PySem.W.kitOne G.K (.ref (G.cls c)) (.ref C') = some b)
    (hg : Gl (X.suite a ((a, oe) :: pn)) "isinstance" := by rfl) (hst1 : starEach [e, t] X.env = (false, eval e X.env) :: starEach [t] X.env := by rfl) (hst2 : starEach [t] X.env = (false, eval t X.env) :: starEach [] X.env := by rfl) (hpl : (backTo pos (starEach [t] X.env)).any (·.1) = false := by rfl) :
    DE G W0 (X.suite a ((a, oe) :: pn)) (.Call (.Name "isinstance" p) [e, t] [] pos) (eIsErr i h) := by
  refine PE.mono (pe_callB (call_isErr hz hf) hg hm PyProof.Rows.boot_isinstance (pa_cons he (pa_cons ht pa_nil hst2) hst1) (by decide) (by decide) hst1 hpl) fun σ H Q ⟨F, ms, ρ, μ, S, E, o, ho, k⟩ => ?_
  unfold eIsErr at ho
  split at ho
  · rename_i c x ex
    split at ho
    · rename_i b eb
      cases ho
      obtain ⟨v, hv, a', dd, w, rfl, hr, hF, rx⟩ := E.get i _ ex
      obtain ⟨rfl, rfl, rfl⟩ := her _ _ _ hr
      obtain ⟨T, kt⟩ := Tx c b eb
      rw [← hK] at T kt
      exact ⟨_, hv, G.cls c, b, dd, w, rfl, T, rfl, S.sub _ _ hF, .inl ⟨.ref C', .ref C', rfl, rfl, fun _ z => z, kt, k.data S (.bl b)⟩⟩
    · cases ho
  · cases ho
theorem de_isErrT {i : Nat} {a : Addr} {cs : List Addr} {oe : Obj} {cls : Value} {d : Option Addr} {pn : List (Addr × Obj)} {e t : Expr} {tt : TE} {h : Nat → Option Bool} {pos p : Pos} (hK : X.K = G.K) (hm : X.mg "isinstance" = none) (he : PE (X.suite a ((a, oe) :: pn)) e (tVar i)) (ht : PE (X.suite a ((a, oe) :: pn)) t tt)
    (htt : ∀ σ H Q, (∀ p, H p = none → Q (.ref p) (upd H p (.tup (cs.map V.ref)))) → tt σ H Q)
    (hz : Zc cls d oe) (hf : ∃ vs, oe.data = .fields vs) (her : ∀ a' c' d', G.er a' c' d' → a' = a ∧ cls = .ref (G.cls c') ∧ d = some d') (Tx : ∀ c b, h c = some b → IsTxt G.K (G.cls c) ∧ PySem.W.kitAny G.K (.ref (G.cls c)) (cs.map Value.ref) = some b)
    (hg : Gl (X.suite a ((a, oe) :: pn)) "isinstance" := by rfl) (hst1 : starEach [e, t] X.env = (false, eval e X.env) :: starEach [t] X.env := by rfl) (hst2 : starEach [t] X.env = (false, eval t X.env) :: starEach [] X.env := by rfl) (hpl : (backTo pos (starEach [t] X.env)).any (·.1) = false := by rfl) :
    DE G W0 (X.suite a ((a, oe) :: pn)) (.Call (.Name "isinstance" p) [e, t] [] pos) (eIsErr i h) := by
  refine PE.mono (pe_callB (call_isErr hz hf) hg hm PyProof.Rows.boot_isinstance (pa_cons he (pa_cons ht pa_nil hst2) hst1) (by decide) (by decide) hst1 hpl) fun σ H Q ⟨F, ms, ρ, μ, S, E, o, ho, k⟩ => ?_
  unfold eIsErr at ho
  split at ho
  · rename_i c x ex
    split at ho
    · rename_i b eb
      cases ho
      obtain ⟨v, hv, a', dd, w, rfl, hr, hF, rx⟩ := E.get i _ ex
      obtain ⟨rfl, rfl, rfl⟩ := her _ _ _ hr
      obtain ⟨T, kt⟩ := Tx c b eb
      rw [← hK] at T kt
      refine ⟨_, hv, htt σ H _ fun p hp => ?_⟩
      obtain ⟨S2, g2⟩ := S.lay (o := .tup (cs.map V.ref)) hp
      exact ⟨G.cls c, b, dd, w, rfl, T, rfl, S2.sub _ _ hF, .inr ⟨p, _, _, rfl, upd_same, Vals.refs_of, fun _ z => Vals.refs_eq z, kt, (KE.shift g2 k).data S2 (.bl b)⟩⟩
    · cases ho
  · cases ho
end
end DF
/-! DF12: the set of a list of texts, and how many it holds. -/
namespace DF
open PySem PySem.Spec PyProof.Rows L2
/-- one more text, if it is new -/
def stp (acc : List Str) (x : Str) : List Str := if acc.any (· == x) then acc else acc ++ [x]
/-- the first of equal ones each -/
def uniq (xs : List Str) : List Str := xs.foldl stp []
theorem uniq_step {xs : List Str} {i : Nat} {x : Str} (h : xs[i]? = some x) : uniq (xs.take (i + 1)) = stp (uniq (xs.take i)) x := by
  unfold uniq
  rw [List.take_add_one, h, List.foldl_append]
  rfl
theorem stp_len (acc : List Str) (x : Str) : (stp acc x).length = if acc.any (· == x) = true then acc.length else acc.length + 1 := by
  unfold stp
  split
  · rfl
  · rw [List.length_append]; rfl
theorem stp_any (acc : List Str) (x k : Str) : (stp acc x).any (· == k) = (acc.any (· == k) || decide (k = x)) := by
  unfold stp
  split
  · rename_i h
    by_cases e : k = x
    · subst e; rw [h]; rfl
    · rw [decide_eq_false e, Bool.or_false]
  · rw [List.any_append]
    congr 1
    rw [List.any_cons, List.any_nil, Bool.or_false]
    by_cases e : k = x
    · rw [decide_eq_true e, e]; exact beq_self_eq_true x
    · rw [decide_eq_false e]; exact beq_eq_false_iff_ne.mpr fun z => e z.symm
theorem uniq_le (xs : List Str) : (uniq xs).length ≤ xs.length := by
  have : ∀ (ys acc : List Str), (ys.foldl stp acc).length ≤ acc.length + ys.length := by
    intro ys
    induction ys with
    | nil => intro acc; exact Nat.le_refl _
    | cons y r ih =>
      intro acc
      have h1 := ih (stp acc y)
      have h2 := stp_len acc y
      rw [List.foldl_cons, List.length_cons]
      split at h2 <;> omega
  have := this xs []
  simpa [uniq] using this
section
variable {P : Program} {w : World} {A : Around} {T I : Addr} {fp wr : List Addr} {G : Array GenState → Array GenState → Prop} {n : Nat} {V : Nat → Value → Prop} {St : Nat → Shared → Prop} {R : Result → Shared → Prop}
/-- the set at T holds the first i of xs -/
abbrev Holds (P : Program) (w : World) (h : Heap) (T : Addr) (xs : List Str) (i : Nat) : Prop := h.SetOf (PySem.strKind P w) T (fun k => (uniq (xs.take i)).any (· == k)) (uniq (xs.take i)).length
theorem Holds.keep {h h' : Heap} {xs : List Str} {i : Nat} (a : Holds P w h T xs i) (k : ∀ o, h.get? T = some o → h'.get? T = some o) : Holds P w h' T xs i := by
  obtain ⟨o, es, ep, tb, h1, h2⟩ := a
  exact ⟨o, es, ep, tb, k o h1, h2⟩
theorem uniq_loop (Wk : WalksS P w A.in1 I fp wr G n V St) (nT : T ∉ fp) {xs : List Str} (en : xs.length = n) (few : n + 1 < scanBound) (tells : ∀ i v, V i v → ∃ x t, xs[i]? = some x ∧ v = .str x t) :
    ∀ (d i : Nat), i + d = n → ∀ s : Shared, St i s → Holds P w s.heap T xs i → (∀ s', Moved (T :: wr) G s s' → Holds P w s'.heap T xs n → R (.ok (.ret .none)) s') →
      codeAny (model P w) A (.builtin "set.update.loop" ⟨[.ref T, .ref I], []⟩) R s := by
  have nw : T ∉ wr := fun z => nT (Wk.sub T z)
  have up : ∀ b ∈ wr, b ∈ T :: wr := fun b z => List.mem_cons_of_mem T z
  intro d
  induction d with
  | zero =>
    intro i e s st hs out
    cases (show i = n from e)
    apply codeAny_builtin PyProof.Rows.F.entry_set_update_loop
    rw [Around.under_plainId PyProof.Rows.F.plain_set_update_loop _]
    show wpAny (model P w) A.in1 (pyNext (Value.ref I) >>= _) _ _ s
    exact wpAny_bind (Wk.done s _ _ st fun s' mv => wpAny_pure (out s' (mv.mono up) (hs.keep fun o q => mv.heap T o nw q)))
  | succ d ih =>
    intro i e s st hs out
    have lt : i < n := by omega
    apply codeAny_builtin PyProof.Rows.F.entry_set_update_loop
    rw [Around.under_plainId PyProof.Rows.F.plain_set_update_loop _]
    show wpAny (model P w) A.in1 (pyNext (Value.ref I) >>= _) _ _ s
    refine wpAny_bind (Wk.item i s _ _ lt st fun v s1 pv st1 mv => ?_)
    obtain ⟨x, t, hx, rfl⟩ := tells i v pv
    have hs1 : Holds P w s1.heap T xs i := hs.keep fun o q => mv.heap T o nw q
    have le : (uniq (xs.take i)).length ≤ i := Nat.le_trans (uniq_le _) (by rw [List.length_take]; omega)
    refine wpAny_bind (wpAny_holding (m := setAdd T (.str x t)) ?_)
    unfold setAdd
    refine wpAny_holding (wpAny_bind ((PySem.strKind P w).pyHash (k := x) (strKind_is _ _ _ _) ?_))
    refine wpAny_setAddHashed_of (knd := PySem.strKind P w) (s := ⟨s1.heap, s1.gens, s1.drawn, s1.toks + 1, s1.os⟩) (strKind_is _ _ _ _) rfl hs1 (by omega) fun h2 same hs2 => ?_
    have hs3 : Holds P w h2 T xs (i + 1) := PyProof.Rows.SetOf_congr hs2 (fun k => by rw [uniq_step hx, stp_any]) (by rw [uniq_step hx, stp_len])
    have off : ∀ b, b ∈ fp → b ≠ T := fun b z q => nT (q ▸ z)
    refine wpAny_pure ⟨plainId_quiet PyProof.Rows.F.plain_set_update_loop _, ih (i + 1) (by omega) _ (Wk.frame _ s1 h2 _ st1 (Nat.le_add_right _ 1) fun b z o q => by rw [same.2 b (off b z)]; exact q) hs3 fun s3 mv3 hs4 => ?_⟩
    have m13 : Moved (T :: wr) G s ⟨h2, s1.gens, s1.drawn, s1.toks + 1, s1.os⟩ := (mv.mono up).then_heap (Nat.le_add_right _ 1) fun b o z q => by
      rw [same.2 b fun y => z (by rw [y]; exact List.mem_cons_self)]; exact q
    exact out s3 (Moved.trans Wk.gtrans m13 mv3) hs4
end
section
variable {P : Program} {w : World} {A : Around} {E : Value → Shared → Prop} {s : Shared} {l : Addr} {its : Array Value} {xs : List Str}
theorem strs_place : ∀ {us : List Value} {ys : List Str}, StrsAre us ys → ∀ (i : Nat) (v : Value), us[i]? = some v → ∃ x t, ys[i]? = some x ∧ v = .str x t
  | _, _, .nil, i, v, h => by simp at h
  | _, _, .cons x t _, 0, v, h => ⟨x, t, rfl, by simpa using h.symm⟩
  | _, _, .cons _ _ r, i + 1, v, h => by
    obtain ⟨x, t, h1, h2⟩ := strs_place r i v (by simpa using h)
    exact ⟨x, t, by simpa using h1, h2⟩
/-- a set that was just made -/
def bare (led : Bool) : Obj := { cls := .type "set", dict := none, data := .set #[] 0 (.fresh 0 0 led) }
set_option maxHeartbeats 3200000 in
/-- set(xs) -/
theorem uniq_call {Q : Value → Shared → Prop} (cold : A.handled = none) (hl : s.heap.IsList l its) (hs : StrsAre its.toList xs) (few : xs.length + 1 < scanBound)
    (q : ∀ h' tk, Holds P w h' s.heap.objs.size xs xs.length → (∀ b o, s.heap.get? b = some o → h'.get? b = some o) → Q (.ref s.heap.objs.size) { s with heap := h', toks := tk }) :
    wpAny (model P w) A (call (.type "set") [.ref l]) Q E s := by
  obtain ⟨_, _, order⟩ := PySem.F.called_set.mro
  have k1 := PySem.F.called_set.made
  have k2 := PySem.F.called_set.sub
  have k3 := PySem.F.called_set.notType
  have k4 := PySem.F.called_set.canCreate
  have k5 := PySem.F.typeCall_set_1 (.ref l)
  apply wpAny_call
  apply codeAny_of_tree
  show wpAny _ _ (callAny (.type "set") _) _ _ _
  refine wpAny_pure ⟨Code.quiet_builtin _ (by decide +kernel), codeAny_builtin PySem.F.entry_type_call ?_⟩
  rw [Around.under_plain (weight_type_call_type "set" [.ref l] []) rfl]
  repeat (any_goals (first | assumption | wp_step))
  refine codeAny_mono (code_set_new_1 (.ref l) (E := E) (Q₁ := fun y s1 => ∃ led : Bool, y = .ref s.heap.objs.size ∧ s1 = { s with heap := s.heap.push (bare led) }) fun led => ⟨led, rfl, rfl⟩) fun r s1 hr => ?_
  cases r with
  | error e => exact hr
  | ok fl =>
    cases fl with
    | next => exact hr.elim
    | brk => exact hr.elim
    | cont => exact hr.elim
    | ret y =>
      obtain ⟨led, rfl, rfl⟩ := hr
      have g0 : (s.heap.push (bare led)).get? s.heap.objs.size = some (bare led) := Heap.get?_push_size _ rfl
      have ty : Shared.TypeIs { s with heap := s.heap.push (bare led) } (.ref s.heap.objs.size) "set" := ⟨_, g0, rfl⟩
      have k6 := PySem.F.called_set.init.lookup
      have k7 := PySem.F.called_set.init.bind (.ref s.heap.objs.size)
      repeat (any_goals (first | assumption | wp_step))
      refine codeAny_mono (codeAny_call_builtin (R := wants (fun r s2 => r = .none ∧ ∃ h' tk, s2 = { s with heap := h', toks := tk } ∧ Holds P w h' s.heap.objs.size xs xs.length ∧ ∀ b o, s.heap.get? b = some o → h'.get? b = some o) E)
        PySem.F.called_set.init.plain PySem.F.entry_set_init (check_set_init_1 ty ?_)) fun r2 s2 hr2 => ?_
      · obtain ⟨⟨lc, ld, lt, ls⟩, at_, cl, nl, dl⟩ := hl
        simp only at cl dl
        cases cl
        cases dl
        have at2 : (s.heap.push (bare led)).get? l = some ⟨.type "list", ld, .seq its nl, ls⟩ := Heap.get?_push_of_some _ at_
        have z1 := PySem.F.sub_list_set
        have z2 := PySem.F.sub_list_frozenset
        have z3 : (Value.type "list" == Value.type "dict") = false := by decide
        have isl : (s.heap.push (bare led)).IsList l its := ⟨_, at2, rfl, nl, rfl⟩
        unfold Builtin.«set.__init__» noKeywords Builtin.Frozenset.updateFrom
        generalize ei : pyIter = it
        wp_walk
        subst ei
        refine wpAny_pyIter_list isl (wpAny_bind (wpAny_runValue ?_))
        have bl : l < s.heap.objs.size := Heap.lt_size at_
        have sz : (s.heap.push (bare led)).objs.size = s.heap.objs.size + 1 := Heap.size_push ..
        have bl2 : s.heap.objs.size < (s.heap.push (bare led)).objs.size := by rw [sz]; exact Nat.lt_succ_self _
        have cold3 : A.in1.in1.in1.handled = none := by simp [cold]
        have out : s.heap.objs.size ∉ [(s.heap.push (bare led)).objs.size, l] := by
          intro z
          rcases List.mem_cons.mp z with z | z
          · exact absurd z (Nat.ne_of_lt bl2)
          · exact absurd (List.mem_singleton.mp z) (Nat.ne_of_gt bl)
        have len : xs.length = its.size := by rw [← StrsAre.len_eq hs, Array.length_toList]
        refine uniq_loop ((Walks.list cold3 _ l (Nat.ne_of_lt (Nat.lt_trans bl bl2)) its).toS) (T := s.heap.objs.size) out (xs := xs) len (by rw [← len]; exact few) (fun i v e => strs_place hs i v (by rw [Array.getElem?_toList]; exact e)) its.size 0 (Nat.zero_add _) _
          ⟨⟨_, Heap.get?_push_size _ rfl, rfl, rfl⟩, isl.push _⟩ ?_ ?_
        · exact PyProof.Rows.SetOf_congr ((PyProof.Rows.setObjOf_fresh (knd := PySem.strKind P w) led).setOf (Heap.get?_push_of_some _ g0) (by unfold scanBound; omega)) (fun _ => rfl) rfl
        · rintro ⟨h', g', d', tk', os'⟩ mv hold
          have m1 : g' = s.gens := mv.gens
          have m2 : d' = s.drawn := mv.drawn
          have m3 : os' = s.os := mv.os
          cases m1
          cases m2
          cases m3
          show wpAny _ _ _ _ _ _
          refine wpAny_pure ?_
          show wpAny _ _ (ret Value.none) _ _ _
          refine wpAny_pure ⟨rfl, h', tk', rfl, by rw [len]; exact hold, fun b o e => mv.heap b o (fun z => ?_) (Heap.get?_push_of_some _ (Heap.get?_push_of_some _ e))⟩
          have bb := Heap.lt_size e
          rcases List.mem_cons.mp z with z | z
          · exact absurd z (Nat.ne_of_lt bb)
          · exact absurd (List.mem_singleton.mp z) (Nat.ne_of_lt (Nat.lt_trans bb bl2))
      · cases r2 with
        | error e => exact hr2
        | ok fl2 =>
          cases fl2 with
          | next => exact hr2.elim
          | brk => exact hr2.elim
          | cont => exact hr2.elim
          | ret r =>
            obtain ⟨rfl, h', tk, rfl, holds, keep⟩ := hr2
            repeat (any_goals (first | assumption | wp_step))
            exact q h' tk holds keep
end
section
variable {G : Gm} {W : WX} {X : Cx} {F F' H H' F₀ H₀ : Hp} {ms ms' ms₀ : Ad} {μ μ' μ₀ : Sto} {σ : L2.St} {ρ : En} {Ow : Addr → Prop}
/-- len(set(xs)) -/
def fUniq (μ : Sto) (r : Res) : Option ER := match peek μ r with
  | some (.lst ds) => match strsOf ds with
    | some xs => guardE (decide (xs.length + 1 < scanBound)) (okD μ (.int (uniq xs).length))
    | none => none
  | _ => none
theorem de_lenSet {a : Expr} {f : EF} {p p2 q pos : Pos} (hK : X.K = G.K) (hc : X.calm = true) (hg : Gl X "len") (hm : X.mg "len" = none) (hg2 : Gl X "set") (hm2 : X.mg "set" = none) (ha : DE G W X a f)
    (na : starEach [a] X.env = (false, eval a X.env) :: starEach [] X.env := by rfl) : DE G W X (.Call (.Name "len" p) [.Call (.Name "set" p2) [a] [] q] [] pos) (eUn fUniq f) := by
  refine ⟨fun pins s σ H Q I ⟨F, ms, ρ, μ, S, E, o, ho, k⟩ => ?_⟩
  have h := eUn_run (t := fun x H1 Q => ∃ (l : Addr) (xs : List Str), x = V.ref l ∧ SqL X.K H1 l (xs.map V.str) ∧ xs.length + 1 < scanBound ∧ Q (.int (uniq xs).length) H1) S E ho k fun {F1 ms1 μ1 H1 v r o1} S1 r1 e1 k1 => by
    unfold fUniq at e1
    split at e1
    · rename_i ds ed
      split at e1
      · rename_i xs ex
        obtain ⟨c, e1⟩ := guardE_of e1
        cases e1
        obtain ⟨l, vs, rfl, hl, rl⟩ := (show TR G F1 H1 v (.lst ds) from peek_top S1 r1 ed)
        obtain ⟨rfl, _⟩ := strsOf_ok ex rl
        exact ⟨l, xs, rfl, SqL.of hl, of_decide_eq_true c, k1.data S1 (.int _)⟩
      · cases e1
    · cases e1
  apply Call_ (ld_blt I hg hm PySem.boot_len ?_)
  apply PyProof.Rows.callWith_builtin1 (PyProof.Rows.args_cons ?_ rfl) rfl rfl
  apply Call_ (ld_blt I hg2 hm2 PyProof.Rows.boot_set ?_)
  apply PyProof.Rows.callWith_type1 (PyProof.Rows.args_cons ?_ na) na rfl
  refine thn (ha.run pins s σ H _ I h) fun v s1 ⟨x, H1, I1, r1, l, xs, ex, hq, few, q1⟩ => PyProof.Rows.args_nil ?_
  cases ex
  cases r1
  obtain ⟨its, rv, pl, _⟩ := I1.list hq
  have len : its.toArray.size = xs.length := by rw [List.size_toArray, ← rv.length, List.length_map]
  refine uniq_call (I1.ok.hd hc) pl.isList (by simpa using L2.strsAre_of rv) few fun h' tk holds keep => PyProof.Rows.args_nil ?_
  rw [Holds, List.take_length] at holds
  obtain ⟨o, es, ep, t, ho, hex, hd, _, _, _, hf, hn⟩ := holds
  have I2 : Inv X pins σ H1 { s1 with heap := h', toks := tk } := I1.kept keep
  exact call_len_set ho hex hd hf (by rw [hn]; have := uniq_le xs; unfold scanBound at few; omega) ⟨.int (uniq xs).length, H1, I2.tok _, ⟨_, by rw [hn]⟩, q1⟩
end
end DF
/-! DF13: three names at once, calls by keywords, replace, len of the script. -/
namespace DF
open PySem PySem.Spec PyProof.Rows L2
section
variable {G : Gm} {W : WX} {X : Cx} {F F' H H' F₀ H₀ : Hp} {ms ms' ms₀ : Ad} {μ μ' μ₀ : Sto} {σ : L2.St} {ρ : En} {Ow : Addr → Prop}
theorem All2.three {α β : Type} {R : α → β → Prop} {as : List α} {b c d : β} (h : All2 R as [b, c, d]) : ∃ a a' a'', as = [a, a', a''] ∧ R a b ∧ R a' c ∧ R a'' d := by
  cases h with
  | cons h1 h =>
    obtain ⟨x, y, rfl, h2, h3⟩ := h.two
    exact ⟨_, x, y, rfl, h1, h2, h3⟩
/-- a, b, c = x, y, z -/
def sPar3 (i j l : Nat) (g : AF) : SF := fun ρ μ => match g ρ μ with
  | some (.ok [x, y, z] μ1) => some (.nx (((ρ.set i (some x)).set j (some y)).set l (some z)) μ1)
  | some (.ex c x μ1) => some (.ex c x ρ μ1)
  | _ => none
theorem ds_par3 {i j l : Nat} {x y z : Str} {a b c : Expr} {g : AF} {px py pz pt pos : Pos} {kt k2 pt2} (hc : X.calm = true) (hN : X.N.Nodup) (hi : X.N[i]? = some x) (hj : X.N[j]? = some y) (hl : X.N[l]? = some z) (hij : i ≠ j) (hil : i ≠ l) (hjl : j ≠ l)
    (hx : X.env.scope.names.lookup x = some .local) (hy : X.env.scope.names.lookup y = some .local) (hz : X.env.scope.names.lookup z = some .local) (ha : DA G W X [a, b, c] g)
    (hw : swappedStores [.Tuple [.Name x px, .Name y py, .Name z pz] kt pt] (.Tuple [a, b, c] k2 pt2) X.env = pure (some [x, y, z]))
    (hs : swapsWithSole [.Tuple [.Name x px, .Name y py, .Name z pz] kt pt] (.Tuple [a, b, c] k2 pt2) pos.line X.env = pure false := by rfl) :
    DS G W X (.Assign [.Tuple [.Name x px, .Name y py, .Name z pz] kt pt] (.Tuple [a, b, c] k2 pt2) pos) (sPar3 i j l g) := PS.mono (ps_par3 hc hN hi hj hl hij hil hjl hx hy hz ha hw hs) fun D σ H ⟨F, ms, ρ, μ, S, E, o, ho, k⟩ => by
  unfold sPar3 at ho
  split at ho
  · rename_i p q r μ1 e1
    cases ho
    refine ⟨F, ms, ρ, μ, S, E, _, e1, fun vs F1 ms1 H1 g1 S1 r1 => ?_⟩
    obtain ⟨v, v', v'', rfl, rv, rv', rv''⟩ := r1.three
    exact ⟨v, v', v'', rfl, k _ F1 ms1 H1 g1 S1 ((((E.mono g1.mono g1.pre).set i rv).set j rv').set l rv'')⟩
  · rename_i c x μ1 e1
    cases ho
    exact ⟨F, ms, ρ, μ, S, E, _, e1, fun dx v F' ms' H' hx g1 S' e r => k dx v σ F' ms' H' hx g1 S' (E.mono g1.mono g1.pre) e r⟩
  · cases ho

/-! ### calls by keywords, in the parameters' order -/
structure KwB (K : PySem.W.Frag) (fd : FuncData) (ps ks : List Str) (n : Nat) : Prop where
  to : ∀ (s : Shared) (us ws : List Value), K.In s.heap → us.length = n → ws.length = ks.length → BindsTo s fd ⟨us, ks.zip ws⟩ (ps.zip (us ++ ws))
  len : n + ks.length = ps.length
abbrev DK (G : Gm) (W : WX) (X : Cx) (kws : List Keyword) (f : AF) : Prop := PK X kws (tA G W f)
theorem PK.mono {kws : List Keyword} {t t' : TA} (h : PK X kws t) (i : ∀ σ H Q, t' σ H Q → t σ H Q) : PK X kws t' := ⟨fun pos pins s σ H Q I q => h.run pos pins s σ H Q I (i σ H Q q)⟩
theorem dk_nil : DK G W X [] aNil := PK.mono pk_nil fun σ H Q ⟨F, ms, ρ, μ, S, E, o, ho, k⟩ => by
  cases ho
  exact k [] F ms H (Go.refl ..) S .nil
theorem aCons_run {m : Md} {f : EF} {g : AF} {Q : List V → Hp → Prop} (q : tA G W (aCons m f g) σ H Q) : tCons (tE G W f) (tA G W g) σ H Q := by
  obtain ⟨F, ms, ρ, μ, S, E, o, ho, k⟩ := q
  unfold aCons at ho
  cases e1 : f ρ μ with
  | none => rw [e1] at ho; cases ho
  | some o1 =>
    rw [e1] at ho
    cases o1 with
    | ex c x μ1 => cases ho; exact run_part_ex S E e1 k
    | ok r μ1 =>
      dsimp only at ho
      refine run_part S E e1 fun v F1 ms1 H1 g1 S1 E1 r1 => ?_
      cases e3 : conv μ1 m r with
      | none => rw [e3] at ho; cases ho
      | some p =>
        obtain ⟨y, ν⟩ := p
        rw [e3] at ho
        dsimp only at ho
        obtain ⟨F2, ms2, S2, g2, m2, p2, r2⟩ := conv_ok S1 g1 r1 e3
        have E2 := E1.mono m2 p2
        cases e2 : g ρ ν with
        | none => rw [e2] at ho; cases ho
        | some o2 =>
          rw [e2] at ho
          cases o2 with
          | ex c x μ2 => cases ho; exact ⟨F2, ms2, ρ, ν, S2, E2, _, e2, KX.shift g2 k⟩
          | ok rs μ2 =>
            cases ho
            refine ⟨F2, ms2, ρ, ν, S2, E2, _, e2, fun vs F3 ms3 H3 g3 S3 r3 => ?_⟩
            exact k (v :: vs) F3 ms3 H3 (g2.trans g3) S3 (.cons (r2.mono g3.mono g3.pre) r3)
theorem dk_cons {m : Md} {nm : Option Str} {e : Expr} {kpos : Pos} {kws : List Keyword} {f : EF} {g : AF} (hf : DE G W X e f) (hg : DK G W X kws g) : DK G W X (⟨nm, e, kpos⟩ :: kws) (aCons m f g) := PK.mono (pk_cons hf hg) fun σ H Q q => aCons_run q
/-- f(e, .., k = v, ..) -/
def eFnK (f : FF) (g h : AF) : EF := fun ρ μ => match g ρ μ with
  | some (.ok xs μ1) => match h ρ μ1 with
    | some (.ok ys μ2) => match f (xs ++ ys) μ2 with
      | some (.rt r μ3) => some (.ok r μ3)
      | some (.ex c x μ3) => some (.ex c x μ3)
      | none => none
    | some (.ex c x μ2) => some (.ex c x μ2)
    | none => none
  | some (.ex c x μ1) => some (.ex c x μ1)
  | none => none
theorem All2.app {α β : Type} {R : α → β → Prop} {as as' : List α} {bs bs' : List β} (h : All2 R as bs) (h' : All2 R as' bs') : All2 R (as ++ as') (bs ++ bs') := by
  induction h with
  | nil => exact h'
  | cons r _ ih => exact .cons r ih
theorem All2.mono' {α β : Type} {R R' : α → β → Prop} (i : ∀ a b, R a b → R' a b) {as : List α} {bs : List β} (h : All2 R as bs) : All2 R' as bs := by
  induction h with
  | nil => exact .nil
  | cons r _ ih => exact .cons (i _ _ r) ih
theorem run_kw {k np n : Nat} {ks : List Str} {f : Addr} {fd : FuncData} {ps : List Str} {ff : FF} {pins : List (Addr × Obj)} {s : Shared} {Q : VK} {us ws : List Value} {vs zs : List V} (Fo : FnOk X.prog X.w X.K X.mg X.base (L2.CX X.prog X.w) k f fd ps (spF G np ff)) (hr : Room k X.A)
    (hb : KwB X.K fd ps ks n) (tk : Takes X W) (I : Inv X pins σ H s) (r : Vals vs us) (rz : Vals zs ws) (l1 : vs.length = n) (l2 : zs.length = ks.length) (h : spF G np ff (vs ++ zs) H Q (WE W σ)) : wpAny (model X.prog X.w) X.A (call (.ref f) us (ks.zip ws)) (EP X pins σ Q) X.xe s := by
  have r2 : Vals (vs ++ zs) (us ++ ws) := by
    clear h l1
    induction r with
    | nil => exact rz
    | cons a _ ih => exact .cons a ih
  have e1 : us.length = n := by rw [← r.length]; exact l1
  have e2 : ws.length = ks.length := by rw [← rz.length]; exact l2
  refine wpAny_call (codeAny_mono (Fo.run X.A X.stack s H ⟨us, ks.zip ws⟩ (us ++ ws) (vs ++ zs) Q (WE W σ) hr I.env0 (hb.to s us ws I.kIn e1 e2) r2 h) fun r s' hq => ?_)
  cases r with
  | error e => exact passAt tk σ pins H s e s' I hq
  | ok fl =>
    cases fl with
    | ret u => exact I.after hq
    | next => exact False.elim hq
    | brk => exact False.elim hq
    | cont => exact False.elim hq
theorem eFnK_run {f : FF} {g h : AF} {np n m : Nat} {o : ER} {Q : VK} (S : StOk G F ms μ H) (E : EnvOk G F ms σ ρ) (e : eFnK f g h ρ μ = some o) (k : KE G W σ F ms μ H Q o) (hn : LenA g n) (hm : LenA h m) (hp : n + m = np) :
    tA G W g σ H fun vs H1 => tA G W h σ H1 fun zs H2 => vs.length = n ∧ zs.length = m ∧ spF G np f (vs ++ zs) H2 Q (WE W σ) := by
  unfold eFnK at e
  cases e1 : g ρ μ with
  | none => rw [e1] at e; cases e
  | some o1 =>
    rw [e1] at e
    refine ⟨F, ms, ρ, μ, S, E, o1, e1, ?_⟩
    cases o1 with
    | ex c x μ1 => cases e; exact k
    | ok xs μ1 =>
      dsimp only at e
      intro vs F1 ms1 H1 g1 S1 r1
      cases e2 : h ρ μ1 with
      | none => rw [e2] at e; cases e
      | some o2 =>
        rw [e2] at e
        refine ⟨F1, ms1, ρ, μ1, S1, E.mono g1.mono g1.pre, o2, e2, ?_⟩
        cases o2 with
        | ex c x μ2 => cases e; exact KX.shift g1 k
        | ok ys μ2 =>
          dsimp only at e
          intro zs F2 ms2 H2 g2 S2 r2
          have l1 := r1.length.trans (hn _ _ _ _ e1)
          have l2 := r2.length.trans (hm _ _ _ _ e2)
          cases e3 : f (xs ++ ys) μ2 with
          | none => rw [e3] at e; cases e
          | some o3 =>
            rw [e3] at e
            refine ⟨l1, l2, by rw [List.length_append, l1, l2]; exact hp, F2, ms2, xs ++ ys, μ2, S2, (r1.mono' fun _ _ q => SVR.mono g2.mono g2.pre q).app r2, o3, e3, KE.kf ?_⟩
            have k := KE.shift (g1.trans g2) (o := o) k
            cases o3 with
            | rt r μ3 => cases e; exact k
            | ex c x μ3 => cases e; exact k
theorem de_callK0 {k np : Nat} {ks : List Str} {f : Addr} {fd : FuncData} {ps : List Str} {ff : FF} {x : Str} {p pos : Pos} {kws : List Keyword} {h : AF} (Fo : FnOk X.prog X.w X.K X.mg X.base (L2.CX X.prog X.w) k f fd ps (spF G np ff)) (hr : Room k X.A) (hm : X.mg x = some (.ref f)) (hk : PySem.W.keepIn X.K (.ref f) = true)
    (hb : KwB X.K fd ps ks 0) (tk : Takes X W) (hkw : DK G W X kws h) (hl : LenA h ks.length) (hp : 0 + ks.length = np) (hg : Gl X x := by rfl)
    (hdb : (x == ("__debug__" : Str)) = false := by decide) (hall : (backToKw pos (keywordEach kws X.env)).all (·.1.isSome) = true := by rfl) (hks : (backToKw pos (keywordEach kws X.env)).filterMap (·.1) = ks := by rfl)
    (hpl : ((backTo pos (starEach [] X.env)).any (·.1) || (backToKw pos (keywordEach kws X.env)).any (·.1.isNone)) = false := by rfl) :
    DE G W X (.Call (.Name x p) [] kws pos) (eFnK ff aNil h) := by
  refine ⟨fun pins s σ H Q I ⟨F, ms, ρ, μ, S, E, o, ho, kk⟩ => ?_⟩
  have h1 := eFnK_run S E ho kk lenA_nil hl hp
  refine wpAny_Call_Name_kw (ld_glob I hg hm ?_ hdb)
  refine PySem.W.callWith_KW0 (h₀ := X.base) I.ok.mod.kin hk hall ?_ hpl
  have h2 : tA G W h σ H fun zs H2 => zs.length = ks.length ∧ spF G np ff zs H2 Q (WE W σ) := by
    obtain ⟨F1, ms1, ρ1, μ1, S1, E1, o1, e1, k1⟩ := h1
    cases e1
    have := k1 [] F1 ms1 H (Go.refl ..) S1 .nil
    obtain ⟨F2, ms2, ρ2, μ2, S2, E2, o2, e2, k2⟩ := this
    refine ⟨F2, ms2, ρ2, μ2, S2, E2, o2, e2, ?_⟩
    cases o2 with
    | ex c x μ3 => exact k2
    | ok ys μ3 => exact fun vs F' ms' H' g' S' r' => (k2 vs F' ms' H' g' S' r').2
  refine thn (hkw.run pos pins s σ H _ I h2) fun ws s2 ⟨zs, H2, I2, rz, l2, q2⟩ => ⟨I2.kIn, ?_⟩
  rw [hks]
  exact run_kw (us := []) (vs := []) Fo hr hb tk I2 .nil rz rfl l2 q2
theorem de_callK {k np n : Nat} {ks : List Str} {f : Addr} {fd : FuncData} {ps : List Str} {ff : FF} {x : Str} {p pos : Pos} {e : Expr} {es : List Expr} {kws : List Keyword} {g h : AF} (Fo : FnOk X.prog X.w X.K X.mg X.base (L2.CX X.prog X.w) k f fd ps (spF G np ff)) (hr : Room k X.A) (hm : X.mg x = some (.ref f)) (hk : PySem.W.keepIn X.K (.ref f) = true)
    (hb : KwB X.K fd ps ks n) (tk : Takes X W) (ha : DA G W X (e :: es) g) (hla : LenA g n) (hkw : DK G W X kws h) (hl : LenA h ks.length) (hp : n + ks.length = np) (hg : Gl X x := by rfl)
    (hdb : (x == ("__debug__" : Str)) = false := by decide) (hall : (backToKw pos (keywordEach kws X.env)).all (·.1.isSome) = true := by rfl) (hks : (backToKw pos (keywordEach kws X.env)).filterMap (·.1) = ks := by rfl)
    (he : starEach (e :: es) X.env = (false, eval e X.env) :: starEach es X.env := by rfl) (hpl : ((backTo pos (starEach (e :: es) X.env)).any (·.1) || (backToKw pos (keywordEach kws X.env)).any (·.1.isNone)) = false := by rfl) :
    DE G W X (.Call (.Name x p) (e :: es) kws pos) (eFnK ff g h) := by
  refine ⟨fun pins s σ H Q I ⟨F, ms, ρ, μ, S, E, o, ho, kk⟩ => ?_⟩
  refine wpAny_Call_Name_kw (ld_glob I hg hm ?_ hdb)
  refine PySem.W.callWith_KW (h₀ := X.base) I.ok.mod.kin hk hall (thn (ha.run pos pins s σ H _ I (eFnK_run S E ho kk hla hl hp)) fun us s1 ⟨vs, H1, I1, r, q⟩ => ?_) hpl he
  refine thn (hkw.run pos pins s1 σ H1 _ I1 q) fun ws s2 ⟨zs, H2, I2, rz, l1, l2, q2⟩ => ⟨I2.kIn, ?_⟩
  rw [hks]
  exact run_kw Fo hr hb tk I2 r rz l1 l2 q2
/-- f() -/
theorem de_call0 {k np : Nat} {f : Addr} {fd : FuncData} {ps : List Str} {ff : FF} {x : Str} {p pos : Pos} (Fo : FnOk X.prog X.w X.K X.mg X.base (L2.CX X.prog X.w) k f fd ps (spF G np ff)) (hr : Room k X.A) (hm : X.mg x = some (.ref f)) (hk : PySem.W.keepIn X.K (.ref f) = true)
    (hb : KwB X.K fd ps [] 0) (tk : Takes X W) (hp : 0 + 0 = np) (hg : Gl X x := by rfl)
    (hdb : (x == ("__debug__" : Str)) = false := by decide) : DE G W X (.Call (.Name x p) [] [] pos) (eFnK ff aNil aNil) :=
  de_callK0 (ks := []) Fo hr hm hk hb tk dk_nil lenA_nil hp hg hdb

/-! ### texts that want a token: replace -/
abbrev DET (G : Gm) (W : WX) (X : Cx) (e : Expr) (f : EF) : Prop := PET X e (tE G W f)
abbrev DAT (G : Gm) (W : WX) (X : Cx) (es : List Expr) (f : AF) : Prop := PAT X es (tA G W f)
/-- behind e a token is out -/
def PE1 (X : Cx) (e : Expr) (t : TE) : Prop :=
  ∀ (pins : List (Addr × Obj)) (s : Shared) (σ : L2.St) (H : Hp) (Q : VK), Inv X pins σ H s → t σ H Q → wpAny (model X.prog X.w) X.A (eval e X.env) (fun v s1 => 1 ≤ s1.toks ∧ EP X pins σ Q v s1) X.xe s
abbrev DE1 (G : Gm) (W : WX) (X : Cx) (e : Expr) (f : EF) : Prop := PE1 X e (tE G W f)
theorem eC_run {x : D} {v : V} {Q : VK} (r : ∀ F, Rp G F v x) (q : tE G W (eC x) σ H Q) : Q v H := by
  obtain ⟨F, ms, ρ, μ, S, E, o, ho, k⟩ := q
  cases ho
  exact k v F ms H (Go.refl ..) S (r F)
theorem de1_str {x : Str} {j} {pos : Pos} (h : okB x = true) : DE1 G W X (.Constant (.str x) j pos) (eC (.str x)) := by
  intro pins s σ H Q I q
  exact Calls.Constant_str ⟨Nat.le_add_left _ _, .str x, H, I.tok _, ⟨_, rfl⟩, eC_run (fun F => .str (strOk_of h)) q⟩
theorem tOp_of {op : OpF} {r : R2} {f g : EF} {Q : VK} (hs : OpS G op r) (q : tE G W (eBin op f g) σ H Q) : tOp r (tE G W f) (tE G W g) σ H Q := by
  obtain ⟨F, ms, ρ, μ, S, E, o, ho, k⟩ := q
  unfold eBin at ho
  cases e1 : f ρ μ with
  | none => rw [e1] at ho; cases ho
  | some o1 =>
    rw [e1] at ho
    cases o1 with
    | ex c x μ1 => cases ho; exact run_part_ex S E e1 k
    | ok r μ1 =>
      dsimp only at ho
      refine run_part S E e1 fun v F1 ms1 H1 g1 S1 E1 r1 => ?_
      cases e2 : g ρ μ1 with
      | none => rw [e2] at ho; cases ho
      | some o2 =>
        rw [e2] at ho
        cases o2 with
        | ex c x μ2 => cases ho; exact run_part_ex S1 E1 e2 (KX.shift g1 k)
        | ok r' μ2 =>
          dsimp only at ho
          refine run_part S1 E1 e2 fun v' F2 ms2 H2 g2 S2 E2 r2 => ?_
          exact hs.run S2 (r1.go g2) (r2.own fun _ z => g1.owns z) ho (KE.shift (g1.trans g2) k)
theorem pe1_opR {a b : Expr} {op : Operator} {r : R2} {ta tb : TE} {pos : Pos} (ho : OpR X (binaryOp op) r) (ha : PE X a ta) (hb : PE1 X b tb) : PE1 X (.BinOp a op b pos) (tOp r ta tb) := by
  intro pins s σ H Q I h
  refine wpAny_BinOp (thn (ha.run pins s σ H _ I h) fun v s1 ⟨x, H1, I1, r1, q1⟩ => ?_)
  refine wpAny_mono (hb pins s1 σ H1 _ I1 q1) (fun u s2 ⟨h0, y, H2, I2, r2, q2⟩ => ?_) fun _ _ z => z
  exact wpAny_mono (PySem.wpAny_toks (ho pins s2 σ H2 x y v u Q I2 r1 r2 q2)) (fun _ _ z => ⟨Nat.le_trans h0 z.1, z.2⟩) fun _ _ z => z.2
theorem pe1_opL {a b : Expr} {op : Operator} {r : R2} {ta tb : TE} {pos : Pos} (ho : OpR X (binaryOp op) r) (ha : PE1 X a ta) (hb : PE X b tb) : PE1 X (.BinOp a op b pos) (tOp r ta tb) := by
  intro pins s σ H Q I h
  refine wpAny_BinOp (wpAny_mono (ha pins s σ H _ I h) (fun v s1 ⟨h0, x, H1, I1, r1, q1⟩ => ?_) fun _ _ z => z)
  refine wpAny_mono (PySem.wpAny_toks (hb.run pins s1 σ H1 _ I1 q1)) (fun u s2 ⟨h1, y, H2, I2, r2, q2⟩ => ?_) fun _ _ z => z.2
  exact wpAny_mono (PySem.wpAny_toks (ho pins s2 σ H2 x y v u Q I2 r1 r2 q2)) (fun _ _ z => ⟨Nat.le_trans h0 (Nat.le_trans h1 z.1), z.2⟩) fun _ _ z => z.2
theorem PE1.mono {e : Expr} {t t' : TE} (h : PE1 X e t) (i : ∀ σ H Q, t' σ H Q → t σ H Q) : PE1 X e t' := fun pins s σ H Q I q => h pins s σ H Q I (i σ H Q q)
theorem de1_addR {a b : Expr} {f g : EF} {pos : Pos} (hK : X.K = G.K) (ha : DE G W X a f) (hb : DE1 G W X b g) : DE1 G W X (.BinOp a .Add b pos) (eBin (op2 fAdd) f g) :=
  PE1.mono (pe1_opR op_addAll ha hb) fun σ H Q q => tOp_of (by rw [hK]; exact add_ok) q
theorem de1_addL {a b : Expr} {f g : EF} {pos : Pos} (hK : X.K = G.K) (ha : DE1 G W X a f) (hb : DE G W X b g) : DE1 G W X (.BinOp a .Add b pos) (eBin (op2 fAdd) f g) :=
  PE1.mono (pe1_opL op_addAll ha hb) fun σ H Q q => tOp_of (by rw [hK]; exact add_ok) q
theorem da_cons1 {m : Md} {e : Expr} {es : List Expr} {f : EF} {g : AF} (hf : DE1 G W X e f) (hg : DAT G W X es g) (hs : starEach (e :: es) X.env = (false, eval e X.env) :: starEach es X.env := by rfl) : DA G W X (e :: es) (aCons m f g) := by
  refine ⟨fun pos pins s σ H Q I q => ?_⟩
  rw [hs]
  show wpAny _ _ (spliced ((false, eval e X.env) :: backTo pos (starEach es X.env))) _ _ s
  refine Calls.spliced_cons (wpAny_mono (hf pins s σ H _ I (aCons_run q)) (fun v s1 ⟨h0, x, H1, I1, r1, q1⟩ => ?_) fun _ _ z => z)
  exact thn (hg pos pins s1 σ H1 _ h0 I1 q1) fun us s2 ⟨xs, H2, I2, r2, q2⟩ => ⟨x :: xs, H2, I2, .cons r1 r2, q2⟩
theorem dat_nil : DAT G W X [] aNil := fun pos pins s σ H Q _ I q => (da_nil (G := G) (W := W) (X := X)).run pos pins s σ H Q I q
theorem dat_cons {m : Md} {e : Expr} {es : List Expr} {f : EF} {g : AF} (hf : DET G W X e f) (hg : DAT G W X es g) (hs : starEach (e :: es) X.env = (false, eval e X.env) :: starEach es X.env := by rfl) : DAT G W X (e :: es) (aCons m f g) :=
  fun pos pins s σ H Q h0 I q => pat_cons hf hg hs pos pins s σ H Q h0 I (aCons_run q)
theorem det_of {e : Expr} {f : EF} (h : DE G W X e f) : DET G W X e f := fun pins s σ H Q _ I q => h.run pins s σ H Q I q
def fRepl (y z : Str) (μ : Sto) (r : Res) : Option ER := match peek μ r with
  | some (.str x) => guardE (decide (x.length + (x.length + 1) * z.length ≤ 16777216) && okB (Txt.replace x y z)) (okD μ (.str (Txt.replace x y z)))
  | _ => none
theorem det_repl {o : Expr} {f : EF} {y z : Str} {j k : Nat} {c0 c1 apos pos : Pos} (ho : DE G W X o f) (hyz : (y == z) = false := by decide)
    (hst : starEach [.Constant (.str y) j c0, .Constant (.str z) k c1] X.env = [(false, eval (.Constant (.str y) j c0) X.env), (false, eval (.Constant (.str z) k c1) X.env)] := by rfl)
    (hbase : attributeBase o "replace" X.env (eval o X.env) = eval o X.env := by rfl) (hline : (apos.endLine == pos.line) = true := by rfl) :
    DET G W X (.Call (.Attribute o "replace" apos) [.Constant (.str y) j c0, .Constant (.str z) k c1] [] pos) (eUn (fRepl y z) f) := by
  intro pins s σ H Q h0 I ⟨F, ms, ρ, μ, S, E, o, hq, k⟩
  refine CwR.pet_replC ho hyz hst hbase hline pins s σ H Q h0 I ?_
  refine eUn_run (t := fun v H1 Q => ∃ x, v = V.str x ∧ x.length + (x.length + 1) * z.length ≤ 16777216 ∧ Q (.str (Txt.replace x y z)) H1) S E hq k fun {F1 ms1 μ1 H1 v r o1} S1 r1 e1 k1 => ?_
  unfold fRepl at e1
  split at e1
  · rename_i x ex
    obtain ⟨c, e1⟩ := guardE_of e1
    cases e1
    rw [Bool.and_eq_true] at c
    obtain ⟨rfl, _⟩ := (show v = .str x ∧ strOk x from peek_top S1 r1 ex)
    exact ⟨x, rfl, of_decide_eq_true c.1, k1.data S1 (.str (strOk_of c.2))⟩
  · cases e1

/-! ### len, of the script too -/
def caLen : CaF := fun μ xs => match xs with
  | [x] => match peekV μ x with
    | some d => fLen μ d
    | none => match x with
      | .loc n => match μ.at (.m n) with
        | some (.ro ds) => okD μ (.int ds.length)
        | some (.olst xs) => okD μ (.int xs.length)
        | _ => none
      | .obj n => match μ.at (.k n) with
        | some (.olst xs) => okD μ (.int xs.length)
        | _ => none
      | _ => none
  | _ => none
theorem lenR_ok : CaS G caLen (fun xs H Q => ∃ x n, xs = [x] ∧ LenV G.K x H n ∧ Q (.int n) H) := by
  refine ⟨fun {W σ F ms μ H vs xs o Q} S hv e k => ?_⟩
  unfold caLen at e
  cases hv with
  | nil => cases e
  | cons h1 h2 =>
    cases h2 with
    | cons _ _ => cases e
    | nil =>
      rename_i v x
      dsimp only at e
      cases ep : peekV μ x with
      | some d =>
        refine len_ok.run (xs := [x]) (vs := [v]) S (.cons h1 .nil) (show ca1 fLen μ [x] = some o from ?_) k
        rw [ep] at e
        show (match peekV μ x with | some d => fLen μ d | none => none) = some o
        rw [ep]
        exact e
      | none =>
        rw [ep] at e
        dsimp only at e
        split at e
        · rename_i n
          obtain ⟨a, ha, rfl⟩ := h1
          split at e
          · rename_i ds ec
            cases e
            obtain ⟨vs, hs, r⟩ := (show ∃ vs, SqL G.K F a vs ∧ RpL G F vs ds from S.cell _ a _ ha ec)
            exact ⟨_, _, rfl, .inl ⟨vs, SqL.mono' S.sub hs, r.length.symm⟩, k.data S (.int _)⟩
          · rename_i ds ec
            cases e
            obtain ⟨vs, hs, r⟩ := (show ∃ vs, H a = some (.lst vs) ∧ All2 (KVR G F ms) vs ds from S.cell _ a _ ha ec)
            exact ⟨_, _, rfl, .inl ⟨vs, SqL.of hs, r.length.symm⟩, k.data S (.int _)⟩
          · cases e
        · rename_i n
          obtain ⟨a, ha, rfl⟩ := h1
          split at e
          · rename_i ds ec
            cases e
            obtain ⟨vs, hs, r⟩ := (show ∃ vs, H a = some (.lst vs) ∧ All2 (KVR G F ms) vs ds from S.cell _ a _ ha ec)
            exact ⟨_, _, rfl, .inl ⟨vs, SqL.of hs, r.length.symm⟩, k.data S (.int _)⟩
          · cases e
        · cases e
end
end DF
/-! DF14: small words for the printed derivations. -/
namespace DF
open PySem PySem.Spec PyProof.Rows L2
abbrev opPowB : OpF := opI pPowB fun i j => .int (i ^ j.toNat)
theorem hu_64 {k : Nat} {A : Around} (h : Room k A) : A.units + 64 < cLine := by
  have := h.un
  omega
theorem hu_65 {k : Nat} {A : Around} (h : Room k A) : A.units + 65 < cLine := by
  have := h.un
  omega
end DF
/-! DF15: facts of the written part, the law's end. -/
namespace DF
open PySem PySem.Spec PyProof.Rows L2
section
variable {K : PySem.W.Frag} {mg : Str → Option Value}
theorem kit_of {t : Value} {C : Addr} {b : Bool} (h1 : PySem.W.isClsIn K C = true) (h2 : PySem.W.typeIn K (.ref C) = some (.type "type")) (h3 : PySem.W.subIn K t (.ref C) = some b) : PySem.W.kitCls K t (.ref C) = some b := by
  have h1' : (PySem.W.clsIn K C).isSome = true := h1
  have e : ((PySem.W.clsIn K C).isSome && PySem.W.typeIn K (.ref C) == some (.type "type")) = true := by rw [h1', h2]; rfl
  show (if ((PySem.W.clsIn K C).isSome && PySem.W.typeIn K (.ref C) == some (.type "type")) = true then PySem.W.subIn K t (.ref C) else none) = some b
  rw [if_pos e]
  exact h3
theorem exm_to {t : Value} {C : Addr} {b : Bool} (h0 : PySem.W.subIn K (.ref C) (.type "BaseException") = some true) (h1 : PySem.W.isClsIn K C = true) (h2 : PySem.W.typeIn K (.ref C) = some (.type "type")) (h3 : PySem.W.subIn K t (.ref C) = some b) : PySem.W.exmOne K t (.ref C) = some b := by
  have e : (PySem.W.subIn K (.ref C) (.type "BaseException") == some true) = true := by rw [h0]; rfl
  unfold PySem.W.exmOne
  rw [if_pos e]
  exact kit_of h1 h2 h3
theorem kitOne_self {t : Value} : PySem.W.kitOne K t t = some true := by
  unfold PySem.W.kitOne
  rw [if_pos (by cases t <;> simp)]
theorem kitOne_no {S C : Addr} {b : Bool} (ne : (Value.ref S == Value.ref C) = false) (h1 : PySem.W.isClsIn K C = true) (h2 : PySem.W.typeIn K (.ref C) = some (.type "type")) (h3 : PySem.W.subIn K (.ref S) (.ref C) = some b) : PySem.W.kitOne K (.ref S) (.ref C) = some b := by
  unfold PySem.W.kitOne
  rw [ne]
  exact kit_of h1 h2 h3
theorem kitAny_nil {t : Value} : PySem.W.kitAny K t [] = some false := rfl
theorem kitAny_no {t c : Value} {r : List Value} {b : Bool} (h : PySem.W.kitOne K t c = some false) (hr : PySem.W.kitAny K t r = some b) : PySem.W.kitAny K t (c :: r) = some b := by
  unfold PySem.W.kitAny
  rw [h]
  exact hr
theorem kitAny_yes {t c : Value} {r : List Value} (h : PySem.W.kitOne K t c = some true) : PySem.W.kitAny K t (c :: r) = some true := by
  unfold PySem.W.kitAny
  rw [h]
theorem kw_mk {x qual : Str} {st : Stmt} {f : Addr} {fd : FuncData} {ps ks : List Str} {n : Nat} (F : Fun K x qual st f fd) (hp : n + ks.length = ps.length)
    (h : ∀ (kV doc pm : Value) (an : Option Addr) (cdv ct : Value) (us ws : List Value), us.length = n → ws.length = ks.length →
      bindArgs (PySem.W.fnOf x qual (defArgs st) (defBody st) (defScope st) .none kV doc pm an cdv ct) ⟨us, ks.zip ws⟩ = pure (ps.zip (us ++ ws))) : KwB K fd ps ks n := by
  obtain ⟨⟨oc, od, kV, doc, pm, an, cdv, ct, osl, rfl, _, _⟩, _⟩ := F
  exact ⟨fun s us ws _ h1 h2 => .of_eq (h kV doc pm an cdv ct us ws h1 h2), hp⟩
end
/-- the law's promise, whatever the names of classes are -/
def spTop (K : PySem.W.Frag) (f : FF) : Sp := fun vs H Q E => ∀ G : Gm, G.K = K → spF G 1 f vs H Q E
theorem top_run {K : PySem.W.Frag} {f : FF} (h : ∀ ns : List Int, ns.length ≤ 63 → ∃ μ', f [.loc 0] ⟨[.ro (ns.map D.int)], []⟩ = some (.rt (.d (.bl true)) μ')) {H : Hp} {a : Addr} {ns : List Int} (hl : ns.length ≤ 63) (hs : SqL K H a (ns.map V.int)) :
    spTop K f [V.ref a] H (fun v _ => v = V.bl true) (fun _ _ _ => False) := by
  intro G hG
  obtain ⟨μ', e⟩ := h ns hl
  refine ⟨rfl, H, ⟨[a], []⟩, [.loc 0], ⟨[.ro (ns.map D.int)], []⟩, ⟨Le.refl _, ⟨rfl, rfl⟩, fun p b c h1 h2 => ?_, fun p q b c c' h1 h2 h3 h4 l _ => ?_, fun b ⟨p, c, h1, h2, l⟩ => ?_⟩, .cons ⟨a, rfl, rfl⟩ .nil, _, e, fun v F' ms' H' g S r => ?_⟩
  · cases p with
    | k n => cases h1
    | m n =>
      cases n with
      | succ n => cases h1
      | zero =>
        cases h1
        cases h2
        exact ⟨_, by rw [hG]; exact hs, RpL.ints⟩
  · cases p with
    | k n => cases h1
    | m n =>
      cases n with
      | succ n => cases h1
      | zero => cases h3; cases l
  · cases p with
    | k n => cases h1
    | m n =>
      cases n with
      | succ n => cases h1
      | zero => cases h2; cases l
  · cases r
    rfl
theorem cx_none {P : Program} {w : World} {H : Hp} {s s' : Shared} {e : Value} (h : L2.CX P w [] H s (fun _ _ _ => False) e s') : False := by
  obtain ⟨_, _, _, _, _, _, _, _, _, _, _, _, z⟩ := h
  exact z
end DF
/-! DF16: what a function comes to (no program in sight). -/
namespace DF
open PySem PySem.Spec PyProof.Rows L2
def wpO (o : Option ER) (Q : Res → Sto → Prop) : Prop := ∃ r μ, o = some (.ok r μ) ∧ Q r μ
def wpE (f : EF) (ρ : En) (μ : Sto) (Q : Res → Sto → Prop) : Prop := ∃ r μ', f ρ μ = some (.ok r μ') ∧ Q r μ'
def wpA (f : AF) (ρ : En) (μ : Sto) (Q : List SV → Sto → Prop) : Prop := ∃ xs μ', f ρ μ = some (.ok xs μ') ∧ Q xs μ'
def wpI (f : IF) (ρ : En) (μ : Sto) (Q : List KV → Sto → Prop) : Prop := ∃ xs μ', f ρ μ = some (.ok xs μ') ∧ Q xs μ'
def wpS (f : SF) (ρ : En) (μ : Sto) (Q : SO → Prop) : Prop := ∃ o, f ρ μ = some o ∧ Q o
def wpF (f : FF) (xs : List SV) (μ : Sto) (Q : FO → Prop) : Prop := ∃ o, f xs μ = some o ∧ Q o
/-- it hands back r -/
def rtQ (Q : Res → Sto → Prop) : FO → Prop
  | .rt r μ => Q r μ
  | .ex _ _ _ => False
section
variable {ρ : En} {μ ν : Sto} {Q : Res → Sto → Prop} {QA : List SV → Sto → Prop} {QI : List KV → Sto → Prop} {QS : SO → Prop} {QF : FO → Prop} {f g h : EF} {a b : AF} {x y : D} {r : Res} {i j : Int}
theorem wpE.mono {Q' : Res → Sto → Prop} (q : wpE f ρ μ Q) (h : ∀ r μ', Q r μ' → Q' r μ') : wpE f ρ μ Q' := by
  obtain ⟨r, μ', e, q⟩ := q; exact ⟨r, μ', e, h _ _ q⟩
theorem wpO.mono {o : Option ER} {Q' : Res → Sto → Prop} (q : wpO o Q) (h : ∀ r μ', Q r μ' → Q' r μ') : wpO o Q' := by
  obtain ⟨r, μ', e, q⟩ := q; exact ⟨r, μ', e, h _ _ q⟩
theorem wpF.mono {F : FF} {xs : List SV} {Q' : FO → Prop} (q : wpF F xs μ QF) (h : ∀ o, QF o → Q' o) : wpF F xs μ Q' := by
  obtain ⟨o, e, q⟩ := q; exact ⟨o, e, h _ q⟩
theorem wpS.mono {F : SF} {Q' : SO → Prop} (q : wpS F ρ μ QS) (h : ∀ o, QS o → Q' o) : wpS F ρ μ Q' := by
  obtain ⟨o, e, q⟩ := q; exact ⟨o, e, h _ q⟩
/-! outcomes -/
theorem o_ok : wpO (some (.ok r μ)) Q ↔ Q r μ := by
  constructor
  · rintro ⟨_, _, e, q⟩; cases e; exact q
  · intro q; exact ⟨_, _, rfl, q⟩
theorem o_okD : wpO (okD μ x) Q ↔ Q (.d x) μ := o_ok
theorem o_none : wpO none Q ↔ False := by
  constructor
  · rintro ⟨_, _, e, q⟩; cases e
  · exact False.elim
theorem o_guard {c : Bool} {o : Option ER} : wpO (guardE c o) Q ↔ c = true ∧ wpO o Q := by
  unfold guardE
  cases c
  · rw [if_neg Bool.false_ne_true, o_none]; simp
  · rw [if_pos rfl]; simp
/-! expressions -/
theorem e_var : wpE (eVar n) ρ μ Q ↔ wpO (eVar n ρ μ) Q := Iff.rfl
theorem v_d {n : Nat} (e : ρ[n]? = some (some (.d x))) : eVar n ρ μ = some (.ok (.d x) μ) := by unfold eVar; rw [e]
theorem v_loc {n m : Nat} (e : ρ[n]? = some (some (.loc m))) : eVar n ρ μ = some (.ok (.loc m) μ) := by unfold eVar; rw [e]
theorem e_c : wpE (eC x) ρ μ Q ↔ Q (.d x) μ := o_ok
theorem e_eB {c : Bool} : wpE (eB c) ρ μ Q ↔ Q (.d (.bl c)) μ := o_ok
theorem e_bin {op : OpF} : wpE (eBin op f g) ρ μ Q ↔ wpE f ρ μ fun r μ1 => wpE g ρ μ1 fun r' μ2 => wpO (op μ2 r r') Q := by
  constructor
  · rintro ⟨r, μ', e, q⟩
    unfold eBin at e
    split at e
    · rename_i r1 μ1 e1
      split at e
      · rename_i r2 μ2 e2
        exact ⟨r1, μ1, e1, r2, μ2, e2, r, μ', e, q⟩
      · cases e
      · cases e
    · cases e
    · cases e
  · rintro ⟨r1, μ1, e1, r2, μ2, e2, r, μ', e, q⟩
    refine ⟨r, μ', ?_, q⟩
    unfold eBin; rw [e1]; dsimp only; rw [e2]; exact e
theorem e_un {F : Sto → Res → Option ER} : wpE (eUn F g) ρ μ Q ↔ wpE g ρ μ fun r μ1 => wpO (F μ1 r) Q := by
  constructor
  · rintro ⟨r, μ', e, q⟩
    unfold eUn at e
    split at e
    · rename_i r1 μ1 e1
      exact ⟨r1, μ1, e1, r, μ', e, q⟩
    · cases e
    · cases e
  · rintro ⟨r1, μ1, e1, r, μ', e, q⟩
    refine ⟨r, μ', ?_, q⟩
    unfold eUn; rw [e1]; exact e
theorem e_if : wpE (eIf f g h) ρ μ Q ↔ wpE f ρ μ fun r μ1 => ∃ c, asB r = some c ∧ (c = true → wpE g ρ μ1 Q) ∧ (c = false → wpE h ρ μ1 Q) := by
  constructor
  · rintro ⟨r, μ', e, q⟩
    unfold eIf at e
    split at e
    · rename_i r1 μ1 e1
      cases ea : asB r1 with
      | none => rw [ea] at e; cases e
      | some c =>
        rw [ea] at e
        refine ⟨r1, μ1, e1, c, ea, fun z => ?_, fun z => ?_⟩ <;> subst z <;> exact ⟨r, μ', e, q⟩
    · cases e
    · cases e
  · rintro ⟨r1, μ1, e1, c, ea, q1, q2⟩
    cases c with
    | true =>
      obtain ⟨r, μ', e, q⟩ := q1 rfl
      refine ⟨r, μ', ?_, q⟩
      unfold eIf; rw [e1]; dsimp only; rw [ea]; exact e
    | false =>
      obtain ⟨r, μ', e, q⟩ := q2 rfl
      refine ⟨r, μ', ?_, q⟩
      unfold eIf; rw [e1]; dsimp only; rw [ea]; exact e
theorem e_nil : wpA aNil ρ μ QA ↔ QA [] μ := by
  constructor
  · rintro ⟨_, _, e, q⟩; cases e; exact q
  · intro q; exact ⟨_, _, rfl, q⟩
theorem e_cons {m : Md} : wpA (aCons m f a) ρ μ QA ↔ wpE f ρ μ fun r μ1 => ∃ x μ2, conv μ1 m r = some (x, μ2) ∧ wpA a ρ μ2 fun xs μ3 => QA (x :: xs) μ3 := by
  constructor
  · rintro ⟨xs, μ', e, q⟩
    unfold aCons at e
    split at e
    · rename_i r1 μ1 e1
      split at e
      · rename_i x μ2 ec
        split at e
        · rename_i ys μ3 e2
          cases e
          exact ⟨r1, μ1, e1, x, μ2, ec, ys, _, e2, q⟩
        · cases e
        · cases e
      · cases e
    · cases e
    · cases e
  · rintro ⟨r1, μ1, e1, x, μ2, ec, ys, μ3, e2, q⟩
    refine ⟨_, _, ?_, q⟩
    unfold aCons; rw [e1]; dsimp only; rw [ec]; dsimp only; rw [e2]
theorem e_lst : wpE (eLst a) ρ μ Q ↔ wpA a ρ μ fun xs μ1 => ∃ ds, toDs xs = some ds ∧ ds.length ≤ sizeLine ∧ Q (.tmp (.lst ds)) μ1 := by
  constructor
  · rintro ⟨r, μ', e, q⟩
    unfold eLst at e
    split at e
    · rename_i xs μ1 e1
      split at e
      · rename_i ds ed
        obtain ⟨c, e⟩ := guardE_of e
        cases e
        exact ⟨xs, _, e1, ds, ed, of_decide_eq_true c, q⟩
      · cases e
    · cases e
    · cases e
  · rintro ⟨xs, μ1, e1, ds, ed, c, q⟩
    refine ⟨_, _, ?_, q⟩
    unfold eLst; rw [e1]; dsimp only; rw [ed]; dsimp only; unfold guardE; rw [if_pos (decide_eq_true c)]
theorem e_tup : wpE (eTup a) ρ μ Q ↔ wpA a ρ μ fun xs μ1 => ∃ ds, toDs xs = some ds ∧ ds.length ≤ sizeLine ∧ Q (.d (.tup ds)) μ1 := by
  constructor
  · rintro ⟨r, μ', e, q⟩
    unfold eTup at e
    split at e
    · rename_i xs μ1 e1
      split at e
      · rename_i ds ed
        obtain ⟨c, e⟩ := guardE_of e
        cases e
        exact ⟨xs, _, e1, ds, ed, of_decide_eq_true c, q⟩
      · cases e
    · cases e
    · cases e
  · rintro ⟨xs, μ1, e1, ds, ed, c, q⟩
    refine ⟨_, _, ?_, q⟩
    unfold eTup; rw [e1]; dsimp only; rw [ed]; dsimp only; unfold guardE; rw [if_pos (decide_eq_true c)]
theorem e_call {cf : CaF} : wpE (eCall cf a) ρ μ Q ↔ wpA a ρ μ fun xs μ1 => wpO (cf μ1 xs) Q := by
  constructor
  · rintro ⟨r, μ', e, q⟩
    unfold eCall at e
    split at e
    · rename_i xs μ1 e1
      exact ⟨xs, μ1, e1, r, μ', e, q⟩
    · cases e
    · cases e
  · rintro ⟨xs, μ1, e1, r, μ', e, q⟩
    refine ⟨r, μ', ?_, q⟩
    unfold eCall; rw [e1]; exact e
theorem e_fn {F : FF} : wpE (eFn F a) ρ μ Q ↔ wpA a ρ μ fun xs μ1 => wpF F xs μ1 (rtQ Q) := by
  constructor
  · rintro ⟨r, μ', e, q⟩
    unfold eFn at e
    split at e
    · rename_i xs μ1 e1
      split at e
      · rename_i r2 μ2 e2
        cases e
        exact ⟨xs, μ1, e1, _, e2, q⟩
      · cases e
      · cases e
    · cases e
    · cases e
  · rintro ⟨xs, μ1, e1, o, e2, q⟩
    cases o with
    | ex _ _ _ => exact q.elim
    | rt r μ2 =>
      refine ⟨r, μ2, ?_, q⟩
      unfold eFn; rw [e1]; dsimp only; rw [e2]
theorem e_fnK {F : FF} : wpE (eFnK F a b) ρ μ Q ↔ wpA a ρ μ fun xs μ1 => wpA b ρ μ1 fun ys μ2 => wpF F (xs ++ ys) μ2 (rtQ Q) := by
  constructor
  · rintro ⟨r, μ', e, q⟩
    unfold eFnK at e
    split at e
    · rename_i xs μ1 e1
      split at e
      · rename_i ys μ2 e2
        split at e
        · rename_i r3 μ3 e3
          cases e
          exact ⟨xs, μ1, e1, ys, μ2, e2, _, e3, q⟩
        · cases e
        · cases e
      · cases e
      · cases e
    · cases e
    · cases e
  · rintro ⟨xs, μ1, e1, ys, μ2, e2, o, e3, q⟩
    cases o with
    | ex _ _ _ => exact q.elim
    | rt r μ2 =>
      refine ⟨r, μ2, ?_, q⟩
      unfold eFnK; rw [e1]; dsimp only; rw [e2]; dsimp only; rw [e3]
theorem e_meth {T : String} {mf : MF} : wpE (eMeth T mf f a) ρ μ Q ↔ wpE f ρ μ fun r μ1 => tyOk T μ1 r = true ∧ wpA a ρ μ1 fun xs μ2 => wpO (mf μ2 r xs) Q := by
  constructor
  · rintro ⟨r, μ', e, q⟩
    unfold eMeth at e
    split at e
    · rename_i r1 μ1 e1
      split at e
      · rename_i t
        split at e
        · rename_i xs μ2 e2
          exact ⟨r1, μ1, e1, t, xs, μ2, e2, r, μ', e, q⟩
        · cases e
        · cases e
      · cases e
    · cases e
    · cases e
  · rintro ⟨r1, μ1, e1, t, xs, μ2, e2, r, μ', e, q⟩
    refine ⟨r, μ', ?_, q⟩
    unfold eMeth; rw [e1]; dsimp only; rw [if_pos t, e2]; exact e
theorem e_sl : wpE (eSl f g h) ρ μ Q ↔ wpE f ρ μ fun r μ1 => wpE g ρ μ1 fun rl μ2 => ∃ l, ixR rl = some l ∧ wpE h ρ μ2 fun rh μ3 => ∃ u, ixR rh = some u ∧ ∃ x, peek μ3 r = some x ∧ wpO (fSl μ3 x l u) Q := by
  constructor
  · rintro ⟨r, μ', e, q⟩
    unfold eSl at e
    split at e
    · rename_i r1 μ1 e1
      split at e
      · rename_i rl μ2 e2
        split at e
        · rename_i l el
          split at e
          · rename_i rh μ3 e3
            split at e
            · rename_i u eu
              split at e
              · rename_i x ex
                exact ⟨r1, μ1, e1, rl, μ2, e2, l, el, rh, μ3, e3, u, eu, x, ex, r, μ', e, q⟩
              · cases e
            · cases e
          · cases e
          · cases e
        · cases e
      · cases e
      · cases e
    · cases e
    · cases e
  · rintro ⟨r1, μ1, e1, rl, μ2, e2, l, el, rh, μ3, e3, u, eu, x, ex, r, μ', e, q⟩
    refine ⟨r, μ', ?_, q⟩
    unfold eSl; rw [e1]; dsimp only; rw [e2]; dsimp only; rw [el]; dsimp only; rw [e3]; dsimp only; rw [eu]; dsimp only; rw [ex]; exact e
theorem e_pNo : wpE pNo ρ μ Q ↔ Q (.d .non) μ := o_ok
theorem e_eI : wpE (eI f) ρ μ Q ↔ wpE f ρ μ fun r μ1 => ∃ i, peek μ1 r = some (.int i) ∧ Q (.d (.int i)) μ1 := by
  constructor
  · rintro ⟨r, μ', e, q⟩
    unfold eI at e
    split at e
    · rename_i r1 μ1 e1
      split at e
      · rename_i i ei
        cases e
        exact ⟨r1, _, e1, i, ei, q⟩
      · cases e
    · cases e
    · cases e
  · rintro ⟨r1, μ1, e1, i, ei, q⟩
    refine ⟨_, _, ?_, q⟩
    unfold eI; rw [e1]; dsimp only; rw [ei]; rfl
theorem e_chain {op op' : OpF} : wpE (eChain op op' f g h) ρ μ Q ↔ wpE f ρ μ fun r μ1 => wpE g ρ μ1 fun r' μ2 => ∃ y, r' = .d y ∧ wpO (op μ2 r (.d y)) fun t μ3 => ∃ c, asB t = some c ∧ (c = true → wpE h ρ μ3 fun r3 μ4 => wpO (op' μ4 (.d y) r3) Q) ∧ (c = false → Q (.d (.bl false)) μ3) := by
  constructor
  · rintro ⟨r, μ', e, q⟩
    unfold eChain at e
    split at e
    · rename_i r1 μ1 e1
      split at e
      · rename_i y μ2 e2
        split at e
        · rename_i r3 μ3 e3
          cases ea : asB r3 with
          | none => rw [ea] at e; cases e
          | some c =>
            rw [ea] at e
            refine ⟨r1, μ1, e1, _, μ2, e2, y, rfl, r3, μ3, e3, c, ea, fun z => ?_, fun z => ?_⟩
            · subst z
              dsimp only at e
              split at e
              · rename_i r4 μ4 e4
                exact ⟨r4, μ4, e4, r, μ', e, q⟩
              · cases e
              · cases e
            · subst z
              cases e
              exact q
        · cases e
      · cases e
      · cases e
    · cases e
    · cases e
  · rintro ⟨r1, μ1, e1, _, μ2, e2, y, rfl, r3, μ3, e3, c, ea, q1, q2⟩
    cases c with
    | true =>
      obtain ⟨r4, μ4, e4, r, μ', e, q⟩ := q1 rfl
      refine ⟨r, μ', ?_, q⟩
      unfold eChain; rw [e1]; dsimp only; rw [e2]; dsimp only; rw [e3]; dsimp only; rw [ea]; dsimp only; rw [e4]; exact e
    | false =>
      refine ⟨_, _, ?_, q2 rfl⟩
      unfold eChain; rw [e1]; dsimp only; rw [e2]; dsimp only; rw [e3]; dsimp only; rw [ea]; rfl
/-! what is walked -/
theorem i_val : wpI (iVal f) ρ μ QI ↔ wpE f ρ μ fun r μ1 => ∃ ds μ2, toVal μ1 r = some (.lst ds, μ2) ∧ QI (kvs ds) μ2 := by
  constructor
  · rintro ⟨xs, μ', e, q⟩
    unfold iVal at e
    split at e
    · rename_i r1 μ1 e1
      split at e
      · rename_i ds μ2 ev
        cases e
        exact ⟨r1, μ1, e1, ds, _, ev, q⟩
      · cases e
    · cases e
    · cases e
  · rintro ⟨r1, μ1, e1, ds, μ2, ev, q⟩
    refine ⟨_, _, ?_, q⟩
    unfold iVal; rw [e1]; dsimp only; rw [ev]
theorem i_valT : wpI (iValT f) ρ μ QI ↔ wpE f ρ μ fun r μ1 => ∃ ds, r = .d (.tup ds) ∧ QI (kvs ds) μ1 := by
  constructor
  · rintro ⟨xs, μ', e, q⟩
    unfold iValT at e
    split at e
    · rename_i ds μ1 e1
      cases e
      exact ⟨_, _, e1, ds, rfl, q⟩
    · cases e
    · cases e
  · rintro ⟨_, μ1, e1, ds, rfl, q⟩
    refine ⟨_, _, ?_, q⟩
    unfold iValT; rw [e1]
theorem i_rng : wpI (iRng a) ρ μ QI ↔ wpA a ρ μ fun xs μ1 => ∃ x, xs = [x] ∧ ∃ j, peekV μ1 x = some (.int j) ∧ (-(2 ^ 62) ≤ j ∧ j < 2 ^ 62) ∧ QI (rngI 0 j.toNat) μ1 := by
  constructor
  · rintro ⟨xs, μ', e, q⟩
    unfold iRng at e
    split at e
    · rename_i x μ1 e1
      split at e
      · rename_i j ej
        split at e
        · rename_i hb
          cases e
          exact ⟨_, _, e1, x, rfl, j, ej, hb, q⟩
        · cases e
      · cases e
    · cases e
    · cases e
  · rintro ⟨_, μ1, e1, x, rfl, j, ej, hb, q⟩
    refine ⟨_, _, ?_, q⟩
    unfold iRng; rw [e1]; dsimp only; rw [ej]; dsimp only; rw [if_pos hb]
theorem i_rngB : wpI (iRngB a) ρ μ QI ↔ wpA a ρ μ fun xs μ1 => ∃ x y, xs = [x, y] ∧ ∃ i j, peekV μ1 x = some (.int i) ∧ peekV μ1 y = some (.int j) ∧ (-(2 ^ 62) ≤ i ∧ i < 2 ^ 62 ∧ -(2 ^ 62) ≤ j ∧ j < 2 ^ 62) ∧ QI (rngI i (j - i).toNat) μ1 := by
  constructor
  · rintro ⟨xs, μ', e, q⟩
    unfold iRngB at e
    split at e
    · rename_i x y μ1 e1
      split at e
      · rename_i i j ei ej
        split at e
        · rename_i hb
          cases e
          exact ⟨_, _, e1, x, y, rfl, i, j, ei, ej, hb, q⟩
        · cases e
      · cases e
    · cases e
    · cases e
  · rintro ⟨_, μ1, e1, x, y, rfl, i, j, ei, ej, hb, q⟩
    refine ⟨_, _, ?_, q⟩
    unfold iRngB; rw [e1]; dsimp only; rw [ei, ej]; dsimp only; rw [if_pos hb]
theorem i_str : wpI (iStrF f) ρ μ QI ↔ wpE f ρ μ fun r μ1 => ∃ x, peek μ1 r = some (.str x) ∧ QI (x.cps.toList.map fun c => .d (.str ⟨#[c]⟩)) μ1 := by
  constructor
  · rintro ⟨xs, μ', e, q⟩
    unfold iStrF at e
    split at e
    · rename_i r1 μ1 e1
      split at e
      · rename_i x ex
        cases e
        exact ⟨r1, _, e1, x, ex, q⟩
      · cases e
    · cases e
    · cases e
  · rintro ⟨r1, μ1, e1, x, ex, q⟩
    refine ⟨_, _, ?_, q⟩
    unfold iStrF; rw [e1]; dsimp only; rw [ex]
theorem e_comp {fi : IF} {t : Tg} {own : List Nat} : wpE (eComp fi t own f g) ρ μ Q ↔ wpI fi ρ μ fun xs μ1 => wpO (compLoop t (wipeE ρ own) f g xs [] μ1) Q := by
  constructor
  · rintro ⟨r, μ', e, q⟩
    unfold eComp at e
    split at e
    · rename_i xs μ1 e1
      exact ⟨xs, μ1, e1, r, μ', e, q⟩
    · cases e
    · cases e
  · rintro ⟨xs, μ1, e1, r, μ', e, q⟩
    refine ⟨r, μ', ?_, q⟩
    unfold eComp; rw [e1]; exact e
/-- a comprehension, by an invariant: what is left, what is made -/
theorem comp_inv {t : Tg} (Inv : List KV → List D → Sto → Prop)
    (step : ∀ x xs acc μ, Inv (x :: xs) acc μ → acc.length < sizeLine ∧ ∃ ρ2, asg t (kvSV x) ρ = some ρ2 ∧ wpE f ρ2 μ fun r μ1 => ∃ c, asB r = some c ∧ (c = true → wpE g ρ2 μ1 fun r2 μ2 => ∃ y μ3, toVal μ2 r2 = some (y, μ3) ∧ Inv xs (acc ++ [y]) μ3) ∧ (c = false → Inv xs acc μ1))
    (fin : ∀ acc μ, Inv [] acc μ → Q (.tmp (.lst acc)) μ) : ∀ (xs : List KV) (acc : List D) (μ : Sto), Inv xs acc μ → wpO (compLoop t ρ f g xs acc μ) Q
  | [], acc, μ, i => ⟨_, _, rfl, fin acc μ i⟩
  | x :: xs, acc, μ, i => by
    obtain ⟨hl, ρ2, ea, r, μ1, e1, c, ec, q1, q2⟩ := step x xs acc μ i
    cases c with
    | false =>
      obtain ⟨r', μ', e, q⟩ := comp_inv Inv step fin xs acc μ1 (q2 rfl)
      refine ⟨r', μ', ?_, q⟩
      unfold compLoop; rw [ea]; dsimp only; rw [e1]; dsimp only; rw [ec]; exact e
    | true =>
      obtain ⟨r2, μ2, e2, y, μ3, e3, i2⟩ := q1 rfl
      obtain ⟨r', μ', e, q⟩ := comp_inv Inv step fin xs (acc ++ [y]) μ3 i2
      refine ⟨r', μ', ?_, q⟩
      unfold compLoop; rw [ea]; dsimp only; rw [e1]; dsimp only; rw [ec]; dsimp only; rw [e2]; dsimp only; rw [e3]; dsimp only; rw [if_pos hl]; exact e
/-! statements -/
def seqQ (F : SF) (Q : SO → Prop) : SO → Prop
  | .nx ρ1 μ1 => wpS F ρ1 μ1 Q
  | o => Q o
theorem s_seq {F F' : SF} (q : wpS F ρ μ (seqQ F' QS)) : wpS (sSeq F F') ρ μ QS := by
  obtain ⟨o, e, q⟩ := q
  cases o with
  | nx ρ1 μ1 =>
    obtain ⟨o2, e2, q2⟩ := (show wpS F' ρ1 μ1 QS from q)
    exact ⟨o2, by unfold sSeq; rw [e]; exact e2, q2⟩
  | rt r ν => exact ⟨_, by unfold sSeq; rw [e], q⟩
  | bk _ _ => exact ⟨_, by unfold sSeq; rw [e], q⟩
  | ct _ _ => exact ⟨_, by unfold sSeq; rw [e], q⟩
  | ex _ _ _ _ => exact ⟨_, by unfold sSeq; rw [e], q⟩
theorem s_nx (q : QS (.nx ρ μ)) : wpS sNx ρ μ QS := ⟨_, rfl, q⟩
theorem s_bk (q : QS (.bk ρ μ)) : wpS sBk ρ μ QS := ⟨_, rfl, q⟩
theorem s_ct (q : QS (.ct ρ μ)) : wpS sCt ρ μ QS := ⟨_, rfl, q⟩
theorem s_then {F : Res → SF} (q : wpE f ρ μ fun r μ1 => wpS (F r) ρ μ1 QS) : wpS (sThen f F) ρ μ QS := by
  obtain ⟨r, μ1, e, o, e2, q⟩ := q
  exact ⟨o, by unfold sThen; rw [e]; exact e2, q⟩
theorem s_set {i : Nat} {m : Md} (q : wpE f ρ μ fun r μ1 => ∃ x μ2, conv μ1 m r = some (x, μ2) ∧ QS (.nx (ρ.set i (some x)) μ2)) : wpS (sSet i m f) ρ μ QS :=
  s_then (q.mono fun r μ1 ⟨x, μ2, e, q⟩ => ⟨_, by dsimp only; rw [e], q⟩)
theorem s_ret (q : wpE f ρ μ fun r μ1 => QS (.rt r μ1)) : wpS (sRet f) ρ μ QS := s_then (q.mono fun r μ1 q => ⟨_, rfl, q⟩)
theorem s_retN (q : QS (.rt (.d .non) μ)) : wpS sRetN ρ μ QS := ⟨_, rfl, q⟩
theorem s_expr (q : wpE f ρ μ fun _ μ1 => QS (.nx ρ μ1)) : wpS (sExpr f) ρ μ QS := s_then (q.mono fun r μ1 q => ⟨_, rfl, q⟩)
theorem s_par {i j : Nat} (q : wpA a ρ μ fun xs μ1 => ∃ x y, xs = [x, y] ∧ QS (.nx ((ρ.set i (some x)).set j (some y)) μ1)) : wpS (sPar i j a) ρ μ QS := by
  obtain ⟨xs, μ1, e, x, y, rfl, q⟩ := q
  exact ⟨_, by unfold sPar; rw [e], q⟩
theorem s_par3 {i j l : Nat} (q : wpA a ρ μ fun xs μ1 => ∃ x y z, xs = [x, y, z] ∧ QS (.nx (((ρ.set i (some x)).set j (some y)).set l (some z)) μ1)) : wpS (sPar3 i j l a) ρ μ QS := by
  obtain ⟨xs, μ1, e, x, y, z, rfl, q⟩ := q
  exact ⟨_, by unfold sPar3; rw [e], q⟩
theorem s_asg {t : Tg} (q : wpE f ρ μ fun r μ1 => ∃ x μ2, convV μ1 r = some (x, μ2) ∧ ∃ ρ', asg t x ρ = some ρ' ∧ QS (.nx ρ' μ2)) : wpS (sAsg t f) ρ μ QS :=
  s_then (q.mono fun r μ1 ⟨x, μ2, e, ρ', ea, q⟩ => ⟨_, by dsimp only; rw [e]; dsimp only; rw [ea], q⟩)
theorem s_if {F F' : SF} (q : wpE f ρ μ fun r μ1 => ∃ c, asB r = some c ∧ (c = true → wpS F ρ μ1 QS) ∧ (c = false → wpS F' ρ μ1 QS)) : wpS (sIf f F F') ρ μ QS := by
  obtain ⟨r, μ1, e, c, ec, q1, q2⟩ := q
  cases c with
  | true =>
    obtain ⟨o, e2, q⟩ := q1 rfl
    exact ⟨o, by unfold sIf; rw [e]; dsimp only; rw [ec]; exact e2, q⟩
  | false =>
    obtain ⟨o, e2, q⟩ := q2 rfl
    exact ⟨o, by unfold sIf; rw [e]; dsimp only; rw [ec]; exact e2, q⟩
theorem s_sub {fe fo fi : EF} (q : wpE fe ρ μ fun r μ0 => ∃ x μ1, toVal μ0 r = some (x, μ1) ∧ wpE fo ρ μ1 fun ro μ2 => ∃ p, plOf ro = some p ∧ wpE fi ρ μ2 fun ri μ3 => ∃ i, peek μ3 ri = some (.int i) ∧ ∃ c, μ3.at p = some c ∧ ∃ c', cellSet c i x = some c' ∧ QS (.nx ρ (μ3.put p c'))) : wpS (sSub fe fo fi) ρ μ QS := by
  refine s_then (q.mono fun r μ0 ⟨x, μ1, e, q⟩ => ?_)
  have : wpS (sThen fo fun ro ρ μ2 => match plOf ro with
    | some p => (sThen fi fun ri ρ μ3 => match peek μ3 ri with
      | some (.int i) => match μ3.at p with
        | some c => match cellSet c i x with
          | some c' => some (.nx ρ (μ3.put p c'))
          | none => none
        | none => none
      | _ => none) ρ μ2
    | none => none) ρ μ1 QS := by
    refine s_then (q.mono fun ro μ2 ⟨p, ep, q⟩ => ?_)
    have : wpS (sThen fi fun ri ρ μ3 => match peek μ3 ri with
      | some (.int i) => match μ3.at p with
        | some c => match cellSet c i x with
          | some c' => some (.nx ρ (μ3.put p c'))
          | none => none
        | none => none
      | _ => none) ρ μ2 QS := by
      refine s_then (q.mono fun ri μ3 ⟨i, ei, c, ec, c', ec', q⟩ => ⟨_, ?_, q⟩)
      dsimp only; rw [ei]; dsimp only; rw [ec]; dsimp only; rw [ec']
    obtain ⟨o, e2, q⟩ := this
    exact ⟨o, by dsimp only; rw [ep]; exact e2, q⟩
  obtain ⟨o, e2, q⟩ := this
  exact ⟨o, by dsimp only; rw [e]; exact e2, q⟩
theorem s_aug {i : Nat} {F : Int → Int → Int} (k : Int) (hk : ρ[i]? = some (some (.d (.int k)))) (q : wpE f ρ μ fun r μ1 => ∃ b, peek μ1 r = some (.int b) ∧ QS (.nx (ρ.set i (some (.d (.int (F k b))))) μ1)) : wpS (sAug i F f) ρ μ QS := by
  obtain ⟨r, μ1, e, b, eb, q⟩ := q
  refine ⟨_, ?_, q⟩
  unfold sAug; rw [hk]; dsimp only; unfold sThen; rw [e]; dsimp only; rw [eb]
theorem s_raise {c : Nat} (q : wpA a ρ μ fun xs μ1 => ∃ x, xs = [.d x] ∧ QS (.ex c x ρ μ1)) : wpS (sRaise c a) ρ μ QS := by
  obtain ⟨xs, μ1, e, x, rfl, q⟩ := q
  exact ⟨_, by unfold sRaise; rw [e], q⟩
def loopQ (I : En → Sto → Prop) (L : Nat) (drop : List Nat) (Q : SO → Prop) : SO → Prop
  | .nx ρ2 μ2 => I (trim L ρ2 drop) (μ2.cut L)
  | .ct ρ2 μ2 => I (trim L ρ2 drop) (μ2.cut L)
  | .bk ρ2 μ2 => Q (.nx ρ2 μ2)
  | o => Q o
/-- a loop, by an invariant: what is left -/
theorem for_inv {t : Tg} {F : SF} {L : Nat} {drop : List Nat} (Inv : List KV → En → Sto → Prop)
    (step : ∀ x xs ρ μ, Inv (x :: xs) ρ μ → ∃ ρ1, asg t (kvSV x) ρ = some ρ1 ∧ wpS F ρ1 μ (loopQ (Inv xs) L drop QS))
    (fin : ∀ ρ μ, Inv [] ρ μ → QS (.nx ρ μ)) : ∀ (xs : List KV) (ρ : En) (μ : Sto), Inv xs ρ μ → ∃ o, forLoop t F L drop xs ρ μ = some o ∧ QS o
  | [], ρ, μ, i => ⟨_, rfl, fin ρ μ i⟩
  | x :: xs, ρ, μ, i => by
    obtain ⟨ρ1, ea, o, e, q⟩ := step x xs ρ μ i
    cases o with
    | nx ρ2 μ2 =>
      obtain ⟨o2, e2, q2⟩ := for_inv Inv step fin xs _ _ (show Inv xs (trim L ρ2 drop) (μ2.cut L) from q)
      exact ⟨o2, by unfold forLoop; rw [ea]; dsimp only; rw [e]; exact e2, q2⟩
    | ct ρ2 μ2 =>
      obtain ⟨o2, e2, q2⟩ := for_inv Inv step fin xs _ _ (show Inv xs (trim L ρ2 drop) (μ2.cut L) from q)
      exact ⟨o2, by unfold forLoop; rw [ea]; dsimp only; rw [e]; exact e2, q2⟩
    | bk ρ2 μ2 => exact ⟨_, by unfold forLoop; rw [ea]; dsimp only; rw [e], q⟩
    | rt _ _ => exact ⟨_, by unfold forLoop; rw [ea]; dsimp only; rw [e], q⟩
    | ex _ _ _ _ => exact ⟨_, by unfold forLoop; rw [ea]; dsimp only; rw [e], q⟩
theorem s_for {fi : IF} {t : Tg} {F : SF} {drop : List Nat} (q : wpI fi ρ μ fun xs μ1 => ∃ o, forLoop t F μ1.m.length drop xs (wipeE ρ drop) μ1 = some o ∧ QS o) : wpS (sFor fi t F drop) ρ μ QS := by
  obtain ⟨xs, μ1, e, o, e2, q⟩ := q
  exact ⟨o, by unfold sFor; rw [e]; exact e2, q⟩
/-- try: what its body comes to -/
def tryQ (i : Nat) (hm : Nat → Option Bool) (F : SF) (Q : SO → Prop) : SO → Prop
  | .ex c x ρ1 μ1 => (hm c = some true ∧ wpS F ((noErr ρ1).set i (some (.err c x))) μ1 fun o => match o with
      | .nx ρ2 μ2 => Q (.nx ((noErr ρ2).set i none) μ2)
      | .rt r μ2 => Q (.rt r μ2)
      | _ => False) ∨ (hm c = some false ∧ Q (.ex c x ρ1 μ1))
  | o => Q o
theorem s_try {i : Nat} {hm : Nat → Option Bool} {F F' : SF} (q : wpS F ρ μ (tryQ i hm F' QS)) : wpS (sTry i hm F F') ρ μ QS := by
  obtain ⟨o, e, q⟩ := q
  cases o with
  | nx _ _ => exact ⟨_, by unfold sTry; rw [e], q⟩
  | rt _ _ => exact ⟨_, by unfold sTry; rw [e], q⟩
  | bk _ _ => exact ⟨_, by unfold sTry; rw [e], q⟩
  | ct _ _ => exact ⟨_, by unfold sTry; rw [e], q⟩
  | ex c x ρ1 μ1 =>
    rcases q with ⟨h, o2, e2, q⟩ | ⟨h, q⟩
    · cases o2 with
      | nx ρ2 μ2 => exact ⟨_, by unfold sTry; rw [e]; dsimp only; rw [h]; dsimp only; rw [e2], q⟩
      | rt _ _ => exact ⟨_, by unfold sTry; rw [e]; dsimp only; rw [h]; dsimp only; rw [e2], q⟩
      | bk _ _ => exact q.elim
      | ct _ _ => exact q.elim
      | ex _ _ _ _ => exact q.elim
    · exact ⟨_, by unfold sTry; rw [e]; dsimp only; rw [h], q⟩
/-- what a def hands back -/
def retQ (L : Nat) (Q : FO → Prop) : SO → Prop
  | .nx _ μ' => Q (.rt (.d .non) (μ'.cut L))
  | .rt r μ' => ∃ r', handR L μ' r = some r' ∧ Q (.rt r' (μ'.cut L))
  | .ex c x _ μ' => Q (.ex c x (μ'.cut L))
  | _ => False
theorem f_def {n : Nat} {F : SF} {xs : List SV} (q : wpS F (xs.map some ++ List.replicate (n - xs.length) none) μ (retQ μ.m.length QF)) : wpF (callF n F) xs μ QF := by
  obtain ⟨o, e, q⟩ := q
  cases o with
  | nx _ _ => exact ⟨_, by unfold callF; rw [e], q⟩
  | rt r μ' =>
    obtain ⟨r', h, q⟩ := q
    exact ⟨_, by unfold callF; rw [e]; dsimp only; rw [h], q⟩
  | ex _ _ _ _ => exact ⟨_, by unfold callF; rw [e], q⟩
  | bk _ _ => exact q.elim
  | ct _ _ => exact q.elim
/-! operators -/
theorem o_op2 {F : Sto → D → D → Option ER} {r r' : Res} : wpO (op2 F μ r r') Q ↔ ∃ x y, peek μ r = some x ∧ peek μ r' = some y ∧ wpO (F μ x y) Q := by
  constructor
  · rintro ⟨s, μ', e, q⟩
    unfold op2 at e
    split at e
    · rename_i x y ex ey
      exact ⟨x, y, ex, ey, s, μ', e, q⟩
    · cases e
  · rintro ⟨x, y, ex, ey, s, μ', e, q⟩
    exact ⟨s, μ', by unfold op2; rw [ex, ey]; exact e, q⟩
theorem o_opI {p : Int → Int → Bool} {F : Int → Int → D} : wpO (fI p F μ (.int i) (.int j)) Q ↔ p i j = true ∧ Q (.d (F i j)) μ := by
  unfold fI
  rw [o_guard, o_okD]
theorem o_addI : wpO (fAdd μ (.int i) (.int j)) Q ↔ Q (.d (.int (i + j))) μ := o_okD
theorem o_addS {u v : Str} : wpO (fAdd μ (.str u) (.str v)) Q ↔ u.length + v.length ≤ sizeLine ∧ Q (.d (.str (u ++ v))) μ := by
  show wpO (guardE _ _) Q ↔ _
  rw [o_guard, o_okD, decide_eq_true_eq]
theorem o_addL {u v : List D} : wpO (fAdd μ (.lst u) (.lst v)) Q ↔ u.length + v.length ≤ sizeLine ∧ Q (.tmp (.lst (u ++ v))) μ := by
  show wpO (guardE _ _) Q ↔ _
  rw [o_guard, o_ok, decide_eq_true_eq]
theorem o_addT {u v : List D} : wpO (fAdd μ (.tup u) (.tup v)) Q ↔ (u.length + v.length ≤ sizeLine ∧ u.isEmpty = false ∧ v.isEmpty = false) ∧ Q (.d (.tup (u ++ v))) μ := by
  show wpO (guardE _ _) Q ↔ _
  rw [o_guard, o_okD, Bool.and_eq_true, Bool.and_eq_true, decide_eq_true_eq]
  simp [and_assoc]
theorem o_mulI : wpO (fMul μ (.int i) (.int j)) Q ↔ pMul i j = true ∧ Q (.d (.int (i * j))) μ := by
  show wpO (guardE _ _) Q ↔ _
  rw [o_guard, o_okD]
theorem o_mulL {u : List D} : wpO (fMul μ (.lst u) (.int j)) Q ↔ (-(2 ^ 63) ≤ j ∧ j < 2 ^ 63 ∧ u.length * j.toNat ≤ sizeLine) ∧ Q (.tmp (.lst (List.replicate j.toNat u).flatten)) μ := by
  show wpO (guardE _ _) Q ↔ _
  rw [o_guard, o_ok, Bool.and_eq_true, Bool.and_eq_true, decide_eq_true_eq, decide_eq_true_eq, decide_eq_true_eq]
  simp only [and_assoc]
end
end DF
/-! DF17: more of what functions come to. -/
namespace DF
open PySem PySem.Spec PyProof.Rows L2
section
variable {ρ : En} {μ ν : Sto} {Q : Res → Sto → Prop} {i j : Int} {x y : D} {ds : List D} {n : Nat}
theorem ix_items {r : Res} (h : itemsOf μ r = some ds) : wpO (opIx μ r (.d (.int i))) Q ↔ ∃ x, atI ds i = some x ∧ Q (.d x) μ := by
  have e : opIx μ r (.d (.int i)) = (match atI ds i with | some x => okD μ x | none => none) := by
    unfold opIx
    dsimp only [peek]
    rw [h]
    try rfl
  rw [e]
  cases q : atI ds i with
  | none => dsimp only; rw [o_none]; simp
  | some x => dsimp only; rw [o_okD]; simp
theorem o_ixD : wpO (opIx μ (.d (.lst ds)) (.d (.int i))) Q ↔ ∃ x, atI ds i = some x ∧ Q (.d x) μ := ix_items rfl
theorem o_ixT : wpO (opIx μ (.d (.tup ds)) (.d (.int i))) Q ↔ ∃ x, atI ds i = some x ∧ Q (.d x) μ := ix_items rfl
theorem o_ixN : wpO (opIx μ (.tmp (.lst ds)) (.d (.int i))) Q ↔ ∃ x, atI ds i = some x ∧ Q (.d x) μ := ix_items rfl
theorem o_ixL (h : itemsOf μ (.loc n) = some ds) : wpO (opIx μ (.loc n) (.d (.int i))) Q ↔ ∃ x, atI ds i = some x ∧ Q (.d x) μ := ix_items h
theorem o_ixS {z : Str} : wpO (opIx μ (.d (.str z)) (.d (.int i))) Q ↔ ∃ c, atI z.cps.toList i = some c ∧ z.length ≤ sizeLine ∧ Q (.d (.str ⟨#[c]⟩)) μ := by
  have e : opIx μ (.d (.str z)) (.d (.int i)) = (match atI z.cps.toList i with | some c => guardE (decide (z.length ≤ sizeLine)) (okD μ (.str ⟨#[c]⟩)) | none => none) := rfl
  rw [e]
  cases q : atI z.cps.toList i with
  | none => dsimp only; rw [o_none]; simp
  | some c => dsimp only; rw [o_guard, o_okD, decide_eq_true_eq]; simp
theorem peek_d : peek μ (.d x) = some x := rfl
theorem peek_tl : peek μ (.tmp (.lst ds)) = some (.lst ds) := rfl
theorem peekV_d : peekV μ (.d x) = some x := rfl
theorem asB_d {c : Bool} : asB (.d (.bl c)) = some c := rfl
theorem conv_d {m : Md} : conv μ m (.d x) = some (.d x, μ) := by cases m <;> rfl
theorem conv_al : conv μ .a (.loc n) = some (.loc n, μ) := rfl
theorem conv_nl : conv μ .n (.loc n) = some (.loc n, μ) := rfl
theorem conv_vt : conv μ .v (.tmp (.lst ds)) = some (.d (.lst ds), μ) := rfl
theorem conv_at : conv μ .a (.tmp (.lst ds)) = some (.d (.lst ds), μ) := rfl
theorem conv_nt {c : Cell} : conv μ .n (.tmp c) = some (.loc μ.m.length, μ.pushM c) := rfl
theorem toVal_d : toVal μ (.d x) = some (x, μ) := rfl
theorem toVal_t : toVal μ (.tmp (.lst ds)) = some (.lst ds, μ) := rfl
theorem convV_d : convV μ (.d x) = some (.d x, μ) := rfl
theorem toDs_nil : toDs [] = some [] := rfl
theorem toDs_cons {xs : List SV} : toDs (.d x :: xs) = (toDs xs).map fun ds => x :: ds := by
  show (match toD (.d x), toDs xs with | some d, some ds => some (d :: ds) | _, _ => none) = _
  cases toDs xs <;> rfl
theorem ca1_d {f : Sto → D → Option ER} : ca1 f μ [.d x] = f μ x := rfl
theorem ca2_d {f : Sto → D → D → Option ER} : ca2 f μ [.d x, .d y] = f μ x y := rfl
theorem plOf_loc : plOf (.loc n) = some (.m n) := rfl
theorem seqQ_nx {F : SF} {QS : SO → Prop} : seqQ F QS (.nx ρ μ) = wpS F ρ μ QS := rfl
theorem seqQ_rt {F : SF} {QS : SO → Prop} {r : Res} : seqQ F QS (.rt r μ) = QS (.rt r μ) := rfl
theorem seqQ_ex {F : SF} {QS : SO → Prop} {c : Nat} : seqQ F QS (.ex c x ρ μ) = QS (.ex c x ρ μ) := rfl
theorem retQ_rt {L : Nat} {QF : FO → Prop} {r : Res} : retQ L QF (.rt r μ) = ∃ r', handR L μ r = some r' ∧ QF (.rt r' (μ.cut L)) := rfl
theorem retQ_ex {L : Nat} {QF : FO → Prop} {c : Nat} : retQ L QF (.ex c x ρ μ) = QF (.ex c x (μ.cut L)) := rfl
theorem rtQ_rt {r : Res} : rtQ Q (.rt r μ) = Q r μ := rfl
theorem handR_d {L : Nat} : handR L μ (.d x) = some (.d x) := rfl
theorem handR_t {L : Nat} {c : Cell} : handR L μ (.tmp c) = some (.tmp c) := rfl
theorem fInt_i : fInt μ (.int i) = okD μ (.int i) := rfl
theorem fInt_b {b : Bool} : fInt μ (.bl b) = okD μ (.int (if b then 1 else 0)) := rfl
theorem fAbs_i : fAbs μ (.int i) = okD μ (.int (if i < 0 then -i else i)) := rfl
theorem fMax_i : fMax μ (.int i) (.int j) = okD μ (.int (if j > i then j else i)) := rfl
theorem fMin_i : fMin μ (.int i) (.int j) = okD μ (.int (if j < i then j else i)) := rfl
theorem cut_id {L : Nat} (h : μ.m.length ≤ L) : μ.cut L = μ := by
  unfold Sto.cut
  rw [List.take_of_length_le h]
theorem put_len {p : Pl} {c : Cell} : (μ.put p c).m.length = μ.m.length := by
  cases p with
  | m n => exact List.length_set
  | k n => rfl
theorem at_lt {c : Cell} (h : μ.at (.m n) = some c) : n < μ.m.length := (List.getElem?_eq_some_iff.mp h).1
theorem items_at (h : μ.at (.m n) = some (.lst ds)) : itemsOf μ (.loc n) = some ds := by
  unfold itemsOf
  dsimp only
  rw [h]
theorem items_ro (h : μ.at (.m n) = some (.ro ds)) : itemsOf μ (.loc n) = some ds := by
  unfold itemsOf
  dsimp only
  rw [h]
theorem atI_0 {α : Type} {a : α} {l : List α} : atI (a :: l) 0 = some a := by
  unfold atI ixN
  rw [if_pos (Int.le_refl 0), if_pos (by rw [List.length_cons]; omega)]
  rfl
theorem atI_1 {α : Type} {a b : α} {l : List α} : atI (a :: b :: l) 1 = some b := by
  unfold atI ixN
  rw [if_pos (by decide), if_pos (by rw [List.length_cons, List.length_cons]; omega)]
  rfl
theorem atI_2 {α : Type} {a b c : α} {l : List α} : atI (a :: b :: c :: l) 2 = some c := by
  unfold atI ixN
  rw [if_pos (by decide), if_pos (by rw [List.length_cons, List.length_cons, List.length_cons]; omega)]
  rfl
theorem atI_3 {α : Type} {a b c d : α} {l : List α} : atI (a :: b :: c :: d :: l) 3 = some d := by
  unfold atI ixN
  rw [if_pos (by decide), if_pos (by rw [List.length_cons, List.length_cons, List.length_cons, List.length_cons]; omega)]
  rfl
theorem atI_of {α : Type} {l : List α} {i : Int} (h0 : 0 ≤ i) (h1 : i < l.length) : ∃ x, atI l i = some x ∧ x ∈ l := by
  unfold atI ixN
  rw [if_pos h0, if_pos h1]
  have : i.toNat < l.length := by omega
  exact ⟨l[i.toNat], List.getElem?_eq_getElem this, List.getElem_mem this⟩
theorem pPow_ok {i j : Int} (n : Nat) (hj : 0 ≤ j) (h : i.natAbs < 2 ^ n) (hn : (n : Int) * j ≤ 2 ^ 27) : pPowB i j = true := by
  have e : Builtin.Int.intBits i ≤ n := by first | exact PySem.Builtin.Int.intBits_le_iff.mpr h | exact intBits_le_iff.mpr h | exact PySem.Spec.intBits_le_iff.mpr h
  unfold pPowB
  rw [Bool.and_eq_true]
  refine ⟨decide_eq_true hj, decide_eq_true (Int.le_trans (Int.mul_le_mul_of_nonneg_right (by omega) hj) hn)⟩
theorem pMul_l {i j : Int} (h0 : -(2 ^ 64) < i) (h1 : i < 2 ^ 64) : pMul i j = true := by
  unfold pMul
  rw [Bool.or_eq_true]
  exact .inl (by rw [Bool.and_eq_true]; exact ⟨decide_eq_true h0, decide_eq_true h1⟩)
theorem pMul_r {i j : Int} (h0 : -(2 ^ 64) < j) (h1 : j < 2 ^ 64) : pMul i j = true := by
  unfold pMul
  rw [Bool.or_eq_true]
  exact .inr (by rw [Bool.and_eq_true]; exact ⟨decide_eq_true h0, decide_eq_true h1⟩)
theorem pDiv_mk {i j : Int} (h0 : 0 < j) (h1 : j < 1073741824) : pDiv i j = true := by
  unfold pDiv
  rw [Bool.and_eq_true]
  exact ⟨decide_eq_true h0, decide_eq_true h1⟩
end
end DF
/-! DF18: the purse's store; texts in bounds. -/
namespace DF
open PySem PySem.Spec PyProof.Rows L2
def pc (a b c : Int) : Cell := .lst [.int a, .int b, .int c]
def Good (a b c : Int) (k : Nat) : Prop := 0 ≤ a ∧ 0 ≤ b ∧ b < 10 ^ 25 ∧ 0 ≤ c ∧ c + k ≤ 2 ^ 40
def Pur (n k : Nat) (μ : Sto) : Prop := ∃ a b c, μ.at (.m n) = some (pc a b c) ∧ Good a b c k
def Pw (n k : Nat) (μ μ' : Sto) : Prop := ∃ a b c, μ' = μ.put (.m n) (pc a b c) ∧ Good a b c k
/-- the store inside of a def: the purse is at n, the def's own objects are L -/
def Sta (n k : Nat) (μ0 : Sto) (L : List Cell) (μ : Sto) : Prop := ∃ a b c, μ = ⟨μ0.m.set n (pc a b c) ++ L, μ0.k⟩ ∧ Good a b c k
section
variable {n k k' : Nat} {μ0 μ μ' : Sto} {L : List Cell}
theorem Pur.lt (h : Pur n k μ) : n < μ.m.length := by
  obtain ⟨a, b, c, e, _⟩ := h
  exact at_lt e
theorem Good.le {a b c : Int} (g : Good a b c k) (h : k' ≤ k) : Good a b c k' := ⟨g.1, g.2.1, g.2.2.1, g.2.2.2.1, by have := g.2.2.2.2; omega⟩
theorem Sta.start (h : Pur n k μ) : Sta n k μ [] μ := by
  obtain ⟨a, b, c, e, g⟩ := h
  refine ⟨a, b, c, ?_, g⟩
  obtain ⟨m, k⟩ := μ
  have e : m[n]? = some (pc a b c) := e
  have : m.set n (pc a b c) = m := by
    apply List.ext_getElem?
    intro i
    rw [List.getElem?_set]
    split
    · rename_i hi
      subst hi
      split
      · exact e.symm
      · rename_i hl
        rw [List.getElem?_eq_none (Nat.le_of_not_lt hl)] at e; cases e
    · rfl
  rw [List.append_nil]
  show Sto.mk m k = Sto.mk (m.set n (pc a b c)) k
  rw [this]
theorem Sta.le (h : Sta n k μ0 L μ) (hk : k' ≤ k) : Sta n k' μ0 L μ := by
  obtain ⟨a, b, c, e, g⟩ := h
  exact ⟨a, b, c, e, g.le hk⟩
theorem Sta.len (h : Sta n k μ0 L μ) : μ.m.length = μ0.m.length + L.length := by
  obtain ⟨a, b, c, rfl, g⟩ := h
  show (μ0.m.set n (pc a b c) ++ L).length = _
  rw [List.length_append, List.length_set]
theorem Sta.pur (h : Sta n k μ0 L μ) (hn : n < μ0.m.length) : Pur n k μ := by
  obtain ⟨a, b, c, rfl, g⟩ := h
  refine ⟨a, b, c, ?_, g⟩
  show (μ0.m.set n (pc a b c) ++ L)[n]? = _
  rw [List.getElem?_append_left (by rw [List.length_set]; exact hn), List.getElem?_set_self hn]
theorem Sta.pw (h : Sta n k μ0 L μ) (hn : n < μ0.m.length) (w : Pw n k' μ μ') : Sta n k' μ0 L μ' := by
  obtain ⟨a, b, c, rfl, g⟩ := h
  obtain ⟨a', b', c', rfl, g'⟩ := w
  refine ⟨a', b', c', ?_, g'⟩
  show Sto.mk ((μ0.m.set n (pc a b c) ++ L).set n (pc a' b' c')) μ0.k = _
  rw [List.set_append_left _ _ (by rw [List.length_set]; exact hn), List.set_set]
theorem Sta.push (h : Sta n k μ0 L μ) (c : Cell) : Sta n k μ0 (L ++ [c]) (μ.pushM c) := by
  obtain ⟨a, b, d, rfl, g⟩ := h
  refine ⟨a, b, d, ?_, g⟩
  show Sto.mk ((μ0.m.set n (pc a b d) ++ L) ++ [c]) μ0.k = _
  rw [List.append_assoc]
theorem Sta.at (h : Sta n k μ0 L μ) {j : Nat} {c : Cell} (e : L[j]? = some c) : μ.at (.m (μ0.m.length + j)) = some c := by
  obtain ⟨a, b, d, rfl, g⟩ := h
  show (μ0.m.set n (pc a b d) ++ L)[μ0.m.length + j]? = _
  rw [List.getElem?_append_right (by rw [List.length_set]; exact Nat.le_add_right _ _), List.length_set, Nat.add_sub_cancel_left]
  exact e
theorem Sta.put (h : Sta n k μ0 L μ) {j : Nat} (c : Cell) : Sta n k μ0 (L.set j c) (μ.put (.m (μ0.m.length + j)) c) := by
  obtain ⟨a, b, d, rfl, g⟩ := h
  refine ⟨a, b, d, ?_, g⟩
  show Sto.mk ((μ0.m.set n (pc a b d) ++ L).set (μ0.m.length + j) c) μ0.k = _
  rw [List.set_append_right _ _ (by rw [List.length_set]; exact Nat.le_add_right _ _), List.length_set, Nat.add_sub_cancel_left]
theorem Sta.cut (h : Sta n k μ0 L μ) (l : Nat) : Sta n k μ0 (L.take l) (μ.cut (μ0.m.length + l)) := by
  obtain ⟨a, b, d, rfl, g⟩ := h
  refine ⟨a, b, d, ?_, g⟩
  show Sto.mk ((μ0.m.set n (pc a b d) ++ L).take (μ0.m.length + l)) μ0.k = _
  rw [List.take_append, List.take_of_length_le (by rw [List.length_set]; exact Nat.le_add_right _ _), List.length_set, Nat.add_sub_cancel_left]
theorem Sta.out (h : Sta n k μ0 L μ) : Pw n k μ0 (μ.cut μ0.m.length) := by
  obtain ⟨a, b, c, e, g⟩ := h.cut 0
  exact ⟨a, b, c, by rw [Nat.add_zero] at e; rw [e]; show Sto.mk (μ0.m.set n (pc a b c) ++ List.take 0 L) μ0.k = Sto.mk _ _; rw [List.take_zero, List.append_nil], g⟩
theorem Sta.same (h : Sta n k μ0 L μ) {l : Nat} (hl : L.length ≤ l) : Sta n k μ0 L (μ.cut (μ0.m.length + l)) := by
  have := h.cut l
  rw [List.take_of_length_le hl] at this
  exact this
theorem Pw.trans {μ'' : Sto} (w : Pw n k μ μ') (w' : Pw n k' μ' μ'') : Pw n k' μ μ'' := by
  obtain ⟨a, b, c, rfl, g⟩ := w
  obtain ⟨a', b', c', rfl, g'⟩ := w'
  exact ⟨a', b', c', Sto.put_put, g'⟩
theorem Pw.pur (hn : n < μ.m.length) (w : Pw n k μ μ') : Pur n k μ' := by
  obtain ⟨a, b, c, rfl, g⟩ := w
  refine ⟨a, b, c, ?_, g⟩
  show (μ.m.set n (pc a b c))[n]? = _
  rw [List.getElem?_set_self hn]
end
/-! ### texts -/
def Sx (N : Nat) (x : Str) : Prop := x.length ≤ N ∧ strOk x
theorem okB_of {x : Str} (h : strOk x) : okB x = true := List.all_eq_true.mpr fun c hc => decide_eq_true (h c hc)
theorem len_app (x y : Str) : (x ++ y).length = x.length + y.length := Array.size_append
theorem Sx.app {N M : Nat} {x y : Str} (h : Sx N x) (h' : Sx M y) : Sx (N + M) (x ++ y) := ⟨by rw [len_app]; exact Nat.add_le_add h.1 h'.1, strOk_app h.2 h'.2⟩
theorem Sx.le {N M : Nat} {x : Str} (h : Sx N x) (l : N ≤ M) : Sx M x := ⟨Nat.le_trans h.1 l, h.2⟩
theorem len_cut (z : Str) (lo hi : Option Int) : (cutS z lo hi).length ≤ z.length := by
  unfold cutS
  show (List.toArray _).size ≤ z.cps.size
  rw [List.size_toArray, List.length_take, List.length_drop, Array.length_toList]
  omega
theorem len_cut_hi (z : Str) (i : Int) (h : 0 ≤ i) : (cutS z none (some i)).length ≤ i.toNat := by
  unfold cutS
  show (List.toArray _).size ≤ _
  rw [List.size_toArray, List.length_take]
  have : HT.sIx z.length z.length (some i) = min i.toNat z.length := by
    show (if i < 0 then (i + (z.length : Int)).toNat else min i.toNat z.length) = _
    rw [if_neg (by omega)]
  rw [this]
  omega
theorem Sx.cut {N : Nat} {x : Str} (h : Sx N x) (lo hi : Option Int) : Sx N (cutS x lo hi) := ⟨Nat.le_trans (len_cut x lo hi) h.1, cutS_ok h.2 lo hi⟩
theorem Sx.one {x : Str} {c : Nat} (h : strOk x) (hc : c ∈ x.cps.toList) : Sx 1 ⟨#[c]⟩ := ⟨Nat.le_refl _, strOk_one h hc⟩
theorem len_join (a : Str) : ∀ ps : List Str, (Txt.join a ps).length ≤ (ps.map (·.length)).sum + ps.length * a.length := by
  intro ps
  have key : ∀ ps : List Str, (Str.join a ps).length ≤ (ps.map (·.length)).sum + ps.length * a.length := by
    intro ps
    induction ps with
    | nil => exact Nat.zero_le _
    | cons p r ih =>
      cases r with
      | nil =>
        show p.length ≤ _
        simp
      | cons q r =>
        show (p ++ a ++ Str.join a (q :: r)).length ≤ _
        rw [len_app, len_app, List.map_cons, List.sum_cons, List.length_cons, Nat.add_mul]
        omega
  have e : Txt.join a ps = Str.join a ps := by
    unfold Txt.join
    rw [PySem.StrLaws.glued_eq_join]
  rw [e]
  exact key ps
theorem sum_le {N : Nat} : ∀ {ps : List Str}, (∀ p ∈ ps, p.length ≤ N) → (ps.map (·.length)).sum ≤ ps.length * N
  | [], _ => Nat.zero_le _
  | p :: r, h => by
    rw [List.map_cons, List.sum_cons, List.length_cons, Nat.add_mul, Nat.one_mul, Nat.add_comm]
    exact Nat.add_le_add (sum_le fun q hq => h q (List.mem_cons_of_mem _ hq)) (h p List.mem_cons_self)
theorem Sx.join {N A : Nat} {a : Str} {ps : List Str} (ha : Sx A a) (h : ∀ p ∈ ps, Sx N p) : Sx (ps.length * (N + A)) (Txt.join a ps) := by
  refine ⟨Nat.le_trans (len_join a ps) ?_, strOk_join ha.2 fun p hp => (h p hp).2⟩
  rw [Nat.mul_add]
  exact Nat.add_le_add (sum_le fun p hp => (h p hp).1) (Nat.mul_le_mul_left _ ha.1)
theorem Sx.lit {N : Nat} {x : Str} (h : (decide (x.length ≤ N) && okB x) = true) : Sx N x := by
  rw [Bool.and_eq_true] at h
  exact ⟨of_decide_eq_true h.1, strOk_of h.2⟩
theorem strsOf_map : ∀ xs : List Str, strsOf (xs.map D.str) = some xs
  | [] => rfl
  | x :: r => by
    show (match strsOf (r.map D.str) with | some xs => some (x :: xs) | none => none) = _
    rw [strsOf_map r]
theorem small_line {n : Nat} (h : n ≤ 16777216) : n ≤ sizeLine := by rw [sizeLine_eq]; exact h
section
variable {ρ : En} {μ ν : Sto} {Q : Res → Sto → Prop} {i j : Int} {x y : D} {ds es : List D} {n : Nat} {z w : Str}
theorem tyOk_str : tyOk "str" μ (.d (.str z)) = true := rfl
theorem tyOk_at (h : μ.at (.m n) = some (.lst ds)) : tyOk "list" μ (.loc n) = true := by
  have : peek μ (.loc n) = some (.lst ds) := by
    show peekC μ (.m n) = _
    unfold peekC
    rw [h]
    rfl
  unfold tyOk
  rw [this]
  rfl
theorem peek_at (h : μ.at (.m n) = some (.lst ds)) : peek μ (.loc n) = some (.lst ds) := by
  show peekC μ (.m n) = _
  unfold peekC
  rw [h]
  rfl
theorem peekV_at (h : μ.at (.m n) = some (.lst ds)) : peekV μ (.loc n) = some (.lst ds) := peek_at h
theorem o_append (h : μ.at (.m n) = some (.lst ds)) (hl : ds.length < sizeLine) : wpO (mAppend μ (.loc n) [.d x]) Q ↔ Q (.d .non) (μ.put (.m n) (.lst (ds ++ [x]))) := by
  have e : mAppend μ (.loc n) [.d x] = some (.ok (.d .non) (μ.put (.m n) (.lst (ds ++ [x])))) := by
    unfold mAppend
    dsimp only [plOf]
    rw [h]
    show (match cellApp (.lst ds) (.d x) with | some c' => some (ER.ok (.d .non) (μ.put (.m n) c')) | none => none) = _
    unfold cellApp cellApp.guardC
    dsimp only
    rw [if_pos (decide_eq_true hl)]
  rw [e, o_ok]
theorem mStr1_d {h : Sto → Str → D → Option ER} : mStr1 h μ (.d (.str z)) [.d y] = h μ z y := rfl
theorem o_join {xs : List Str} : wpO (hJoin μ z (.lst (xs.map D.str))) Q ↔ ((xs.map (·.length)).sum + xs.length * z.length ≤ 16777216) ∧ Q (.d (.str (Txt.join z xs))) μ := by
  have e : hJoin μ z (.lst (xs.map D.str)) = guardE (decide ((xs.map (·.length)).sum + xs.length * z.length ≤ 16777216)) (okD μ (.str (Txt.join z xs))) := by
    unfold hJoin
    dsimp only
    rw [strsOf_map]
  rw [e, o_guard, o_okD, decide_eq_true_eq]
theorem o_joinT {xs : List Str} : wpO (hJoin μ z (.tup (xs.map D.str))) Q ↔ ((xs.map (·.length)).sum + xs.length * z.length ≤ 16777216) ∧ Q (.d (.str (Txt.join z xs))) μ := by
  have e : hJoin μ z (.tup (xs.map D.str)) = guardE (decide ((xs.map (·.length)).sum + xs.length * z.length ≤ 16777216)) (okD μ (.str (Txt.join z xs))) := by
    unfold hJoin
    dsimp only
    rw [strsOf_map]
  rw [e, o_guard, o_okD, decide_eq_true_eq]
theorem o_split : wpO (hSplit μ z (.str w)) Q ↔ ((w.length == 0) = false ∧ z.length + 2 ≤ sizeLine) ∧ Q (.tmp (.lst ((Txt.split z w).map D.str))) μ := by
  show wpO (guardE _ _) Q ↔ _
  rw [o_guard, o_ok, Bool.and_eq_true, decide_eq_true_eq, Bool.not_eq_true']
theorem caLen_d : caLen μ [.d x] = fLen μ x := rfl
theorem fLen_l : fLen μ (.lst ds) = okD μ (.int ds.length) := rfl
theorem fLen_t : fLen μ (.tup ds) = okD μ (.int ds.length) := rfl
theorem o_lenS : wpO (fLen μ (.str z)) Q ↔ z.length ≤ sizeLine ∧ Q (.d (.int z.length)) μ := by
  show wpO (guardE _ _) Q ↔ _
  rw [o_guard, o_okD, decide_eq_true_eq]
theorem caLen_at (h : μ.at (.m n) = some (.lst ds)) : caLen μ [.loc n] = okD μ (.int ds.length) := by
  unfold caLen
  dsimp only
  rw [peekV_at h]
  rfl
theorem caLen_ro (h : μ.at (.m n) = some (.ro ds)) : caLen μ [.loc n] = okD μ (.int ds.length) := by
  have : peekV μ (.loc n) = none := by
    show peekC μ (.m n) = _
    unfold peekC
    rw [h]
    rfl
  unfold caLen
  dsimp only
  rw [this]
  dsimp only
  rw [h]
theorem o_slS {lo hi : Option Int} : wpO (fSl μ (.str z) lo hi) Q ↔ z.length ≤ sizeLine ∧ Q (.d (.str (cutS z lo hi))) μ := by
  show wpO (guardE _ _) Q ↔ _
  rw [o_guard, o_okD, decide_eq_true_eq]
theorem o_slL {lo hi : Option Int} : wpO (fSl μ (.lst ds) lo hi) Q ↔ Q (.tmp (.lst (cutL ds lo hi))) μ := o_ok
theorem ixR_n : ixR (.d .non) = some none := rfl
theorem ixR_i : ixR (.d (.int i)) = some (some i) := rfl
def D.eqs (xs ys : List D) : Bool := PyData.eqvAll (toPs xs) (toPs ys)
theorem D.eq_int : D.eq (.int i) (.int j) = decide (i = j) := by
  unfold D.eq
  rw [toP, toP, PyData.eqv]
  rfl
theorem D.eq_str : D.eq (.str z) (.str w) = decide (z = w) := by
  unfold D.eq
  rw [toP, toP, PyData.eqv]
  rfl
theorem D.eq_lst : D.eq (.lst ds) (.lst es) = D.eqs ds es := by
  unfold D.eq D.eqs
  rw [toP, toP, PyData.eqv]
theorem D.eq_tup : D.eq (.tup ds) (.tup es) = D.eqs ds es := by
  unfold D.eq D.eqs
  rw [toP, toP, PyData.eqv]
theorem D.eqs_nil : D.eqs [] [] = true := by
  unfold D.eqs
  rw [toPs, PyData.eqvAll]
theorem D.eqs_cons : D.eqs (x :: ds) (y :: es) = (D.eq x y && D.eqs ds es) := by
  unfold D.eq D.eqs
  rw [toPs, toPs, PyData.eqvAll]
theorem D.eqs_nc : D.eqs [] (y :: es) = false := by
  unfold D.eqs
  rw [toPs, toPs, PyData.eqvAll]
theorem D.eqs_cn : D.eqs (x :: ds) [] = false := by
  unfold D.eqs
  rw [toPs, toPs, PyData.eqvAll]
mutual
theorem D.eq_refl : ∀ d : D, noObj d = true → D.eq d d = true
  | .non, _ => by unfold D.eq; rw [toP, PyData.eqv]
  | .bl b, _ => by unfold D.eq; rw [toP, PyData.eqv]; exact beq_self_eq_true b
  | .int i, _ => by rw [D.eq_int]; exact decide_eq_true rfl
  | .str z, _ => by rw [D.eq_str]; exact decide_eq_true rfl
  | .lst ds, h => by rw [D.eq_lst]; exact D.eqs_refl ds (by rw [noObj] at h; exact h)
  | .tup ds, h => by rw [D.eq_tup]; exact D.eqs_refl ds (by rw [noObj] at h; exact h)
  | .dic _ _, h => by rw [noObj] at h; cases h
  | .obj _ _ _, h => by rw [noObj] at h; cases h
theorem D.eqs_refl : ∀ ds : List D, noObjs ds = true → D.eqs ds ds = true
  | [], _ => D.eqs_nil
  | d :: ds, h => by
    rw [noObjs, Bool.and_eq_true] at h
    rw [D.eqs_cons, D.eq_refl d h.1, D.eqs_refl ds h.2]
    rfl
end
theorem o_eqI {neg : Bool} : wpO (fEq neg μ (.int i) (.int j)) Q ↔ Q (.d (.bl (if neg then !decide (i = j) else decide (i = j)))) μ := by
  unfold fEq
  rw [o_guard, o_okD, D.eq_int]
  simp [noObj, dep]
theorem o_eq {neg : Bool} : wpO (fEq neg μ x y) Q ↔ (noObj x = true ∧ noObj y = true ∧ min (dep x) (dep y) ≤ 64) ∧ Q (.d (.bl (if neg then !D.eq x y else D.eq x y))) μ := by
  unfold fEq
  rw [o_guard, o_okD, Bool.and_eq_true, Bool.and_eq_true, decide_eq_true_eq]
  simp only [and_assoc]
theorem o_eqL {neg : Bool} : wpO (fEq neg μ (.lst ds) y) Q ↔ (noObj (.lst ds) = true ∧ noObj y = true ∧ min (dep (.lst ds)) (dep y) ≤ 64) ∧ Q (.d (.bl (if neg then !D.eq (.lst ds) y else D.eq (.lst ds) y))) μ := o_eq
theorem o_eqT {neg : Bool} : wpO (fEq neg μ (.tup ds) y) Q ↔ (noObj (.tup ds) = true ∧ noObj y = true ∧ min (dep (.tup ds)) (dep y) ≤ 64) ∧ Q (.d (.bl (if neg then !D.eq (.tup ds) y else D.eq (.tup ds) y))) μ := o_eq
theorem o_inT {neg : Bool} : wpO (fIn neg μ x (.tup ds)) Q ↔ (noObj x = true ∧ noObjs ds = true ∧ min (deps ds) (dep x) ≤ 64) ∧ Q (.d (.bl (if neg then !ds.any fun z => D.eq z x else ds.any fun z => D.eq z x))) μ := by
  show wpO (guardE _ _) Q ↔ _
  rw [o_guard, o_okD, Bool.and_eq_true, Bool.and_eq_true, decide_eq_true_eq]
  simp only [and_assoc]
theorem o_inL {neg : Bool} : wpO (fIn neg μ x (.lst ds)) Q ↔ (noObj x = true ∧ noObjs ds = true ∧ min (deps ds) (dep x) ≤ 64) ∧ Q (.d (.bl (if neg then !ds.any fun z => D.eq z x else ds.any fun z => D.eq z x))) μ := o_inT
theorem o_inC {neg : Bool} {c : Nat} : wpO (fIn neg μ (.str ⟨#[c]⟩) (.str z)) Q ↔ Q (.d (.bl (if neg then !decide (c ∈ z.cps.toList) else decide (c ∈ z.cps.toList)))) μ := o_okD
theorem noObjs_strs : ∀ xs : List Str, noObjs (xs.map D.str) = true
  | [] => rfl
  | x :: r => by rw [List.map_cons, noObjs, noObjs_strs r]; rfl
theorem deps_strs : ∀ xs : List Str, deps (xs.map D.str) = 0
  | [] => rfl
  | x :: r => by rw [List.map_cons, deps, deps_strs r]; rfl
theorem asg_nm {i : Nat} {v : SV} : asg (.nm i) v ρ = some (ρ.set i (some v)) := by rw [asg]
theorem asg_tp2 {i j : Nat} : asg (.tp (.cons (.nm i) (.cons (.nm j) .nil))) (.d (.tup [x, y])) ρ = some ((ρ.set i (some (.d x))).set j (some (.d y))) := by simp [asg, asgs, Tgs.len]
theorem asg_tp3 {i j k : Nat} {z : D} : asg (.tp (.cons (.nm i) (.cons (.nm j) (.cons (.nm k) .nil)))) (.d (.tup [x, y, z])) ρ = some (((ρ.set i (some (.d x))).set j (some (.d y))).set k (some (.d z))) := by simp [asg, asgs, Tgs.len]
theorem kvSV_d : kvSV (.d x) = .d x := rfl
def tm (l : Nat) : Option SV → Option SV
  | some (.loc n) => if n < l then some (.loc n) else none
  | x => x
theorem trim_eq {l : Nat} {dr : List Nat} : trim l ρ dr = wipeE (ρ.map (tm l)) dr := by
  unfold trim
  congr 1
theorem tm_none {l : Nat} : tm l none = none := rfl
theorem tm_d {l : Nat} : tm l (some (.d x)) = some (.d x) := rfl
theorem tm_o {l : Nat} {o : Option D} : tm l (o.map SV.d) = o.map SV.d := by cases o <;> rfl
theorem tm_loc {l : Nat} (h : n < l) : tm l (some (.loc n)) = some (.loc n) := if_pos h
def kvD : KV → D
  | .d d => d
  | .obj _ => .non
theorem kvD_kvs : ∀ ds : List D, (kvs ds).map kvD = ds
  | [] => rfl
  | d :: ds => by
    show kvD (.d d) :: (kvs ds).map kvD = _
    rw [kvD_kvs ds]; rfl
/-- a comprehension that leaves the store as it is -/
theorem map_comp {t : Nat} {fe : EF} (xs : List KV) (F : KV → D) (hl : xs.length ≤ 1000000) (he : ∀ x ∈ xs, ∀ R : Res → Sto → Prop, (∀ r, toVal μ r = some (F x, μ) → R r μ) → wpE fe (ρ.set t (some (kvSV x))) μ R)
    (q : Q (.tmp (.lst (xs.map F))) μ) : wpO (compLoop (.nm t) ρ (eB true) fe xs [] μ) Q := by
  refine comp_inv (fun zs acc ν => ν = μ ∧ ∃ ys, xs = ys ++ zs ∧ acc = ys.map F) ?_ ?_ xs [] μ ⟨rfl, [], rfl, rfl⟩
  · rintro x zs acc ν ⟨rfl, ys, e, rfl⟩
    have hle : ys.length < 1000001 := by rw [e, List.length_append] at hl; omega
    refine ⟨by rw [List.length_map]; exact Nat.lt_of_lt_of_le hle (small_line (by decide)), _, asg_nm, ?_⟩
    simp only [e_eB, asB_d, Option.some.injEq, exists_eq_left', forall_const, Bool.true_eq_false, false_imp_iff, and_true]
    exact he x (by rw [e]; exact List.mem_append_right _ List.mem_cons_self) _ fun r hr => ⟨_, _, hr, rfl, ys ++ [x], by rw [e, List.append_assoc]; rfl, by rw [List.map_append]; rfl⟩
  · rintro acc ν ⟨rfl, ys, e, rfl⟩
    rw [List.append_nil] at e
    subst e
    exact q
/-- a comprehension with a test that leaves the store as it is -/
theorem filter_comp {t : Nat} {ft fe : EF} (xs : List KV) (P : KV → Bool) (F : KV → D) (hl : xs.length ≤ 1000000) (ht : ∀ x ∈ xs, ∀ R : Res → Sto → Prop, R (.d (.bl (P x))) μ → wpE ft (ρ.set t (some (kvSV x))) μ R)
    (he : ∀ x ∈ xs, P x = true → ∀ R : Res → Sto → Prop, (∀ r, toVal μ r = some (F x, μ) → R r μ) → wpE fe (ρ.set t (some (kvSV x))) μ R)
    (q : Q (.tmp (.lst ((xs.filter P).map F))) μ) : wpO (compLoop (.nm t) ρ ft fe xs [] μ) Q := by
  refine comp_inv (fun zs acc ν => ν = μ ∧ ∃ ys, xs = ys ++ zs ∧ acc = (ys.filter P).map F) ?_ ?_ xs [] μ ⟨rfl, [], rfl, rfl⟩
  · rintro x zs acc ν ⟨rfl, ys, e, rfl⟩
    have hle : ys.length < 1000001 := by rw [e, List.length_append] at hl; omega
    have hx : x ∈ xs := by rw [e]; exact List.mem_append_right _ List.mem_cons_self
    refine ⟨by rw [List.length_map]; exact Nat.lt_of_le_of_lt (List.length_filter_le _ _) (Nat.lt_of_lt_of_le hle (small_line (by decide))), _, asg_nm, ?_⟩
    refine ht x hx _ ⟨_, rfl, fun hp => ?_, fun hp => ⟨rfl, ys ++ [x], by rw [e, List.append_assoc]; rfl, ?_⟩⟩
    · refine he x hx hp _ fun r hr => ⟨_, _, hr, rfl, ys ++ [x], by rw [e, List.append_assoc]; rfl, ?_⟩
      rw [List.filter_append, List.map_append, List.filter_cons_of_pos hp]
      rfl
    · rw [List.filter_append, List.filter_cons_of_neg (by rw [hp]; decide), List.filter_nil, List.append_nil]
  · rintro acc ν ⟨rfl, ys, e, rfl⟩
    rw [List.append_nil] at e
    subst e
    exact q
theorem o_uniq {r : Res} : wpO (fUniq μ r) Q ↔ ∃ xs : List Str, peek μ r = some (.lst (xs.map D.str)) ∧ xs.length + 1 < scanBound ∧ Q (.d (.int (uniq xs).length)) μ := by
  constructor
  · rintro ⟨s, μ', e, q⟩
    unfold fUniq at e
    split at e
    · rename_i ds ed
      split at e
      · rename_i xs ex
        obtain ⟨c, e⟩ := guardE_of e
        cases e
        have : ds = xs.map D.str := by
          clear ed c q e
          induction ds generalizing xs with
          | nil => cases ex; rfl
          | cons d r ih =>
            cases d with
            | str x =>
              unfold strsOf at ex
              cases er : strsOf r with
              | none => rw [er] at ex; cases ex
              | some ys => rw [er] at ex; cases ex; rw [List.map_cons, ← ih ys er]
            | _ => cases ex
        rw [this] at ed
        exact ⟨xs, ed, of_decide_eq_true c, q⟩
      · cases e
    · cases e
  · rintro ⟨xs, ed, c, q⟩
    refine ⟨_, _, ?_, q⟩
    unfold fUniq
    rw [ed]
    dsimp only
    rw [strsOf_map]
    dsimp only
    unfold guardE
    rw [if_pos (decide_eq_true c)]
    rfl
theorem rngI_len {lo : Int} {m : Nat} : (rngI lo m).length = m := by unfold rngI; simp
end
end DF
namespace DF
open PySem PySem.Spec PyProof.Rows L2
def c_LETTERS : EF := eC (.str "abcdefghijklmnopqrstuvwxyz")
def hm_WorthError : Nat → Option Bool := fun c => if c = 0 then some true else none
def is_InvalidDeed_InvalidName : Nat → Option Bool := fun c => if c = 0 then some false else none
def is_Unreadable : Nat → Option Bool := fun c => if c = 0 then some true else none
def g__law_purse_2 : SF := sRet (eLst (aCons .v (eCall (ca2 fMax) (aCons .a (eC (.int 0)) (aCons .a (eBin opSub (eCall (ca1 fAbs) (aCons .a (eVar 2) (aNil))) (eBin opPowB (eC (.int 10)) (eC (.int 18)))) (aNil)))) (aCons .v (eBin opMod (eCall (ca1 fInt) (aCons .a (eBin (op2 fAdd) (eBin (op2 fAdd) (eBin (op2 fMul) (eVar 2) (eC (.int 30011))) (eBin (op2 fMul) (eVar 1) (eC (.int 7368787)))) (eC (.int 104729))) (aNil))) (eBin (op2 fAdd) (eBin opPowB (eC (.int 10)) (eC (.int 24))) (eC (.int 7)))) (aCons .v (eC (.int 0)) (aNil)))))
def g__law_purse : SF := sSeq (sSet 2 .v (eIf (eBin opLt (eVar 1) (eCall caLen (aCons .a (eVar 0) (aNil)))) (eBin opIx (eVar 0) (eVar 1)) (eC (.int 0)))) g__law_purse_2
def f__law_purse : FF := callF 3 g__law_purse
def g__law_coin_b2_3 : SF := sRet (eVar 3)
def g__law_coin_b2_2 : SF := sSeq (sSub (eBin opFdiv (eBin opIx (eVar 0) (eC (.int 0))) (eVar 1)) (eVar 0) (eC (.int 0))) g__law_coin_b2_3
def g__law_coin_b2_1 : SF := sSeq (sSet 3 .v (eBin opMod (eCall (ca1 fInt) (aCons .a (eBin opIx (eVar 0) (eC (.int 0))) (aNil))) (eVar 1))) g__law_coin_b2_2
def g__law_coin_5 : SF := sRet (eBin opMod (eCall (ca1 fInt) (aCons .a (eBin opFdiv (eVar 2) (eC (.int 1024))) (aNil))) (eVar 1))
def g__law_coin_4 : SF := sSeq (sSet 2 .v (eBin opMod (eBin opPowB (eCall (ca1 fInt) (aCons .a (eBin (op2 fAdd) (eVar 2) (eBin (op2 fMul) (eC (.int 982451653)) (eBin opIx (eVar 0) (eC (.int 2))))) (aNil))) (eC (.int 2))) (eBin (op2 fAdd) (eBin opPowB (eC (.int 10)) (eC (.int 24))) (eC (.int 7))))) g__law_coin_5
def g__law_coin_3 : SF := sSeq (sSet 2 .v (eBin opMod (eBin opPowB (eCall (ca1 fInt) (aCons .a (eBin (op2 fAdd) (eBin opIx (eVar 0) (eC (.int 1))) (eBin (op2 fMul) (eC (.int 2038074743)) (eBin opIx (eVar 0) (eC (.int 2))))) (aNil))) (eC (.int 3))) (eBin (op2 fAdd) (eBin opPowB (eC (.int 10)) (eC (.int 25))) (eC (.int 13))))) g__law_coin_4
def g__law_coin_2 : SF := sSeq (sSub (eBin (op2 fAdd) (eBin opIx (eVar 0) (eC (.int 2))) (eC (.int 1))) (eVar 0) (eC (.int 2))) g__law_coin_3
def g__law_coin : SF := sSeq (sIf (eBin opGt (eBin opIx (eVar 0) (eC (.int 0))) (eC (.int 0))) (g__law_coin_b2_1) (sNx)) g__law_coin_2
def f__law_coin : FF := callF 4 g__law_coin
def g__law_words_b2_2 : SF := sRet (eComp (iRng (aCons .a (eVar 1) (aNil))) (.nm 5) [5] (eB true) (eBin opIx (eVar 2) (eBin opMod (eCall (ca1 fInt) (aCons .a (eBin (op2 fAdd) (eVar 8) (eBin (op2 fMul) (eC (.int 3)) (eVar 5))) (aNil))) (eC (.int 14)))))
def g__law_words_b2_1 : SF := sSeq (sSet 8 .v (eFn f__law_coin (aCons .a (eVar 0) (aCons .a (eC (.int 14)) (aNil))))) g__law_words_b2_2
def g__law_words_b3_2 : SF := sRet (eComp (iRng (aCons .a (eVar 1) (aNil))) (.nm 5) [5] (eB true) (eSl (eVar 3) (pNo) (eI (eBin (op2 fAdd) (eBin (op2 fAdd) (eVar 8) (eVar 5)) (eC (.int 1))))))
def g__law_words_b3_1 : SF := sSeq (sSet 8 .v (eFn f__law_coin (aCons .a (eVar 0) (aCons .a (eBin opSub (eC (.int 9)) (eVar 1)) (aNil))))) g__law_words_b3_2
def g__law_words_b5_2 : SF := sExpr (eMeth "list" mAppend (eVar 4) (aCons .v (eMeth "str" (mStr1 hJoin) (eC (.str "")) (aCons .a (eComp (iRng (aCons .a (eVar 13) (aNil))) (.nm 14) [14] (eB true) (eBin opIx (eVar 6) (eFn f__law_coin (aCons .a (eVar 0) (aCons .a (eC (.int 26)) (aNil)))))) (aNil))) (aNil)))
def g__law_words_b5_1 : SF := sSeq (sSet 13 .v (eBin (op2 fAdd) (eC (.int 1)) (eFn f__law_coin (aCons .a (eVar 0) (aCons .a (eC (.int 8)) (aNil)))))) g__law_words_b5_2
def g__law_words_b4_1 : SF := sFor (iRng (aCons .a (eVar 1) (aNil))) (.nm 5) (g__law_words_b5_1) [5, 13]
def g__law_words_b7_1 : SF := sExpr (eMeth "list" mAppend (eVar 4) (aCons .v (eBin opIx (eLst (aCons .v (eBin (op2 fAdd) (eSl (eVar 10) (pNo) (eI (eC (.int 3)))) (eVar 9)) (aCons .v (eBin (op2 fAdd) (eVar 9) (eSl (eVar 10) (pNo) (eI (eC (.int 3))))) (aNil)))) (eFn f__law_coin (aCons .a (eVar 0) (aCons .a (eC (.int 2)) (aNil))))) (aNil)))
def g__law_words_b6_4 : SF := sSet 4 .n (eSl (eVar 4) (pNo) (eI (eVar 1)))
def g__law_words_b6_3 : SF := sSeq (sFor (iVal (eVar 2)) (.nm 10) (g__law_words_b7_1) [10]) g__law_words_b6_4
def g__law_words_b6_2 : SF := sSeq (sSet 4 .n (eLst (aCons .v (eVar 9) (aNil)))) g__law_words_b6_3
def g__law_words_b6_1 : SF := sSeq (sSet 9 .v (eSl (eVar 3) (pNo) (eI (eBin (op2 fAdd) (eC (.int 1)) (eFn f__law_coin (aCons .a (eVar 0) (aCons .a (eC (.int 5)) (aNil)))))))) g__law_words_b6_2
def g__law_words_b8_1 : SF := sRet (eVar 4)
def g__law_words_b9_1 : SF := sExpr (eMeth "list" mAppend (eVar 4) (aCons .v (eBin (op2 fAdd) (eBin (op2 fAdd) (eSl (eVar 11) (pNo) (eI (eVar 12))) (eBin opIx (eVar 6) (eBin opMod (eCall (ca1 fInt) (aCons .a (eBin (op2 fAdd) (eVar 8) (eVar 5)) (aNil))) (eC (.int 26))))) (eSl (eVar 11) (eI (eVar 12)) (pNo))) (aNil)))
def g__law_words_14 : SF := sRet (eVar 4)
def g__law_words_13 : SF := sSeq (sFor (iRng (aCons .a (eVar 1) (aNil))) (.nm 5) (g__law_words_b9_1) [5]) g__law_words_14
def g__law_words_12 : SF := sSeq (sPar 12 4 (aCons .v (eFn f__law_coin (aCons .a (eVar 0) (aCons .a (eBin (op2 fAdd) (eCall caLen (aCons .a (eVar 11) (aNil))) (eC (.int 1))) (aNil)))) (aCons .n (eLst (aNil)) (aNil)))) g__law_words_13
def g__law_words_11 : SF := sSeq (sAsg (.tp (.cons (.nm 8) (.cons (.nm 11) (.nil)))) (eTup (aCons .v (eFn f__law_coin (aCons .a (eVar 0) (aCons .a (eC (.int 26)) (aNil)))) (aCons .v (eSl (eVar 3) (pNo) (eI (eFn f__law_coin (aCons .a (eVar 0) (aCons .a (eC (.int 8)) (aNil)))))) (aNil))))) g__law_words_12
def g__law_words_10 : SF := sSeq (sIf (eBin (opEq false) (eUn fUniq (eVar 4)) (eVar 1)) (g__law_words_b8_1) (sNx)) g__law_words_11
def g__law_words_9 : SF := sSeq (sIf (eBin (opEq false) (eVar 7) (eC (.int 4))) (g__law_words_b6_1) (sNx)) g__law_words_10
def g__law_words_8 : SF := sSeq (sIf (eBin (opEq false) (eVar 7) (eC (.int 3))) (g__law_words_b4_1) (sNx)) g__law_words_9
def g__law_words_7 : SF := sSeq (sSet 4 .n (eLst (aNil))) g__law_words_8
def g__law_words_6 : SF := sSeq (sIf (eAnd (eBin (opEq false) (eVar 7) (eC (.int 1))) (eBin opLt (eVar 1) (eC (.int 9)))) (g__law_words_b3_1) (sNx)) g__law_words_7
def g__law_words_5 : SF := sSeq (sIf (eAnd (eBin (opEq false) (eVar 7) (eC (.int 0))) (eBin opLt (eVar 1) (eC (.int 15)))) (g__law_words_b2_1) (sNx)) g__law_words_6
def g__law_words_4 : SF := sSeq (sSet 3 .v (eMeth "str" (mStr1 hJoin) (eC (.str "")) (aCons .a (eComp (iRng (aCons .a (eC (.int 8)) (aNil))) (.nm 14) [14] (eB true) (eBin opIx (eVar 6) (eFn f__law_coin (aCons .a (eVar 0) (aCons .a (eC (.int 26)) (aNil)))))) (aNil)))) g__law_words_5
def g__law_words_3 : SF := sSeq (sSet 2 .v (eBin (op2 fAdd) (eVar 2) (eLst (aCons .v (eC (.str "stays")) (aCons .v (eC (.str "a")) (aCons .v (eC (.str "b")) (aCons .v (eC (.str "f")) (aCons .v (eC (.str "told")) (aCons .v (eC (.str "now")) (aCons .v (eC (.str "old")) (aNil))))))))))) g__law_words_4
def g__law_words_2 : SF := sSeq (sSet 2 .v (eLst (aCons .v (eC (.str "plain")) (aCons .v (eC (.str "put")) (aCons .v (eC (.str "set")) (aCons .v (eC (.str "rewrite")) (aCons .v (eC (.str "edition")) (aCons .v (eC (.str "read")) (aCons .v (eC (.str "follows")) (aNil)))))))))) g__law_words_3
def g__law_words : SF := sSeq (sAsg (.tp (.cons (.nm 6) (.cons (.nm 7) (.nil)))) (eTup (aCons .v (eC (.str "abcdefghijklmnopqrstuvwxyz")) (aCons .v (eFn f__law_coin (aCons .a (eVar 0) (aCons .a (eC (.int 5)) (aNil)))) (aNil))))) g__law_words_2
def f__law_words : FF := callF 15 g__law_words
def g__law_drawn_plan_b2_1 : SF := sSet 6 .v (eCall (ca2 fMax) (aCons .a (eVar 6) (aCons .a (eFn f__law_coin (aCons .a (eVar 0) (aCons .a (eBin (op2 fAdd) (eBin opIx (eVar 1) (eC (.int 1))) (eC (.int 1))) (aNil)))) (aNil))))
def g__law_drawn_plan_b6_1 : SF := sExpr (eMeth "list" mAppend (eVar 11) (aCons .v (eVar 17) (aNil)))
def g__law_drawn_plan_b5_2 : SF := sIf (eBin (opIn true) (eVar 17) (eVar 11)) (g__law_drawn_plan_b6_1) (sNx)
def g__law_drawn_plan_b5_1 : SF := sSeq (sSet 17 .v (eBin opIx (eVar 3) (eFn f__law_coin (aCons .a (eVar 0) (aCons .a (eVar 10) (aNil)))))) g__law_drawn_plan_b5_2
def g__law_drawn_plan_b4_5 : SF := sExpr (eMeth "list" mAppend (eVar 9) (aCons .v (eTup (aCons .v (eBin opIx (eVar 3) (eVar 10)) (aCons .v (eVar 14) (aCons .v (eVar 11) (aCons .v (eVar 13) (aNil)))))) (aNil)))
def g__law_drawn_plan_b4_4 : SF := sSeq (sSet 14 .v (eBin opIx (eVar 4) (eFn f__law_coin (aCons .a (eVar 0) (aCons .a (eVar 7) (aNil)))))) g__law_drawn_plan_b4_5
def g__law_drawn_plan_b4_3 : SF := sSeq (sSet 13 .v (eBin opIx (eLst (aCons .v (eC (.str "read")) (aCons .v (eC (.str "follows")) (aCons .v (eC (.str "stays")) (aCons .v (eC (.str "stays")) (aNil)))))) (eFn f__law_coin (aCons .a (eVar 0) (aCons .a (eC (.int 4)) (aNil)))))) g__law_drawn_plan_b4_4
def g__law_drawn_plan_b4_2 : SF := sSeq (sFor (iRng (aCons .a (eFn f__law_coin (aCons .a (eVar 0) (aCons .a (eBin (op2 fAdd) (eBin opIx (eVar 1) (eC (.int 3))) (eC (.int 1))) (aNil)))) (aNil))) (.nm 12) (g__law_drawn_plan_b5_1) [12, 17]) g__law_drawn_plan_b4_3
def g__law_drawn_plan_b4_1 : SF := sSeq (sSet 11 .n (eLst (aNil))) g__law_drawn_plan_b4_2
def g__law_drawn_plan_b7_3 : SF := sSet 9 .n (eBin (op2 fAdd) (eBin (op2 fAdd) (eSl (eVar 16) (pNo) (eI (eVar 15))) (eSl (eVar 9) (eI (eVar 15)) (eI (eBin (op2 fAdd) (eVar 15) (eC (.int 1)))))) (eSl (eVar 16) (eI (eBin (op2 fAdd) (eVar 15) (eC (.int 1)))) (pNo)))
def g__law_drawn_plan_b7_2 : SF := sSeq (sSet 16 .v (eBin opIx (eVar 8) (eUn fNeg (eC (.int 1))))) g__law_drawn_plan_b7_3
def g__law_drawn_plan_b7_1 : SF := sSeq (sSet 15 .v (eIf (eBin opGt (eVar 6) (eC (.int 0))) (eFn f__law_coin (aCons .a (eVar 0) (aCons .a (eVar 6) (aNil)))) (eC (.int 0)))) g__law_drawn_plan_b7_2
def g__law_drawn_plan_b3_4 : SF := sExpr (eMeth "list" mAppend (eVar 8) (aCons .v (eComp (iVal (eVar 9)) (.nm 18) [18] (eB true) (eBin (op2 fAdd) (eSl (eVar 18) (pNo) (eI (eC (.int 2)))) (eTup (aCons .v (eCall (ca1 fList) (aCons .a (eBin opIx (eVar 18) (eC (.int 2))) (aNil))) (aCons .v (eBin opIx (eVar 18) (eC (.int 3))) (aNil)))))) (aNil)))
def g__law_drawn_plan_b3_3 : SF := sSeq (sIf (eAnd (eBin (opEq true) (eVar 8) (eLst (aNil))) (eBin (opEq false) (eFn f__law_coin (aCons .a (eVar 0) (aCons .a (eC (.int 3)) (aNil)))) (eC (.int 0)))) (g__law_drawn_plan_b7_1) (sNx)) g__law_drawn_plan_b3_4
def g__law_drawn_plan_b3_2 : SF := sSeq (sFor (iRngB (aCons .a (eVar 5) (aCons .a (eBin (op2 fAdd) (eVar 5) (eVar 6)) (aNil)))) (.nm 10) (g__law_drawn_plan_b4_1) [10, 11, 12, 13, 14, 17]) g__law_drawn_plan_b3_3
def g__law_drawn_plan_b3_1 : SF := sSeq (sSet 9 .n (eLst (aNil))) g__law_drawn_plan_b3_2
def g__law_drawn_plan_7 : SF := sRet (eTup (aCons .v (eSl (eVar 3) (pNo) (eI (eVar 5))) (aCons .v (eVar 8) (aNil))))
def g__law_drawn_plan_6 : SF := sSeq (sFor (iRng (aCons .a (eBin (op2 fAdd) (eC (.int 1)) (eFn f__law_coin (aCons .a (eVar 0) (aCons .a (eBin opIx (eVar 1) (eC (.int 2))) (aNil))))) (aNil))) (.nm 2) (g__law_drawn_plan_b3_1) [2, 9, 10, 11, 12, 13, 14, 15, 16, 17]) g__law_drawn_plan_7
def g__law_drawn_plan_5 : SF := sSeq (sSet 4 .v (eFn f__law_words (aCons .a (eVar 0) (aCons .a (eVar 7) (aNil))))) g__law_drawn_plan_6
def g__law_drawn_plan_4 : SF := sSeq (sPar 7 8 (aCons .v (eBin (op2 fAdd) (eC (.int 3)) (eFn f__law_coin (aCons .a (eVar 0) (aCons .a (eC (.int 3)) (aNil))))) (aCons .n (eLst (aNil)) (aNil)))) g__law_drawn_plan_5
def g__law_drawn_plan_3 : SF := sSeq (sSet 3 .v (eFn f__law_words (aCons .a (eVar 0) (aCons .a (eBin (op2 fAdd) (eVar 5) (eVar 6)) (aNil))))) g__law_drawn_plan_4
def g__law_drawn_plan_2 : SF := sSeq (sFor (iRng (aCons .a (eC (.int 2)) (aNil))) (.nm 2) (g__law_drawn_plan_b2_1) [2]) g__law_drawn_plan_3
def g__law_drawn_plan : SF := sSeq (sPar 5 6 (aCons .v (eBin (op2 fAdd) (eC (.int 1)) (eFn f__law_coin (aCons .a (eVar 0) (aCons .a (eBin opIx (eVar 1) (eC (.int 0))) (aNil))))) (aCons .v (eC (.int 0)) (aNil)))) g__law_drawn_plan_2
def f__law_drawn_plan : FF := callF 19 g__law_drawn_plan
def g__law_deeds_of_2 : SF := sRet (eBin (op2 fAdd) (eBin (op2 fAdd) (eVar 1) (eComp (iVal (eBin opIx (eBin opIx (eVar 0) (eC (.int 1))) (eC (.int 0)))) (.nm 3) [3] (eB true) (eTup (aCons .v (eC (.str "rewrite")) (aCons .v (eBin opIx (eVar 3) (eC (.int 0))) (aNil)))))) (eLst (aCons .v (eTup (aCons .v (eC (.str "edition")) (aNil))) (aNil))))
def g__law_deeds_of : SF := sSeq (sSet 1 .v (eBin (op2 fAdd) (eLst (aCons .v (eTup (aCons .v (eC (.str "put")) (aNil))) (aNil))) (eComp (iVal (eBin opIx (eVar 0) (eC (.int 0)))) (.nm 2) [2] (eB true) (eTup (aCons .v (eC (.str "set")) (aCons .v (eVar 2) (aNil))))))) g__law_deeds_of_2
def f__law_deeds_of : FF := callF 4 g__law_deeds_of
def g__law_drawn_history_b3_2 : SF := sExpr (eMeth "list" mAppend (eVar 4) (aCons .v (eVar 7) (aNil)))
def g__law_drawn_history_b3_1 : SF := sSeq (sSet 6 .v (eBin opSub (eVar 6) (eCall (ca1 fInt) (aCons .a (eBin (opEq false) (eVar 7) (eTup (aCons .v (eC (.str "edition")) (aNil)))) (aNil))))) g__law_drawn_history_b3_2
def g__law_drawn_history_b2_2 : SF := sIf (eOr (eBin (opEq true) (eVar 7) (eTup (aCons .v (eC (.str "edition")) (aNil)))) (eBin opGt (eVar 6) (eC (.int 0)))) (g__law_drawn_history_b3_1) (sNx)
def g__law_drawn_history_b2_1 : SF := sSeq (sSet 7 .v (eBin opIx (eVar 5) (eFn f__law_coin (aCons .a (eVar 0) (aCons .a (eCall caLen (aCons .a (eVar 5) (aNil))) (aNil)))))) g__law_drawn_history_b2_2
def g__law_drawn_history_3 : SF := sRet (eVar 4)
def g__law_drawn_history_2 : SF := sSeq (sFor (iRng (aCons .a (eFn f__law_coin (aCons .a (eVar 0) (aCons .a (eVar 2) (aNil)))) (aNil))) (.nm 3) (g__law_drawn_history_b2_1) [3, 7]) g__law_drawn_history_3
def g__law_drawn_history : SF := sSeq (sPar3 4 5 6 (aCons .n (eLst (aCons .v (eTup (aCons .v (eC (.str "put")) (aNil))) (aNil))) (aCons .v (eFn f__law_deeds_of (aCons .a (eVar 1) (aNil))) (aCons .v (eBin opSub (eCall caLen (aCons .a (eBin opIx (eVar 1) (eC (.int 1))) (aNil))) (eC (.int 1))) (aNil))))) g__law_drawn_history_2
def f__law_drawn_history : FF := callF 8 g__law_drawn_history
def g__law_odd_his_15 : SF := sRet (eBin opIx (eVar 2) (eFn f__law_coin (aCons .a (eVar 0) (aCons .a (eCall caLen (aCons .a (eVar 2) (aNil))) (aNil)))))
def g__law_odd_his_14 : SF := sSeq (sSet 2 .n (eBin (op2 fAdd) (eVar 2) (eLst (aCons .v (eBin (op2 fAdd) (eC (.str "put, ")) (eVar 1)) (aCons .v (eUn (fRepl " " "  ") (eVar 1)) (aNil)))))) g__law_odd_his_15
def g__law_odd_his_13 : SF := sSeq (sSet 2 .n (eBin (op2 fAdd) (eVar 2) (eLst (aCons .v (eBin (op2 fAdd) (eVar 1) (eC (.str ", put"))) (aCons .v (eBin (op2 fAdd) (eVar 1) (eC (.str ", "))) (aCons .v (eUn (fRepl ", " ",") (eVar 1)) (aCons .v (eBin (op2 fAdd) (eVar 1) (eC (.str " a"))) (aNil)))))))) g__law_odd_his_14
def g__law_odd_his_12 : SF := sSeq (sSet 2 .n (eBin (op2 fAdd) (eVar 2) (eLst (aCons .v (eMeth "str" (mStr1 hJoin) (eC (.str ", ")) (aCons .a (eBin (op2 fAdd) (eBin (op2 fMul) (eLst (aCons .v (eC (.str "put")) (aNil))) (eVar 4)) (eLst (aCons .v (eC (.str "set")) (aNil)))) (aNil))) (aCons .v (eMeth "str" (mStr1 hJoin) (eC (.str ", ")) (aCons .a (eBin (op2 fMul) (eLst (aCons .v (eC (.str "edition")) (aNil))) (eVar 4)) (aNil))) (aNil)))))) g__law_odd_his_13
def g__law_odd_his_11 : SF := sSeq (sSet 2 .n (eBin (op2 fAdd) (eVar 2) (eLst (aCons .v (eMeth "str" (mStr1 hJoin) (eC (.str ", ")) (aCons .a (eBin (op2 fMul) (eLst (aCons .v (eC (.str "put")) (aNil))) (eVar 4)) (aNil))) (aCons .v (eMeth "str" (mStr1 hJoin) (eC (.str ", ")) (aCons .a (eBin (op2 fMul) (eLst (aCons .v (eC (.str "set a")) (aNil))) (eVar 4)) (aNil))) (aNil)))))) g__law_odd_his_12
def g__law_odd_his_10 : SF := sSeq (sSet 4 .v (eBin (op2 fAdd) (eC (.int 1)) (eFn f__law_coin (aCons .a (eVar 0) (aCons .a (eC (.int 300)) (aNil)))))) g__law_odd_his_11
def g__law_odd_his_9 : SF := sSeq (sExpr (eMeth "list" mAppend (eVar 2) (aCons .v (eMeth "str" (mStr1 hJoin) (eC (.str ", ")) (aCons .a (eComp (iRng (aCons .a (eBin (op2 fAdd) (eC (.int 1)) (eFn f__law_coin (aCons .a (eVar 0) (aCons .a (eC (.int 280)) (aNil))))) (aNil))) (.nm 5) [5] (eB true) (eBin opIx (eVar 3) (eFn f__law_coin (aCons .a (eVar 0) (aCons .a (eC (.int 5)) (aNil)))))) (aNil))) (aNil)))) g__law_odd_his_10
def g__law_odd_his_8 : SF := sSeq (sSet 3 .v (eLst (aCons .v (eC (.str "put")) (aCons .v (eC (.str "set a")) (aCons .v (eC (.str "rewrite bb")) (aCons .v (eC (.str "edition")) (aCons .v (eC (.str "set abcdefgh")) (aNil)))))))) g__law_odd_his_9
def g__law_odd_his_7 : SF := sSeq (sSet 2 .n (eBin (op2 fAdd) (eVar 2) (eLst (aCons .v (eC (.str "plain a; b = f(a) read")) (aCons .v (eC (.str "plain a")) (aCons .v (eC (.str "b = f(a) read, c = f(b) stays")) (aNil))))))) g__law_odd_his_8
def g__law_odd_his_6 : SF := sSeq (sSet 2 .n (eBin (op2 fAdd) (eVar 2) (eLst (aCons .v (eC (.str "set put")) (aCons .v (eC (.str "rewrite set")) (aCons .v (eC (.str "put set a")) (aCons .v (eC (.str "undo")) (aCons .v (eC (.str "a")) (aNil))))))))) g__law_odd_his_7
def g__law_odd_his_5 : SF := sSeq (sSet 2 .n (eBin (op2 fAdd) (eVar 2) (eLst (aCons .v (eC (.str "put, ")) (aCons .v (eC (.str ", put")) (aCons .v (eC (.str "put,, put")) (aCons .v (eC (.str "put; put")) (aCons .v (eC (.str "put, set a, rewrite b, edition")) (aNil))))))))) g__law_odd_his_6
def g__law_odd_his_4 : SF := sSeq (sSet 2 .n (eBin (op2 fAdd) (eVar 2) (eLst (aCons .v (eC (.str "rewrite abcdefghi")) (aCons .v (eC (.str "set a1")) (aCons .v (eC (.str "put, put")) (aCons .v (eC (.str "put,put")) (aNil)))))))) g__law_odd_his_5
def g__law_odd_his_3 : SF := sSeq (sSet 2 .n (eBin (op2 fAdd) (eVar 2) (eLst (aCons .v (eC (.str "set  a")) (aCons .v (eC (.str "rewrite")) (aCons .v (eC (.str "rewrite a")) (aCons .v (eC (.str "rewrite a b")) (aCons .v (eC (.str "rewrite abcdefgh")) (aNil))))))))) g__law_odd_his_4
def g__law_odd_his_2 : SF := sSeq (sSet 2 .n (eBin (op2 fAdd) (eVar 2) (eLst (aCons .v (eC (.str "editions")) (aCons .v (eC (.str "set")) (aCons .v (eC (.str "set ")) (aCons .v (eC (.str "set a")) (aCons .v (eC (.str "set a b")) (aCons .v (eC (.str "set A")) (aNil)))))))))) g__law_odd_his_3
def g__law_odd_his : SF := sSeq (sSet 2 .n (eLst (aCons .v (eC (.str "")) (aCons .v (eC (.str " ")) (aCons .v (eC (.str "put")) (aCons .v (eC (.str "put ")) (aCons .v (eC (.str " put")) (aCons .v (eC (.str "Put")) (aCons .v (eC (.str "put a")) (aCons .v (eC (.str "edition")) (aCons .v (eC (.str "edition 1")) (aNil)))))))))))) g__law_odd_his_2
def f__law_odd_his : FF := callF 6 g__law_odd_his
def g__law_marred_his_b2_1 : SF := sRet (eBin (op2 fAdd) (eBin (op2 fAdd) (eSl (eVar 1) (pNo) (eI (eVar 5))) (eVar 4)) (eSl (eVar 1) (eI (eVar 5)) (pNo)))
def g__law_marred_his_b3_1 : SF := sRet (eBin (op2 fAdd) (eSl (eVar 1) (pNo) (eI (eVar 5))) (eSl (eVar 1) (eI (eBin (op2 fAdd) (eVar 5) (eC (.int 1)))) (pNo)))
def g__law_marred_his_b4_1 : SF := sRet (eBin (op2 fAdd) (eBin (op2 fAdd) (eSl (eVar 1) (pNo) (eI (eVar 5))) (eVar 4)) (eSl (eVar 1) (eI (eBin (op2 fAdd) (eVar 5) (eC (.int 1)))) (pNo)))
def g__law_marred_his_b5_1 : SF := sRet (eFn f__law_odd_his (aCons .a (eVar 0) (aCons .a (eVar 1) (aNil))))
def g__law_marred_his_b6_7 : SF := sRet (eMeth "str" (mStr1 hJoin) (eVar 7) (aCons .a (eVar 8) (aNil)))
def g__law_marred_his_b6_6 : SF := sSeq (sSub (eVar 9) (eVar 8) (eVar 11)) g__law_marred_his_b6_7
def g__law_marred_his_b6_5 : SF := sSeq (sSub (eBin opIx (eVar 8) (eVar 11)) (eVar 8) (eVar 10)) g__law_marred_his_b6_6
def g__law_marred_his_b6_4 : SF := sSeq (sSet 9 .v (eBin opIx (eVar 8) (eVar 10))) g__law_marred_his_b6_5
def g__law_marred_his_b6_3 : SF := sSeq (sPar 10 11 (aCons .v (eFn f__law_coin (aCons .a (eVar 0) (aCons .a (eCall caLen (aCons .a (eVar 8) (aNil))) (aNil)))) (aCons .v (eFn f__law_coin (aCons .a (eVar 0) (aCons .a (eCall caLen (aCons .a (eVar 8) (aNil))) (aNil)))) (aNil)))) g__law_marred_his_b6_4
def g__law_marred_his_b6_2 : SF := sSeq (sSet 8 .n (eMeth "str" (mStr1 hSplit) (eVar 1) (aCons .a (eVar 7) (aNil)))) g__law_marred_his_b6_3
def g__law_marred_his_b6_1 : SF := sSeq (sSet 7 .v (eBin opIx (eLst (aCons .v (eC (.str " ")) (aCons .v (eC (.str ", ")) (aNil)))) (eBin opSub (eVar 6) (eC (.int 4))))) g__law_marred_his_b6_2
def g__law_marred_his_10 : SF := sRet (eVar 1)
def g__law_marred_his_9 : SF := sSeq (sIf (eBin (opIn false) (eVar 6) (eTup (aCons .v (eC (.int 4)) (aCons .v (eC (.int 5)) (aNil))))) (g__law_marred_his_b6_1) (sNx)) g__law_marred_his_10
def g__law_marred_his_8 : SF := sSeq (sIf (eBin (opEq false) (eVar 6) (eC (.int 3))) (g__law_marred_his_b5_1) (sNx)) g__law_marred_his_9
def g__law_marred_his_7 : SF := sSeq (sIf (eBin (opEq false) (eVar 6) (eC (.int 2))) (g__law_marred_his_b4_1) (sNx)) g__law_marred_his_8
def g__law_marred_his_6 : SF := sSeq (sIf (eBin (opEq false) (eVar 6) (eC (.int 1))) (g__law_marred_his_b3_1) (sNx)) g__law_marred_his_7
def g__law_marred_his_5 : SF := sSeq (sIf (eBin (opEq false) (eVar 6) (eC (.int 0))) (g__law_marred_his_b2_1) (sNx)) g__law_marred_his_6
def g__law_marred_his_4 : SF := sSeq (sSet 4 .v (eBin opIx (eVar 3) (eFn f__law_coin (aCons .a (eVar 0) (aCons .a (eCall caLen (aCons .a (eVar 3) (aNil))) (aNil)))))) g__law_marred_his_5
def g__law_marred_his_3 : SF := sSeq (sSet 3 .v (eBin opIx (eLst (aCons .v (eC (.str "put set,rewiaon")) (aCons .v (eVar 2) (aNil)))) (eFn f__law_coin (aCons .a (eVar 0) (aCons .a (eC (.int 2)) (aNil)))))) g__law_marred_his_4
def g__law_marred_his_2 : SF := sSeq (sSet 2 .v (eC (.str "ABCDEFGHIJKLMNOPQRSTUVWXYZ0123456789abcdefghijklmnopqrstuvwxyz !#$&'()*+,-./:;<=>?@\x5b]^_`{|}~\"\\"))) g__law_marred_his_3
def g__law_marred_his : SF := sSeq (sPar 5 6 (aCons .v (eFn f__law_coin (aCons .a (eVar 0) (aCons .a (eBin (op2 fAdd) (eCall caLen (aCons .a (eVar 1) (aNil))) (eC (.int 1))) (aNil)))) (aCons .v (eFn f__law_coin (aCons .a (eVar 0) (aCons .a (eC (.int 8)) (aNil)))) (aNil)))) g__law_marred_his_2
def f__law_marred_his : FF := callF 12 g__law_marred_his
def g__law_is_title_2 : SF := sRet (eAnd (eChain opLt opLt (eC (.int 0)) (eCall caLen (aCons .a (eVar 0) (aNil))) (eC (.int 9))) (eBin (opEq false) (eComp (iStrF (eVar 0)) (.nm 2) [2] (eBin (opIn true) (eVar 2) (eVar 1)) (eVar 2)) (eLst (aNil))))
def g__law_is_title : SF := sSeq (sSet 1 .v (eC (.str "abcdefghijklmnopqrstuvwxyz"))) g__law_is_title_2
def f__law_is_title : FF := callF 3 g__law_is_title
def g__law_deeds_in_b3_1 : SF := sSet 4 .v (eC (.bl true))
def g__law_deeds_in_b4_1 : SF := sRet (eC .non)
def g__law_deeds_in_b2_5 : SF := sExpr (eMeth "list" mAppend (eVar 1) (aCons .v (eCall caTuple (aCons .a (eVar 3) (aNil))) (aNil)))
def g__law_deeds_in_b2_4 : SF := sSeq (sIf (eNot (eTru (eVar 4))) (g__law_deeds_in_b4_1) (sNx)) g__law_deeds_in_b2_5
def g__law_deeds_in_b2_3 : SF := sSeq (sIf (eAnd (eBin (opEq false) (eCall caLen (aCons .a (eVar 3) (aNil))) (eC (.int 2))) (eAnd (eBin (opIn false) (eBin opIx (eVar 3) (eC (.int 0))) (eTup (aCons .v (eC (.str "set")) (aCons .v (eC (.str "rewrite")) (aNil))))) (eTru (eFn f__law_is_title (aCons .a (eBin opIx (eVar 3) (eC (.int 1))) (aNil)))))) (g__law_deeds_in_b3_1) (sNx)) g__law_deeds_in_b2_4
def g__law_deeds_in_b2_2 : SF := sSeq (sSet 4 .v (eBin (opIn false) (eVar 3) (eTup (aCons .v (eLst (aCons .v (eC (.str "put")) (aNil))) (aCons .v (eLst (aCons .v (eC (.str "edition")) (aNil))) (aNil)))))) g__law_deeds_in_b2_3
def g__law_deeds_in_b2_1 : SF := sSeq (sSet 3 .v (eMeth "str" (mStr1 hSplit) (eVar 2) (aCons .a (eC (.str " ")) (aNil)))) g__law_deeds_in_b2_2
def g__law_deeds_in_3 : SF := sRet (eVar 1)
def g__law_deeds_in_2 : SF := sSeq (sFor (iVal (eIf (eBin (opEq true) (eVar 0) (eC (.str ""))) (eMeth "str" (mStr1 hSplit) (eVar 0) (aCons .a (eC (.str ", ")) (aNil))) (eLst (aNil)))) (.nm 2) (g__law_deeds_in_b2_1) [2, 3, 4]) g__law_deeds_in_3
def g__law_deeds_in : SF := sSeq (sSet 1 .n (eLst (aNil))) g__law_deeds_in_2
def f__law_deeds_in : FF := callF 5 g__law_deeds_in
def g_show_history : SF := sRet (eMeth "str" (mStr1 hJoin) (eC (.str ", ")) (aCons .a (eComp (iVal (eVar 0)) (.nm 1) [1] (eB true) (eMeth "str" (mStr1 hJoin) (eC (.str " ")) (aCons .a (eVar 1) (aNil)))) (aNil)))
def f_show_history : FF := callF 2 g_show_history
def g_is_name : SF := sRet (eAnd (eChain opLe opLe (eC (.int 1)) (eCall caLen (aCons .a (eVar 0) (aNil))) (eC (.int 8))) (eCall (ca1 (fAll false)) (aCons .a (eComp (iStrF (eVar 0)) (.nm 1) [1] (eB true) (eBin (opIn false) (eVar 1) (c_LETTERS))) (aNil))))
def f_is_name : FF := callF 2 g_is_name
def g_is_deed_b2_1 : SF := sRet (eC (.bl true))
def g_is_deed_2 : SF := sRet (eAnd (eBin (opEq false) (eCall caLen (aCons .a (eVar 0) (aNil))) (eC (.int 2))) (eAnd (eBin (opIn false) (eBin opIx (eVar 0) (eC (.int 0))) (eTup (aCons .v (eC (.str "set")) (aCons .v (eC (.str "rewrite")) (aNil))))) (eFn f_is_name (aCons .a (eBin opIx (eVar 0) (eC (.int 1))) (aNil)))))
def g_is_deed : SF := sSeq (sIf (eBin (opIn false) (eVar 0) (eTup (aCons .v (eLst (aCons .v (eC (.str "put")) (aNil))) (aCons .v (eLst (aCons .v (eC (.str "edition")) (aNil))) (aNil))))) (g_is_deed_b2_1) (sNx)) g_is_deed_2
def f_is_deed : FF := callF 1 g_is_deed
def g_read_history_b2_1 : SF := sRaise 0 (aCons .v (eVar 0) (aNil))
def g_read_history_b3_1 : SF := sRaise 0 (aCons .v (eVar 0) (aNil))
def g_read_history_5 : SF := sRet (eVar 2)
def g_read_history_4 : SF := sSeq (sIf (eBin (opEq true) (eFn f_show_history (aCons .a (eVar 2) (aNil))) (eVar 0)) (g_read_history_b3_1) (sNx)) g_read_history_5
def g_read_history_3 : SF := sSeq (sSet 2 .v (eComp (iVal (eVar 1)) (.nm 3) [3] (eB true) (eCall caTuple (aCons .a (eVar 3) (aNil))))) g_read_history_4
def g_read_history_2 : SF := sSeq (sIf (eNot (eTru (eCall (ca1 (fAll false)) (aCons .a (eComp (iVal (eVar 1)) (.nm 3) [3] (eB true) (eFn f_is_deed (aCons .a (eVar 3) (aNil)))) (aNil))))) (g_read_history_b2_1) (sNx)) g_read_history_3
def g_read_history : SF := sSeq (sSet 1 .v (eIf (eBin (opEq true) (eVar 0) (eC (.str ""))) (eComp (iVal (eMeth "str" (mStr1 hSplit) (eVar 0) (aCons .a (eC (.str ", ")) (aNil)))) (.nm 4) [4] (eB true) (eMeth "str" (mStr1 hSplit) (eVar 4) (aCons .a (eC (.str " ")) (aNil)))) (eLst (aNil)))) g_read_history_2
def f_read_history : FF := callF 5 g_read_history
def g__law_caught_his_b2_2 : SF := sSet 2 .v (eIf (eBin (opEq false) (eFn f_show_history (aCons .a (eVar 4) (aNil))) (eVar 0)) (eLst (aCons .v (eVar 4) (aNil))) (eLst (aCons .v (eC (.str "other")) (aNil))))
def g__law_caught_his_b2_1 : SF := sSeq (sSet 4 .v (eIf (eBin (opEq false) (eVar 1) (eC (.int 0))) (eFn f_read_history (aCons .a (eVar 0) (aNil))) (eFnK f_read_history aNil (aCons .a (eVar 0) (aNil))))) g__law_caught_his_b2_2
def g__law_caught_his_b3_2 : SF := sSet 2 .v (eIf (eOr (eTru (eVar 5)) (eBin (opEq true) (eErrVal 3) (eVar 0))) (eLst (aCons .v (eC (.str "odd")) (aNil))) (eLst (aNil)))
def g__law_caught_his_b3_1 : SF := sSeq (sSet 5 .v (eOr (eIsErr 3 is_InvalidDeed_InvalidName) (eNot (eIsErr 3 is_Unreadable)))) g__law_caught_his_b3_2
def g__law_caught_his_3 : SF := sRet (eVar 2)
def g__law_caught_his_2 : SF := sSeq (sTry 3 hm_WorthError (g__law_caught_his_b2_1) (g__law_caught_his_b3_1)) g__law_caught_his_3
def g__law_caught_his : SF := sSeq (sSet 2 .v (eLst (aNil))) g__law_caught_his_2
def f__law_caught_his : FF := callF 6 g__law_caught_his
def g__law_right_b3_1 : SF := sRet (eC (.bl false))
def g__law_right_b2_4 : SF := sIf (eAnd (eBin opLe (eCall caLen (aCons .a (eVar 5) (aNil))) (eC (.int 3000))) (eBin (opEq true) (eFn f__law_caught_his (aCons .a (eVar 5) (aCons .a (eFn f__law_coin (aCons .a (eVar 0) (aCons .a (eC (.int 2)) (aNil)))) (aNil)))) (eVar 7))) (g__law_right_b3_1) (sNx)
def g__law_right_b2_3 : SF := sSeq (sSet 7 .v (eIf (eBin (opIs true) (eVar 6) (eC .non)) (eLst (aCons .v (eVar 6) (aNil))) (eLst (aNil)))) g__law_right_b2_4
def g__law_right_b2_2 : SF := sSeq (sSet 6 .v (eFn f__law_deeds_in (aCons .a (eVar 5) (aNil)))) g__law_right_b2_3
def g__law_right_b2_1 : SF := sSeq (sSet 5 .v (eFn f__law_marred_his (aCons .a (eVar 0) (aCons .a (eVar 3) (aNil))))) g__law_right_b2_2
def g__law_right_5 : SF := sRet (eC (.bl true))
def g__law_right_4 : SF := sSeq (sFor (iRng (aCons .a (eC (.int 8)) (aNil))) (.nm 4) (g__law_right_b2_1) [4, 5, 6, 7]) g__law_right_5
def g__law_right_3 : SF := sSeq (sSet 3 .v (eMeth "str" (mStr1 hJoin) (eC (.str ", ")) (aCons .a (eComp (iVal (eVar 2)) (.nm 8) [8] (eB true) (eMeth "str" (mStr1 hJoin) (eC (.str " ")) (aCons .a (eVar 8) (aNil)))) (aNil)))) g__law_right_4
def g__law_right_2 : SF := sSeq (sSet 2 .v (eFn f__law_drawn_history (aCons .a (eVar 0) (aCons .a (eVar 1) (aCons .a (eC (.int 12)) (aNil)))))) g__law_right_3
def g__law_right : SF := sSeq (sSet 1 .v (eFn f__law_drawn_plan (aCons .a (eVar 0) (aCons .a (eTup (aCons .v (eC (.int 3)) (aCons .v (eC (.int 4)) (aCons .v (eC (.int 3)) (aCons .v (eC (.int 2)) (aNil)))))) (aNil))))) g__law_right_2
def f__law_right : FF := callF 9 g__law_right
def g_law_b4_1 : SF := sRet (eC (.bl false))
def g_law_b3_1 : SF := sIf (eNot (eTru (eFn f__law_right (aCons .a (eVar 2) (aNil))))) (g_law_b4_1) (sNx)
def g_law_b2_2 : SF := sFor (iRng (aCons .a (eC (.int 2)) (aNil))) (.nm 3) (g_law_b3_1) [3]
def g_law_b2_1 : SF := sSeq (sSet 2 .n (eFn f__law_purse (aCons .a (eVar 0) (aCons .a (eVar 1) (aNil))))) g_law_b2_2
def g_law_2 : SF := sRet (eC (.bl true))
def g_law : SF := sSeq (sFor (iRng (aCons .a (eCall (ca2 fMax) (aCons .a (eC (.int 1)) (aCons .a (eCall (ca2 fMin) (aCons .a (eC (.int 6)) (aCons .a (eCall caLen (aCons .a (eVar 0) (aNil))) (aNil)))) (aNil)))) (aNil))) (.nm 1) (g_law_b2_1) [1, 2, 3]) g_law_2
def f_law : FF := callF 4 g_law
end DF
namespace DF
open PySem PySem.Spec PyProof.Rows L2
theorem Good.step {a b c : Int} {k : Nat} (g : Good a b c (k + 1)) : Good a b (c + 1) k := ⟨g.1, g.2.1, g.2.2.1, by have := g.2.2.2.1; omega, by have := g.2.2.2.2; omega⟩
theorem coin_ok {n k : Nat} {μ : Sto} {many : Int} {Q : Res → Sto → Prop} (h : Pur n (k + 1) μ) (h0 : 0 < many) (h1 : many < 1073741824) (q : ∀ i μ', 0 ≤ i → i < many → Pw n k μ μ' → Q (.d (.int i)) μ') :
    wpF f__law_coin [.loc n, .d (.int many)] μ (rtQ Q) := by
  obtain ⟨a, b, c, hp, g0, g1, g2, g3, g4⟩ := h
  have hi := items_at hp
  apply f_def
  apply s_seq
  apply s_if
  simp only [List.map_cons, List.map_nil, List.length_cons, List.length_nil, List.replicate, List.nil_append, List.cons_append, Nat.reduceAdd, Nat.reduceSub, Nat.zero_add, List.append_nil, e_bin, e_c, e_un, e_if, e_eB, e_nil, e_cons, e_lst, e_tup, e_call, e_fn, e_fnK, e_meth, e_sl, e_pNo, e_eI, e_chain, e_var, eVar, List.getElem?_cons_zero, List.getElem?_cons_succ, o_ok, o_okD, o_none, o_guard, o_op2, o_opI, o_addI, o_addS, o_addL, o_addT, o_mulI, o_mulL, o_ixD, o_ixT, o_ixN, o_ixS, peek_d, peek_tl, peekV_d, asB_d, conv_d, conv_al, conv_nl, conv_vt, conv_at, conv_nt, toVal_d, toVal_t, convV_d, toDs_nil, toDs_cons, ca1_d, ca2_d, plOf_loc, seqQ_nx, seqQ_rt, seqQ_ex, retQ_rt, retQ_ex, rtQ_rt, handR_d, handR_t, fInt_i, fInt_b, fAbs_i, fMax_i, fMin_i, Option.some.injEq, Prod.mk.injEq, exists_eq_left', exists_eq_left, exists_eq', exists_and_left, exists_and_right, and_true, true_and, List.set_cons_zero, List.set_cons_succ, Bool.true_eq_false, Bool.false_eq_true, forall_const, D.int.injEq, D.str.injEq, D.bl.injEq, D.lst.injEq, D.tup.injEq, Res.d.injEq, SV.d.injEq, Option.map_some, atI_0, atI_1, atI_2, atI_3, decide_eq_true_eq, decide_eq_false_iff_not, and_assoc, tyOk_str, mStr1_d, o_join, o_joinT, o_split, caLen_d, fLen_l, fLen_t, o_lenS, o_slS, o_slL, ixR_n, ixR_i, o_eqI, i_rng, i_rngB, i_val, i_valT, i_str, e_comp, wipeE, o_inC, Bool.not_true, Bool.not_false, Bool.not_eq_true', Bool.not_eq_false', if_true, if_false, Bool.if_true_left, decide_true, decide_false, asg_nm, asg_tp2, asg_tp3, kvSV_d, List.cons.injEq, o_ixL hi]
  refine ⟨fun pa => ?_, fun pa => ?_⟩
  · apply s_seq
    apply s_set
    simp only [List.map_cons, List.map_nil, List.length_cons, List.length_nil, List.replicate, List.nil_append, List.cons_append, Nat.reduceAdd, Nat.reduceSub, Nat.zero_add, List.append_nil, e_bin, e_c, e_un, e_if, e_eB, e_nil, e_cons, e_lst, e_tup, e_call, e_fn, e_fnK, e_meth, e_sl, e_pNo, e_eI, e_chain, e_var, eVar, List.getElem?_cons_zero, List.getElem?_cons_succ, o_ok, o_okD, o_none, o_guard, o_op2, o_opI, o_addI, o_addS, o_addL, o_addT, o_mulI, o_mulL, o_ixD, o_ixT, o_ixN, o_ixS, peek_d, peek_tl, peekV_d, asB_d, conv_d, conv_al, conv_nl, conv_vt, conv_at, conv_nt, toVal_d, toVal_t, convV_d, toDs_nil, toDs_cons, ca1_d, ca2_d, plOf_loc, seqQ_nx, seqQ_rt, seqQ_ex, retQ_rt, retQ_ex, rtQ_rt, handR_d, handR_t, fInt_i, fInt_b, fAbs_i, fMax_i, fMin_i, Option.some.injEq, Prod.mk.injEq, exists_eq_left', exists_eq_left, exists_eq', exists_and_left, exists_and_right, and_true, true_and, List.set_cons_zero, List.set_cons_succ, Bool.true_eq_false, Bool.false_eq_true, forall_const, D.int.injEq, D.str.injEq, D.bl.injEq, D.lst.injEq, D.tup.injEq, Res.d.injEq, SV.d.injEq, Option.map_some, atI_0, atI_1, atI_2, atI_3, decide_eq_true_eq, decide_eq_false_iff_not, and_assoc, tyOk_str, mStr1_d, o_join, o_joinT, o_split, caLen_d, fLen_l, fLen_t, o_lenS, o_slS, o_slL, ixR_n, ixR_i, o_eqI, i_rng, i_rngB, i_val, i_valT, i_str, e_comp, wipeE, o_inC, Bool.not_true, Bool.not_false, Bool.not_eq_true', Bool.not_eq_false', if_true, if_false, Bool.if_true_left, decide_true, decide_false, asg_nm, asg_tp2, asg_tp3, kvSV_d, List.cons.injEq, o_ixL hi]
    refine ⟨h0, ?_⟩
    apply s_seq
    apply s_sub
    simp only [List.map_cons, List.map_nil, List.length_cons, List.length_nil, List.replicate, List.nil_append, List.cons_append, Nat.reduceAdd, Nat.reduceSub, Nat.zero_add, List.append_nil, e_bin, e_c, e_un, e_if, e_eB, e_nil, e_cons, e_lst, e_tup, e_call, e_fn, e_fnK, e_meth, e_sl, e_pNo, e_eI, e_chain, e_var, eVar, List.getElem?_cons_zero, List.getElem?_cons_succ, o_ok, o_okD, o_none, o_guard, o_op2, o_opI, o_addI, o_addS, o_addL, o_addT, o_mulI, o_mulL, o_ixD, o_ixT, o_ixN, o_ixS, peek_d, peek_tl, peekV_d, asB_d, conv_d, conv_al, conv_nl, conv_vt, conv_at, conv_nt, toVal_d, toVal_t, convV_d, toDs_nil, toDs_cons, ca1_d, ca2_d, plOf_loc, seqQ_nx, seqQ_rt, seqQ_ex, retQ_rt, retQ_ex, rtQ_rt, handR_d, handR_t, fInt_i, fInt_b, fAbs_i, fMax_i, fMin_i, Option.some.injEq, Prod.mk.injEq, exists_eq_left', exists_eq_left, exists_eq', exists_and_left, exists_and_right, and_true, true_and, List.set_cons_zero, List.set_cons_succ, Bool.true_eq_false, Bool.false_eq_true, forall_const, D.int.injEq, D.str.injEq, D.bl.injEq, D.lst.injEq, D.tup.injEq, Res.d.injEq, SV.d.injEq, Option.map_some, atI_0, atI_1, atI_2, atI_3, decide_eq_true_eq, decide_eq_false_iff_not, and_assoc, tyOk_str, mStr1_d, o_join, o_joinT, o_split, caLen_d, fLen_l, fLen_t, o_lenS, o_slS, o_slL, ixR_n, ixR_i, o_eqI, i_rng, i_rngB, i_val, i_valT, i_str, e_comp, wipeE, o_inC, Bool.not_true, Bool.not_false, Bool.not_eq_true', Bool.not_eq_false', if_true, if_false, Bool.if_true_left, decide_true, decide_false, asg_nm, asg_tp2, asg_tp3, kvSV_d, List.cons.injEq, o_ixL hi, hp]
    refine ⟨by unfold pDiv; simp [h0, h1], pc (a / many) b c, by rfl, ?_⟩
    apply s_ret
    simp only [List.map_cons, List.map_nil, List.length_cons, List.length_nil, List.replicate, List.nil_append, List.cons_append, Nat.reduceAdd, Nat.reduceSub, Nat.zero_add, List.append_nil, e_bin, e_c, e_un, e_if, e_eB, e_nil, e_cons, e_lst, e_tup, e_call, e_fn, e_fnK, e_meth, e_sl, e_pNo, e_eI, e_chain, e_var, eVar, List.getElem?_cons_zero, List.getElem?_cons_succ, o_ok, o_okD, o_none, o_guard, o_op2, o_opI, o_addI, o_addS, o_addL, o_addT, o_mulI, o_mulL, o_ixD, o_ixT, o_ixN, o_ixS, peek_d, peek_tl, peekV_d, asB_d, conv_d, conv_al, conv_nl, conv_vt, conv_at, conv_nt, toVal_d, toVal_t, convV_d, toDs_nil, toDs_cons, ca1_d, ca2_d, plOf_loc, seqQ_nx, seqQ_rt, seqQ_ex, retQ_rt, retQ_ex, rtQ_rt, handR_d, handR_t, fInt_i, fInt_b, fAbs_i, fMax_i, fMin_i, Option.some.injEq, Prod.mk.injEq, exists_eq_left', exists_eq_left, exists_eq', exists_and_left, exists_and_right, and_true, true_and, List.set_cons_zero, List.set_cons_succ, Bool.true_eq_false, Bool.false_eq_true, forall_const, D.int.injEq, D.str.injEq, D.bl.injEq, D.lst.injEq, D.tup.injEq, Res.d.injEq, SV.d.injEq, Option.map_some, atI_0, atI_1, atI_2, atI_3, decide_eq_true_eq, decide_eq_false_iff_not, and_assoc, tyOk_str, mStr1_d, o_join, o_joinT, o_split, caLen_d, fLen_l, fLen_t, o_lenS, o_slS, o_slL, ixR_n, ixR_i, o_eqI, i_rng, i_rngB, i_val, i_valT, i_str, e_comp, wipeE, o_inC, Bool.not_true, Bool.not_false, Bool.not_eq_true', Bool.not_eq_false', if_true, if_false, Bool.if_true_left, decide_true, decide_false, asg_nm, asg_tp2, asg_tp3, kvSV_d, List.cons.injEq]
    rw [cut_id (Nat.le_of_eq put_len)]
    refine q _ _ (Int.emod_nonneg a (by omega)) (Int.emod_lt_of_pos a h0) ⟨_, _, _, rfl, Int.ediv_nonneg g0 (by omega), g1, g2, g3, by omega⟩
  · apply s_nx
    apply s_seq
    apply s_sub
    simp only [List.map_cons, List.map_nil, List.length_cons, List.length_nil, List.replicate, List.nil_append, List.cons_append, Nat.reduceAdd, Nat.reduceSub, Nat.zero_add, List.append_nil, e_bin, e_c, e_un, e_if, e_eB, e_nil, e_cons, e_lst, e_tup, e_call, e_fn, e_fnK, e_meth, e_sl, e_pNo, e_eI, e_chain, e_var, eVar, List.getElem?_cons_zero, List.getElem?_cons_succ, o_ok, o_okD, o_none, o_guard, o_op2, o_opI, o_addI, o_addS, o_addL, o_addT, o_mulI, o_mulL, o_ixD, o_ixT, o_ixN, o_ixS, peek_d, peek_tl, peekV_d, asB_d, conv_d, conv_al, conv_nl, conv_vt, conv_at, conv_nt, toVal_d, toVal_t, convV_d, toDs_nil, toDs_cons, ca1_d, ca2_d, plOf_loc, seqQ_nx, seqQ_rt, seqQ_ex, retQ_rt, retQ_ex, rtQ_rt, handR_d, handR_t, fInt_i, fInt_b, fAbs_i, fMax_i, fMin_i, Option.some.injEq, Prod.mk.injEq, exists_eq_left', exists_eq_left, exists_eq', exists_and_left, exists_and_right, and_true, true_and, List.set_cons_zero, List.set_cons_succ, Bool.true_eq_false, Bool.false_eq_true, forall_const, D.int.injEq, D.str.injEq, D.bl.injEq, D.lst.injEq, D.tup.injEq, Res.d.injEq, SV.d.injEq, Option.map_some, atI_0, atI_1, atI_2, atI_3, decide_eq_true_eq, decide_eq_false_iff_not, and_assoc, tyOk_str, mStr1_d, o_join, o_joinT, o_split, caLen_d, fLen_l, fLen_t, o_lenS, o_slS, o_slL, ixR_n, ixR_i, o_eqI, i_rng, i_rngB, i_val, i_valT, i_str, e_comp, wipeE, o_inC, Bool.not_true, Bool.not_false, Bool.not_eq_true', Bool.not_eq_false', if_true, if_false, Bool.if_true_left, decide_true, decide_false, asg_nm, asg_tp2, asg_tp3, kvSV_d, List.cons.injEq, o_ixL hi, hp]
    refine ⟨pc a b (c + 1), by rfl, ?_⟩
    have hp2 : (μ.put (.m n) (pc a b (c + 1))).at (.m n) = some (pc a b (c + 1)) := Sto.at_put_self hp
    have hi2 := items_at hp2
    have hk : (c + 1) ≤ 2 ^ 40 := by omega
    apply s_seq
    apply s_set
    simp only [List.map_cons, List.map_nil, List.length_cons, List.length_nil, List.replicate, List.nil_append, List.cons_append, Nat.reduceAdd, Nat.reduceSub, Nat.zero_add, List.append_nil, e_bin, e_c, e_un, e_if, e_eB, e_nil, e_cons, e_lst, e_tup, e_call, e_fn, e_fnK, e_meth, e_sl, e_pNo, e_eI, e_chain, e_var, eVar, List.getElem?_cons_zero, List.getElem?_cons_succ, o_ok, o_okD, o_none, o_guard, o_op2, o_opI, o_addI, o_addS, o_addL, o_addT, o_mulI, o_mulL, o_ixD, o_ixT, o_ixN, o_ixS, peek_d, peek_tl, peekV_d, asB_d, conv_d, conv_al, conv_nl, conv_vt, conv_at, conv_nt, toVal_d, toVal_t, convV_d, toDs_nil, toDs_cons, ca1_d, ca2_d, plOf_loc, seqQ_nx, seqQ_rt, seqQ_ex, retQ_rt, retQ_ex, rtQ_rt, handR_d, handR_t, fInt_i, fInt_b, fAbs_i, fMax_i, fMin_i, Option.some.injEq, Prod.mk.injEq, exists_eq_left', exists_eq_left, exists_eq', exists_and_left, exists_and_right, and_true, true_and, List.set_cons_zero, List.set_cons_succ, Bool.true_eq_false, Bool.false_eq_true, forall_const, D.int.injEq, D.str.injEq, D.bl.injEq, D.lst.injEq, D.tup.injEq, Res.d.injEq, SV.d.injEq, Option.map_some, atI_0, atI_1, atI_2, atI_3, decide_eq_true_eq, decide_eq_false_iff_not, and_assoc, tyOk_str, mStr1_d, o_join, o_joinT, o_split, caLen_d, fLen_l, fLen_t, o_lenS, o_slS, o_slL, ixR_n, ixR_i, o_eqI, i_rng, i_rngB, i_val, i_valT, i_str, e_comp, wipeE, o_inC, Bool.not_true, Bool.not_false, Bool.not_eq_true', Bool.not_eq_false', if_true, if_false, Bool.if_true_left, decide_true, decide_false, asg_nm, asg_tp2, asg_tp3, kvSV_d, List.cons.injEq, o_ixL hi2]
    refine ⟨pMul_l (by decide) (by decide), pPow_ok 120 (by decide) ?_ (by decide), by decide, by decide, ?_⟩
    · have : (b + 2038074743 * (c + 1)).natAbs < 2 ^ 120 := by
        have h2 : (10 : Int) ^ 25 < 2 ^ 100 := by decide
        omega
      exact this
    generalize hs : (b + 2038074743 * (c + 1)) ^ Int.toNat 3 % (10 ^ Int.toNat 25 + 13) = s
    have s0 : 0 ≤ s := by rw [← hs]; exact Int.emod_nonneg _ (by decide)
    have s1 : s < 10 ^ 25 + 13 := by rw [← hs]; exact Int.emod_lt_of_pos _ (by decide)
    apply s_seq
    apply s_set
    simp only [List.map_cons, List.map_nil, List.length_cons, List.length_nil, List.replicate, List.nil_append, List.cons_append, Nat.reduceAdd, Nat.reduceSub, Nat.zero_add, List.append_nil, e_bin, e_c, e_un, e_if, e_eB, e_nil, e_cons, e_lst, e_tup, e_call, e_fn, e_fnK, e_meth, e_sl, e_pNo, e_eI, e_chain, e_var, eVar, List.getElem?_cons_zero, List.getElem?_cons_succ, o_ok, o_okD, o_none, o_guard, o_op2, o_opI, o_addI, o_addS, o_addL, o_addT, o_mulI, o_mulL, o_ixD, o_ixT, o_ixN, o_ixS, peek_d, peek_tl, peekV_d, asB_d, conv_d, conv_al, conv_nl, conv_vt, conv_at, conv_nt, toVal_d, toVal_t, convV_d, toDs_nil, toDs_cons, ca1_d, ca2_d, plOf_loc, seqQ_nx, seqQ_rt, seqQ_ex, retQ_rt, retQ_ex, rtQ_rt, handR_d, handR_t, fInt_i, fInt_b, fAbs_i, fMax_i, fMin_i, Option.some.injEq, Prod.mk.injEq, exists_eq_left', exists_eq_left, exists_eq', exists_and_left, exists_and_right, and_true, true_and, List.set_cons_zero, List.set_cons_succ, Bool.true_eq_false, Bool.false_eq_true, forall_const, D.int.injEq, D.str.injEq, D.bl.injEq, D.lst.injEq, D.tup.injEq, Res.d.injEq, SV.d.injEq, Option.map_some, atI_0, atI_1, atI_2, atI_3, decide_eq_true_eq, decide_eq_false_iff_not, and_assoc, tyOk_str, mStr1_d, o_join, o_joinT, o_split, caLen_d, fLen_l, fLen_t, o_lenS, o_slS, o_slL, ixR_n, ixR_i, o_eqI, i_rng, i_rngB, i_val, i_valT, i_str, e_comp, wipeE, o_inC, Bool.not_true, Bool.not_false, Bool.not_eq_true', Bool.not_eq_false', if_true, if_false, Bool.if_true_left, decide_true, decide_false, asg_nm, asg_tp2, asg_tp3, kvSV_d, List.cons.injEq, o_ixL hi2]
    refine ⟨pMul_l (by decide) (by decide), pPow_ok 120 (by decide) ?_ (by decide), by decide, by decide, ?_⟩
    · have : (s + 982451653 * (c + 1)).natAbs < 2 ^ 120 := by
        have h2 : (10 : Int) ^ 25 < 2 ^ 100 := by decide
        omega
      exact this
    generalize hs2 : (s + 982451653 * (c + 1)) ^ Int.toNat 2 % (10 ^ Int.toNat 24 + 7) = s2
    apply s_ret
    simp only [List.map_cons, List.map_nil, List.length_cons, List.length_nil, List.replicate, List.nil_append, List.cons_append, Nat.reduceAdd, Nat.reduceSub, Nat.zero_add, List.append_nil, e_bin, e_c, e_un, e_if, e_eB, e_nil, e_cons, e_lst, e_tup, e_call, e_fn, e_fnK, e_meth, e_sl, e_pNo, e_eI, e_chain, e_var, eVar, List.getElem?_cons_zero, List.getElem?_cons_succ, o_ok, o_okD, o_none, o_guard, o_op2, o_opI, o_addI, o_addS, o_addL, o_addT, o_mulI, o_mulL, o_ixD, o_ixT, o_ixN, o_ixS, peek_d, peek_tl, peekV_d, asB_d, conv_d, conv_al, conv_nl, conv_vt, conv_at, conv_nt, toVal_d, toVal_t, convV_d, toDs_nil, toDs_cons, ca1_d, ca2_d, plOf_loc, seqQ_nx, seqQ_rt, seqQ_ex, retQ_rt, retQ_ex, rtQ_rt, handR_d, handR_t, fInt_i, fInt_b, fAbs_i, fMax_i, fMin_i, Option.some.injEq, Prod.mk.injEq, exists_eq_left', exists_eq_left, exists_eq', exists_and_left, exists_and_right, and_true, true_and, List.set_cons_zero, List.set_cons_succ, Bool.true_eq_false, Bool.false_eq_true, forall_const, D.int.injEq, D.str.injEq, D.bl.injEq, D.lst.injEq, D.tup.injEq, Res.d.injEq, SV.d.injEq, Option.map_some, atI_0, atI_1, atI_2, atI_3, decide_eq_true_eq, decide_eq_false_iff_not, and_assoc, tyOk_str, mStr1_d, o_join, o_joinT, o_split, caLen_d, fLen_l, fLen_t, o_lenS, o_slS, o_slL, ixR_n, ixR_i, o_eqI, i_rng, i_rngB, i_val, i_valT, i_str, e_comp, wipeE, o_inC, Bool.not_true, Bool.not_false, Bool.not_eq_true', Bool.not_eq_false', if_true, if_false, Bool.if_true_left, decide_true, decide_false, asg_nm, asg_tp2, asg_tp3, kvSV_d, List.cons.injEq, o_ixL hi2]
    refine ⟨pDiv_mk (by decide) (by decide), h0, ?_⟩
    rw [cut_id (Nat.le_of_eq put_len)]
    exact q _ _ (Int.emod_nonneg _ (by omega)) (Int.emod_lt_of_pos _ h0) ⟨_, _, _, rfl, g0, g1, g2, by omega, by omega⟩
/-- .. inside of a def -/
theorem coinS {n k : Nat} {μ0 μ : Sto} {L : List Cell} {many : Int} {Q : Res → Sto → Prop} (h : Sta n (k + 1) μ0 L μ) (hn : n < μ0.m.length) (h0 : 0 < many) (h1 : many < 1073741824) (q : ∀ i μ', 0 ≤ i → i < many → Sta n k μ0 L μ' → Q (.d (.int i)) μ') :
    wpF f__law_coin [.loc n, .d (.int many)] μ (rtQ Q) :=
  coin_ok (h.pur hn) h0 h1 fun i μ' i0 i1 w => q i μ' i0 i1 (h.pw hn w)
end DF
namespace DF
open PySem PySem.Spec PyProof.Rows L2
def Let : Str := "abcdefghijklmnopqrstuvwxyz"
theorem rngI_cons {lo : Int} {m : Nat} {x : KV} {xs : List KV} (h : rngI lo m = x :: xs) : x = .d (.int lo) ∧ xs = rngI (lo + 1) (m - 1) := by
  cases m with
  | zero => cases h
  | succ m =>
    unfold rngI at h ⊢
    rw [List.range_succ_eq_map, List.map_cons, List.map_map] at h
    injection h with h1 h2
    refine ⟨by rw [← h1]; simp, ?_⟩
    rw [← h2, Nat.add_sub_cancel]
    apply List.map_congr_left
    intro a _
    simp only [Function.comp]
    congr 2
    push_cast
    omega
/-- so many letters -/
theorem letters_comp {n k m : Nat} {μ0 μ : Sto} {L : List Cell} {ρ : En} {t si sp : Nat} {Q : Res → Sto → Prop} (h : Sta n (k + m) μ0 L μ) (hn : n < μ0.m.length) (hm : m ≤ 1000)
    (el : ∀ x : KV, (ρ.set t (some (kvSV x)))[si]? = some (some (.d (.str "abcdefghijklmnopqrstuvwxyz")))) (ep : ∀ x : KV, (ρ.set t (some (kvSV x)))[sp]? = some (some (.loc n)))
    (q : ∀ (xs : List Str) μ', xs.length = m → (∀ x ∈ xs, Sx 1 x) → Sta n k μ0 L μ' → Q (.tmp (.lst (xs.map D.str))) μ') :
    wpO (compLoop (.nm t) ρ (eB true) (eBin opIx (eVar si) (eFn f__law_coin (aCons .a (eVar sp) (aCons .a (eC (.int 26)) aNil)))) (rngI 0 m) [] μ) Q := by
  refine comp_inv (fun xs acc μ => ∃ (j : Nat) (ys : List Str) (lo : Int), xs = rngI lo j ∧ j + ys.length = m ∧ acc = ys.map D.str ∧ (∀ y ∈ ys, Sx 1 y) ∧ Sta n (k + j) μ0 L μ) ?_ ?_ (rngI 0 m) [] μ ⟨m, [], 0, rfl, by simp, rfl, by simp, h⟩
  · rintro x xs acc μ ⟨j, ys, lo, e, hj, rfl, hy, hS⟩
    obtain ⟨rfl, rfl⟩ := rngI_cons e.symm
    have hj0 : 0 < j := by
      cases j with
      | zero => cases e
      | succ j => exact Nat.succ_pos _
    obtain ⟨j, rfl⟩ : ∃ i, j = i + 1 := ⟨j - 1, by omega⟩
    have e1 : eVar si (ρ.set t (some (kvSV (.d (.int lo))))) μ = some (.ok (.d (.str "abcdefghijklmnopqrstuvwxyz")) μ) := v_d (el _)
    refine ⟨by rw [List.length_map]; exact Nat.lt_of_lt_of_le (by omega : ys.length < 1001) (small_line (by decide)), _, asg_nm, ?_⟩
    have e2 : eVar sp (ρ.set t (some (kvSV (.d (.int lo))))) μ = some (.ok (.loc n) μ) := v_loc (ep _)
    simp only [e_eB, asB_d, Option.some.injEq, exists_eq_left', forall_const, Bool.true_eq_false, false_imp_iff, and_true, e_bin, e_var, e1, o_ok, e_fn, e_cons, e2, conv_al, Prod.mk.injEq, and_assoc, exists_and_left, e_c, conv_d, e_nil]
    refine coinS hS hn (by decide) (by decide) fun i μ1 i0 i1 hS1 => ?_
    rw [o_ixS]
    obtain ⟨c, hc, hm'⟩ := atI_of (l := ("abcdefghijklmnopqrstuvwxyz" : Str).cps.toList) i0 (by
      have : ("abcdefghijklmnopqrstuvwxyz" : Str).cps.toList.length = 26 := by decide +kernel
      rw [this]; exact i1)
    refine ⟨c, hc, small_line (by decide +kernel), _, _, rfl, j, ys ++ [⟨#[c]⟩], lo + 1, by rw [Nat.add_sub_cancel], by rw [List.length_append]; simp; omega, by simp, fun y hy' => ?_, hS1⟩
    rcases List.mem_append.mp hy' with z | z
    · exact hy y z
    · rw [List.mem_singleton.mp z]; exact Sx.one (strOk_of (by decide +kernel)) hm'
  · rintro acc μ ⟨j, ys, lo, e, hj, rfl, hy, hS⟩
    have hj0 : j = 0 := by
      cases j with
      | zero => rfl
      | succ j => unfold rngI at e; rw [List.range_succ_eq_map] at e; cases e
    subst hj0
    exact q ys μ (by omega) hy hS
def menuL : List Str := ["plain", "put", "set", "rewrite", "edition", "read", "follows", "stays", "a", "b", "f", "told", "now", "old"]
theorem letter_at {i : Int} : ∃ c, atI ("abcdefghijklmnopqrstuvwxyz" : Str).cps.toList (i % 26) = some c ∧ Sx 1 ⟨#[c]⟩ := by
  obtain ⟨c, hc, hm'⟩ := atI_of (l := ("abcdefghijklmnopqrstuvwxyz" : Str).cps.toList) (i := i % 26) (Int.emod_nonneg _ (by decide)) (by
    have : ("abcdefghijklmnopqrstuvwxyz" : Str).cps.toList.length = 26 := by decide +kernel
    rw [this]; exact Int.emod_lt_of_pos _ (by decide))
  exact ⟨c, hc, Sx.one (strOk_of (by decide +kernel)) hm'⟩
theorem rngI_nil {lo : Int} {m : Nat} (h : rngI lo m = []) : m = 0 := by
  cases m with
  | zero => rfl
  | succ m => unfold rngI at h; rw [List.range_succ_eq_map] at h; cases h
theorem rngI_pos {lo : Int} {m : Nat} {x : KV} {xs : List KV} (h : rngI lo m = x :: xs) : ∃ j, m = j + 1 := by
  cases m with
  | zero => cases h
  | succ m => exact ⟨m, rfl⟩
theorem handR_own {μ : Sto} {l j : Nat} {ds : List D} (hj : l ≤ j) (h : μ.at (.m j) = some (.lst ds)) : handR l μ (.loc j) = some (.tmp (.lst ds)) := by
  unfold handR
  dsimp only
  rw [if_neg (by omega), h]
  rfl
theorem line_of {z : Str} {N : Nat} (h : Sx N z) (hN : N ≤ 16777216) : z.length ≤ sizeLine := small_line (Nat.le_trans h.1 hN)
theorem menu_ok : ∀ y ∈ menuL, Sx 8 y := by
  have h : menuL.all (fun x => decide (x.length ≤ 8) && okB x) = true := by decide +kernel
  exact fun y hy => Sx.lit (List.all_eq_true.mp h y hy)
section
variable {n k many : Nat} {μ0 μ : Sto} {L : List Cell} {menu x7 : D} {x4 : Option SV} {o8 o9 : Option D} {stem : Str} {Q : Res → Sto → Prop}
/-- the last words: a letter between -/
theorem w11 (hS : Sta n (k + 3) μ0 L μ) (hn : n < μ0.m.length) (m1 : many ≤ 1000) (hb : Sx 8 stem) (q : ∀ (xs : List Str) μ', xs.length = many → (∀ x ∈ xs, Sx 8 x) → Pw n k μ0 μ' → Q (.tmp (.lst (xs.map D.str))) μ') :
    wpS g__law_words_11 [some (.loc n), some (.d (.int many)), some (.d menu), some (.d (.str stem)), x4, none, some (.d (.str "abcdefghijklmnopqrstuvwxyz")), some (.d x7), o8.map SV.d, o9.map SV.d, none, none, none, none, none] μ (retQ μ0.m.length (rtQ Q)) := by
  apply s_seq
  apply s_asg
  simp only [List.map_cons, List.map_nil, List.length_cons, List.length_nil, List.replicate, List.nil_append, List.cons_append, Nat.reduceAdd, Nat.reduceSub, Nat.zero_add, List.append_nil, e_bin, e_c, e_un, e_if, e_eB, e_nil, e_cons, e_lst, e_tup, e_call, e_fn, e_fnK, e_meth, e_sl, e_pNo, e_eI, e_chain, e_var, eVar, List.getElem?_cons_zero, List.getElem?_cons_succ, o_ok, o_okD, o_none, o_guard, o_op2, o_opI, o_addI, o_addS, o_addL, o_addT, o_mulI, o_mulL, o_ixD, o_ixT, o_ixN, o_ixS, peek_d, peek_tl, peekV_d, asB_d, conv_d, conv_al, conv_nl, conv_vt, conv_at, conv_nt, toVal_d, toVal_t, convV_d, toDs_nil, toDs_cons, ca1_d, ca2_d, plOf_loc, seqQ_nx, seqQ_rt, seqQ_ex, retQ_rt, retQ_ex, rtQ_rt, handR_d, handR_t, fInt_i, fInt_b, fAbs_i, fMax_i, fMin_i, Option.some.injEq, Prod.mk.injEq, exists_eq_left', exists_eq_left, exists_eq', exists_and_left, exists_and_right, and_true, true_and, List.set_cons_zero, List.set_cons_succ, Bool.true_eq_false, Bool.false_eq_true, forall_const, D.int.injEq, D.str.injEq, D.bl.injEq, D.lst.injEq, D.tup.injEq, Res.d.injEq, SV.d.injEq, Option.map_some, atI_0, atI_1, atI_2, atI_3, decide_eq_true_eq, decide_eq_false_iff_not, and_assoc, tyOk_str, mStr1_d, o_join, o_joinT, o_split, caLen_d, fLen_l, fLen_t, o_lenS, o_slS, o_slL, ixR_n, ixR_i, o_eqI, i_rng, i_rngB, i_val, i_valT, i_str, e_comp, wipeE, o_inC, Bool.not_true, Bool.not_false, Bool.not_eq_true', Bool.not_eq_false', if_true, if_false, Bool.if_true_left, decide_true, decide_false, asg_nm, asg_tp2, asg_tp3, kvSV_d, List.cons.injEq]
  refine coinS (k := k + 2) hS hn (by decide) (by decide) fun start μ1 i0 i1 hS1 => ?_
  simp only [List.map_cons, List.map_nil, List.length_cons, List.length_nil, List.replicate, List.nil_append, List.cons_append, Nat.reduceAdd, Nat.reduceSub, Nat.zero_add, List.append_nil, e_bin, e_c, e_un, e_if, e_eB, e_nil, e_cons, e_lst, e_tup, e_call, e_fn, e_fnK, e_meth, e_sl, e_pNo, e_eI, e_chain, e_var, eVar, List.getElem?_cons_zero, List.getElem?_cons_succ, o_ok, o_okD, o_none, o_guard, o_op2, o_opI, o_addI, o_addS, o_addL, o_addT, o_mulI, o_mulL, o_ixD, o_ixT, o_ixN, o_ixS, peek_d, peek_tl, peekV_d, asB_d, conv_d, conv_al, conv_nl, conv_vt, conv_at, conv_nt, toVal_d, toVal_t, convV_d, toDs_nil, toDs_cons, ca1_d, ca2_d, plOf_loc, seqQ_nx, seqQ_rt, seqQ_ex, retQ_rt, retQ_ex, rtQ_rt, handR_d, handR_t, fInt_i, fInt_b, fAbs_i, fMax_i, fMin_i, Option.some.injEq, Prod.mk.injEq, exists_eq_left', exists_eq_left, exists_eq', exists_and_left, exists_and_right, and_true, true_and, List.set_cons_zero, List.set_cons_succ, Bool.true_eq_false, Bool.false_eq_true, forall_const, D.int.injEq, D.str.injEq, D.bl.injEq, D.lst.injEq, D.tup.injEq, Res.d.injEq, SV.d.injEq, Option.map_some, atI_0, atI_1, atI_2, atI_3, decide_eq_true_eq, decide_eq_false_iff_not, and_assoc, tyOk_str, mStr1_d, o_join, o_joinT, o_split, caLen_d, fLen_l, fLen_t, o_lenS, o_slS, o_slL, ixR_n, ixR_i, o_eqI, i_rng, i_rngB, i_val, i_valT, i_str, e_comp, wipeE, o_inC, Bool.not_true, Bool.not_false, Bool.not_eq_true', Bool.not_eq_false', if_true, if_false, Bool.if_true_left, decide_true, decide_false, asg_nm, asg_tp2, asg_tp3, kvSV_d, List.cons.injEq]
  refine coinS (k := k + 1) hS1 hn (by decide) (by decide) fun cut μ2 j0 j1 hS2 => ?_
  simp only [List.map_cons, List.map_nil, List.length_cons, List.length_nil, List.replicate, List.nil_append, List.cons_append, Nat.reduceAdd, Nat.reduceSub, Nat.zero_add, List.append_nil, e_bin, e_c, e_un, e_if, e_eB, e_nil, e_cons, e_lst, e_tup, e_call, e_fn, e_fnK, e_meth, e_sl, e_pNo, e_eI, e_chain, e_var, eVar, List.getElem?_cons_zero, List.getElem?_cons_succ, o_ok, o_okD, o_none, o_guard, o_op2, o_opI, o_addI, o_addS, o_addL, o_addT, o_mulI, o_mulL, o_ixD, o_ixT, o_ixN, o_ixS, peek_d, peek_tl, peekV_d, asB_d, conv_d, conv_al, conv_nl, conv_vt, conv_at, conv_nt, toVal_d, toVal_t, convV_d, toDs_nil, toDs_cons, ca1_d, ca2_d, plOf_loc, seqQ_nx, seqQ_rt, seqQ_ex, retQ_rt, retQ_ex, rtQ_rt, handR_d, handR_t, fInt_i, fInt_b, fAbs_i, fMax_i, fMin_i, Option.some.injEq, Prod.mk.injEq, exists_eq_left', exists_eq_left, exists_eq', exists_and_left, exists_and_right, and_true, true_and, List.set_cons_zero, List.set_cons_succ, Bool.true_eq_false, Bool.false_eq_true, forall_const, D.int.injEq, D.str.injEq, D.bl.injEq, D.lst.injEq, D.tup.injEq, Res.d.injEq, SV.d.injEq, Option.map_some, atI_0, atI_1, atI_2, atI_3, decide_eq_true_eq, decide_eq_false_iff_not, and_assoc, tyOk_str, mStr1_d, o_join, o_joinT, o_split, caLen_d, fLen_l, fLen_t, o_lenS, o_slS, o_slL, ixR_n, ixR_i, o_eqI, i_rng, i_rngB, i_val, i_valT, i_str, e_comp, wipeE, o_inC, Bool.not_true, Bool.not_false, Bool.not_eq_true', Bool.not_eq_false', if_true, if_false, Bool.if_true_left, decide_true, decide_false, asg_nm, asg_tp2, asg_tp3, kvSV_d, List.cons.injEq]
  refine ⟨line_of hb (by decide), small_line (by decide), ?_⟩
  have ht : Sx 7 (cutS stem none (some cut)) := ⟨Nat.le_trans (len_cut_hi stem cut j0) (by omega), (hb.cut none (some cut)).2⟩
  generalize cutS stem none (some cut) = tail at ht ⊢
  apply s_seq
  apply s_par
  simp only [List.map_cons, List.map_nil, List.length_cons, List.length_nil, List.replicate, List.nil_append, List.cons_append, Nat.reduceAdd, Nat.reduceSub, Nat.zero_add, List.append_nil, e_bin, e_c, e_un, e_if, e_eB, e_nil, e_cons, e_lst, e_tup, e_call, e_fn, e_fnK, e_meth, e_sl, e_pNo, e_eI, e_chain, e_var, eVar, List.getElem?_cons_zero, List.getElem?_cons_succ, o_ok, o_okD, o_none, o_guard, o_op2, o_opI, o_addI, o_addS, o_addL, o_addT, o_mulI, o_mulL, o_ixD, o_ixT, o_ixN, o_ixS, peek_d, peek_tl, peekV_d, asB_d, conv_d, conv_al, conv_nl, conv_vt, conv_at, conv_nt, toVal_d, toVal_t, convV_d, toDs_nil, toDs_cons, ca1_d, ca2_d, plOf_loc, seqQ_nx, seqQ_rt, seqQ_ex, retQ_rt, retQ_ex, rtQ_rt, handR_d, handR_t, fInt_i, fInt_b, fAbs_i, fMax_i, fMin_i, Option.some.injEq, Prod.mk.injEq, exists_eq_left', exists_eq_left, exists_eq', exists_and_left, exists_and_right, and_true, true_and, List.set_cons_zero, List.set_cons_succ, Bool.true_eq_false, Bool.false_eq_true, forall_const, D.int.injEq, D.str.injEq, D.bl.injEq, D.lst.injEq, D.tup.injEq, Res.d.injEq, SV.d.injEq, Option.map_some, atI_0, atI_1, atI_2, atI_3, decide_eq_true_eq, decide_eq_false_iff_not, and_assoc, tyOk_str, mStr1_d, o_join, o_joinT, o_split, caLen_d, fLen_l, fLen_t, o_lenS, o_slS, o_slL, ixR_n, ixR_i, o_eqI, i_rng, i_rngB, i_val, i_valT, i_str, e_comp, wipeE, o_inC, Bool.not_true, Bool.not_false, Bool.not_eq_true', Bool.not_eq_false', if_true, if_false, Bool.if_true_left, decide_true, decide_false, asg_nm, asg_tp2, asg_tp3, kvSV_d, List.cons.injEq]
  refine ⟨line_of ht (by decide), coinS (k := k) hS2 hn (by omega) (by have := ht.1; omega) fun at_ μ3 l0 l1 hS3 => ?_⟩
  simp only [List.map_cons, List.map_nil, List.length_cons, List.length_nil, List.replicate, List.nil_append, List.cons_append, Nat.reduceAdd, Nat.reduceSub, Nat.zero_add, List.append_nil, e_bin, e_c, e_un, e_if, e_eB, e_nil, e_cons, e_lst, e_tup, e_call, e_fn, e_fnK, e_meth, e_sl, e_pNo, e_eI, e_chain, e_var, eVar, List.getElem?_cons_zero, List.getElem?_cons_succ, o_ok, o_okD, o_none, o_guard, o_op2, o_opI, o_addI, o_addS, o_addL, o_addT, o_mulI, o_mulL, o_ixD, o_ixT, o_ixN, o_ixS, peek_d, peek_tl, peekV_d, asB_d, conv_d, conv_al, conv_nl, conv_vt, conv_at, conv_nt, toVal_d, toVal_t, convV_d, toDs_nil, toDs_cons, ca1_d, ca2_d, plOf_loc, seqQ_nx, seqQ_rt, seqQ_ex, retQ_rt, retQ_ex, rtQ_rt, handR_d, handR_t, fInt_i, fInt_b, fAbs_i, fMax_i, fMin_i, Option.some.injEq, Prod.mk.injEq, exists_eq_left', exists_eq_left, exists_eq', exists_and_left, exists_and_right, and_true, true_and, List.set_cons_zero, List.set_cons_succ, Bool.true_eq_false, Bool.false_eq_true, forall_const, D.int.injEq, D.str.injEq, D.bl.injEq, D.lst.injEq, D.tup.injEq, Res.d.injEq, SV.d.injEq, Option.map_some, atI_0, atI_1, atI_2, atI_3, decide_eq_true_eq, decide_eq_false_iff_not, and_assoc, tyOk_str, mStr1_d, o_join, o_joinT, o_split, caLen_d, fLen_l, fLen_t, o_lenS, o_slS, o_slL, ixR_n, ixR_i, o_eqI, i_rng, i_rngB, i_val, i_valT, i_str, e_comp, wipeE, o_inC, Bool.not_true, Bool.not_false, Bool.not_eq_true', Bool.not_eq_false', if_true, if_false, Bool.if_true_left, decide_true, decide_false, asg_nm, asg_tp2, asg_tp3, kvSV_d, List.cons.injEq]
  refine ⟨small_line (by decide), ?_⟩
  rw [hS3.len]
  have hS4 := hS3.push (.lst [])
  generalize μ3.pushM (.lst []) = μ4 at hS4 ⊢
  apply s_seq
  apply s_for
  simp only [List.map_cons, List.map_nil, List.length_cons, List.length_nil, List.replicate, List.nil_append, List.cons_append, Nat.reduceAdd, Nat.reduceSub, Nat.zero_add, List.append_nil, e_bin, e_c, e_un, e_if, e_eB, e_nil, e_cons, e_lst, e_tup, e_call, e_fn, e_fnK, e_meth, e_sl, e_pNo, e_eI, e_chain, e_var, eVar, List.getElem?_cons_zero, List.getElem?_cons_succ, o_ok, o_okD, o_none, o_guard, o_op2, o_opI, o_addI, o_addS, o_addL, o_addT, o_mulI, o_mulL, o_ixD, o_ixT, o_ixN, o_ixS, peek_d, peek_tl, peekV_d, asB_d, conv_d, conv_al, conv_nl, conv_vt, conv_at, conv_nt, toVal_d, toVal_t, convV_d, toDs_nil, toDs_cons, ca1_d, ca2_d, plOf_loc, seqQ_nx, seqQ_rt, seqQ_ex, retQ_rt, retQ_ex, rtQ_rt, handR_d, handR_t, fInt_i, fInt_b, fAbs_i, fMax_i, fMin_i, Option.some.injEq, Prod.mk.injEq, exists_eq_left', exists_eq_left, exists_eq', exists_and_left, exists_and_right, and_true, true_and, List.set_cons_zero, List.set_cons_succ, Bool.true_eq_false, Bool.false_eq_true, forall_const, D.int.injEq, D.str.injEq, D.bl.injEq, D.lst.injEq, D.tup.injEq, Res.d.injEq, SV.d.injEq, Option.map_some, atI_0, atI_1, atI_2, atI_3, decide_eq_true_eq, decide_eq_false_iff_not, and_assoc, tyOk_str, mStr1_d, o_join, o_joinT, o_split, caLen_d, fLen_l, fLen_t, o_lenS, o_slS, o_slL, ixR_n, ixR_i, o_eqI, i_rng, i_rngB, i_val, i_valT, i_str, e_comp, wipeE, o_inC, Bool.not_true, Bool.not_false, Bool.not_eq_true', Bool.not_eq_false', if_true, if_false, Bool.if_true_left, decide_true, decide_false, asg_nm, asg_tp2, asg_tp3, kvSV_d, List.cons.injEq]
  refine ⟨by omega, by omega, ?_⟩
  rw [hS4.len, List.length_append]
  refine for_inv (fun xs ρ μ => ∃ (j : Nat) (ys : List Str) (lo : Int), xs = rngI lo j ∧ j + ys.length = many ∧ (∀ y ∈ ys, Sx 8 y) ∧ Sta n k μ0 (L ++ [.lst (ys.map D.str)]) μ ∧
    ρ = [some (.loc n), some (.d (.int many)), some (.d menu), some (.d (.str stem)), some (.loc (μ0.m.length + L.length)), none, some (.d (.str "abcdefghijklmnopqrstuvwxyz")), some (.d x7), some (.d (.int start)), o9.map SV.d, none, some (.d (.str tail)), some (.d (.int at_)), none, none]) ?_ ?_ _ _ _
    ⟨many, [], 0, rfl, by simp, by simp, hS4, rfl⟩
  · rintro x xs ρ μ ⟨j, ys, lo, e, hj, hy, hS, rfl⟩
    obtain ⟨rfl, rfl⟩ := rngI_cons e.symm
    obtain ⟨j, rfl⟩ := rngI_pos e.symm
    refine ⟨_, asg_nm, ?_⟩
    have ha : μ.at (.m (μ0.m.length + L.length)) = some (.lst (ys.map D.str)) := hS.at (by rw [List.getElem?_append_right (Nat.le_refl _), Nat.sub_self]; rfl)
    obtain ⟨c, hc, h1⟩ := letter_at (i := start + lo)
    have s1 : Sx (7 + 1) (cutS tail none (some at_) ++ ⟨#[c]⟩) := (ht.cut none (some at_)).app h1
    have l2 : (cutS tail none (some at_) ++ ⟨#[c]⟩ ++ cutS tail (some at_) none).length ≤ 8 := by
      rw [len_app, len_app]
      have e1 : (cutS tail none (some at_)).length + (cutS tail (some at_) none).length ≤ tail.length := by
        unfold cutS
        show (List.toArray _).size + (List.toArray _).size ≤ _
        rw [List.size_toArray, List.size_toArray, List.length_take, List.length_take, List.length_drop, List.length_drop, Array.length_toList]
        show min (HT.sIx tail.length tail.length (some at_) - 0) (tail.cps.size - 0) + min (tail.length - HT.sIx tail.length 0 (some at_)) (tail.cps.size - HT.sIx tail.length 0 (some at_)) ≤ tail.length
        have z : tail.cps.size = tail.length := rfl
        have z2 : HT.sIx tail.length tail.length (some at_) = HT.sIx tail.length 0 (some at_) := rfl
        have z3 := HT.sIx_le tail.length 0 (Nat.zero_le _) (some at_)
        omega
      have e2 : (⟨#[c]⟩ : Str).length = 1 := rfl
      have := ht.1
      omega
    have s2 : Sx 8 (cutS tail none (some at_) ++ ⟨#[c]⟩ ++ cutS tail (some at_) none) := ⟨l2, strOk_app (strOk_app (ht.cut _ _).2 h1.2) (ht.cut _ _).2⟩
    apply s_expr
    generalize hI : loopQ _ _ _ _ = LQ
    simp only [List.map_cons, List.map_nil, List.length_cons, List.length_nil, List.replicate, List.nil_append, List.cons_append, Nat.reduceAdd, Nat.reduceSub, Nat.zero_add, List.append_nil, e_bin, e_c, e_un, e_if, e_eB, e_nil, e_cons, e_lst, e_tup, e_call, e_fn, e_fnK, e_meth, e_sl, e_pNo, e_eI, e_chain, e_var, eVar, List.getElem?_cons_zero, List.getElem?_cons_succ, o_ok, o_okD, o_none, o_guard, o_op2, o_opI, o_addI, o_addS, o_addL, o_addT, o_mulI, o_mulL, o_ixD, o_ixT, o_ixN, o_ixS, peek_d, peek_tl, peekV_d, asB_d, conv_d, conv_al, conv_nl, conv_vt, conv_at, conv_nt, toVal_d, toVal_t, convV_d, toDs_nil, toDs_cons, ca1_d, ca2_d, plOf_loc, seqQ_nx, seqQ_rt, seqQ_ex, retQ_rt, retQ_ex, rtQ_rt, handR_d, handR_t, fInt_i, fInt_b, fAbs_i, fMax_i, fMin_i, Option.some.injEq, Prod.mk.injEq, exists_eq_left', exists_eq_left, exists_eq', exists_and_left, exists_and_right, and_true, true_and, List.set_cons_zero, List.set_cons_succ, Bool.true_eq_false, Bool.false_eq_true, forall_const, D.int.injEq, D.str.injEq, D.bl.injEq, D.lst.injEq, D.tup.injEq, Res.d.injEq, SV.d.injEq, Option.map_some, atI_0, atI_1, atI_2, atI_3, decide_eq_true_eq, decide_eq_false_iff_not, and_assoc, tyOk_str, mStr1_d, o_join, o_joinT, o_split, caLen_d, fLen_l, fLen_t, o_lenS, o_slS, o_slL, ixR_n, ixR_i, o_eqI, i_rng, i_rngB, i_val, i_valT, i_str, e_comp, wipeE, o_inC, Bool.not_true, Bool.not_false, Bool.not_eq_true', Bool.not_eq_false', if_true, if_false, Bool.if_true_left, decide_true, decide_false, asg_nm, asg_tp2, asg_tp3, kvSV_d, List.cons.injEq, tyOk_at ha, hc]
    have sl : ys.length < 1001 := by omega
    have := ht.1
    refine ⟨line_of ht (by decide), by decide, small_line (by decide +kernel), ?_, line_of ht (by decide), ?_, ?_⟩
    · have := (ht.cut none (some at_)).1
      have := h1.1
      exact small_line (by omega)
    · have := s1.1
      have := (ht.cut (some at_) none).1
      exact small_line (by omega)
    rw [o_append ha (by rw [List.length_map]; exact Nat.lt_of_lt_of_le sl (small_line (by decide)))]
    subst hI
    refine ⟨j, ys ++ [cutS tail none (some at_) ++ ⟨#[c]⟩ ++ cutS tail (some at_) none], lo + 1, rfl, by rw [List.length_append]; simp; omega, fun y hy' => ?_, ?_, ?_⟩
    · rcases List.mem_append.mp hy' with z | z
      · exact hy y z
      · rw [List.mem_singleton.mp z]; exact s2
    · have := (hS.put (j := L.length) (.lst (ys.map D.str ++ [D.str (cutS tail none (some at_) ++ ⟨#[c]⟩ ++ cutS tail (some at_) none)]))).same (l := L.length + 1) (by rw [List.length_set, List.length_append]; exact Nat.le_refl _)
      rw [List.set_append_right _ _ (Nat.le_refl _), Nat.sub_self] at this
      rw [List.map_append]
      exact this
    · rw [trim_eq]; simp (discharger := omega) only [List.map_cons, List.map_nil, tm_none, tm_d, tm_o, tm_loc, wipeE, List.set_cons_succ, List.set_cons_zero, List.length_cons, List.length_nil, Nat.zero_add, List.length_append]
  · rintro ρ μ ⟨j, ys, lo, e, hj, hy, hS, rfl⟩
    cases rngI_nil e.symm
    have ha : μ.at (.m (μ0.m.length + L.length)) = some (.lst (ys.map D.str)) := hS.at (by rw [List.getElem?_append_right (Nat.le_refl _), Nat.sub_self]; rfl)
    show wpS g__law_words_14 _ _ _
    apply s_ret
    simp only [List.map_cons, List.map_nil, List.length_cons, List.length_nil, List.replicate, List.nil_append, List.cons_append, Nat.reduceAdd, Nat.reduceSub, Nat.zero_add, List.append_nil, e_bin, e_c, e_un, e_if, e_eB, e_nil, e_cons, e_lst, e_tup, e_call, e_fn, e_fnK, e_meth, e_sl, e_pNo, e_eI, e_chain, e_var, eVar, List.getElem?_cons_zero, List.getElem?_cons_succ, o_ok, o_okD, o_none, o_guard, o_op2, o_opI, o_addI, o_addS, o_addL, o_addT, o_mulI, o_mulL, o_ixD, o_ixT, o_ixN, o_ixS, peek_d, peek_tl, peekV_d, asB_d, conv_d, conv_al, conv_nl, conv_vt, conv_at, conv_nt, toVal_d, toVal_t, convV_d, toDs_nil, toDs_cons, ca1_d, ca2_d, plOf_loc, seqQ_nx, seqQ_rt, seqQ_ex, retQ_rt, retQ_ex, rtQ_rt, handR_d, handR_t, fInt_i, fInt_b, fAbs_i, fMax_i, fMin_i, Option.some.injEq, Prod.mk.injEq, exists_eq_left', exists_eq_left, exists_eq', exists_and_left, exists_and_right, and_true, true_and, List.set_cons_zero, List.set_cons_succ, Bool.true_eq_false, Bool.false_eq_true, forall_const, D.int.injEq, D.str.injEq, D.bl.injEq, D.lst.injEq, D.tup.injEq, Res.d.injEq, SV.d.injEq, Option.map_some, atI_0, atI_1, atI_2, atI_3, decide_eq_true_eq, decide_eq_false_iff_not, and_assoc, tyOk_str, mStr1_d, o_join, o_joinT, o_split, caLen_d, fLen_l, fLen_t, o_lenS, o_slS, o_slL, ixR_n, ixR_i, o_eqI, i_rng, i_rngB, i_val, i_valT, i_str, e_comp, wipeE, o_inC, Bool.not_true, Bool.not_false, Bool.not_eq_true', Bool.not_eq_false', if_true, if_false, Bool.if_true_left, decide_true, decide_false, asg_nm, asg_tp2, asg_tp3, kvSV_d, List.cons.injEq, handR_own (Nat.le_add_right _ _) ha]
    exact q ys _ (by omega) hy hS.out
/-- the set asks whether the words differ -/
theorem w10 {ws : List Str} {j : Nat} (hS : Sta n (k + 3) μ0 L μ) (hn : n < μ0.m.length) (m0 : 1 ≤ many) (m1 : many ≤ 1000) (hb : Sx 8 stem) (hj : L[j]? = some (.lst (ws.map D.str))) (hw : ∀ x ∈ ws, Sx 8 x) (hl : ws.length ≤ 1000) (hle : ws.length ≤ many) (q : ∀ (xs : List Str) μ', xs.length = many → (∀ x ∈ xs, Sx 8 x) → Pw n k μ0 μ' → Q (.tmp (.lst (xs.map D.str))) μ') :
    wpS g__law_words_10 [some (.loc n), some (.d (.int many)), some (.d menu), some (.d (.str stem)), some (.loc (μ0.m.length + j)), none, some (.d (.str "abcdefghijklmnopqrstuvwxyz")), some (.d x7), o8.map SV.d, o9.map SV.d, none, none, none, none, none] μ (retQ μ0.m.length (rtQ Q)) := by
  have ha := hS.at hj
  apply s_seq
  apply s_if
  simp only [List.map_cons, List.map_nil, List.length_cons, List.length_nil, List.replicate, List.nil_append, List.cons_append, Nat.reduceAdd, Nat.reduceSub, Nat.zero_add, List.append_nil, e_bin, e_c, e_un, e_if, e_eB, e_nil, e_cons, e_lst, e_tup, e_call, e_fn, e_fnK, e_meth, e_sl, e_pNo, e_eI, e_chain, e_var, eVar, List.getElem?_cons_zero, List.getElem?_cons_succ, o_ok, o_okD, o_none, o_guard, o_op2, o_opI, o_addI, o_addS, o_addL, o_addT, o_mulI, o_mulL, o_ixD, o_ixT, o_ixN, o_ixS, peek_d, peek_tl, peekV_d, asB_d, conv_d, conv_al, conv_nl, conv_vt, conv_at, conv_nt, toVal_d, toVal_t, convV_d, toDs_nil, toDs_cons, ca1_d, ca2_d, plOf_loc, seqQ_nx, seqQ_rt, seqQ_ex, retQ_rt, retQ_ex, rtQ_rt, handR_d, handR_t, fInt_i, fInt_b, fAbs_i, fMax_i, fMin_i, Option.some.injEq, Prod.mk.injEq, exists_eq_left', exists_eq_left, exists_eq', exists_and_left, exists_and_right, and_true, true_and, List.set_cons_zero, List.set_cons_succ, Bool.true_eq_false, Bool.false_eq_true, forall_const, D.int.injEq, D.str.injEq, D.bl.injEq, D.lst.injEq, D.tup.injEq, Res.d.injEq, SV.d.injEq, Option.map_some, atI_0, atI_1, atI_2, atI_3, decide_eq_true_eq, decide_eq_false_iff_not, and_assoc, tyOk_str, mStr1_d, o_join, o_joinT, o_split, caLen_d, fLen_l, fLen_t, o_lenS, o_slS, o_slL, ixR_n, ixR_i, o_eqI, i_rng, i_rngB, i_val, i_valT, i_str, e_comp, wipeE, o_inC, Bool.not_true, Bool.not_false, Bool.not_eq_true', Bool.not_eq_false', if_true, if_false, Bool.if_true_left, decide_true, decide_false, asg_nm, asg_tp2, asg_tp3, kvSV_d, List.cons.injEq, o_uniq, peek_at ha]
  refine ⟨ws, rfl, ?_, ?_, ?_⟩
  · have : (4096 : Nat) = scanBound := rfl
    omega
  · intro e
    apply s_ret
    simp only [List.map_cons, List.map_nil, List.length_cons, List.length_nil, List.replicate, List.nil_append, List.cons_append, Nat.reduceAdd, Nat.reduceSub, Nat.zero_add, List.append_nil, e_bin, e_c, e_un, e_if, e_eB, e_nil, e_cons, e_lst, e_tup, e_call, e_fn, e_fnK, e_meth, e_sl, e_pNo, e_eI, e_chain, e_var, eVar, List.getElem?_cons_zero, List.getElem?_cons_succ, o_ok, o_okD, o_none, o_guard, o_op2, o_opI, o_addI, o_addS, o_addL, o_addT, o_mulI, o_mulL, o_ixD, o_ixT, o_ixN, o_ixS, peek_d, peek_tl, peekV_d, asB_d, conv_d, conv_al, conv_nl, conv_vt, conv_at, conv_nt, toVal_d, toVal_t, convV_d, toDs_nil, toDs_cons, ca1_d, ca2_d, plOf_loc, seqQ_nx, seqQ_rt, seqQ_ex, retQ_rt, retQ_ex, rtQ_rt, handR_d, handR_t, fInt_i, fInt_b, fAbs_i, fMax_i, fMin_i, Option.some.injEq, Prod.mk.injEq, exists_eq_left', exists_eq_left, exists_eq', exists_and_left, exists_and_right, and_true, true_and, List.set_cons_zero, List.set_cons_succ, Bool.true_eq_false, Bool.false_eq_true, forall_const, D.int.injEq, D.str.injEq, D.bl.injEq, D.lst.injEq, D.tup.injEq, Res.d.injEq, SV.d.injEq, Option.map_some, atI_0, atI_1, atI_2, atI_3, decide_eq_true_eq, decide_eq_false_iff_not, and_assoc, tyOk_str, mStr1_d, o_join, o_joinT, o_split, caLen_d, fLen_l, fLen_t, o_lenS, o_slS, o_slL, ixR_n, ixR_i, o_eqI, i_rng, i_rngB, i_val, i_valT, i_str, e_comp, wipeE, o_inC, Bool.not_true, Bool.not_false, Bool.not_eq_true', Bool.not_eq_false', if_true, if_false, Bool.if_true_left, decide_true, decide_false, asg_nm, asg_tp2, asg_tp3, kvSV_d, List.cons.injEq, handR_own (Nat.le_add_right _ _) ha]
    have hu := uniq_le ws
    exact q ws _ (by omega) hw (hS.le (Nat.le_add_right _ 3)).out
  · intro _
    apply s_nx
    exact w11 hS hn m1 hb q
theorem w9 {ws : List Str} {j : Nat} (hS : Sta n (k + 20) μ0 L μ) (hn : n < μ0.m.length) (m0 : 1 ≤ many) (m1 : many ≤ 14) (hb : Sx 8 stem) (hj : L[j]? = some (.lst (ws.map D.str))) (hw : ∀ x ∈ ws, Sx 8 x) (hl : ws.length ≤ 1000) (hle : ws.length ≤ many) {v7 : Int} (q : ∀ (xs : List Str) μ', xs.length = many → (∀ x ∈ xs, Sx 8 x) → Pw n k μ0 μ' → Q (.tmp (.lst (xs.map D.str))) μ') :
    wpS g__law_words_9 [some (.loc n), some (.d (.int many)), some (.d (.lst (menuL.map D.str))), some (.d (.str stem)), some (.loc (μ0.m.length + j)), none, some (.d (.str "abcdefghijklmnopqrstuvwxyz")), some (.d (.int v7)), o8.map SV.d, none, none, none, none, none, none] μ (retQ μ0.m.length (rtQ Q)) := by
  apply s_seq
  apply s_if
  simp only [List.map_cons, List.map_nil, List.length_cons, List.length_nil, List.replicate, List.nil_append, List.cons_append, Nat.reduceAdd, Nat.reduceSub, Nat.zero_add, List.append_nil, e_bin, e_c, e_un, e_if, e_eB, e_nil, e_cons, e_lst, e_tup, e_call, e_fn, e_fnK, e_meth, e_sl, e_pNo, e_eI, e_chain, e_var, eVar, List.getElem?_cons_zero, List.getElem?_cons_succ, o_ok, o_okD, o_none, o_guard, o_op2, o_opI, o_addI, o_addS, o_addL, o_addT, o_mulI, o_mulL, o_ixD, o_ixT, o_ixN, o_ixS, peek_d, peek_tl, peekV_d, asB_d, conv_d, conv_al, conv_nl, conv_vt, conv_at, conv_nt, toVal_d, toVal_t, convV_d, toDs_nil, toDs_cons, ca1_d, ca2_d, plOf_loc, seqQ_nx, seqQ_rt, seqQ_ex, retQ_rt, retQ_ex, rtQ_rt, handR_d, handR_t, fInt_i, fInt_b, fAbs_i, fMax_i, fMin_i, Option.some.injEq, Prod.mk.injEq, exists_eq_left', exists_eq_left, exists_eq', exists_and_left, exists_and_right, and_true, true_and, List.set_cons_zero, List.set_cons_succ, Bool.true_eq_false, Bool.false_eq_true, forall_const, D.int.injEq, D.str.injEq, D.bl.injEq, D.lst.injEq, D.tup.injEq, Res.d.injEq, SV.d.injEq, Option.map_some, atI_0, atI_1, atI_2, atI_3, decide_eq_true_eq, decide_eq_false_iff_not, and_assoc, tyOk_str, mStr1_d, o_join, o_joinT, o_split, caLen_d, fLen_l, fLen_t, o_lenS, o_slS, o_slL, ixR_n, ixR_i, o_eqI, i_rng, i_rngB, i_val, i_valT, i_str, e_comp, wipeE, o_inC, Bool.not_true, Bool.not_false, Bool.not_eq_true', Bool.not_eq_false', if_true, if_false, Bool.if_true_left, decide_true, decide_false, asg_nm, asg_tp2, asg_tp3, kvSV_d, List.cons.injEq]
  refine ⟨fun _ => ?_, fun _ => ?_⟩
  · apply s_seq
    apply s_set
    simp only [List.map_cons, List.map_nil, List.length_cons, List.length_nil, List.replicate, List.nil_append, List.cons_append, Nat.reduceAdd, Nat.reduceSub, Nat.zero_add, List.append_nil, e_bin, e_c, e_un, e_if, e_eB, e_nil, e_cons, e_lst, e_tup, e_call, e_fn, e_fnK, e_meth, e_sl, e_pNo, e_eI, e_chain, e_var, eVar, List.getElem?_cons_zero, List.getElem?_cons_succ, o_ok, o_okD, o_none, o_guard, o_op2, o_opI, o_addI, o_addS, o_addL, o_addT, o_mulI, o_mulL, o_ixD, o_ixT, o_ixN, o_ixS, peek_d, peek_tl, peekV_d, asB_d, conv_d, conv_al, conv_nl, conv_vt, conv_at, conv_nt, toVal_d, toVal_t, convV_d, toDs_nil, toDs_cons, ca1_d, ca2_d, plOf_loc, seqQ_nx, seqQ_rt, seqQ_ex, retQ_rt, retQ_ex, rtQ_rt, handR_d, handR_t, fInt_i, fInt_b, fAbs_i, fMax_i, fMin_i, Option.some.injEq, Prod.mk.injEq, exists_eq_left', exists_eq_left, exists_eq', exists_and_left, exists_and_right, and_true, true_and, List.set_cons_zero, List.set_cons_succ, Bool.true_eq_false, Bool.false_eq_true, forall_const, D.int.injEq, D.str.injEq, D.bl.injEq, D.lst.injEq, D.tup.injEq, Res.d.injEq, SV.d.injEq, Option.map_some, atI_0, atI_1, atI_2, atI_3, decide_eq_true_eq, decide_eq_false_iff_not, and_assoc, tyOk_str, mStr1_d, o_join, o_joinT, o_split, caLen_d, fLen_l, fLen_t, o_lenS, o_slS, o_slL, ixR_n, ixR_i, o_eqI, i_rng, i_rngB, i_val, i_valT, i_str, e_comp, wipeE, o_inC, Bool.not_true, Bool.not_false, Bool.not_eq_true', Bool.not_eq_false', if_true, if_false, Bool.if_true_left, decide_true, decide_false, asg_nm, asg_tp2, asg_tp3, kvSV_d, List.cons.injEq]
    refine coinS (k := k + 19) hS hn (by decide) (by decide) fun i μ1 i0 i1 hS1 => ?_
    simp only [List.map_cons, List.map_nil, List.length_cons, List.length_nil, List.replicate, List.nil_append, List.cons_append, Nat.reduceAdd, Nat.reduceSub, Nat.zero_add, List.append_nil, e_bin, e_c, e_un, e_if, e_eB, e_nil, e_cons, e_lst, e_tup, e_call, e_fn, e_fnK, e_meth, e_sl, e_pNo, e_eI, e_chain, e_var, eVar, List.getElem?_cons_zero, List.getElem?_cons_succ, o_ok, o_okD, o_none, o_guard, o_op2, o_opI, o_addI, o_addS, o_addL, o_addT, o_mulI, o_mulL, o_ixD, o_ixT, o_ixN, o_ixS, peek_d, peek_tl, peekV_d, asB_d, conv_d, conv_al, conv_nl, conv_vt, conv_at, conv_nt, toVal_d, toVal_t, convV_d, toDs_nil, toDs_cons, ca1_d, ca2_d, plOf_loc, seqQ_nx, seqQ_rt, seqQ_ex, retQ_rt, retQ_ex, rtQ_rt, handR_d, handR_t, fInt_i, fInt_b, fAbs_i, fMax_i, fMin_i, Option.some.injEq, Prod.mk.injEq, exists_eq_left', exists_eq_left, exists_eq', exists_and_left, exists_and_right, and_true, true_and, List.set_cons_zero, List.set_cons_succ, Bool.true_eq_false, Bool.false_eq_true, forall_const, D.int.injEq, D.str.injEq, D.bl.injEq, D.lst.injEq, D.tup.injEq, Res.d.injEq, SV.d.injEq, Option.map_some, atI_0, atI_1, atI_2, atI_3, decide_eq_true_eq, decide_eq_false_iff_not, and_assoc, tyOk_str, mStr1_d, o_join, o_joinT, o_split, caLen_d, fLen_l, fLen_t, o_lenS, o_slS, o_slL, ixR_n, ixR_i, o_eqI, i_rng, i_rngB, i_val, i_valT, i_str, e_comp, wipeE, o_inC, Bool.not_true, Bool.not_false, Bool.not_eq_true', Bool.not_eq_false', if_true, if_false, Bool.if_true_left, decide_true, decide_false, asg_nm, asg_tp2, asg_tp3, kvSV_d, List.cons.injEq]
    refine ⟨line_of hb (by decide), ?_⟩
    have ht : Sx 5 (cutS stem none (some (1 + i))) := ⟨Nat.le_trans (len_cut_hi stem (1 + i) (by omega)) (by omega), (hb.cut _ _).2⟩
    generalize cutS stem none (some (1 + i)) = base at ht ⊢
    apply s_seq
    apply s_set
    simp only [List.map_cons, List.map_nil, List.length_cons, List.length_nil, List.replicate, List.nil_append, List.cons_append, Nat.reduceAdd, Nat.reduceSub, Nat.zero_add, List.append_nil, e_bin, e_c, e_un, e_if, e_eB, e_nil, e_cons, e_lst, e_tup, e_call, e_fn, e_fnK, e_meth, e_sl, e_pNo, e_eI, e_chain, e_var, eVar, List.getElem?_cons_zero, List.getElem?_cons_succ, o_ok, o_okD, o_none, o_guard, o_op2, o_opI, o_addI, o_addS, o_addL, o_addT, o_mulI, o_mulL, o_ixD, o_ixT, o_ixN, o_ixS, peek_d, peek_tl, peekV_d, asB_d, conv_d, conv_al, conv_nl, conv_vt, conv_at, conv_nt, toVal_d, toVal_t, convV_d, toDs_nil, toDs_cons, ca1_d, ca2_d, plOf_loc, seqQ_nx, seqQ_rt, seqQ_ex, retQ_rt, retQ_ex, rtQ_rt, handR_d, handR_t, fInt_i, fInt_b, fAbs_i, fMax_i, fMin_i, Option.some.injEq, Prod.mk.injEq, exists_eq_left', exists_eq_left, exists_eq', exists_and_left, exists_and_right, and_true, true_and, List.set_cons_zero, List.set_cons_succ, Bool.true_eq_false, Bool.false_eq_true, forall_const, D.int.injEq, D.str.injEq, D.bl.injEq, D.lst.injEq, D.tup.injEq, Res.d.injEq, SV.d.injEq, Option.map_some, atI_0, atI_1, atI_2, atI_3, decide_eq_true_eq, decide_eq_false_iff_not, and_assoc, tyOk_str, mStr1_d, o_join, o_joinT, o_split, caLen_d, fLen_l, fLen_t, o_lenS, o_slS, o_slL, ixR_n, ixR_i, o_eqI, i_rng, i_rngB, i_val, i_valT, i_str, e_comp, wipeE, o_inC, Bool.not_true, Bool.not_false, Bool.not_eq_true', Bool.not_eq_false', if_true, if_false, Bool.if_true_left, decide_true, decide_false, asg_nm, asg_tp2, asg_tp3, kvSV_d, List.cons.injEq]
    refine ⟨small_line (by decide), ?_⟩
    rw [hS1.len]
    have hS2 := hS1.push (.lst [D.str base])
    generalize μ1.pushM (.lst [D.str base]) = μ2 at hS2 ⊢
    apply s_seq
    apply s_for
    simp only [List.map_cons, List.map_nil, List.length_cons, List.length_nil, List.replicate, List.nil_append, List.cons_append, Nat.reduceAdd, Nat.reduceSub, Nat.zero_add, List.append_nil, e_bin, e_c, e_un, e_if, e_eB, e_nil, e_cons, e_lst, e_tup, e_call, e_fn, e_fnK, e_meth, e_sl, e_pNo, e_eI, e_chain, e_var, eVar, List.getElem?_cons_zero, List.getElem?_cons_succ, o_ok, o_okD, o_none, o_guard, o_op2, o_opI, o_addI, o_addS, o_addL, o_addT, o_mulI, o_mulL, o_ixD, o_ixT, o_ixN, o_ixS, peek_d, peek_tl, peekV_d, asB_d, conv_d, conv_al, conv_nl, conv_vt, conv_at, conv_nt, toVal_d, toVal_t, convV_d, toDs_nil, toDs_cons, ca1_d, ca2_d, plOf_loc, seqQ_nx, seqQ_rt, seqQ_ex, retQ_rt, retQ_ex, rtQ_rt, handR_d, handR_t, fInt_i, fInt_b, fAbs_i, fMax_i, fMin_i, Option.some.injEq, Prod.mk.injEq, exists_eq_left', exists_eq_left, exists_eq', exists_and_left, exists_and_right, and_true, true_and, List.set_cons_zero, List.set_cons_succ, Bool.true_eq_false, Bool.false_eq_true, forall_const, D.int.injEq, D.str.injEq, D.bl.injEq, D.lst.injEq, D.tup.injEq, Res.d.injEq, SV.d.injEq, Option.map_some, atI_0, atI_1, atI_2, atI_3, decide_eq_true_eq, decide_eq_false_iff_not, and_assoc, tyOk_str, mStr1_d, o_join, o_joinT, o_split, caLen_d, fLen_l, fLen_t, o_lenS, o_slS, o_slL, ixR_n, ixR_i, o_eqI, i_rng, i_rngB, i_val, i_valT, i_str, e_comp, wipeE, o_inC, Bool.not_true, Bool.not_false, Bool.not_eq_true', Bool.not_eq_false', if_true, if_false, Bool.if_true_left, decide_true, decide_false, asg_nm, asg_tp2, asg_tp3, kvSV_d, List.cons.injEq]
    rw [hS2.len, List.length_append]
    refine for_inv (fun xs ρ μ => ∃ (ys : List Str) (ms : List Str), xs = kvs (ms.map D.str) ∧ (∀ y ∈ ms, Sx 8 y) ∧ ms.length + ys.length = 15 ∧ (∀ y ∈ ys, Sx 8 y) ∧ Sta n (k + 5 + ms.length) μ0 (L ++ [.lst (ys.map D.str)]) μ ∧
      ρ = [some (.loc n), some (.d (.int many)), some (.d (.lst (menuL.map D.str))), some (.d (.str stem)), some (.loc (μ0.m.length + L.length)), none, some (.d (.str "abcdefghijklmnopqrstuvwxyz")), some (.d (.int v7)), o8.map SV.d, some (.d (.str base)), none, none, none, none, none]) ?_ ?_ _ _ _
      ⟨[base], menuL, rfl, menu_ok, rfl, by intro y hy; rw [List.mem_singleton.mp hy]; exact ht.le (by decide), hS2.le (by show k + 5 + 14 ≤ _; omega), rfl⟩
    · rintro x xs ρ μ ⟨ys, ms, e, hm, hlen, hy, hS, rfl⟩
      cases ms with
      | nil => cases e
      | cons w ms =>
        cases e
        refine ⟨_, asg_nm, ?_⟩
        have ha : μ.at (.m (μ0.m.length + L.length)) = some (.lst (ys.map D.str)) := hS.at (by rw [List.getElem?_append_right (Nat.le_refl _), Nat.sub_self]; rfl)
        have hw := hm w List.mem_cons_self
        have h3 : Sx 3 (cutS w none (some 3)) := ⟨len_cut_hi w 3 (by decide), (hw.cut _ _).2⟩
        apply s_expr
        generalize hI : loopQ _ _ _ _ = LQ
        simp only [List.map_cons, List.map_nil, List.length_cons, List.length_nil, List.replicate, List.nil_append, List.cons_append, Nat.reduceAdd, Nat.reduceSub, Nat.zero_add, List.append_nil, e_bin, e_c, e_un, e_if, e_eB, e_nil, e_cons, e_lst, e_tup, e_call, e_fn, e_fnK, e_meth, e_sl, e_pNo, e_eI, e_chain, e_var, eVar, List.getElem?_cons_zero, List.getElem?_cons_succ, o_ok, o_okD, o_none, o_guard, o_op2, o_opI, o_addI, o_addS, o_addL, o_addT, o_mulI, o_mulL, o_ixD, o_ixT, o_ixN, o_ixS, peek_d, peek_tl, peekV_d, asB_d, conv_d, conv_al, conv_nl, conv_vt, conv_at, conv_nt, toVal_d, toVal_t, convV_d, toDs_nil, toDs_cons, ca1_d, ca2_d, plOf_loc, seqQ_nx, seqQ_rt, seqQ_ex, retQ_rt, retQ_ex, rtQ_rt, handR_d, handR_t, fInt_i, fInt_b, fAbs_i, fMax_i, fMin_i, Option.some.injEq, Prod.mk.injEq, exists_eq_left', exists_eq_left, exists_eq', exists_and_left, exists_and_right, and_true, true_and, List.set_cons_zero, List.set_cons_succ, Bool.true_eq_false, Bool.false_eq_true, forall_const, D.int.injEq, D.str.injEq, D.bl.injEq, D.lst.injEq, D.tup.injEq, Res.d.injEq, SV.d.injEq, Option.map_some, atI_0, atI_1, atI_2, atI_3, decide_eq_true_eq, decide_eq_false_iff_not, and_assoc, tyOk_str, mStr1_d, o_join, o_joinT, o_split, caLen_d, fLen_l, fLen_t, o_lenS, o_slS, o_slL, ixR_n, ixR_i, o_eqI, i_rng, i_rngB, i_val, i_valT, i_str, e_comp, wipeE, o_inC, Bool.not_true, Bool.not_false, Bool.not_eq_true', Bool.not_eq_false', if_true, if_false, Bool.if_true_left, decide_true, decide_false, asg_nm, asg_tp2, asg_tp3, kvSV_d, List.cons.injEq, tyOk_at ha]
        have := h3.1
        have := ht.1
        refine ⟨line_of hw (by decide), small_line (by omega), line_of hw (by decide), small_line (by omega), small_line (by decide), ?_⟩
        refine coinS (k := k + 5 + ms.length) hS hn (by decide) (by decide) fun i μ1 i0 i1 hS1 => ?_
        simp only [List.map_cons, List.map_nil, List.length_cons, List.length_nil, List.replicate, List.nil_append, List.cons_append, Nat.reduceAdd, Nat.reduceSub, Nat.zero_add, List.append_nil, e_bin, e_c, e_un, e_if, e_eB, e_nil, e_cons, e_lst, e_tup, e_call, e_fn, e_fnK, e_meth, e_sl, e_pNo, e_eI, e_chain, e_var, eVar, List.getElem?_cons_zero, List.getElem?_cons_succ, o_ok, o_okD, o_none, o_guard, o_op2, o_opI, o_addI, o_addS, o_addL, o_addT, o_mulI, o_mulL, o_ixD, o_ixT, o_ixN, o_ixS, peek_d, peek_tl, peekV_d, asB_d, conv_d, conv_al, conv_nl, conv_vt, conv_at, conv_nt, toVal_d, toVal_t, convV_d, toDs_nil, toDs_cons, ca1_d, ca2_d, plOf_loc, seqQ_nx, seqQ_rt, seqQ_ex, retQ_rt, retQ_ex, rtQ_rt, handR_d, handR_t, fInt_i, fInt_b, fAbs_i, fMax_i, fMin_i, Option.some.injEq, Prod.mk.injEq, exists_eq_left', exists_eq_left, exists_eq', exists_and_left, exists_and_right, and_true, true_and, List.set_cons_zero, List.set_cons_succ, Bool.true_eq_false, Bool.false_eq_true, forall_const, D.int.injEq, D.str.injEq, D.bl.injEq, D.lst.injEq, D.tup.injEq, Res.d.injEq, SV.d.injEq, Option.map_some, atI_0, atI_1, atI_2, atI_3, decide_eq_true_eq, decide_eq_false_iff_not, and_assoc, tyOk_str, mStr1_d, o_join, o_joinT, o_split, caLen_d, fLen_l, fLen_t, o_lenS, o_slS, o_slL, ixR_n, ixR_i, o_eqI, i_rng, i_rngB, i_val, i_valT, i_str, e_comp, wipeE, o_inC, Bool.not_true, Bool.not_false, Bool.not_eq_true', Bool.not_eq_false', if_true, if_false, Bool.if_true_left, decide_true, decide_false, asg_nm, asg_tp2, asg_tp3, kvSV_d, List.cons.injEq]
        have ha1 : μ1.at (.m (μ0.m.length + L.length)) = some (.lst (ys.map D.str)) := hS1.at (by rw [List.getElem?_append_right (Nat.le_refl _), Nat.sub_self]; rfl)
        obtain ⟨z, hz, e⟩ : ∃ z, atI [D.str (cutS w none (some 3) ++ base), D.str (base ++ cutS w none (some 3))] i = some (.str z) ∧ Sx 8 z := by
          have : i = 0 ∨ i = 1 := by omega
          rcases this with rfl | rfl
          · exact ⟨_, atI_0, h3.app ht⟩
          · exact ⟨_, atI_1, ht.app h3⟩
        rw [hz]
        simp only [List.map_cons, List.map_nil, List.length_cons, List.length_nil, List.replicate, List.nil_append, List.cons_append, Nat.reduceAdd, Nat.reduceSub, Nat.zero_add, List.append_nil, e_bin, e_c, e_un, e_if, e_eB, e_nil, e_cons, e_lst, e_tup, e_call, e_fn, e_fnK, e_meth, e_sl, e_pNo, e_eI, e_chain, e_var, eVar, List.getElem?_cons_zero, List.getElem?_cons_succ, o_ok, o_okD, o_none, o_guard, o_op2, o_opI, o_addI, o_addS, o_addL, o_addT, o_mulI, o_mulL, o_ixD, o_ixT, o_ixN, o_ixS, peek_d, peek_tl, peekV_d, asB_d, conv_d, conv_al, conv_nl, conv_vt, conv_at, conv_nt, toVal_d, toVal_t, convV_d, toDs_nil, toDs_cons, ca1_d, ca2_d, plOf_loc, seqQ_nx, seqQ_rt, seqQ_ex, retQ_rt, retQ_ex, rtQ_rt, handR_d, handR_t, fInt_i, fInt_b, fAbs_i, fMax_i, fMin_i, Option.some.injEq, Prod.mk.injEq, exists_eq_left', exists_eq_left, exists_eq', exists_and_left, exists_and_right, and_true, true_and, List.set_cons_zero, List.set_cons_succ, Bool.true_eq_false, Bool.false_eq_true, forall_const, D.int.injEq, D.str.injEq, D.bl.injEq, D.lst.injEq, D.tup.injEq, Res.d.injEq, SV.d.injEq, Option.map_some, atI_0, atI_1, atI_2, atI_3, decide_eq_true_eq, decide_eq_false_iff_not, and_assoc, tyOk_str, mStr1_d, o_join, o_joinT, o_split, caLen_d, fLen_l, fLen_t, o_lenS, o_slS, o_slL, ixR_n, ixR_i, o_eqI, i_rng, i_rngB, i_val, i_valT, i_str, e_comp, wipeE, o_inC, Bool.not_true, Bool.not_false, Bool.not_eq_true', Bool.not_eq_false', if_true, if_false, Bool.if_true_left, decide_true, decide_false, asg_nm, asg_tp2, asg_tp3, kvSV_d, List.cons.injEq]
        have sl : ys.length < 1001 := by rw [List.length_cons] at hlen; omega
        rw [o_append ha1 (by rw [List.length_map]; exact Nat.lt_of_lt_of_le sl (small_line (by decide)))]
        subst hI
        refine ⟨ys ++ [z], ms, rfl, fun y hy' => hm y (List.mem_cons_of_mem _ hy'), by rw [List.length_append]; rw [List.length_cons] at hlen; simp; omega, fun y hy' => ?_, ?_, by rw [trim_eq]; simp (discharger := omega) only [List.map_cons, List.map_nil, tm_none, tm_d, tm_o, tm_loc, wipeE, List.set_cons_succ, List.set_cons_zero, List.length_cons, List.length_nil, Nat.zero_add, List.length_append]⟩
        · rcases List.mem_append.mp hy' with u | u
          · exact hy y u
          · rw [List.mem_singleton.mp u]; exact e
        · have := (hS1.put (j := L.length) (.lst (ys.map D.str ++ [D.str z]))).same (l := L.length + 1) (by rw [List.length_set, List.length_append]; exact Nat.le_refl _)
          rw [List.set_append_right _ _ (Nat.le_refl _), Nat.sub_self] at this
          rw [List.map_append]
          exact this
    · rintro ρ μ ⟨ys, ms, e, hm, hlen, hy, hS, rfl⟩
      cases ms with
      | cons w ms => cases e
      | nil =>
        have ha : μ.at (.m (μ0.m.length + L.length)) = some (.lst (ys.map D.str)) := hS.at (by rw [List.getElem?_append_right (Nat.le_refl _), Nat.sub_self]; rfl)
        show wpS g__law_words_b6_4 _ _ _
        apply s_set
        simp only [List.map_cons, List.map_nil, List.length_cons, List.length_nil, List.replicate, List.nil_append, List.cons_append, Nat.reduceAdd, Nat.reduceSub, Nat.zero_add, List.append_nil, e_bin, e_c, e_un, e_if, e_eB, e_nil, e_cons, e_lst, e_tup, e_call, e_fn, e_fnK, e_meth, e_sl, e_pNo, e_eI, e_chain, e_var, eVar, List.getElem?_cons_zero, List.getElem?_cons_succ, o_ok, o_okD, o_none, o_guard, o_op2, o_opI, o_addI, o_addS, o_addL, o_addT, o_mulI, o_mulL, o_ixD, o_ixT, o_ixN, o_ixS, peek_d, peek_tl, peekV_d, asB_d, conv_d, conv_al, conv_nl, conv_vt, conv_at, conv_nt, toVal_d, toVal_t, convV_d, toDs_nil, toDs_cons, ca1_d, ca2_d, plOf_loc, seqQ_nx, seqQ_rt, seqQ_ex, retQ_rt, retQ_ex, rtQ_rt, handR_d, handR_t, fInt_i, fInt_b, fAbs_i, fMax_i, fMin_i, Option.some.injEq, Prod.mk.injEq, exists_eq_left', exists_eq_left, exists_eq', exists_and_left, exists_and_right, and_true, true_and, List.set_cons_zero, List.set_cons_succ, Bool.true_eq_false, Bool.false_eq_true, forall_const, D.int.injEq, D.str.injEq, D.bl.injEq, D.lst.injEq, D.tup.injEq, Res.d.injEq, SV.d.injEq, Option.map_some, atI_0, atI_1, atI_2, atI_3, decide_eq_true_eq, decide_eq_false_iff_not, and_assoc, tyOk_str, mStr1_d, o_join, o_joinT, o_split, caLen_d, fLen_l, fLen_t, o_lenS, o_slS, o_slL, ixR_n, ixR_i, o_eqI, i_rng, i_rngB, i_val, i_valT, i_str, e_comp, wipeE, o_inC, Bool.not_true, Bool.not_false, Bool.not_eq_true', Bool.not_eq_false', if_true, if_false, Bool.if_true_left, decide_true, decide_false, asg_nm, asg_tp2, asg_tp3, kvSV_d, List.cons.injEq, peek_at ha]
        have ec : cutL (ys.map D.str) none (some (many : Int)) = (ys.take many).map D.str := by
          unfold cutL
          rw [HT.sIx_none, HT.sIx_nat, Nat.sub_zero, List.drop_zero, List.length_map, List.map_take]
          by_cases hle : many ≤ ys.length
          · rw [Nat.min_eq_left hle]
          · rw [Nat.min_eq_right (by omega), List.take_of_length_le (by simp), List.take_of_length_le (by simp; omega)]
        rw [ec, hS.len]
        have hS3 := hS.push (.lst ((ys.take many).map D.str))
        generalize μ.pushM (.lst ((ys.take many).map D.str)) = μ5 at hS3 ⊢
        exact w10 (o9 := some (.str base)) (j := (L ++ [Cell.lst (ys.map D.str)]).length) (ws := ys.take many) (hS3.le (by omega)) hn m0 (by omega) hb (by rw [List.getElem?_append_right (Nat.le_refl _), Nat.sub_self]; rfl) (fun x hx => hy x (List.mem_of_mem_take hx)) (by rw [List.length_take]; omega) (by rw [List.length_take]; omega) q
  · apply s_nx
    exact w10 (o9 := none) (hS.le (by omega)) hn m0 (by omega) hb hj hw hl hle q
end
/-- texts made one by one, the store as it is -/
theorem pure_comp {t m N : Nat} {ρ : En} {μ : Sto} {fe : EF} {Q : Res → Sto → Prop} (hm : m ≤ 100000) (P : Nat → Str) (hP : ∀ i, i < m → Sx N (P i))
    (he : ∀ i, i < m → ∀ R : Res → Sto → Prop, R (.d (.str (P i))) μ → wpE fe (ρ.set t (some (.d (.int (i : Int))))) μ R)
    (q : Q (.tmp (.lst (((List.range m).map P).map D.str))) μ) : wpO (compLoop (.nm t) ρ (eB true) fe (rngI 0 m) [] μ) Q := by
  refine comp_inv (fun xs acc ν => ν = μ ∧ ∃ (j : Nat), j ≤ m ∧ xs = rngI (j : Int) (m - j) ∧ acc = ((List.range j).map P).map D.str) ?_ ?_ (rngI 0 m) [] μ ⟨rfl, 0, Nat.zero_le _, rfl, rfl⟩
  · rintro x xs acc ν ⟨rfl, j, hj, e, rfl⟩
    obtain ⟨rfl, rfl⟩ := rngI_cons e.symm
    obtain ⟨d, hd⟩ := rngI_pos e.symm
    refine ⟨by rw [List.length_map, List.length_map, List.length_range]; exact Nat.lt_of_lt_of_le (by omega : j < 100001) (small_line (by decide)), _, asg_nm, ?_⟩
    simp only [e_eB, asB_d, Option.some.injEq, exists_eq_left', forall_const, Bool.true_eq_false, false_imp_iff, and_true]
    refine he j (by omega) _ ⟨_, _, rfl, rfl, j + 1, by omega, ?_, ?_⟩
    · rw [show m - j - 1 = m - (j + 1) by omega]; rfl
    · rw [List.range_succ, List.map_append, List.map_append]; rfl
  · rintro acc ν ⟨rfl, j, hj, e, rfl⟩
    have := rngI_nil e.symm
    have : j = m := by omega
    subst this
    exact q
section
variable {n k many : Nat} {μ0 μ : Sto} {L : List Cell} {stem : Str} {v7 : Int} {Q : Res → Sto → Prop}
theorem w7 (hS : Sta n (k + 150) μ0 L μ) (hn : n < μ0.m.length) (m0 : 1 ≤ many) (m1 : many ≤ 14) (hb : Sx 8 stem) (q : ∀ (xs : List Str) μ', xs.length = many → (∀ x ∈ xs, Sx 8 x) → Pw n k μ0 μ' → Q (.tmp (.lst (xs.map D.str))) μ') :
    wpS g__law_words_7 [some (.loc n), some (.d (.int many)), some (.d (.lst (menuL.map D.str))), some (.d (.str stem)), none, none, some (.d (.str "abcdefghijklmnopqrstuvwxyz")), some (.d (.int v7)), none, none, none, none, none, none, none] μ (retQ μ0.m.length (rtQ Q)) := by
  apply s_seq
  apply s_set
  simp only [List.map_cons, List.map_nil, List.length_cons, List.length_nil, List.replicate, List.nil_append, List.cons_append, Nat.reduceAdd, Nat.reduceSub, Nat.zero_add, List.append_nil, e_bin, e_c, e_un, e_if, e_eB, e_nil, e_cons, e_lst, e_tup, e_call, e_fn, e_fnK, e_meth, e_sl, e_pNo, e_eI, e_chain, e_var, eVar, List.getElem?_cons_zero, List.getElem?_cons_succ, o_ok, o_okD, o_none, o_guard, o_op2, o_opI, o_addI, o_addS, o_addL, o_addT, o_mulI, o_mulL, o_ixD, o_ixT, o_ixN, o_ixS, peek_d, peek_tl, peekV_d, asB_d, conv_d, conv_al, conv_nl, conv_vt, conv_at, conv_nt, toVal_d, toVal_t, convV_d, toDs_nil, toDs_cons, ca1_d, ca2_d, plOf_loc, seqQ_nx, seqQ_rt, seqQ_ex, retQ_rt, retQ_ex, rtQ_rt, handR_d, handR_t, fInt_i, fInt_b, fAbs_i, fMax_i, fMin_i, Option.some.injEq, Prod.mk.injEq, exists_eq_left', exists_eq_left, exists_eq', exists_and_left, exists_and_right, and_true, true_and, List.set_cons_zero, List.set_cons_succ, Bool.true_eq_false, Bool.false_eq_true, forall_const, D.int.injEq, D.str.injEq, D.bl.injEq, D.lst.injEq, D.tup.injEq, Res.d.injEq, SV.d.injEq, Option.map_some, atI_0, atI_1, atI_2, atI_3, decide_eq_true_eq, decide_eq_false_iff_not, and_assoc, tyOk_str, mStr1_d, o_join, o_joinT, o_split, caLen_d, fLen_l, fLen_t, o_lenS, o_slS, o_slL, ixR_n, ixR_i, o_eqI, i_rng, i_rngB, i_val, i_valT, i_str, e_comp, wipeE, o_inC, Bool.not_true, Bool.not_false, Bool.not_eq_true', Bool.not_eq_false', if_true, if_false, Bool.if_true_left, decide_true, decide_false, asg_nm, asg_tp2, asg_tp3, kvSV_d, List.cons.injEq]
  refine ⟨small_line (by decide), ?_⟩
  rw [hS.len]
  have hS2 := hS.push (.lst [])
  generalize μ.pushM (.lst []) = μ2 at hS2 ⊢
  apply s_seq
  apply s_if
  simp only [List.map_cons, List.map_nil, List.length_cons, List.length_nil, List.replicate, List.nil_append, List.cons_append, Nat.reduceAdd, Nat.reduceSub, Nat.zero_add, List.append_nil, e_bin, e_c, e_un, e_if, e_eB, e_nil, e_cons, e_lst, e_tup, e_call, e_fn, e_fnK, e_meth, e_sl, e_pNo, e_eI, e_chain, e_var, eVar, List.getElem?_cons_zero, List.getElem?_cons_succ, o_ok, o_okD, o_none, o_guard, o_op2, o_opI, o_addI, o_addS, o_addL, o_addT, o_mulI, o_mulL, o_ixD, o_ixT, o_ixN, o_ixS, peek_d, peek_tl, peekV_d, asB_d, conv_d, conv_al, conv_nl, conv_vt, conv_at, conv_nt, toVal_d, toVal_t, convV_d, toDs_nil, toDs_cons, ca1_d, ca2_d, plOf_loc, seqQ_nx, seqQ_rt, seqQ_ex, retQ_rt, retQ_ex, rtQ_rt, handR_d, handR_t, fInt_i, fInt_b, fAbs_i, fMax_i, fMin_i, Option.some.injEq, Prod.mk.injEq, exists_eq_left', exists_eq_left, exists_eq', exists_and_left, exists_and_right, and_true, true_and, List.set_cons_zero, List.set_cons_succ, Bool.true_eq_false, Bool.false_eq_true, forall_const, D.int.injEq, D.str.injEq, D.bl.injEq, D.lst.injEq, D.tup.injEq, Res.d.injEq, SV.d.injEq, Option.map_some, atI_0, atI_1, atI_2, atI_3, decide_eq_true_eq, decide_eq_false_iff_not, and_assoc, tyOk_str, mStr1_d, o_join, o_joinT, o_split, caLen_d, fLen_l, fLen_t, o_lenS, o_slS, o_slL, ixR_n, ixR_i, o_eqI, i_rng, i_rngB, i_val, i_valT, i_str, e_comp, wipeE, o_inC, Bool.not_true, Bool.not_false, Bool.not_eq_true', Bool.not_eq_false', if_true, if_false, Bool.if_true_left, decide_true, decide_false, asg_nm, asg_tp2, asg_tp3, kvSV_d, List.cons.injEq]
  refine ⟨fun _ => ?_, fun _ => ?_⟩
  · apply s_for
    simp only [List.map_cons, List.map_nil, List.length_cons, List.length_nil, List.replicate, List.nil_append, List.cons_append, Nat.reduceAdd, Nat.reduceSub, Nat.zero_add, List.append_nil, e_bin, e_c, e_un, e_if, e_eB, e_nil, e_cons, e_lst, e_tup, e_call, e_fn, e_fnK, e_meth, e_sl, e_pNo, e_eI, e_chain, e_var, eVar, List.getElem?_cons_zero, List.getElem?_cons_succ, o_ok, o_okD, o_none, o_guard, o_op2, o_opI, o_addI, o_addS, o_addL, o_addT, o_mulI, o_mulL, o_ixD, o_ixT, o_ixN, o_ixS, peek_d, peek_tl, peekV_d, asB_d, conv_d, conv_al, conv_nl, conv_vt, conv_at, conv_nt, toVal_d, toVal_t, convV_d, toDs_nil, toDs_cons, ca1_d, ca2_d, plOf_loc, seqQ_nx, seqQ_rt, seqQ_ex, retQ_rt, retQ_ex, rtQ_rt, handR_d, handR_t, fInt_i, fInt_b, fAbs_i, fMax_i, fMin_i, Option.some.injEq, Prod.mk.injEq, exists_eq_left', exists_eq_left, exists_eq', exists_and_left, exists_and_right, and_true, true_and, List.set_cons_zero, List.set_cons_succ, Bool.true_eq_false, Bool.false_eq_true, forall_const, D.int.injEq, D.str.injEq, D.bl.injEq, D.lst.injEq, D.tup.injEq, Res.d.injEq, SV.d.injEq, Option.map_some, atI_0, atI_1, atI_2, atI_3, decide_eq_true_eq, decide_eq_false_iff_not, and_assoc, tyOk_str, mStr1_d, o_join, o_joinT, o_split, caLen_d, fLen_l, fLen_t, o_lenS, o_slS, o_slL, ixR_n, ixR_i, o_eqI, i_rng, i_rngB, i_val, i_valT, i_str, e_comp, wipeE, o_inC, Bool.not_true, Bool.not_false, Bool.not_eq_true', Bool.not_eq_false', if_true, if_false, Bool.if_true_left, decide_true, decide_false, asg_nm, asg_tp2, asg_tp3, kvSV_d, List.cons.injEq]
    refine ⟨by omega, by omega, ?_⟩
    rw [hS2.len, List.length_append]
    refine for_inv (fun xs ρ μ => ∃ (j : Nat) (ys : List Str) (lo : Int), xs = rngI lo j ∧ j + ys.length = many ∧ (∀ y ∈ ys, Sx 8 y) ∧ Sta n (k + 20 + j * 9) μ0 (L ++ [.lst (ys.map D.str)]) μ ∧
      ρ = [some (.loc n), some (.d (.int many)), some (.d (.lst (menuL.map D.str))), some (.d (.str stem)), some (.loc (μ0.m.length + L.length)), none, some (.d (.str "abcdefghijklmnopqrstuvwxyz")), some (.d (.int v7)), none, none, none, none, none, none, none]) ?_ ?_ _ _ _
      ⟨many, [], 0, rfl, by simp, by simp, hS2.le (by omega), rfl⟩
    · rintro x xs ρ μ ⟨j, ys, lo, e, hj, hy, hS, rfl⟩
      obtain ⟨rfl, rfl⟩ := rngI_cons e.symm
      obtain ⟨j, rfl⟩ := rngI_pos e.symm
      refine ⟨_, asg_nm, ?_⟩
      apply s_seq
      apply s_set
      generalize hI : loopQ _ _ _ _ = LQ
      simp only [List.map_cons, List.map_nil, List.length_cons, List.length_nil, List.replicate, List.nil_append, List.cons_append, Nat.reduceAdd, Nat.reduceSub, Nat.zero_add, List.append_nil, e_bin, e_c, e_un, e_if, e_eB, e_nil, e_cons, e_lst, e_tup, e_call, e_fn, e_fnK, e_meth, e_sl, e_pNo, e_eI, e_chain, e_var, eVar, List.getElem?_cons_zero, List.getElem?_cons_succ, o_ok, o_okD, o_none, o_guard, o_op2, o_opI, o_addI, o_addS, o_addL, o_addT, o_mulI, o_mulL, o_ixD, o_ixT, o_ixN, o_ixS, peek_d, peek_tl, peekV_d, asB_d, conv_d, conv_al, conv_nl, conv_vt, conv_at, conv_nt, toVal_d, toVal_t, convV_d, toDs_nil, toDs_cons, ca1_d, ca2_d, plOf_loc, seqQ_nx, seqQ_rt, seqQ_ex, retQ_rt, retQ_ex, rtQ_rt, handR_d, handR_t, fInt_i, fInt_b, fAbs_i, fMax_i, fMin_i, Option.some.injEq, Prod.mk.injEq, exists_eq_left', exists_eq_left, exists_eq', exists_and_left, exists_and_right, and_true, true_and, List.set_cons_zero, List.set_cons_succ, Bool.true_eq_false, Bool.false_eq_true, forall_const, D.int.injEq, D.str.injEq, D.bl.injEq, D.lst.injEq, D.tup.injEq, Res.d.injEq, SV.d.injEq, Option.map_some, atI_0, atI_1, atI_2, atI_3, decide_eq_true_eq, decide_eq_false_iff_not, and_assoc, tyOk_str, mStr1_d, o_join, o_joinT, o_split, caLen_d, fLen_l, fLen_t, o_lenS, o_slS, o_slL, ixR_n, ixR_i, o_eqI, i_rng, i_rngB, i_val, i_valT, i_str, e_comp, wipeE, o_inC, Bool.not_true, Bool.not_false, Bool.not_eq_true', Bool.not_eq_false', if_true, if_false, Bool.if_true_left, decide_true, decide_false, asg_nm, asg_tp2, asg_tp3, kvSV_d, List.cons.injEq]
      refine coinS (k := k + 20 + j * 9 + 8) (hS.le (by omega)) hn (by decide) (by decide) fun sz μ1 i0 i1 hS1 => ?_
      simp only [List.map_cons, List.map_nil, List.length_cons, List.length_nil, List.replicate, List.nil_append, List.cons_append, Nat.reduceAdd, Nat.reduceSub, Nat.zero_add, List.append_nil, e_bin, e_c, e_un, e_if, e_eB, e_nil, e_cons, e_lst, e_tup, e_call, e_fn, e_fnK, e_meth, e_sl, e_pNo, e_eI, e_chain, e_var, eVar, List.getElem?_cons_zero, List.getElem?_cons_succ, o_ok, o_okD, o_none, o_guard, o_op2, o_opI, o_addI, o_addS, o_addL, o_addT, o_mulI, o_mulL, o_ixD, o_ixT, o_ixN, o_ixS, peek_d, peek_tl, peekV_d, asB_d, conv_d, conv_al, conv_nl, conv_vt, conv_at, conv_nt, toVal_d, toVal_t, convV_d, toDs_nil, toDs_cons, ca1_d, ca2_d, plOf_loc, seqQ_nx, seqQ_rt, seqQ_ex, retQ_rt, retQ_ex, rtQ_rt, handR_d, handR_t, fInt_i, fInt_b, fAbs_i, fMax_i, fMin_i, Option.some.injEq, Prod.mk.injEq, exists_eq_left', exists_eq_left, exists_eq', exists_and_left, exists_and_right, and_true, true_and, List.set_cons_zero, List.set_cons_succ, Bool.true_eq_false, Bool.false_eq_true, forall_const, D.int.injEq, D.str.injEq, D.bl.injEq, D.lst.injEq, D.tup.injEq, Res.d.injEq, SV.d.injEq, Option.map_some, atI_0, atI_1, atI_2, atI_3, decide_eq_true_eq, decide_eq_false_iff_not, and_assoc, tyOk_str, mStr1_d, o_join, o_joinT, o_split, caLen_d, fLen_l, fLen_t, o_lenS, o_slS, o_slL, ixR_n, ixR_i, o_eqI, i_rng, i_rngB, i_val, i_valT, i_str, e_comp, wipeE, o_inC, Bool.not_true, Bool.not_false, Bool.not_eq_true', Bool.not_eq_false', if_true, if_false, Bool.if_true_left, decide_true, decide_false, asg_nm, asg_tp2, asg_tp3, kvSV_d, List.cons.injEq]
      have ha : μ1.at (.m (μ0.m.length + L.length)) = some (.lst (ys.map D.str)) := hS1.at (by rw [List.getElem?_append_right (Nat.le_refl _), Nat.sub_self]; rfl)
      apply s_expr
      simp only [List.map_cons, List.map_nil, List.length_cons, List.length_nil, List.replicate, List.nil_append, List.cons_append, Nat.reduceAdd, Nat.reduceSub, Nat.zero_add, List.append_nil, e_bin, e_c, e_un, e_if, e_eB, e_nil, e_cons, e_lst, e_tup, e_call, e_fn, e_fnK, e_meth, e_sl, e_pNo, e_eI, e_chain, e_var, eVar, List.getElem?_cons_zero, List.getElem?_cons_succ, o_ok, o_okD, o_none, o_guard, o_op2, o_opI, o_addI, o_addS, o_addL, o_addT, o_mulI, o_mulL, o_ixD, o_ixT, o_ixN, o_ixS, peek_d, peek_tl, peekV_d, asB_d, conv_d, conv_al, conv_nl, conv_vt, conv_at, conv_nt, toVal_d, toVal_t, convV_d, toDs_nil, toDs_cons, ca1_d, ca2_d, plOf_loc, seqQ_nx, seqQ_rt, seqQ_ex, retQ_rt, retQ_ex, rtQ_rt, handR_d, handR_t, fInt_i, fInt_b, fAbs_i, fMax_i, fMin_i, Option.some.injEq, Prod.mk.injEq, exists_eq_left', exists_eq_left, exists_eq', exists_and_left, exists_and_right, and_true, true_and, List.set_cons_zero, List.set_cons_succ, Bool.true_eq_false, Bool.false_eq_true, forall_const, D.int.injEq, D.str.injEq, D.bl.injEq, D.lst.injEq, D.tup.injEq, Res.d.injEq, SV.d.injEq, Option.map_some, atI_0, atI_1, atI_2, atI_3, decide_eq_true_eq, decide_eq_false_iff_not, and_assoc, tyOk_str, mStr1_d, o_join, o_joinT, o_split, caLen_d, fLen_l, fLen_t, o_lenS, o_slS, o_slL, ixR_n, ixR_i, o_eqI, i_rng, i_rngB, i_val, i_valT, i_str, e_comp, wipeE, o_inC, Bool.not_true, Bool.not_false, Bool.not_eq_true', Bool.not_eq_false', if_true, if_false, Bool.if_true_left, decide_true, decide_false, asg_nm, asg_tp2, asg_tp3, kvSV_d, List.cons.injEq, tyOk_at ha]
      refine ⟨by omega, by omega, ?_⟩
      refine letters_comp (k := k + 20 + j * 9) (m := (1 + sz).toNat) (hS1.le (by omega)) hn (by omega) (fun _ => rfl) (fun _ => rfl) fun zs μ3 hx hz hS3 => ?_
      simp only [List.map_cons, List.map_nil, List.length_cons, List.length_nil, List.replicate, List.nil_append, List.cons_append, Nat.reduceAdd, Nat.reduceSub, Nat.zero_add, List.append_nil, e_bin, e_c, e_un, e_if, e_eB, e_nil, e_cons, e_lst, e_tup, e_call, e_fn, e_fnK, e_meth, e_sl, e_pNo, e_eI, e_chain, e_var, eVar, List.getElem?_cons_zero, List.getElem?_cons_succ, o_ok, o_okD, o_none, o_guard, o_op2, o_opI, o_addI, o_addS, o_addL, o_addT, o_mulI, o_mulL, o_ixD, o_ixT, o_ixN, o_ixS, peek_d, peek_tl, peekV_d, asB_d, conv_d, conv_al, conv_nl, conv_vt, conv_at, conv_nt, toVal_d, toVal_t, convV_d, toDs_nil, toDs_cons, ca1_d, ca2_d, plOf_loc, seqQ_nx, seqQ_rt, seqQ_ex, retQ_rt, retQ_ex, rtQ_rt, handR_d, handR_t, fInt_i, fInt_b, fAbs_i, fMax_i, fMin_i, Option.some.injEq, Prod.mk.injEq, exists_eq_left', exists_eq_left, exists_eq', exists_and_left, exists_and_right, and_true, true_and, List.set_cons_zero, List.set_cons_succ, Bool.true_eq_false, Bool.false_eq_true, forall_const, D.int.injEq, D.str.injEq, D.bl.injEq, D.lst.injEq, D.tup.injEq, Res.d.injEq, SV.d.injEq, Option.map_some, atI_0, atI_1, atI_2, atI_3, decide_eq_true_eq, decide_eq_false_iff_not, and_assoc, tyOk_str, mStr1_d, o_join, o_joinT, o_split, caLen_d, fLen_l, fLen_t, o_lenS, o_slS, o_slL, ixR_n, ixR_i, o_eqI, i_rng, i_rngB, i_val, i_valT, i_str, e_comp, wipeE, o_inC, Bool.not_true, Bool.not_false, Bool.not_eq_true', Bool.not_eq_false', if_true, if_false, Bool.if_true_left, decide_true, decide_false, asg_nm, asg_tp2, asg_tp3, kvSV_d, List.cons.injEq]
      have hbz : Sx 8 (Txt.join "" zs) := by
        have := Sx.join (A := 0) (a := "") (Sx.lit (by decide +kernel)) hz
        exact this.le (by rw [hx]; omega)
      refine ⟨?_, ?_⟩
      · have := sum_le fun p hp => (hz p hp).1
        rw [hx] at this ⊢
        have e0 : ("" : Str).length = 0 := by decide +kernel
        rw [e0]
        omega
      generalize Txt.join "" zs = z at hbz ⊢
      have ha3 : μ3.at (.m (μ0.m.length + L.length)) = some (.lst (ys.map D.str)) := hS3.at (by rw [List.getElem?_append_right (Nat.le_refl _), Nat.sub_self]; rfl)
      have sl : ys.length < 1001 := by omega
      rw [o_append ha3 (by rw [List.length_map]; exact Nat.lt_of_lt_of_le sl (small_line (by decide)))]
      subst hI
      refine ⟨j, ys ++ [z], lo + 1, rfl, by rw [List.length_append]; simp; omega, fun y hy' => ?_, ?_, by rw [trim_eq]; simp (discharger := omega) only [List.map_cons, List.map_nil, tm_none, tm_d, tm_o, tm_loc, wipeE, List.set_cons_succ, List.set_cons_zero, List.length_cons, List.length_nil, Nat.zero_add, List.length_append]⟩
      · rcases List.mem_append.mp hy' with u | u
        · exact hy y u
        · rw [List.mem_singleton.mp u]; exact hbz
      · have := (hS3.put (j := L.length) (.lst (ys.map D.str ++ [D.str z]))).same (l := L.length + 1) (by rw [List.length_set, List.length_append]; exact Nat.le_refl _)
        rw [List.set_append_right _ _ (Nat.le_refl _), Nat.sub_self] at this
        rw [List.map_append]
        exact this
    · rintro ρ μ ⟨j, ys, lo, e, hj, hy, hS, rfl⟩
      cases rngI_nil e.symm
      exact w9 (o8 := none) (j := L.length) (hS.le (by omega)) hn m0 m1 hb (by rw [List.getElem?_append_right (Nat.le_refl _), Nat.sub_self]; rfl) hy (by omega) (by omega) q
  · apply s_nx
    exact w9 (o8 := none) (ws := []) (j := L.length) (hS2.le (by omega)) hn m0 m1 hb (by rw [List.getElem?_append_right (Nat.le_refl _), Nat.sub_self]; rfl) (by simp) (by simp) (by simp) q
theorem w6 (hS : Sta n (k + 151) μ0 L μ) (hn : n < μ0.m.length) (m0 : 1 ≤ many) (m1 : many ≤ 14) (hb : Sx 8 stem) (q : ∀ (xs : List Str) μ', xs.length = many → (∀ x ∈ xs, Sx 8 x) → Pw n k μ0 μ' → Q (.tmp (.lst (xs.map D.str))) μ') :
    wpS g__law_words_6 [some (.loc n), some (.d (.int many)), some (.d (.lst (menuL.map D.str))), some (.d (.str stem)), none, none, some (.d (.str "abcdefghijklmnopqrstuvwxyz")), some (.d (.int v7)), none, none, none, none, none, none, none] μ (retQ μ0.m.length (rtQ Q)) := by
  apply s_seq
  apply s_if
  simp only [List.map_cons, List.map_nil, List.length_cons, List.length_nil, List.replicate, List.nil_append, List.cons_append, Nat.reduceAdd, Nat.reduceSub, Nat.zero_add, List.append_nil, e_bin, e_c, e_un, e_if, e_eB, e_nil, e_cons, e_lst, e_tup, e_call, e_fn, e_fnK, e_meth, e_sl, e_pNo, e_eI, e_chain, e_var, eVar, List.getElem?_cons_zero, List.getElem?_cons_succ, o_ok, o_okD, o_none, o_guard, o_op2, o_opI, o_addI, o_addS, o_addL, o_addT, o_mulI, o_mulL, o_ixD, o_ixT, o_ixN, o_ixS, peek_d, peek_tl, peekV_d, asB_d, conv_d, conv_al, conv_nl, conv_vt, conv_at, conv_nt, toVal_d, toVal_t, convV_d, toDs_nil, toDs_cons, ca1_d, ca2_d, plOf_loc, seqQ_nx, seqQ_rt, seqQ_ex, retQ_rt, retQ_ex, rtQ_rt, handR_d, handR_t, fInt_i, fInt_b, fAbs_i, fMax_i, fMin_i, Option.some.injEq, Prod.mk.injEq, exists_eq_left', exists_eq_left, exists_eq', exists_and_left, exists_and_right, and_true, true_and, List.set_cons_zero, List.set_cons_succ, Bool.true_eq_false, Bool.false_eq_true, forall_const, D.int.injEq, D.str.injEq, D.bl.injEq, D.lst.injEq, D.tup.injEq, Res.d.injEq, SV.d.injEq, Option.map_some, atI_0, atI_1, atI_2, atI_3, decide_eq_true_eq, decide_eq_false_iff_not, and_assoc, tyOk_str, mStr1_d, o_join, o_joinT, o_split, caLen_d, fLen_l, fLen_t, o_lenS, o_slS, o_slL, ixR_n, ixR_i, o_eqI, i_rng, i_rngB, i_val, i_valT, i_str, e_comp, wipeE, o_inC, Bool.not_true, Bool.not_false, Bool.not_eq_true', Bool.not_eq_false', if_true, if_false, Bool.if_true_left, decide_true, decide_false, asg_nm, asg_tp2, asg_tp3, kvSV_d, List.cons.injEq]
  refine ⟨fun _ => ⟨fun hm => ?_, fun _ => ?_⟩, fun _ => ⟨fun z => z.elim, ?_⟩⟩
  · apply s_seq
    apply s_set
    simp only [List.map_cons, List.map_nil, List.length_cons, List.length_nil, List.replicate, List.nil_append, List.cons_append, Nat.reduceAdd, Nat.reduceSub, Nat.zero_add, List.append_nil, e_bin, e_c, e_un, e_if, e_eB, e_nil, e_cons, e_lst, e_tup, e_call, e_fn, e_fnK, e_meth, e_sl, e_pNo, e_eI, e_chain, e_var, eVar, List.getElem?_cons_zero, List.getElem?_cons_succ, o_ok, o_okD, o_none, o_guard, o_op2, o_opI, o_addI, o_addS, o_addL, o_addT, o_mulI, o_mulL, o_ixD, o_ixT, o_ixN, o_ixS, peek_d, peek_tl, peekV_d, asB_d, conv_d, conv_al, conv_nl, conv_vt, conv_at, conv_nt, toVal_d, toVal_t, convV_d, toDs_nil, toDs_cons, ca1_d, ca2_d, plOf_loc, seqQ_nx, seqQ_rt, seqQ_ex, retQ_rt, retQ_ex, rtQ_rt, handR_d, handR_t, fInt_i, fInt_b, fAbs_i, fMax_i, fMin_i, Option.some.injEq, Prod.mk.injEq, exists_eq_left', exists_eq_left, exists_eq', exists_and_left, exists_and_right, and_true, true_and, List.set_cons_zero, List.set_cons_succ, Bool.true_eq_false, Bool.false_eq_true, forall_const, D.int.injEq, D.str.injEq, D.bl.injEq, D.lst.injEq, D.tup.injEq, Res.d.injEq, SV.d.injEq, Option.map_some, atI_0, atI_1, atI_2, atI_3, decide_eq_true_eq, decide_eq_false_iff_not, and_assoc, tyOk_str, mStr1_d, o_join, o_joinT, o_split, caLen_d, fLen_l, fLen_t, o_lenS, o_slS, o_slL, ixR_n, ixR_i, o_eqI, i_rng, i_rngB, i_val, i_valT, i_str, e_comp, wipeE, o_inC, Bool.not_true, Bool.not_false, Bool.not_eq_true', Bool.not_eq_false', if_true, if_false, Bool.if_true_left, decide_true, decide_false, asg_nm, asg_tp2, asg_tp3, kvSV_d, List.cons.injEq]
    refine coinS (k := k) (hS.le (by omega)) hn (by omega) (by omega) fun start μ1 i0 i1 hS1 => ?_
    simp only [List.map_cons, List.map_nil, List.length_cons, List.length_nil, List.replicate, List.nil_append, List.cons_append, Nat.reduceAdd, Nat.reduceSub, Nat.zero_add, List.append_nil, e_bin, e_c, e_un, e_if, e_eB, e_nil, e_cons, e_lst, e_tup, e_call, e_fn, e_fnK, e_meth, e_sl, e_pNo, e_eI, e_chain, e_var, eVar, List.getElem?_cons_zero, List.getElem?_cons_succ, o_ok, o_okD, o_none, o_guard, o_op2, o_opI, o_addI, o_addS, o_addL, o_addT, o_mulI, o_mulL, o_ixD, o_ixT, o_ixN, o_ixS, peek_d, peek_tl, peekV_d, asB_d, conv_d, conv_al, conv_nl, conv_vt, conv_at, conv_nt, toVal_d, toVal_t, convV_d, toDs_nil, toDs_cons, ca1_d, ca2_d, plOf_loc, seqQ_nx, seqQ_rt, seqQ_ex, retQ_rt, retQ_ex, rtQ_rt, handR_d, handR_t, fInt_i, fInt_b, fAbs_i, fMax_i, fMin_i, Option.some.injEq, Prod.mk.injEq, exists_eq_left', exists_eq_left, exists_eq', exists_and_left, exists_and_right, and_true, true_and, List.set_cons_zero, List.set_cons_succ, Bool.true_eq_false, Bool.false_eq_true, forall_const, D.int.injEq, D.str.injEq, D.bl.injEq, D.lst.injEq, D.tup.injEq, Res.d.injEq, SV.d.injEq, Option.map_some, atI_0, atI_1, atI_2, atI_3, decide_eq_true_eq, decide_eq_false_iff_not, and_assoc, tyOk_str, mStr1_d, o_join, o_joinT, o_split, caLen_d, fLen_l, fLen_t, o_lenS, o_slS, o_slL, ixR_n, ixR_i, o_eqI, i_rng, i_rngB, i_val, i_valT, i_str, e_comp, wipeE, o_inC, Bool.not_true, Bool.not_false, Bool.not_eq_true', Bool.not_eq_false', if_true, if_false, Bool.if_true_left, decide_true, decide_false, asg_nm, asg_tp2, asg_tp3, kvSV_d, List.cons.injEq]
    apply s_ret
    simp only [List.map_cons, List.map_nil, List.length_cons, List.length_nil, List.replicate, List.nil_append, List.cons_append, Nat.reduceAdd, Nat.reduceSub, Nat.zero_add, List.append_nil, e_bin, e_c, e_un, e_if, e_eB, e_nil, e_cons, e_lst, e_tup, e_call, e_fn, e_fnK, e_meth, e_sl, e_pNo, e_eI, e_chain, e_var, eVar, List.getElem?_cons_zero, List.getElem?_cons_succ, o_ok, o_okD, o_none, o_guard, o_op2, o_opI, o_addI, o_addS, o_addL, o_addT, o_mulI, o_mulL, o_ixD, o_ixT, o_ixN, o_ixS, peek_d, peek_tl, peekV_d, asB_d, conv_d, conv_al, conv_nl, conv_vt, conv_at, conv_nt, toVal_d, toVal_t, convV_d, toDs_nil, toDs_cons, ca1_d, ca2_d, plOf_loc, seqQ_nx, seqQ_rt, seqQ_ex, retQ_rt, retQ_ex, rtQ_rt, handR_d, handR_t, fInt_i, fInt_b, fAbs_i, fMax_i, fMin_i, Option.some.injEq, Prod.mk.injEq, exists_eq_left', exists_eq_left, exists_eq', exists_and_left, exists_and_right, and_true, true_and, List.set_cons_zero, List.set_cons_succ, Bool.true_eq_false, Bool.false_eq_true, forall_const, D.int.injEq, D.str.injEq, D.bl.injEq, D.lst.injEq, D.tup.injEq, Res.d.injEq, SV.d.injEq, Option.map_some, atI_0, atI_1, atI_2, atI_3, decide_eq_true_eq, decide_eq_false_iff_not, and_assoc, tyOk_str, mStr1_d, o_join, o_joinT, o_split, caLen_d, fLen_l, fLen_t, o_lenS, o_slS, o_slL, ixR_n, ixR_i, o_eqI, i_rng, i_rngB, i_val, i_valT, i_str, e_comp, wipeE, o_inC, Bool.not_true, Bool.not_false, Bool.not_eq_true', Bool.not_eq_false', if_true, if_false, Bool.if_true_left, decide_true, decide_false, asg_nm, asg_tp2, asg_tp3, kvSV_d, List.cons.injEq]
    refine ⟨by omega, by omega, ?_⟩
    refine pure_comp (m := many) (N := 8) (by omega) (fun i => cutS stem none (some (start + i + 1))) (fun i _ => hb.cut _ _) (fun i hi R r => ?_) ?_
    · simp only [List.map_cons, List.map_nil, List.length_cons, List.length_nil, List.replicate, List.nil_append, List.cons_append, Nat.reduceAdd, Nat.reduceSub, Nat.zero_add, List.append_nil, e_bin, e_c, e_un, e_if, e_eB, e_nil, e_cons, e_lst, e_tup, e_call, e_fn, e_fnK, e_meth, e_sl, e_pNo, e_eI, e_chain, e_var, eVar, List.getElem?_cons_zero, List.getElem?_cons_succ, o_ok, o_okD, o_none, o_guard, o_op2, o_opI, o_addI, o_addS, o_addL, o_addT, o_mulI, o_mulL, o_ixD, o_ixT, o_ixN, o_ixS, peek_d, peek_tl, peekV_d, asB_d, conv_d, conv_al, conv_nl, conv_vt, conv_at, conv_nt, toVal_d, toVal_t, convV_d, toDs_nil, toDs_cons, ca1_d, ca2_d, plOf_loc, seqQ_nx, seqQ_rt, seqQ_ex, retQ_rt, retQ_ex, rtQ_rt, handR_d, handR_t, fInt_i, fInt_b, fAbs_i, fMax_i, fMin_i, Option.some.injEq, Prod.mk.injEq, exists_eq_left', exists_eq_left, exists_eq', exists_and_left, exists_and_right, and_true, true_and, List.set_cons_zero, List.set_cons_succ, Bool.true_eq_false, Bool.false_eq_true, forall_const, D.int.injEq, D.str.injEq, D.bl.injEq, D.lst.injEq, D.tup.injEq, Res.d.injEq, SV.d.injEq, Option.map_some, atI_0, atI_1, atI_2, atI_3, decide_eq_true_eq, decide_eq_false_iff_not, and_assoc, tyOk_str, mStr1_d, o_join, o_joinT, o_split, caLen_d, fLen_l, fLen_t, o_lenS, o_slS, o_slL, ixR_n, ixR_i, o_eqI, i_rng, i_rngB, i_val, i_valT, i_str, e_comp, wipeE, o_inC, Bool.not_true, Bool.not_false, Bool.not_eq_true', Bool.not_eq_false', if_true, if_false, Bool.if_true_left, decide_true, decide_false, asg_nm, asg_tp2, asg_tp3, kvSV_d, List.cons.injEq]
      exact ⟨line_of hb (by decide), r⟩
    · simp only [List.map_cons, List.map_nil, List.length_cons, List.length_nil, List.replicate, List.nil_append, List.cons_append, Nat.reduceAdd, Nat.reduceSub, Nat.zero_add, List.append_nil, e_bin, e_c, e_un, e_if, e_eB, e_nil, e_cons, e_lst, e_tup, e_call, e_fn, e_fnK, e_meth, e_sl, e_pNo, e_eI, e_chain, e_var, eVar, List.getElem?_cons_zero, List.getElem?_cons_succ, o_ok, o_okD, o_none, o_guard, o_op2, o_opI, o_addI, o_addS, o_addL, o_addT, o_mulI, o_mulL, o_ixD, o_ixT, o_ixN, o_ixS, peek_d, peek_tl, peekV_d, asB_d, conv_d, conv_al, conv_nl, conv_vt, conv_at, conv_nt, toVal_d, toVal_t, convV_d, toDs_nil, toDs_cons, ca1_d, ca2_d, plOf_loc, seqQ_nx, seqQ_rt, seqQ_ex, retQ_rt, retQ_ex, rtQ_rt, handR_d, handR_t, fInt_i, fInt_b, fAbs_i, fMax_i, fMin_i, Option.some.injEq, Prod.mk.injEq, exists_eq_left', exists_eq_left, exists_eq', exists_and_left, exists_and_right, and_true, true_and, List.set_cons_zero, List.set_cons_succ, Bool.true_eq_false, Bool.false_eq_true, forall_const, D.int.injEq, D.str.injEq, D.bl.injEq, D.lst.injEq, D.tup.injEq, Res.d.injEq, SV.d.injEq, Option.map_some, atI_0, atI_1, atI_2, atI_3, decide_eq_true_eq, decide_eq_false_iff_not, and_assoc, tyOk_str, mStr1_d, o_join, o_joinT, o_split, caLen_d, fLen_l, fLen_t, o_lenS, o_slS, o_slL, ixR_n, ixR_i, o_eqI, i_rng, i_rngB, i_val, i_valT, i_str, e_comp, wipeE, o_inC, Bool.not_true, Bool.not_false, Bool.not_eq_true', Bool.not_eq_false', if_true, if_false, Bool.if_true_left, decide_true, decide_false, asg_nm, asg_tp2, asg_tp3, kvSV_d, List.cons.injEq]
      exact q _ _ (by simp) (fun x hx => by obtain ⟨i, _, rfl⟩ := List.mem_map.mp hx; exact hb.cut _ _) hS1.out
  · apply s_nx
    exact w7 (hS.le (by omega)) hn m0 m1 hb q
  · apply s_nx
    exact w7 (hS.le (by omega)) hn m0 m1 hb q
end
theorem words_ok {n k : Nat} {μ : Sto} {many : Nat} {Q : Res → Sto → Prop} (h : Pur n (k + 200) μ) (m0 : 1 ≤ many) (m1 : many ≤ 14)
    (q : ∀ (xs : List Str) μ', xs.length = many → (∀ x ∈ xs, Sx 8 x) → Pw n k μ μ' → Q (.tmp (.lst (xs.map D.str))) μ') : wpF f__law_words [.loc n, .d (.int many)] μ (rtQ Q) := by
  have hn := h.lt
  have hS0 := Sta.start h
  apply f_def
  apply s_seq
  apply s_asg
  simp only [List.map_cons, List.map_nil, List.length_cons, List.length_nil, List.replicate, List.nil_append, List.cons_append, Nat.reduceAdd, Nat.reduceSub, Nat.zero_add, List.append_nil, e_bin, e_c, e_un, e_if, e_eB, e_nil, e_cons, e_lst, e_tup, e_call, e_fn, e_fnK, e_meth, e_sl, e_pNo, e_eI, e_chain, e_var, eVar, List.getElem?_cons_zero, List.getElem?_cons_succ, o_ok, o_okD, o_none, o_guard, o_op2, o_opI, o_addI, o_addS, o_addL, o_addT, o_mulI, o_mulL, o_ixD, o_ixT, o_ixN, o_ixS, peek_d, peek_tl, peekV_d, asB_d, conv_d, conv_al, conv_nl, conv_vt, conv_at, conv_nt, toVal_d, toVal_t, convV_d, toDs_nil, toDs_cons, ca1_d, ca2_d, plOf_loc, seqQ_nx, seqQ_rt, seqQ_ex, retQ_rt, retQ_ex, rtQ_rt, handR_d, handR_t, fInt_i, fInt_b, fAbs_i, fMax_i, fMin_i, Option.some.injEq, Prod.mk.injEq, exists_eq_left', exists_eq_left, exists_eq', exists_and_left, exists_and_right, and_true, true_and, List.set_cons_zero, List.set_cons_succ, Bool.true_eq_false, Bool.false_eq_true, forall_const, D.int.injEq, D.str.injEq, D.bl.injEq, D.lst.injEq, D.tup.injEq, Res.d.injEq, SV.d.injEq, Option.map_some, atI_0, atI_1, atI_2, atI_3, decide_eq_true_eq, decide_eq_false_iff_not, and_assoc, tyOk_str, mStr1_d, o_join, o_joinT, o_split, caLen_d, fLen_l, fLen_t, o_lenS, o_slS, o_slL, ixR_n, ixR_i, o_eqI, i_rng, i_rngB, i_val, i_valT, i_str, e_comp, wipeE, o_inC, Bool.not_true, Bool.not_false, Bool.not_eq_true', Bool.not_eq_false', if_true, if_false, Bool.if_true_left, decide_true, decide_false, asg_nm, asg_tp2, asg_tp3, kvSV_d, List.cons.injEq]
  refine coinS hS0 hn (by decide) (by decide) fun sort μ1 i0 i1 hS1 => ?_
  simp only [List.map_cons, List.map_nil, List.length_cons, List.length_nil, List.replicate, List.nil_append, List.cons_append, Nat.reduceAdd, Nat.reduceSub, Nat.zero_add, List.append_nil, e_bin, e_c, e_un, e_if, e_eB, e_nil, e_cons, e_lst, e_tup, e_call, e_fn, e_fnK, e_meth, e_sl, e_pNo, e_eI, e_chain, e_var, eVar, List.getElem?_cons_zero, List.getElem?_cons_succ, o_ok, o_okD, o_none, o_guard, o_op2, o_opI, o_addI, o_addS, o_addL, o_addT, o_mulI, o_mulL, o_ixD, o_ixT, o_ixN, o_ixS, peek_d, peek_tl, peekV_d, asB_d, conv_d, conv_al, conv_nl, conv_vt, conv_at, conv_nt, toVal_d, toVal_t, convV_d, toDs_nil, toDs_cons, ca1_d, ca2_d, plOf_loc, seqQ_nx, seqQ_rt, seqQ_ex, retQ_rt, retQ_ex, rtQ_rt, handR_d, handR_t, fInt_i, fInt_b, fAbs_i, fMax_i, fMin_i, Option.some.injEq, Prod.mk.injEq, exists_eq_left', exists_eq_left, exists_eq', exists_and_left, exists_and_right, and_true, true_and, List.set_cons_zero, List.set_cons_succ, Bool.true_eq_false, Bool.false_eq_true, forall_const, D.int.injEq, D.str.injEq, D.bl.injEq, D.lst.injEq, D.tup.injEq, Res.d.injEq, SV.d.injEq, Option.map_some, atI_0, atI_1, atI_2, atI_3, decide_eq_true_eq, decide_eq_false_iff_not, and_assoc, tyOk_str, mStr1_d, o_join, o_joinT, o_split, caLen_d, fLen_l, fLen_t, o_lenS, o_slS, o_slL, ixR_n, ixR_i, o_eqI, i_rng, i_rngB, i_val, i_valT, i_str, e_comp, wipeE, o_inC, Bool.not_true, Bool.not_false, Bool.not_eq_true', Bool.not_eq_false', if_true, if_false, Bool.if_true_left, decide_true, decide_false, asg_nm, asg_tp2, asg_tp3, kvSV_d, List.cons.injEq]
  refine ⟨small_line (by decide), ?_⟩
  apply s_seq
  apply s_set
  simp only [List.map_cons, List.map_nil, List.length_cons, List.length_nil, List.replicate, List.nil_append, List.cons_append, Nat.reduceAdd, Nat.reduceSub, Nat.zero_add, List.append_nil, e_bin, e_c, e_un, e_if, e_eB, e_nil, e_cons, e_lst, e_tup, e_call, e_fn, e_fnK, e_meth, e_sl, e_pNo, e_eI, e_chain, e_var, eVar, List.getElem?_cons_zero, List.getElem?_cons_succ, o_ok, o_okD, o_none, o_guard, o_op2, o_opI, o_addI, o_addS, o_addL, o_addT, o_mulI, o_mulL, o_ixD, o_ixT, o_ixN, o_ixS, peek_d, peek_tl, peekV_d, asB_d, conv_d, conv_al, conv_nl, conv_vt, conv_at, conv_nt, toVal_d, toVal_t, convV_d, toDs_nil, toDs_cons, ca1_d, ca2_d, plOf_loc, seqQ_nx, seqQ_rt, seqQ_ex, retQ_rt, retQ_ex, rtQ_rt, handR_d, handR_t, fInt_i, fInt_b, fAbs_i, fMax_i, fMin_i, Option.some.injEq, Prod.mk.injEq, exists_eq_left', exists_eq_left, exists_eq', exists_and_left, exists_and_right, and_true, true_and, List.set_cons_zero, List.set_cons_succ, Bool.true_eq_false, Bool.false_eq_true, forall_const, D.int.injEq, D.str.injEq, D.bl.injEq, D.lst.injEq, D.tup.injEq, Res.d.injEq, SV.d.injEq, Option.map_some, atI_0, atI_1, atI_2, atI_3, decide_eq_true_eq, decide_eq_false_iff_not, and_assoc, tyOk_str, mStr1_d, o_join, o_joinT, o_split, caLen_d, fLen_l, fLen_t, o_lenS, o_slS, o_slL, ixR_n, ixR_i, o_eqI, i_rng, i_rngB, i_val, i_valT, i_str, e_comp, wipeE, o_inC, Bool.not_true, Bool.not_false, Bool.not_eq_true', Bool.not_eq_false', if_true, if_false, Bool.if_true_left, decide_true, decide_false, asg_nm, asg_tp2, asg_tp3, kvSV_d, List.cons.injEq]
  refine ⟨small_line (by decide), ?_⟩
  apply s_seq
  apply s_set
  simp only [List.map_cons, List.map_nil, List.length_cons, List.length_nil, List.replicate, List.nil_append, List.cons_append, Nat.reduceAdd, Nat.reduceSub, Nat.zero_add, List.append_nil, e_bin, e_c, e_un, e_if, e_eB, e_nil, e_cons, e_lst, e_tup, e_call, e_fn, e_fnK, e_meth, e_sl, e_pNo, e_eI, e_chain, e_var, eVar, List.getElem?_cons_zero, List.getElem?_cons_succ, o_ok, o_okD, o_none, o_guard, o_op2, o_opI, o_addI, o_addS, o_addL, o_addT, o_mulI, o_mulL, o_ixD, o_ixT, o_ixN, o_ixS, peek_d, peek_tl, peekV_d, asB_d, conv_d, conv_al, conv_nl, conv_vt, conv_at, conv_nt, toVal_d, toVal_t, convV_d, toDs_nil, toDs_cons, ca1_d, ca2_d, plOf_loc, seqQ_nx, seqQ_rt, seqQ_ex, retQ_rt, retQ_ex, rtQ_rt, handR_d, handR_t, fInt_i, fInt_b, fAbs_i, fMax_i, fMin_i, Option.some.injEq, Prod.mk.injEq, exists_eq_left', exists_eq_left, exists_eq', exists_and_left, exists_and_right, and_true, true_and, List.set_cons_zero, List.set_cons_succ, Bool.true_eq_false, Bool.false_eq_true, forall_const, D.int.injEq, D.str.injEq, D.bl.injEq, D.lst.injEq, D.tup.injEq, Res.d.injEq, SV.d.injEq, Option.map_some, atI_0, atI_1, atI_2, atI_3, decide_eq_true_eq, decide_eq_false_iff_not, and_assoc, tyOk_str, mStr1_d, o_join, o_joinT, o_split, caLen_d, fLen_l, fLen_t, o_lenS, o_slS, o_slL, ixR_n, ixR_i, o_eqI, i_rng, i_rngB, i_val, i_valT, i_str, e_comp, wipeE, o_inC, Bool.not_true, Bool.not_false, Bool.not_eq_true', Bool.not_eq_false', if_true, if_false, Bool.if_true_left, decide_true, decide_false, asg_nm, asg_tp2, asg_tp3, kvSV_d, List.cons.injEq]
  refine ⟨small_line (by decide), small_line (by decide), ?_⟩
  show wpS g__law_words_4 [some (.loc n), some (.d (.int many)), some (.d (.lst (menuL.map D.str))), none, none, none, some (.d (.str "abcdefghijklmnopqrstuvwxyz")), some (.d (.int sort)), none, none, none, none, none, none, none] μ1 _
  apply s_seq
  apply s_set
  simp only [List.map_cons, List.map_nil, List.length_cons, List.length_nil, List.replicate, List.nil_append, List.cons_append, Nat.reduceAdd, Nat.reduceSub, Nat.zero_add, List.append_nil, e_bin, e_c, e_un, e_if, e_eB, e_nil, e_cons, e_lst, e_tup, e_call, e_fn, e_fnK, e_meth, e_sl, e_pNo, e_eI, e_chain, e_var, eVar, List.getElem?_cons_zero, List.getElem?_cons_succ, o_ok, o_okD, o_none, o_guard, o_op2, o_opI, o_addI, o_addS, o_addL, o_addT, o_mulI, o_mulL, o_ixD, o_ixT, o_ixN, o_ixS, peek_d, peek_tl, peekV_d, asB_d, conv_d, conv_al, conv_nl, conv_vt, conv_at, conv_nt, toVal_d, toVal_t, convV_d, toDs_nil, toDs_cons, ca1_d, ca2_d, plOf_loc, seqQ_nx, seqQ_rt, seqQ_ex, retQ_rt, retQ_ex, rtQ_rt, handR_d, handR_t, fInt_i, fInt_b, fAbs_i, fMax_i, fMin_i, Option.some.injEq, Prod.mk.injEq, exists_eq_left', exists_eq_left, exists_eq', exists_and_left, exists_and_right, and_true, true_and, List.set_cons_zero, List.set_cons_succ, Bool.true_eq_false, Bool.false_eq_true, forall_const, D.int.injEq, D.str.injEq, D.bl.injEq, D.lst.injEq, D.tup.injEq, Res.d.injEq, SV.d.injEq, Option.map_some, atI_0, atI_1, atI_2, atI_3, decide_eq_true_eq, decide_eq_false_iff_not, and_assoc, tyOk_str, mStr1_d, o_join, o_joinT, o_split, caLen_d, fLen_l, fLen_t, o_lenS, o_slS, o_slL, ixR_n, ixR_i, o_eqI, i_rng, i_rngB, i_val, i_valT, i_str, e_comp, wipeE, o_inC, Bool.not_true, Bool.not_false, Bool.not_eq_true', Bool.not_eq_false', if_true, if_false, Bool.if_true_left, decide_true, decide_false, asg_nm, asg_tp2, asg_tp3, kvSV_d, List.cons.injEq]
  refine ⟨by decide, by decide, letters_comp (k := k + 191) (m := 8) hS1 hn (by decide) (fun _ => rfl) (fun _ => rfl) fun xs μ2 hx hy hS2 => ?_⟩
  simp only [List.map_cons, List.map_nil, List.length_cons, List.length_nil, List.replicate, List.nil_append, List.cons_append, Nat.reduceAdd, Nat.reduceSub, Nat.zero_add, List.append_nil, e_bin, e_c, e_un, e_if, e_eB, e_nil, e_cons, e_lst, e_tup, e_call, e_fn, e_fnK, e_meth, e_sl, e_pNo, e_eI, e_chain, e_var, eVar, List.getElem?_cons_zero, List.getElem?_cons_succ, o_ok, o_okD, o_none, o_guard, o_op2, o_opI, o_addI, o_addS, o_addL, o_addT, o_mulI, o_mulL, o_ixD, o_ixT, o_ixN, o_ixS, peek_d, peek_tl, peekV_d, asB_d, conv_d, conv_al, conv_nl, conv_vt, conv_at, conv_nt, toVal_d, toVal_t, convV_d, toDs_nil, toDs_cons, ca1_d, ca2_d, plOf_loc, seqQ_nx, seqQ_rt, seqQ_ex, retQ_rt, retQ_ex, rtQ_rt, handR_d, handR_t, fInt_i, fInt_b, fAbs_i, fMax_i, fMin_i, Option.some.injEq, Prod.mk.injEq, exists_eq_left', exists_eq_left, exists_eq', exists_and_left, exists_and_right, and_true, true_and, List.set_cons_zero, List.set_cons_succ, Bool.true_eq_false, Bool.false_eq_true, forall_const, D.int.injEq, D.str.injEq, D.bl.injEq, D.lst.injEq, D.tup.injEq, Res.d.injEq, SV.d.injEq, Option.map_some, atI_0, atI_1, atI_2, atI_3, decide_eq_true_eq, decide_eq_false_iff_not, and_assoc, tyOk_str, mStr1_d, o_join, o_joinT, o_split, caLen_d, fLen_l, fLen_t, o_lenS, o_slS, o_slL, ixR_n, ixR_i, o_eqI, i_rng, i_rngB, i_val, i_valT, i_str, e_comp, wipeE, o_inC, Bool.not_true, Bool.not_false, Bool.not_eq_true', Bool.not_eq_false', if_true, if_false, Bool.if_true_left, decide_true, decide_false, asg_nm, asg_tp2, asg_tp3, kvSV_d, List.cons.injEq]
  have hb : Sx 8 (Txt.join "" xs) := by
    have := Sx.join (A := 0) (a := "") (Sx.lit (by decide +kernel)) hy
    rw [hx] at this
    exact this
  refine ⟨?_, ?_⟩
  · have := sum_le fun p hp => (hy p hp).1
    rw [hx] at this ⊢
    have e0 : ("" : Str).length = 0 := by decide +kernel
    rw [e0]
    omega
  generalize Txt.join "" xs = stem at hb ⊢
  apply s_seq
  apply s_if
  simp only [List.map_cons, List.map_nil, List.length_cons, List.length_nil, List.replicate, List.nil_append, List.cons_append, Nat.reduceAdd, Nat.reduceSub, Nat.zero_add, List.append_nil, e_bin, e_c, e_un, e_if, e_eB, e_nil, e_cons, e_lst, e_tup, e_call, e_fn, e_fnK, e_meth, e_sl, e_pNo, e_eI, e_chain, e_var, eVar, List.getElem?_cons_zero, List.getElem?_cons_succ, o_ok, o_okD, o_none, o_guard, o_op2, o_opI, o_addI, o_addS, o_addL, o_addT, o_mulI, o_mulL, o_ixD, o_ixT, o_ixN, o_ixS, peek_d, peek_tl, peekV_d, asB_d, conv_d, conv_al, conv_nl, conv_vt, conv_at, conv_nt, toVal_d, toVal_t, convV_d, toDs_nil, toDs_cons, ca1_d, ca2_d, plOf_loc, seqQ_nx, seqQ_rt, seqQ_ex, retQ_rt, retQ_ex, rtQ_rt, handR_d, handR_t, fInt_i, fInt_b, fAbs_i, fMax_i, fMin_i, Option.some.injEq, Prod.mk.injEq, exists_eq_left', exists_eq_left, exists_eq', exists_and_left, exists_and_right, and_true, true_and, List.set_cons_zero, List.set_cons_succ, Bool.true_eq_false, Bool.false_eq_true, forall_const, D.int.injEq, D.str.injEq, D.bl.injEq, D.lst.injEq, D.tup.injEq, Res.d.injEq, SV.d.injEq, Option.map_some, atI_0, atI_1, atI_2, atI_3, decide_eq_true_eq, decide_eq_false_iff_not, and_assoc, tyOk_str, mStr1_d, o_join, o_joinT, o_split, caLen_d, fLen_l, fLen_t, o_lenS, o_slS, o_slL, ixR_n, ixR_i, o_eqI, i_rng, i_rngB, i_val, i_valT, i_str, e_comp, wipeE, o_inC, Bool.not_true, Bool.not_false, Bool.not_eq_true', Bool.not_eq_false', if_true, if_false, Bool.if_true_left, decide_true, decide_false, asg_nm, asg_tp2, asg_tp3, kvSV_d, List.cons.injEq]
  refine ⟨fun _ => ⟨fun hm => ?_, fun _ => ?_⟩, fun _ => ⟨fun z => z.elim, ?_⟩⟩
  · apply s_seq
    apply s_set
    simp only [List.map_cons, List.map_nil, List.length_cons, List.length_nil, List.replicate, List.nil_append, List.cons_append, Nat.reduceAdd, Nat.reduceSub, Nat.zero_add, List.append_nil, e_bin, e_c, e_un, e_if, e_eB, e_nil, e_cons, e_lst, e_tup, e_call, e_fn, e_fnK, e_meth, e_sl, e_pNo, e_eI, e_chain, e_var, eVar, List.getElem?_cons_zero, List.getElem?_cons_succ, o_ok, o_okD, o_none, o_guard, o_op2, o_opI, o_addI, o_addS, o_addL, o_addT, o_mulI, o_mulL, o_ixD, o_ixT, o_ixN, o_ixS, peek_d, peek_tl, peekV_d, asB_d, conv_d, conv_al, conv_nl, conv_vt, conv_at, conv_nt, toVal_d, toVal_t, convV_d, toDs_nil, toDs_cons, ca1_d, ca2_d, plOf_loc, seqQ_nx, seqQ_rt, seqQ_ex, retQ_rt, retQ_ex, rtQ_rt, handR_d, handR_t, fInt_i, fInt_b, fAbs_i, fMax_i, fMin_i, Option.some.injEq, Prod.mk.injEq, exists_eq_left', exists_eq_left, exists_eq', exists_and_left, exists_and_right, and_true, true_and, List.set_cons_zero, List.set_cons_succ, Bool.true_eq_false, Bool.false_eq_true, forall_const, D.int.injEq, D.str.injEq, D.bl.injEq, D.lst.injEq, D.tup.injEq, Res.d.injEq, SV.d.injEq, Option.map_some, atI_0, atI_1, atI_2, atI_3, decide_eq_true_eq, decide_eq_false_iff_not, and_assoc, tyOk_str, mStr1_d, o_join, o_joinT, o_split, caLen_d, fLen_l, fLen_t, o_lenS, o_slS, o_slL, ixR_n, ixR_i, o_eqI, i_rng, i_rngB, i_val, i_valT, i_str, e_comp, wipeE, o_inC, Bool.not_true, Bool.not_false, Bool.not_eq_true', Bool.not_eq_false', if_true, if_false, Bool.if_true_left, decide_true, decide_false, asg_nm, asg_tp2, asg_tp3, kvSV_d, List.cons.injEq]
    refine coinS (k := k) (hS2.le (by omega)) hn (by decide) (by decide) fun start μ1 i0 i1 hS1 => ?_
    simp only [List.map_cons, List.map_nil, List.length_cons, List.length_nil, List.replicate, List.nil_append, List.cons_append, Nat.reduceAdd, Nat.reduceSub, Nat.zero_add, List.append_nil, e_bin, e_c, e_un, e_if, e_eB, e_nil, e_cons, e_lst, e_tup, e_call, e_fn, e_fnK, e_meth, e_sl, e_pNo, e_eI, e_chain, e_var, eVar, List.getElem?_cons_zero, List.getElem?_cons_succ, o_ok, o_okD, o_none, o_guard, o_op2, o_opI, o_addI, o_addS, o_addL, o_addT, o_mulI, o_mulL, o_ixD, o_ixT, o_ixN, o_ixS, peek_d, peek_tl, peekV_d, asB_d, conv_d, conv_al, conv_nl, conv_vt, conv_at, conv_nt, toVal_d, toVal_t, convV_d, toDs_nil, toDs_cons, ca1_d, ca2_d, plOf_loc, seqQ_nx, seqQ_rt, seqQ_ex, retQ_rt, retQ_ex, rtQ_rt, handR_d, handR_t, fInt_i, fInt_b, fAbs_i, fMax_i, fMin_i, Option.some.injEq, Prod.mk.injEq, exists_eq_left', exists_eq_left, exists_eq', exists_and_left, exists_and_right, and_true, true_and, List.set_cons_zero, List.set_cons_succ, Bool.true_eq_false, Bool.false_eq_true, forall_const, D.int.injEq, D.str.injEq, D.bl.injEq, D.lst.injEq, D.tup.injEq, Res.d.injEq, SV.d.injEq, Option.map_some, atI_0, atI_1, atI_2, atI_3, decide_eq_true_eq, decide_eq_false_iff_not, and_assoc, tyOk_str, mStr1_d, o_join, o_joinT, o_split, caLen_d, fLen_l, fLen_t, o_lenS, o_slS, o_slL, ixR_n, ixR_i, o_eqI, i_rng, i_rngB, i_val, i_valT, i_str, e_comp, wipeE, o_inC, Bool.not_true, Bool.not_false, Bool.not_eq_true', Bool.not_eq_false', if_true, if_false, Bool.if_true_left, decide_true, decide_false, asg_nm, asg_tp2, asg_tp3, kvSV_d, List.cons.injEq]
    apply s_ret
    simp only [List.map_cons, List.map_nil, List.length_cons, List.length_nil, List.replicate, List.nil_append, List.cons_append, Nat.reduceAdd, Nat.reduceSub, Nat.zero_add, List.append_nil, e_bin, e_c, e_un, e_if, e_eB, e_nil, e_cons, e_lst, e_tup, e_call, e_fn, e_fnK, e_meth, e_sl, e_pNo, e_eI, e_chain, e_var, eVar, List.getElem?_cons_zero, List.getElem?_cons_succ, o_ok, o_okD, o_none, o_guard, o_op2, o_opI, o_addI, o_addS, o_addL, o_addT, o_mulI, o_mulL, o_ixD, o_ixT, o_ixN, o_ixS, peek_d, peek_tl, peekV_d, asB_d, conv_d, conv_al, conv_nl, conv_vt, conv_at, conv_nt, toVal_d, toVal_t, convV_d, toDs_nil, toDs_cons, ca1_d, ca2_d, plOf_loc, seqQ_nx, seqQ_rt, seqQ_ex, retQ_rt, retQ_ex, rtQ_rt, handR_d, handR_t, fInt_i, fInt_b, fAbs_i, fMax_i, fMin_i, Option.some.injEq, Prod.mk.injEq, exists_eq_left', exists_eq_left, exists_eq', exists_and_left, exists_and_right, and_true, true_and, List.set_cons_zero, List.set_cons_succ, Bool.true_eq_false, Bool.false_eq_true, forall_const, D.int.injEq, D.str.injEq, D.bl.injEq, D.lst.injEq, D.tup.injEq, Res.d.injEq, SV.d.injEq, Option.map_some, atI_0, atI_1, atI_2, atI_3, decide_eq_true_eq, decide_eq_false_iff_not, and_assoc, tyOk_str, mStr1_d, o_join, o_joinT, o_split, caLen_d, fLen_l, fLen_t, o_lenS, o_slS, o_slL, ixR_n, ixR_i, o_eqI, i_rng, i_rngB, i_val, i_valT, i_str, e_comp, wipeE, o_inC, Bool.not_true, Bool.not_false, Bool.not_eq_true', Bool.not_eq_false', if_true, if_false, Bool.if_true_left, decide_true, decide_false, asg_nm, asg_tp2, asg_tp3, kvSV_d, List.cons.injEq]
    refine ⟨by omega, by omega, ?_⟩
    have look : ∀ i : Nat, ∃ z, atI (menuL.map D.str) ((start + 3 * (i : Int)) % 14) = some (.str z) ∧ Sx 8 z := fun i => by
      obtain ⟨d, hd, hm⟩ := atI_of (l := menuL.map D.str) (i := (start + 3 * (i : Int)) % 14) (Int.emod_nonneg _ (by decide)) (Int.emod_lt_of_pos _ (by decide))
      obtain ⟨z, hz, rfl⟩ := List.mem_map.mp hm
      exact ⟨z, hd, menu_ok z hz⟩
    refine pure_comp (m := many) (N := 8) (by omega) (fun i => Classical.choose (look i)) (fun i _ => (Classical.choose_spec (look i)).2) (fun i hi R r => ?_) ?_
    · simp only [List.map_cons, List.map_nil, List.length_cons, List.length_nil, List.replicate, List.nil_append, List.cons_append, Nat.reduceAdd, Nat.reduceSub, Nat.zero_add, List.append_nil, e_bin, e_c, e_un, e_if, e_eB, e_nil, e_cons, e_lst, e_tup, e_call, e_fn, e_fnK, e_meth, e_sl, e_pNo, e_eI, e_chain, e_var, eVar, List.getElem?_cons_zero, List.getElem?_cons_succ, o_ok, o_okD, o_none, o_guard, o_op2, o_opI, o_addI, o_addS, o_addL, o_addT, o_mulI, o_mulL, o_ixD, o_ixT, o_ixN, o_ixS, peek_d, peek_tl, peekV_d, asB_d, conv_d, conv_al, conv_nl, conv_vt, conv_at, conv_nt, toVal_d, toVal_t, convV_d, toDs_nil, toDs_cons, ca1_d, ca2_d, plOf_loc, seqQ_nx, seqQ_rt, seqQ_ex, retQ_rt, retQ_ex, rtQ_rt, handR_d, handR_t, fInt_i, fInt_b, fAbs_i, fMax_i, fMin_i, Option.some.injEq, Prod.mk.injEq, exists_eq_left', exists_eq_left, exists_eq', exists_and_left, exists_and_right, and_true, true_and, List.set_cons_zero, List.set_cons_succ, Bool.true_eq_false, Bool.false_eq_true, forall_const, D.int.injEq, D.str.injEq, D.bl.injEq, D.lst.injEq, D.tup.injEq, Res.d.injEq, SV.d.injEq, Option.map_some, atI_0, atI_1, atI_2, atI_3, decide_eq_true_eq, decide_eq_false_iff_not, and_assoc, tyOk_str, mStr1_d, o_join, o_joinT, o_split, caLen_d, fLen_l, fLen_t, o_lenS, o_slS, o_slL, ixR_n, ixR_i, o_eqI, i_rng, i_rngB, i_val, i_valT, i_str, e_comp, wipeE, o_inC, Bool.not_true, Bool.not_false, Bool.not_eq_true', Bool.not_eq_false', if_true, if_false, Bool.if_true_left, decide_true, decide_false, asg_nm, asg_tp2, asg_tp3, kvSV_d, List.cons.injEq]
      refine ⟨pMul_l (by decide) (by decide), by decide, ?_⟩
      exact ⟨_, (Classical.choose_spec (look i)).1, r⟩
    · simp only [List.map_cons, List.map_nil, List.length_cons, List.length_nil, List.replicate, List.nil_append, List.cons_append, Nat.reduceAdd, Nat.reduceSub, Nat.zero_add, List.append_nil, e_bin, e_c, e_un, e_if, e_eB, e_nil, e_cons, e_lst, e_tup, e_call, e_fn, e_fnK, e_meth, e_sl, e_pNo, e_eI, e_chain, e_var, eVar, List.getElem?_cons_zero, List.getElem?_cons_succ, o_ok, o_okD, o_none, o_guard, o_op2, o_opI, o_addI, o_addS, o_addL, o_addT, o_mulI, o_mulL, o_ixD, o_ixT, o_ixN, o_ixS, peek_d, peek_tl, peekV_d, asB_d, conv_d, conv_al, conv_nl, conv_vt, conv_at, conv_nt, toVal_d, toVal_t, convV_d, toDs_nil, toDs_cons, ca1_d, ca2_d, plOf_loc, seqQ_nx, seqQ_rt, seqQ_ex, retQ_rt, retQ_ex, rtQ_rt, handR_d, handR_t, fInt_i, fInt_b, fAbs_i, fMax_i, fMin_i, Option.some.injEq, Prod.mk.injEq, exists_eq_left', exists_eq_left, exists_eq', exists_and_left, exists_and_right, and_true, true_and, List.set_cons_zero, List.set_cons_succ, Bool.true_eq_false, Bool.false_eq_true, forall_const, D.int.injEq, D.str.injEq, D.bl.injEq, D.lst.injEq, D.tup.injEq, Res.d.injEq, SV.d.injEq, Option.map_some, atI_0, atI_1, atI_2, atI_3, decide_eq_true_eq, decide_eq_false_iff_not, and_assoc, tyOk_str, mStr1_d, o_join, o_joinT, o_split, caLen_d, fLen_l, fLen_t, o_lenS, o_slS, o_slL, ixR_n, ixR_i, o_eqI, i_rng, i_rngB, i_val, i_valT, i_str, e_comp, wipeE, o_inC, Bool.not_true, Bool.not_false, Bool.not_eq_true', Bool.not_eq_false', if_true, if_false, Bool.if_true_left, decide_true, decide_false, asg_nm, asg_tp2, asg_tp3, kvSV_d, List.cons.injEq]
      exact q _ _ (by simp) (fun x hx => by obtain ⟨i, _, rfl⟩ := List.mem_map.mp hx; exact (Classical.choose_spec (look i)).2) hS1.out
  · apply s_nx
    exact w6 (hS2.le (by omega)) hn m0 m1 hb q
  · apply s_nx
    exact w6 (hS2.le (by omega)) hn m0 m1 hb q
end DF
namespace DF
open PySem PySem.Spec PyProof.Rows L2
abbrev Col := Str × Str × List Str × Str
def colD (c : Col) : D := .tup [.str c.1, .str c.2.1, .lst (c.2.2.1.map D.str), .str c.2.2.2]
def edD (e : List Col) : D := .lst (e.map colD)
structure ColOk (c : Col) : Prop where
  a : Sx 8 c.1
  b : Sx 8 c.2.1
  s : ∀ x ∈ c.2.2.1, Sx 8 x
  h : Sx 8 c.2.2.2
theorem noObjs_cols : ∀ e : List Col, noObjs (e.map colD) = true
  | [] => rfl
  | c :: r => by
    rw [List.map_cons, noObjs, noObjs_cols r]
    simp [colD, noObj, noObjs, noObjs_strs]
theorem noObjs_eds : ∀ e : List (List Col), noObjs (e.map edD) = true
  | [] => rfl
  | c :: r => by
    rw [List.map_cons, noObjs, noObjs_eds r]
    simp [edD, noObj, noObjs_cols]
theorem str_at {xs : List Str} {i : Int} {N : Nat} (h : ∀ x ∈ xs, Sx N x) (h0 : 0 ≤ i) (h1 : i < xs.length) : ∃ z, atI (xs.map D.str) i = some (.str z) ∧ Sx N z ∧ z ∈ xs := by
  obtain ⟨d, hd, hm⟩ := atI_of (l := xs.map D.str) (i := i) h0 (by rw [List.length_map]; exact h1)
  obtain ⟨z, hz, rfl⟩ := List.mem_map.mp hm
  exact ⟨z, hd, h z hz, hz⟩
theorem conv_vl {μ : Sto} {n : Nat} {ds : List D} (h : μ.at (.m n) = some (.lst ds)) : conv μ .v (.loc n) = some (.d (.lst ds), μ.put (.m n) (.frz (.lst ds))) := by
  show convV μ (.loc n) = _
  unfold convV toVal valAt
  dsimp only
  rw [h]
  rfl
theorem toVal_l {μ : Sto} {n : Nat} {ds : List D} (h : μ.at (.m n) = some (.lst ds)) : toVal μ (.loc n) = some (.lst ds, μ.put (.m n) (.frz (.lst ds))) := by
  unfold toVal valAt
  dsimp only
  rw [h]
  rfl
theorem atI_last {α : Type} {l : List α} (h : l ≠ []) : ∃ x, atI l (-1) = some x ∧ x ∈ l := by
  have hl : 0 < l.length := List.length_pos_iff.mpr h
  unfold atI ixN
  rw [if_neg (by decide), if_pos (by omega)]
  have : ((-1 : Int) + l.length).toNat < l.length := by omega
  exact ⟨l[((-1 : Int) + l.length).toNat], List.getElem?_eq_getElem this, List.getElem_mem this⟩
theorem loc_in {l L : Nat} (h : l < L) {μ0 : Sto} : μ0.m.length + l < μ0.m.length + L := Nat.add_lt_add_left h _
section
variable {n k s0 s1 s2 s3 co ma ki tu : Nat} {μ0 μ : Sto} {ts ls : List Str} {tv : Int} {C0 : Cell} {Q : Res → Sto → Prop} {QS : SO → Prop}
/-- the sources of a column -/
theorem plan_src {cols : List Col} {rk : Nat} (hS : Sta n (k + 1 + s3) μ0 [C0, .lst (cols.map colD), .lst []] μ) (hn : n < μ0.m.length) (h3 : s3 ≤ 20) (ht : ∀ x ∈ ts, Sx 8 x) (hr0 : 0 < rk) (hr : rk ≤ ts.length) (hrs : rk ≤ 1000)
    (q : ∀ (ss : List Str) μ', (∀ x ∈ ss, Sx 8 x) → ss.length ≤ 30 → Sta n k μ0 [C0, .lst (cols.map colD), .lst (ss.map D.str)] μ' → wpS g__law_drawn_plan_b4_3 [some (.loc n), some (.d (.tup [.int s0, .int s1, .int s2, .int s3])), some (.d (.int tv)), some (.d (.lst (ts.map D.str))), some (.d (.lst (ls.map D.str))), some (.d (.int (co : Nat))), some (.d (.int (ma : Nat))), some (.d (.int (ki : Nat))), some (.loc (μ0.m.length + 0)), some (.loc (μ0.m.length + 1)), some (.d (.int (rk : Nat))), some (.loc (μ0.m.length + 2)), none, none, none, none, none, none, none] μ' QS) :
    wpS g__law_drawn_plan_b4_2 [some (.loc n), some (.d (.tup [.int s0, .int s1, .int s2, .int s3])), some (.d (.int tv)), some (.d (.lst (ts.map D.str))), some (.d (.lst (ls.map D.str))), some (.d (.int (co : Nat))), some (.d (.int (ma : Nat))), some (.d (.int (ki : Nat))), some (.loc (μ0.m.length + 0)), some (.loc (μ0.m.length + 1)), some (.d (.int (rk : Nat))), some (.loc (μ0.m.length + 2)), none, none, none, none, none, none, none] μ QS := by
  apply s_seq
  apply s_for
  simp only [List.map_cons, List.map_nil, List.length_cons, List.length_nil, List.replicate, List.nil_append, List.cons_append, Nat.reduceAdd, Nat.reduceSub, Nat.zero_add, List.append_nil, e_bin, e_c, e_un, e_if, e_eB, e_nil, e_cons, e_lst, e_tup, e_call, e_fn, e_fnK, e_meth, e_sl, e_pNo, e_eI, e_chain, e_var, eVar, List.getElem?_cons_zero, List.getElem?_cons_succ, o_ok, o_okD, o_none, o_guard, o_op2, o_opI, o_addI, o_addS, o_addL, o_addT, o_mulI, o_mulL, o_ixD, o_ixT, o_ixN, o_ixS, peek_d, peek_tl, peekV_d, asB_d, conv_d, conv_al, conv_nl, conv_vt, conv_at, conv_nt, toVal_d, toVal_t, convV_d, toDs_nil, toDs_cons, ca1_d, ca2_d, plOf_loc, seqQ_nx, seqQ_rt, seqQ_ex, retQ_rt, retQ_ex, rtQ_rt, handR_d, handR_t, fInt_i, fInt_b, fAbs_i, fMax_i, fMin_i, Option.some.injEq, Prod.mk.injEq, exists_eq_left', exists_eq_left, exists_eq', exists_and_left, exists_and_right, and_true, true_and, List.set_cons_zero, List.set_cons_succ, Bool.true_eq_false, Bool.false_eq_true, forall_const, D.int.injEq, D.str.injEq, D.bl.injEq, D.lst.injEq, D.tup.injEq, Res.d.injEq, SV.d.injEq, Option.map_some, atI_0, atI_1, atI_2, atI_3, decide_eq_true_eq, decide_eq_false_iff_not, and_assoc, tyOk_str, mStr1_d, o_join, o_joinT, o_split, caLen_d, fLen_l, fLen_t, o_lenS, o_slS, o_slL, ixR_n, ixR_i, o_eqI, i_rng, i_rngB, i_val, i_valT, i_str, e_comp, wipeE, o_inC, Bool.not_true, Bool.not_false, Bool.not_eq_true', Bool.not_eq_false', if_true, if_false, Bool.if_true_left, decide_true, decide_false, asg_nm, asg_tp2, asg_tp3, kvSV_d, List.cons.injEq]
  refine coinS (k := k + s3) (hS.le (by omega)) hn (by omega) (by omega) fun np μ1 i0 i1 hS1 => ?_
  simp only [List.map_cons, List.map_nil, List.length_cons, List.length_nil, List.replicate, List.nil_append, List.cons_append, Nat.reduceAdd, Nat.reduceSub, Nat.zero_add, List.append_nil, e_bin, e_c, e_un, e_if, e_eB, e_nil, e_cons, e_lst, e_tup, e_call, e_fn, e_fnK, e_meth, e_sl, e_pNo, e_eI, e_chain, e_var, eVar, List.getElem?_cons_zero, List.getElem?_cons_succ, o_ok, o_okD, o_none, o_guard, o_op2, o_opI, o_addI, o_addS, o_addL, o_addT, o_mulI, o_mulL, o_ixD, o_ixT, o_ixN, o_ixS, peek_d, peek_tl, peekV_d, asB_d, conv_d, conv_al, conv_nl, conv_vt, conv_at, conv_nt, toVal_d, toVal_t, convV_d, toDs_nil, toDs_cons, ca1_d, ca2_d, plOf_loc, seqQ_nx, seqQ_rt, seqQ_ex, retQ_rt, retQ_ex, rtQ_rt, handR_d, handR_t, fInt_i, fInt_b, fAbs_i, fMax_i, fMin_i, Option.some.injEq, Prod.mk.injEq, exists_eq_left', exists_eq_left, exists_eq', exists_and_left, exists_and_right, and_true, true_and, List.set_cons_zero, List.set_cons_succ, Bool.true_eq_false, Bool.false_eq_true, forall_const, D.int.injEq, D.str.injEq, D.bl.injEq, D.lst.injEq, D.tup.injEq, Res.d.injEq, SV.d.injEq, Option.map_some, atI_0, atI_1, atI_2, atI_3, decide_eq_true_eq, decide_eq_false_iff_not, and_assoc, tyOk_str, mStr1_d, o_join, o_joinT, o_split, caLen_d, fLen_l, fLen_t, o_lenS, o_slS, o_slL, ixR_n, ixR_i, o_eqI, i_rng, i_rngB, i_val, i_valT, i_str, e_comp, wipeE, o_inC, Bool.not_true, Bool.not_false, Bool.not_eq_true', Bool.not_eq_false', if_true, if_false, Bool.if_true_left, decide_true, decide_false, asg_nm, asg_tp2, asg_tp3, kvSV_d, List.cons.injEq]
  refine ⟨by omega, by omega, ?_⟩
  rw [hS1.len]
  refine for_inv (fun xs ρ μ => ∃ (j : Nat) (ss : List Str) (lo : Int), xs = rngI lo j ∧ j + ss.length ≤ 20 ∧ (∀ y ∈ ss, Sx 8 y) ∧ Sta n (k + j) μ0 [C0, .lst (cols.map colD), .lst (ss.map D.str)] μ ∧
    ρ = [some (.loc n), some (.d (.tup [.int s0, .int s1, .int s2, .int s3])), some (.d (.int tv)), some (.d (.lst (ts.map D.str))), some (.d (.lst (ls.map D.str))), some (.d (.int (co : Nat))), some (.d (.int (ma : Nat))), some (.d (.int (ki : Nat))), some (.loc (μ0.m.length + 0)), some (.loc (μ0.m.length + 1)), some (.d (.int (rk : Nat))), some (.loc (μ0.m.length + 2)), none, none, none, none, none, none, none]) ?_ ?_ _ _ _
    ⟨np.toNat, [], 0, rfl, by simp; omega, by simp, hS1.le (by omega), rfl⟩
  · rintro x xs ρ μ ⟨j, ss, lo, e, hj, hy, hS, rfl⟩
    obtain ⟨rfl, rfl⟩ := rngI_cons e.symm
    obtain ⟨j, rfl⟩ := rngI_pos e.symm
    refine ⟨_, asg_nm, ?_⟩
    apply s_seq
    apply s_set
    generalize hI : loopQ _ _ _ _ = LQ
    simp only [List.map_cons, List.map_nil, List.length_cons, List.length_nil, List.replicate, List.nil_append, List.cons_append, Nat.reduceAdd, Nat.reduceSub, Nat.zero_add, List.append_nil, e_bin, e_c, e_un, e_if, e_eB, e_nil, e_cons, e_lst, e_tup, e_call, e_fn, e_fnK, e_meth, e_sl, e_pNo, e_eI, e_chain, e_var, eVar, List.getElem?_cons_zero, List.getElem?_cons_succ, o_ok, o_okD, o_none, o_guard, o_op2, o_opI, o_addI, o_addS, o_addL, o_addT, o_mulI, o_mulL, o_ixD, o_ixT, o_ixN, o_ixS, peek_d, peek_tl, peekV_d, asB_d, conv_d, conv_al, conv_nl, conv_vt, conv_at, conv_nt, toVal_d, toVal_t, convV_d, toDs_nil, toDs_cons, ca1_d, ca2_d, plOf_loc, seqQ_nx, seqQ_rt, seqQ_ex, retQ_rt, retQ_ex, rtQ_rt, handR_d, handR_t, fInt_i, fInt_b, fAbs_i, fMax_i, fMin_i, Option.some.injEq, Prod.mk.injEq, exists_eq_left', exists_eq_left, exists_eq', exists_and_left, exists_and_right, and_true, true_and, List.set_cons_zero, List.set_cons_succ, Bool.true_eq_false, Bool.false_eq_true, forall_const, D.int.injEq, D.str.injEq, D.bl.injEq, D.lst.injEq, D.tup.injEq, Res.d.injEq, SV.d.injEq, Option.map_some, atI_0, atI_1, atI_2, atI_3, decide_eq_true_eq, decide_eq_false_iff_not, and_assoc, tyOk_str, mStr1_d, o_join, o_joinT, o_split, caLen_d, fLen_l, fLen_t, o_lenS, o_slS, o_slL, ixR_n, ixR_i, o_eqI, i_rng, i_rngB, i_val, i_valT, i_str, e_comp, wipeE, o_inC, Bool.not_true, Bool.not_false, Bool.not_eq_true', Bool.not_eq_false', if_true, if_false, Bool.if_true_left, decide_true, decide_false, asg_nm, asg_tp2, asg_tp3, kvSV_d, List.cons.injEq]
    refine coinS (k := k + j) (hS.le (by omega)) hn (by omega) (by omega) fun i μ2 i0 i1 hS2 => ?_
    simp only [List.map_cons, List.map_nil, List.length_cons, List.length_nil, List.replicate, List.nil_append, List.cons_append, Nat.reduceAdd, Nat.reduceSub, Nat.zero_add, List.append_nil, e_bin, e_c, e_un, e_if, e_eB, e_nil, e_cons, e_lst, e_tup, e_call, e_fn, e_fnK, e_meth, e_sl, e_pNo, e_eI, e_chain, e_var, eVar, List.getElem?_cons_zero, List.getElem?_cons_succ, o_ok, o_okD, o_none, o_guard, o_op2, o_opI, o_addI, o_addS, o_addL, o_addT, o_mulI, o_mulL, o_ixD, o_ixT, o_ixN, o_ixS, peek_d, peek_tl, peekV_d, asB_d, conv_d, conv_al, conv_nl, conv_vt, conv_at, conv_nt, toVal_d, toVal_t, convV_d, toDs_nil, toDs_cons, ca1_d, ca2_d, plOf_loc, seqQ_nx, seqQ_rt, seqQ_ex, retQ_rt, retQ_ex, rtQ_rt, handR_d, handR_t, fInt_i, fInt_b, fAbs_i, fMax_i, fMin_i, Option.some.injEq, Prod.mk.injEq, exists_eq_left', exists_eq_left, exists_eq', exists_and_left, exists_and_right, and_true, true_and, List.set_cons_zero, List.set_cons_succ, Bool.true_eq_false, Bool.false_eq_true, forall_const, D.int.injEq, D.str.injEq, D.bl.injEq, D.lst.injEq, D.tup.injEq, Res.d.injEq, SV.d.injEq, Option.map_some, atI_0, atI_1, atI_2, atI_3, decide_eq_true_eq, decide_eq_false_iff_not, and_assoc, tyOk_str, mStr1_d, o_join, o_joinT, o_split, caLen_d, fLen_l, fLen_t, o_lenS, o_slS, o_slL, ixR_n, ixR_i, o_eqI, i_rng, i_rngB, i_val, i_valT, i_str, e_comp, wipeE, o_inC, Bool.not_true, Bool.not_false, Bool.not_eq_true', Bool.not_eq_false', if_true, if_false, Bool.if_true_left, decide_true, decide_false, asg_nm, asg_tp2, asg_tp3, kvSV_d, List.cons.injEq]
    obtain ⟨z, hz, sz, _⟩ := str_at (i := i) ht i0 (by omega)
    refine ⟨_, hz, ?_⟩
    have ha : μ2.at (.m (μ0.m.length + 2)) = some (.lst (ss.map D.str)) := hS2.at rfl
    apply s_if
    simp only [List.map_cons, List.map_nil, List.length_cons, List.length_nil, List.replicate, List.nil_append, List.cons_append, Nat.reduceAdd, Nat.reduceSub, Nat.zero_add, List.append_nil, e_bin, e_c, e_un, e_if, e_eB, e_nil, e_cons, e_lst, e_tup, e_call, e_fn, e_fnK, e_meth, e_sl, e_pNo, e_eI, e_chain, e_var, eVar, List.getElem?_cons_zero, List.getElem?_cons_succ, o_ok, o_okD, o_none, o_guard, o_op2, o_opI, o_addI, o_addS, o_addL, o_addT, o_mulI, o_mulL, o_ixD, o_ixT, o_ixN, o_ixS, peek_d, peek_tl, peekV_d, asB_d, conv_d, conv_al, conv_nl, conv_vt, conv_at, conv_nt, toVal_d, toVal_t, convV_d, toDs_nil, toDs_cons, ca1_d, ca2_d, plOf_loc, seqQ_nx, seqQ_rt, seqQ_ex, retQ_rt, retQ_ex, rtQ_rt, handR_d, handR_t, fInt_i, fInt_b, fAbs_i, fMax_i, fMin_i, Option.some.injEq, Prod.mk.injEq, exists_eq_left', exists_eq_left, exists_eq', exists_and_left, exists_and_right, and_true, true_and, List.set_cons_zero, List.set_cons_succ, Bool.true_eq_false, Bool.false_eq_true, forall_const, D.int.injEq, D.str.injEq, D.bl.injEq, D.lst.injEq, D.tup.injEq, Res.d.injEq, SV.d.injEq, Option.map_some, atI_0, atI_1, atI_2, atI_3, decide_eq_true_eq, decide_eq_false_iff_not, and_assoc, tyOk_str, mStr1_d, o_join, o_joinT, o_split, caLen_d, fLen_l, fLen_t, o_lenS, o_slS, o_slL, ixR_n, ixR_i, o_eqI, i_rng, i_rngB, i_val, i_valT, i_str, e_comp, wipeE, o_inC, Bool.not_true, Bool.not_false, Bool.not_eq_true', Bool.not_eq_false', if_true, if_false, Bool.if_true_left, decide_true, decide_false, asg_nm, asg_tp2, asg_tp3, kvSV_d, List.cons.injEq, peek_at ha, o_inL]
    refine ⟨rfl, noObjs_strs _, by rw [deps_strs]; omega, ?_, ?_⟩
    · intro _
      apply s_expr
      simp only [List.map_cons, List.map_nil, List.length_cons, List.length_nil, List.replicate, List.nil_append, List.cons_append, Nat.reduceAdd, Nat.reduceSub, Nat.zero_add, List.append_nil, e_bin, e_c, e_un, e_if, e_eB, e_nil, e_cons, e_lst, e_tup, e_call, e_fn, e_fnK, e_meth, e_sl, e_pNo, e_eI, e_chain, e_var, eVar, List.getElem?_cons_zero, List.getElem?_cons_succ, o_ok, o_okD, o_none, o_guard, o_op2, o_opI, o_addI, o_addS, o_addL, o_addT, o_mulI, o_mulL, o_ixD, o_ixT, o_ixN, o_ixS, peek_d, peek_tl, peekV_d, asB_d, conv_d, conv_al, conv_nl, conv_vt, conv_at, conv_nt, toVal_d, toVal_t, convV_d, toDs_nil, toDs_cons, ca1_d, ca2_d, plOf_loc, seqQ_nx, seqQ_rt, seqQ_ex, retQ_rt, retQ_ex, rtQ_rt, handR_d, handR_t, fInt_i, fInt_b, fAbs_i, fMax_i, fMin_i, Option.some.injEq, Prod.mk.injEq, exists_eq_left', exists_eq_left, exists_eq', exists_and_left, exists_and_right, and_true, true_and, List.set_cons_zero, List.set_cons_succ, Bool.true_eq_false, Bool.false_eq_true, forall_const, D.int.injEq, D.str.injEq, D.bl.injEq, D.lst.injEq, D.tup.injEq, Res.d.injEq, SV.d.injEq, Option.map_some, atI_0, atI_1, atI_2, atI_3, decide_eq_true_eq, decide_eq_false_iff_not, and_assoc, tyOk_str, mStr1_d, o_join, o_joinT, o_split, caLen_d, fLen_l, fLen_t, o_lenS, o_slS, o_slL, ixR_n, ixR_i, o_eqI, i_rng, i_rngB, i_val, i_valT, i_str, e_comp, wipeE, o_inC, Bool.not_true, Bool.not_false, Bool.not_eq_true', Bool.not_eq_false', if_true, if_false, Bool.if_true_left, decide_true, decide_false, asg_nm, asg_tp2, asg_tp3, kvSV_d, List.cons.injEq, tyOk_at ha]
      rw [o_append ha (by rw [List.length_map]; exact Nat.lt_of_lt_of_le (by omega : ss.length < 1001) (small_line (by decide)))]
      subst hI
      refine ⟨j, ss ++ [z], lo + 1, rfl, by rw [List.length_append]; simp; omega, fun y hy' => ?_, ?_, by rw [trim_eq]; simp (discharger := omega) only [List.map_cons, List.map_nil, tm_none, tm_d, tm_o, tm_loc, wipeE, List.set_cons_succ, List.set_cons_zero, List.length_cons, List.length_nil, Nat.zero_add, List.length_append]⟩
      · rcases List.mem_append.mp hy' with u | u
        · exact hy y u
        · rw [List.mem_singleton.mp u]; exact sz
      · have := (hS2.put (j := 2) (.lst (ss.map D.str ++ [D.str z]))).same (l := 3) (Nat.le_refl _)
        rw [List.map_append]
        exact this
    · intro _
      apply s_nx
      subst hI
      exact ⟨j, ss, lo + 1, rfl, by omega, hy, hS2.same (l := 3) (Nat.le_refl _), by rw [trim_eq]; simp (discharger := omega) only [List.map_cons, List.map_nil, tm_none, tm_d, tm_o, tm_loc, wipeE, List.set_cons_succ, List.set_cons_zero, List.length_cons, List.length_nil, Nat.zero_add, List.length_append]⟩
  · rintro ρ μ ⟨j, ss, lo, e, hj, hy, hS, rfl⟩
    cases rngI_nil e.symm
    exact q ss μ hy (by omega) hS
/-- one column -/
theorem plan_col {cols : List Col} {rk : Nat} (hS : Sta n (k + 3 + s3) μ0 [C0, .lst (cols.map colD)] μ) (hn : n < μ0.m.length) (h3 : s3 ≤ 20) (ht : ∀ x ∈ ts, Sx 8 x) (hl : ∀ x ∈ ls, Sx 8 x) (hk : ls.length = ki) (hk0 : 0 < ki) (hk1 : ki ≤ 20) (hr0 : 0 < rk) (hr : rk < ts.length) (hrs : rk ≤ 1000) (hc : cols.length ≤ 100)
    (q : ∀ (c : Col) μ', ColOk c → Sta n k μ0 [C0, .lst ((cols ++ [c]).map colD), .frz (.lst (c.2.2.1.map D.str))] μ' → ∀ he na : D, QS (.nx [some (.loc n), some (.d (.tup [.int s0, .int s1, .int s2, .int s3])), some (.d (.int tv)), some (.d (.lst (ts.map D.str))), some (.d (.lst (ls.map D.str))), some (.d (.int (co : Nat))), some (.d (.int (ma : Nat))), some (.d (.int (ki : Nat))), some (.loc (μ0.m.length + 0)), some (.loc (μ0.m.length + 1)), some (.d (.int (rk : Nat))), some (.loc (μ0.m.length + 2)), none, some (.d he), some (.d na), none, none, none, none] μ')) :
    wpS g__law_drawn_plan_b4_1 [some (.loc n), some (.d (.tup [.int s0, .int s1, .int s2, .int s3])), some (.d (.int tv)), some (.d (.lst (ts.map D.str))), some (.d (.lst (ls.map D.str))), some (.d (.int (co : Nat))), some (.d (.int (ma : Nat))), some (.d (.int (ki : Nat))), some (.loc (μ0.m.length + 0)), some (.loc (μ0.m.length + 1)), some (.d (.int (rk : Nat))), none, none, none, none, none, none, none, none] μ QS := by
  apply s_seq
  apply s_set
  simp only [List.map_cons, List.map_nil, List.length_cons, List.length_nil, List.replicate, List.nil_append, List.cons_append, Nat.reduceAdd, Nat.reduceSub, Nat.zero_add, List.append_nil, e_bin, e_c, e_un, e_if, e_eB, e_nil, e_cons, e_lst, e_tup, e_call, e_fn, e_fnK, e_meth, e_sl, e_pNo, e_eI, e_chain, e_var, eVar, List.getElem?_cons_zero, List.getElem?_cons_succ, o_ok, o_okD, o_none, o_guard, o_op2, o_opI, o_addI, o_addS, o_addL, o_addT, o_mulI, o_mulL, o_ixD, o_ixT, o_ixN, o_ixS, peek_d, peek_tl, peekV_d, asB_d, conv_d, conv_al, conv_nl, conv_vt, conv_at, conv_nt, toVal_d, toVal_t, convV_d, toDs_nil, toDs_cons, ca1_d, ca2_d, plOf_loc, seqQ_nx, seqQ_rt, seqQ_ex, retQ_rt, retQ_ex, rtQ_rt, handR_d, handR_t, fInt_i, fInt_b, fAbs_i, fMax_i, fMin_i, Option.some.injEq, Prod.mk.injEq, exists_eq_left', exists_eq_left, exists_eq', exists_and_left, exists_and_right, and_true, true_and, List.set_cons_zero, List.set_cons_succ, Bool.true_eq_false, Bool.false_eq_true, forall_const, D.int.injEq, D.str.injEq, D.bl.injEq, D.lst.injEq, D.tup.injEq, Res.d.injEq, SV.d.injEq, Option.map_some, atI_0, atI_1, atI_2, atI_3, decide_eq_true_eq, decide_eq_false_iff_not, and_assoc, tyOk_str, mStr1_d, o_join, o_joinT, o_split, caLen_d, fLen_l, fLen_t, o_lenS, o_slS, o_slL, ixR_n, ixR_i, o_eqI, i_rng, i_rngB, i_val, i_valT, i_str, e_comp, wipeE, o_inC, Bool.not_true, Bool.not_false, Bool.not_eq_true', Bool.not_eq_false', if_true, if_false, Bool.if_true_left, decide_true, decide_false, asg_nm, asg_tp2, asg_tp3, kvSV_d, List.cons.injEq]
  refine ⟨small_line (by decide), ?_⟩
  rw [hS.len]
  have hS1 := hS.push (.lst [])
  generalize μ.pushM (.lst []) = μ1 at hS1 ⊢
  refine plan_src (k := k + 2) (hS1.le (by omega)) hn h3 ht hr0 (by omega) hrs fun ss μ2 hss hsl hS2 => ?_
  apply s_seq
  apply s_set
  simp only [List.map_cons, List.map_nil, List.length_cons, List.length_nil, List.replicate, List.nil_append, List.cons_append, Nat.reduceAdd, Nat.reduceSub, Nat.zero_add, List.append_nil, e_bin, e_c, e_un, e_if, e_eB, e_nil, e_cons, e_lst, e_tup, e_call, e_fn, e_fnK, e_meth, e_sl, e_pNo, e_eI, e_chain, e_var, eVar, List.getElem?_cons_zero, List.getElem?_cons_succ, o_ok, o_okD, o_none, o_guard, o_op2, o_opI, o_addI, o_addS, o_addL, o_addT, o_mulI, o_mulL, o_ixD, o_ixT, o_ixN, o_ixS, peek_d, peek_tl, peekV_d, asB_d, conv_d, conv_al, conv_nl, conv_vt, conv_at, conv_nt, toVal_d, toVal_t, convV_d, toDs_nil, toDs_cons, ca1_d, ca2_d, plOf_loc, seqQ_nx, seqQ_rt, seqQ_ex, retQ_rt, retQ_ex, rtQ_rt, handR_d, handR_t, fInt_i, fInt_b, fAbs_i, fMax_i, fMin_i, Option.some.injEq, Prod.mk.injEq, exists_eq_left', exists_eq_left, exists_eq', exists_and_left, exists_and_right, and_true, true_and, List.set_cons_zero, List.set_cons_succ, Bool.true_eq_false, Bool.false_eq_true, forall_const, D.int.injEq, D.str.injEq, D.bl.injEq, D.lst.injEq, D.tup.injEq, Res.d.injEq, SV.d.injEq, Option.map_some, atI_0, atI_1, atI_2, atI_3, decide_eq_true_eq, decide_eq_false_iff_not, and_assoc, tyOk_str, mStr1_d, o_join, o_joinT, o_split, caLen_d, fLen_l, fLen_t, o_lenS, o_slS, o_slL, ixR_n, ixR_i, o_eqI, i_rng, i_rngB, i_val, i_valT, i_str, e_comp, wipeE, o_inC, Bool.not_true, Bool.not_false, Bool.not_eq_true', Bool.not_eq_false', if_true, if_false, Bool.if_true_left, decide_true, decide_false, asg_nm, asg_tp2, asg_tp3, kvSV_d, List.cons.injEq]
  refine ⟨small_line (by decide), ?_⟩
  refine coinS (k := k + 1) hS2 hn (by decide) (by decide) fun i μ3 i0 i1 hS3 => ?_
  simp only [List.map_cons, List.map_nil, List.length_cons, List.length_nil, List.replicate, List.nil_append, List.cons_append, Nat.reduceAdd, Nat.reduceSub, Nat.zero_add, List.append_nil, e_bin, e_c, e_un, e_if, e_eB, e_nil, e_cons, e_lst, e_tup, e_call, e_fn, e_fnK, e_meth, e_sl, e_pNo, e_eI, e_chain, e_var, eVar, List.getElem?_cons_zero, List.getElem?_cons_succ, o_ok, o_okD, o_none, o_guard, o_op2, o_opI, o_addI, o_addS, o_addL, o_addT, o_mulI, o_mulL, o_ixD, o_ixT, o_ixN, o_ixS, peek_d, peek_tl, peekV_d, asB_d, conv_d, conv_al, conv_nl, conv_vt, conv_at, conv_nt, toVal_d, toVal_t, convV_d, toDs_nil, toDs_cons, ca1_d, ca2_d, plOf_loc, seqQ_nx, seqQ_rt, seqQ_ex, retQ_rt, retQ_ex, rtQ_rt, handR_d, handR_t, fInt_i, fInt_b, fAbs_i, fMax_i, fMin_i, Option.some.injEq, Prod.mk.injEq, exists_eq_left', exists_eq_left, exists_eq', exists_and_left, exists_and_right, and_true, true_and, List.set_cons_zero, List.set_cons_succ, Bool.true_eq_false, Bool.false_eq_true, forall_const, D.int.injEq, D.str.injEq, D.bl.injEq, D.lst.injEq, D.tup.injEq, Res.d.injEq, SV.d.injEq, Option.map_some, atI_0, atI_1, atI_2, atI_3, decide_eq_true_eq, decide_eq_false_iff_not, and_assoc, tyOk_str, mStr1_d, o_join, o_joinT, o_split, caLen_d, fLen_l, fLen_t, o_lenS, o_slS, o_slL, ixR_n, ixR_i, o_eqI, i_rng, i_rngB, i_val, i_valT, i_str, e_comp, wipeE, o_inC, Bool.not_true, Bool.not_false, Bool.not_eq_true', Bool.not_eq_false', if_true, if_false, Bool.if_true_left, decide_true, decide_false, asg_nm, asg_tp2, asg_tp3, kvSV_d, List.cons.injEq]
  obtain ⟨he, hhe, she, _⟩ := str_at (xs := ["read", "follows", "stays", "stays"]) (i := i) (N := 8) (fun x hx => by
    have h : (["read", "follows", "stays", "stays"] : List Str).all (fun x => decide (x.length ≤ 8) && okB x) = true := by decide +kernel
    exact Sx.lit (List.all_eq_true.mp h x hx)) i0 i1
  refine ⟨_, hhe, ?_⟩
  apply s_seq
  apply s_set
  simp only [List.map_cons, List.map_nil, List.length_cons, List.length_nil, List.replicate, List.nil_append, List.cons_append, Nat.reduceAdd, Nat.reduceSub, Nat.zero_add, List.append_nil, e_bin, e_c, e_un, e_if, e_eB, e_nil, e_cons, e_lst, e_tup, e_call, e_fn, e_fnK, e_meth, e_sl, e_pNo, e_eI, e_chain, e_var, eVar, List.getElem?_cons_zero, List.getElem?_cons_succ, o_ok, o_okD, o_none, o_guard, o_op2, o_opI, o_addI, o_addS, o_addL, o_addT, o_mulI, o_mulL, o_ixD, o_ixT, o_ixN, o_ixS, peek_d, peek_tl, peekV_d, asB_d, conv_d, conv_al, conv_nl, conv_vt, conv_at, conv_nt, toVal_d, toVal_t, convV_d, toDs_nil, toDs_cons, ca1_d, ca2_d, plOf_loc, seqQ_nx, seqQ_rt, seqQ_ex, retQ_rt, retQ_ex, rtQ_rt, handR_d, handR_t, fInt_i, fInt_b, fAbs_i, fMax_i, fMin_i, Option.some.injEq, Prod.mk.injEq, exists_eq_left', exists_eq_left, exists_eq', exists_and_left, exists_and_right, and_true, true_and, List.set_cons_zero, List.set_cons_succ, Bool.true_eq_false, Bool.false_eq_true, forall_const, D.int.injEq, D.str.injEq, D.bl.injEq, D.lst.injEq, D.tup.injEq, Res.d.injEq, SV.d.injEq, Option.map_some, atI_0, atI_1, atI_2, atI_3, decide_eq_true_eq, decide_eq_false_iff_not, and_assoc, tyOk_str, mStr1_d, o_join, o_joinT, o_split, caLen_d, fLen_l, fLen_t, o_lenS, o_slS, o_slL, ixR_n, ixR_i, o_eqI, i_rng, i_rngB, i_val, i_valT, i_str, e_comp, wipeE, o_inC, Bool.not_true, Bool.not_false, Bool.not_eq_true', Bool.not_eq_false', if_true, if_false, Bool.if_true_left, decide_true, decide_false, asg_nm, asg_tp2, asg_tp3, kvSV_d, List.cons.injEq]
  refine coinS (k := k) hS3 hn (by omega) (by omega) fun i' μ4 j0 j1 hS4 => ?_
  simp only [List.map_cons, List.map_nil, List.length_cons, List.length_nil, List.replicate, List.nil_append, List.cons_append, Nat.reduceAdd, Nat.reduceSub, Nat.zero_add, List.append_nil, e_bin, e_c, e_un, e_if, e_eB, e_nil, e_cons, e_lst, e_tup, e_call, e_fn, e_fnK, e_meth, e_sl, e_pNo, e_eI, e_chain, e_var, eVar, List.getElem?_cons_zero, List.getElem?_cons_succ, o_ok, o_okD, o_none, o_guard, o_op2, o_opI, o_addI, o_addS, o_addL, o_addT, o_mulI, o_mulL, o_ixD, o_ixT, o_ixN, o_ixS, peek_d, peek_tl, peekV_d, asB_d, conv_d, conv_al, conv_nl, conv_vt, conv_at, conv_nt, toVal_d, toVal_t, convV_d, toDs_nil, toDs_cons, ca1_d, ca2_d, plOf_loc, seqQ_nx, seqQ_rt, seqQ_ex, retQ_rt, retQ_ex, rtQ_rt, handR_d, handR_t, fInt_i, fInt_b, fAbs_i, fMax_i, fMin_i, Option.some.injEq, Prod.mk.injEq, exists_eq_left', exists_eq_left, exists_eq', exists_and_left, exists_and_right, and_true, true_and, List.set_cons_zero, List.set_cons_succ, Bool.true_eq_false, Bool.false_eq_true, forall_const, D.int.injEq, D.str.injEq, D.bl.injEq, D.lst.injEq, D.tup.injEq, Res.d.injEq, SV.d.injEq, Option.map_some, atI_0, atI_1, atI_2, atI_3, decide_eq_true_eq, decide_eq_false_iff_not, and_assoc, tyOk_str, mStr1_d, o_join, o_joinT, o_split, caLen_d, fLen_l, fLen_t, o_lenS, o_slS, o_slL, ixR_n, ixR_i, o_eqI, i_rng, i_rngB, i_val, i_valT, i_str, e_comp, wipeE, o_inC, Bool.not_true, Bool.not_false, Bool.not_eq_true', Bool.not_eq_false', if_true, if_false, Bool.if_true_left, decide_true, decide_false, asg_nm, asg_tp2, asg_tp3, kvSV_d, List.cons.injEq]
  obtain ⟨na, hna, sna, _⟩ := str_at (i := i') hl j0 (by omega)
  refine ⟨_, hna, ?_⟩
  obtain ⟨ti, hti, sti, _⟩ := str_at (i := (rk : Int)) ht (by omega) (by omega)
  have ha2 : μ4.at (.m (μ0.m.length + 2)) = some (.lst (ss.map D.str)) := hS4.at rfl
  have ha1 : μ4.at (.m (μ0.m.length + 1)) = some (.lst (cols.map colD)) := hS4.at rfl
  have hS5 := hS4.put (j := 2) (.frz (.lst (ss.map D.str)))
  apply s_expr
  simp only [List.map_cons, List.map_nil, List.length_cons, List.length_nil, List.replicate, List.nil_append, List.cons_append, Nat.reduceAdd, Nat.reduceSub, Nat.zero_add, List.append_nil, e_bin, e_c, e_un, e_if, e_eB, e_nil, e_cons, e_lst, e_tup, e_call, e_fn, e_fnK, e_meth, e_sl, e_pNo, e_eI, e_chain, e_var, eVar, List.getElem?_cons_zero, List.getElem?_cons_succ, o_ok, o_okD, o_none, o_guard, o_op2, o_opI, o_addI, o_addS, o_addL, o_addT, o_mulI, o_mulL, o_ixD, o_ixT, o_ixN, o_ixS, peek_d, peek_tl, peekV_d, asB_d, conv_d, conv_al, conv_nl, conv_vt, conv_at, conv_nt, toVal_d, toVal_t, convV_d, toDs_nil, toDs_cons, ca1_d, ca2_d, plOf_loc, seqQ_nx, seqQ_rt, seqQ_ex, retQ_rt, retQ_ex, rtQ_rt, handR_d, handR_t, fInt_i, fInt_b, fAbs_i, fMax_i, fMin_i, Option.some.injEq, Prod.mk.injEq, exists_eq_left', exists_eq_left, exists_eq', exists_and_left, exists_and_right, and_true, true_and, List.set_cons_zero, List.set_cons_succ, Bool.true_eq_false, Bool.false_eq_true, forall_const, D.int.injEq, D.str.injEq, D.bl.injEq, D.lst.injEq, D.tup.injEq, Res.d.injEq, SV.d.injEq, Option.map_some, atI_0, atI_1, atI_2, atI_3, decide_eq_true_eq, decide_eq_false_iff_not, and_assoc, tyOk_str, mStr1_d, o_join, o_joinT, o_split, caLen_d, fLen_l, fLen_t, o_lenS, o_slS, o_slL, ixR_n, ixR_i, o_eqI, i_rng, i_rngB, i_val, i_valT, i_str, e_comp, wipeE, o_inC, Bool.not_true, Bool.not_false, Bool.not_eq_true', Bool.not_eq_false', if_true, if_false, Bool.if_true_left, decide_true, decide_false, asg_nm, asg_tp2, asg_tp3, kvSV_d, List.cons.injEq, tyOk_at ha1, hti, conv_vl ha2]
  refine ⟨small_line (by decide), ?_⟩
  generalize μ4.put (.m (μ0.m.length + 2)) (.frz (.lst (ss.map D.str))) = μ5 at hS5 ⊢
  have ha5 : μ5.at (.m (μ0.m.length + 1)) = some (.lst (cols.map colD)) := hS5.at rfl
  rw [o_append ha5 (by rw [List.length_map]; exact Nat.lt_of_lt_of_le (by omega : cols.length < 1001) (small_line (by decide)))]
  refine q (ti, na, ss, he) _ ⟨sti, sna, hss, she⟩ ?_ _ _
  have := hS5.put (j := 1) (.lst (cols.map colD ++ [colD (ti, na, ss, he)]))
  rw [List.map_append]
  exact this
end

section
variable {n k s0 s1 s2 s3 co ma ki tu : Nat} {μ0 μ : Sto} {ts ls : List Str} {tv : Int} {C0 : Cell} {Q : Res → Sto → Prop} {QS : SO → Prop}
/-- all columns of an edition -/
theorem plan_cols (hS : Sta n (k + ma * (3 + s3)) μ0 [C0, .lst []] μ) (hn : n < μ0.m.length) (h3 : s3 ≤ 20) (ht : ∀ x ∈ ts, Sx 8 x) (hl : ∀ x ∈ ls, Sx 8 x) (hk : ls.length = ki) (hk0 : 0 < ki) (hk1 : ki ≤ 20) (hco : 0 < co) (hco1 : co ≤ 100) (hma : ma ≤ 100) (htl : ts.length = co + ma)
    (q : ∀ (cols : List Col) μ', cols.length = ma → (∀ c ∈ cols, ColOk c) → Sta n k μ0 [C0, .lst (cols.map colD)] μ' → wpS g__law_drawn_plan_b3_3 [some (.loc n), some (.d (.tup [.int s0, .int s1, .int s2, .int s3])), some (.d (.int tv)), some (.d (.lst (ts.map D.str))), some (.d (.lst (ls.map D.str))), some (.d (.int (co : Nat))), some (.d (.int (ma : Nat))), some (.d (.int (ki : Nat))), some (.loc (μ0.m.length + 0)), some (.loc (μ0.m.length + 1)), none, none, none, none, none, none, none, none, none] μ' QS) :
    wpS g__law_drawn_plan_b3_2 [some (.loc n), some (.d (.tup [.int s0, .int s1, .int s2, .int s3])), some (.d (.int tv)), some (.d (.lst (ts.map D.str))), some (.d (.lst (ls.map D.str))), some (.d (.int (co : Nat))), some (.d (.int (ma : Nat))), some (.d (.int (ki : Nat))), some (.loc (μ0.m.length + 0)), some (.loc (μ0.m.length + 1)), none, none, none, none, none, none, none, none, none] μ QS := by
  apply s_seq
  apply s_for
  simp only [List.map_cons, List.map_nil, List.length_cons, List.length_nil, List.replicate, List.nil_append, List.cons_append, Nat.reduceAdd, Nat.reduceSub, Nat.zero_add, List.append_nil, e_bin, e_c, e_un, e_if, e_eB, e_nil, e_cons, e_lst, e_tup, e_call, e_fn, e_fnK, e_meth, e_sl, e_pNo, e_eI, e_chain, e_var, eVar, List.getElem?_cons_zero, List.getElem?_cons_succ, o_ok, o_okD, o_none, o_guard, o_op2, o_opI, o_addI, o_addS, o_addL, o_addT, o_mulI, o_mulL, o_ixD, o_ixT, o_ixN, o_ixS, peek_d, peek_tl, peekV_d, asB_d, conv_d, conv_al, conv_nl, conv_vt, conv_at, conv_nt, toVal_d, toVal_t, convV_d, toDs_nil, toDs_cons, ca1_d, ca2_d, plOf_loc, seqQ_nx, seqQ_rt, seqQ_ex, retQ_rt, retQ_ex, rtQ_rt, handR_d, handR_t, fInt_i, fInt_b, fAbs_i, fMax_i, fMin_i, Option.some.injEq, Prod.mk.injEq, exists_eq_left', exists_eq_left, exists_eq', exists_and_left, exists_and_right, and_true, true_and, List.set_cons_zero, List.set_cons_succ, Bool.true_eq_false, Bool.false_eq_true, forall_const, D.int.injEq, D.str.injEq, D.bl.injEq, D.lst.injEq, D.tup.injEq, Res.d.injEq, SV.d.injEq, Option.map_some, atI_0, atI_1, atI_2, atI_3, decide_eq_true_eq, decide_eq_false_iff_not, and_assoc, tyOk_str, mStr1_d, o_join, o_joinT, o_split, caLen_d, fLen_l, fLen_t, o_lenS, o_slS, o_slL, ixR_n, ixR_i, o_eqI, i_rng, i_rngB, i_val, i_valT, i_str, e_comp, wipeE, o_inC, Bool.not_true, Bool.not_false, Bool.not_eq_true', Bool.not_eq_false', if_true, if_false, Bool.if_true_left, decide_true, decide_false, asg_nm, asg_tp2, asg_tp3, kvSV_d, List.cons.injEq]
  refine ⟨by omega, by omega, by omega, by omega, ?_⟩
  have em : ((co : Int) + (ma : Int) - (co : Int)).toNat = ma := by omega
  rw [hS.len, em]
  refine for_inv (fun xs ρ μ => ∃ (j : Nat) (cols : List Col) (lo : Nat), xs = rngI lo j ∧ j + cols.length = ma ∧ lo = co + cols.length ∧ (∀ c ∈ cols, ColOk c) ∧ Sta n (k + j * (3 + s3)) μ0 [C0, .lst (cols.map colD)] μ ∧
    ρ = [some (.loc n), some (.d (.tup [.int s0, .int s1, .int s2, .int s3])), some (.d (.int tv)), some (.d (.lst (ts.map D.str))), some (.d (.lst (ls.map D.str))), some (.d (.int (co : Nat))), some (.d (.int (ma : Nat))), some (.d (.int (ki : Nat))), some (.loc (μ0.m.length + 0)), some (.loc (μ0.m.length + 1)), none, none, none, none, none, none, none, none, none]) ?_ ?_ _ _ _
    ⟨ma, [], co, rfl, by simp, rfl, by simp, hS, rfl⟩
  · rintro x xs ρ μ ⟨j, cols, lo, e, hj, hlo, hc, hS, rfl⟩
    obtain ⟨rfl, rfl⟩ := rngI_cons e.symm
    obtain ⟨j, rfl⟩ := rngI_pos e.symm
    refine ⟨_, asg_nm, ?_⟩
    refine plan_col (n := n) (k := k + j * (3 + s3)) (rk := lo) (ki := ki) (hS.le (by rw [Nat.add_mul]; omega)) hn h3 ht hl hk hk0 hk1 (by omega) (by omega) (by omega) (by omega) fun c μ' hc' hS' he na => ?_
    refine ⟨j, cols ++ [c], lo + 1, by rw [Nat.add_sub_cancel]; push_cast; rfl, by rw [List.length_append]; simp; omega, by rw [List.length_append]; simp; omega, fun y hy' => ?_, hS'.cut 2, by rw [trim_eq]; simp (discharger := omega) only [List.map_cons, List.map_nil, tm_none, tm_d, tm_o, tm_loc, wipeE, List.set_cons_succ, List.set_cons_zero, List.length_cons, List.length_nil, Nat.zero_add, List.length_append]⟩
    rcases List.mem_append.mp hy' with u | u
    · exact hc y u
    · rw [List.mem_singleton.mp u]; exact hc'
  · rintro ρ μ ⟨j, cols, lo, e, hj, hlo, hc, hS, rfl⟩
    cases rngI_nil e.symm
    exact q cols μ (by omega) hc (hS.le (by omega))
theorem cut_take {α β : Type} (f : α → β) {l : List α} (i : Nat) : cutL (l.map f) none (some (i : Int)) = (l.take i).map f := by
  unfold cutL
  rw [HT.sIx_none, HT.sIx_nat, Nat.sub_zero, List.drop_zero, List.length_map, List.map_take]
  by_cases hle : i ≤ l.length
  · rw [Nat.min_eq_left hle]
  · rw [Nat.min_eq_right (by omega), List.take_of_length_le (by simp), List.take_of_length_le (by simp; omega)]
theorem cut_drop {α β : Type} (f : α → β) {l : List α} (i : Nat) : cutL (l.map f) (some (i : Int)) none = (l.drop i).map f := by
  unfold cutL
  rw [HT.sIx_none, HT.sIx_nat, List.length_map, List.map_drop]
  by_cases hle : i ≤ l.length
  · rw [Nat.min_eq_left hle, List.take_of_length_le (by simp)]
  · rw [Nat.min_eq_right (by omega), List.drop_of_length_le (by simp), List.drop_of_length_le (by simp; omega), List.take_nil]
theorem cut_mid {α β : Type} (f : α → β) {l : List α} (i j : Nat) : cutL (l.map f) (some (i : Int)) (some (j : Int)) = ((l.drop i).take (j - i)).map f := by
  unfold cutL
  rw [HT.sIx_nat, HT.sIx_nat, List.length_map, List.map_take, List.map_drop]
  by_cases hi : i ≤ l.length
  · rw [Nat.min_eq_left hi]
    by_cases hj : j ≤ l.length
    · rw [Nat.min_eq_left hj]
    · rw [Nat.min_eq_right (by omega : l.length ≤ j), List.take_of_length_le (by simp), List.take_of_length_le (by simp; omega)]
  · rw [Nat.min_eq_right (by omega : l.length ≤ i), List.drop_of_length_le (by simp), List.drop_of_length_le (by simp; omega), List.take_nil, List.take_nil]
/-- columns are taken over one by one -/
theorem col_copy {ρ : En} {μ : Sto} (h18 : 18 < ρ.length) {cols : List Col} (hl : cols.length ≤ 1000) (q : Q (.tmp (.lst (cols.map colD))) μ) :
    wpO (compLoop (.nm 18) ρ (eB true) (eBin (op2 fAdd) (eSl (eVar 18) (pNo) (eI (eC (.int 2)))) (eTup (aCons .v (eCall (ca1 fList) (aCons .a (eBin opIx (eVar 18) (eC (.int 2))) (aNil))) (aCons .v (eBin opIx (eVar 18) (eC (.int 3))) (aNil))))) (kvs (cols.map colD)) [] μ) Q := by
  refine map_comp _ kvD (by unfold kvs; rw [List.length_map, List.length_map]; omega) (fun x hx R r => ?_) ?_
  · unfold kvs at hx
    rw [List.map_map] at hx
    obtain ⟨⟨c1, c2, c3, c4⟩, _, rfl⟩ := List.mem_map.mp hx
    have eL : ∀ a, (ρ.set 18 a)[18]? = some a := fun a => List.getElem?_set_self h18
    have f2 : fSl μ (.tup [.str c1, .str c2, .lst (c3.map D.str), .str c4]) none (some 2) = okD μ (.tup [.str c1, .str c2]) := rfl
    have f3 : fList μ (.lst (c3.map D.str)) = some (.ok (.tmp (.lst (c3.map D.str))) μ) := rfl
    simp only [List.map_cons, List.map_nil, List.length_cons, List.length_nil, List.replicate, List.nil_append, List.cons_append, Nat.reduceAdd, Nat.reduceSub, Nat.zero_add, List.append_nil, e_bin, e_c, e_un, e_if, e_eB, e_nil, e_cons, e_lst, e_tup, e_call, e_fn, e_fnK, e_meth, e_sl, e_pNo, e_eI, e_chain, e_var, eVar, List.getElem?_cons_zero, List.getElem?_cons_succ, o_ok, o_okD, o_none, o_guard, o_op2, o_opI, o_addI, o_addS, o_addL, o_addT, o_mulI, o_mulL, o_ixD, o_ixT, o_ixN, o_ixS, peek_d, peek_tl, peekV_d, asB_d, conv_d, conv_al, conv_nl, conv_vt, conv_at, conv_nt, toVal_d, toVal_t, convV_d, toDs_nil, toDs_cons, ca1_d, ca2_d, plOf_loc, seqQ_nx, seqQ_rt, seqQ_ex, retQ_rt, retQ_ex, rtQ_rt, handR_d, handR_t, fInt_i, fInt_b, fAbs_i, fMax_i, fMin_i, Option.some.injEq, Prod.mk.injEq, exists_eq_left', exists_eq_left, exists_eq', exists_and_left, exists_and_right, and_true, true_and, List.set_cons_zero, List.set_cons_succ, Bool.true_eq_false, Bool.false_eq_true, forall_const, D.int.injEq, D.str.injEq, D.bl.injEq, D.lst.injEq, D.tup.injEq, Res.d.injEq, SV.d.injEq, Option.map_some, atI_0, atI_1, atI_2, atI_3, decide_eq_true_eq, decide_eq_false_iff_not, and_assoc, tyOk_str, mStr1_d, o_join, o_joinT, o_split, caLen_d, fLen_l, fLen_t, o_lenS, o_slS, o_slL, ixR_n, ixR_i, o_eqI, i_rng, i_rngB, i_val, i_valT, i_str, e_comp, wipeE, o_inC, Bool.not_true, Bool.not_false, Bool.not_eq_true', Bool.not_eq_false', if_true, if_false, Bool.if_true_left, decide_true, decide_false, asg_nm, asg_tp2, asg_tp3, kvSV_d, List.cons.injEq, Function.comp, colD, eL, f2, f3]
    exact ⟨small_line (by decide), small_line (by decide), rfl, rfl, r _ rfl⟩
  · rw [kvD_kvs]
    exact q
end

section
variable {n k s0 s1 s2 s3 co ma ki tu : Nat} {μ0 μ : Sto} {ts ls : List Str} {tv : Int} {Q : Res → Sto → Prop} {QS : SO → Prop}
structure EdOk (ma : Nat) (e : List Col) : Prop where
  len : e.length = ma
  ok : ∀ c ∈ e, ColOk c
theorem plan_app {eds : List (List Col)} {cols : List Col} {j : Nat} {L : List Cell} {at_ el : Option SV} (hS : Sta n k μ0 (.lst (eds.map edD) :: L) μ) (hj : L[j]? = some (.lst (cols.map colD))) (hl : cols.length ≤ 1000) (he : eds.length ≤ 100)
    (q : ∀ μ', Sta n k μ0 [.lst ((eds ++ [cols]).map edD)] (μ'.cut (μ0.m.length + 1)) → QS (.nx [some (.loc n), some (.d (.tup [.int s0, .int s1, .int s2, .int s3])), some (.d (.int tv)), some (.d (.lst (ts.map D.str))), some (.d (.lst (ls.map D.str))), some (.d (.int (co : Nat))), some (.d (.int (ma : Nat))), some (.d (.int (ki : Nat))), some (.loc (μ0.m.length + 0)), some (.loc (μ0.m.length + (j + 1))), none, none, none, none, none, at_, el, none, none] μ')) :
    wpS g__law_drawn_plan_b3_4 [some (.loc n), some (.d (.tup [.int s0, .int s1, .int s2, .int s3])), some (.d (.int tv)), some (.d (.lst (ts.map D.str))), some (.d (.lst (ls.map D.str))), some (.d (.int (co : Nat))), some (.d (.int (ma : Nat))), some (.d (.int (ki : Nat))), some (.loc (μ0.m.length + 0)), some (.loc (μ0.m.length + (j + 1))), none, none, none, none, none, at_, el, none, none] μ QS := by
  have ha0 : μ.at (.m (μ0.m.length + 0)) = some (.lst (eds.map edD)) := hS.at rfl
  have ha1 : μ.at (.m (μ0.m.length + (j + 1))) = some (.lst (cols.map colD)) := hS.at hj
  have hS5 := hS.put (j := j + 1) (.frz (.lst (cols.map colD)))
  apply s_expr
  simp only [List.map_cons, List.map_nil, List.length_cons, List.length_nil, List.replicate, List.nil_append, List.cons_append, Nat.reduceAdd, Nat.reduceSub, Nat.zero_add, List.append_nil, e_bin, e_c, e_un, e_if, e_eB, e_nil, e_cons, e_lst, e_tup, e_call, e_fn, e_fnK, e_meth, e_sl, e_pNo, e_eI, e_chain, e_var, eVar, List.getElem?_cons_zero, List.getElem?_cons_succ, o_ok, o_okD, o_none, o_guard, o_op2, o_opI, o_addI, o_addS, o_addL, o_addT, o_mulI, o_mulL, o_ixD, o_ixT, o_ixN, o_ixS, peek_d, peek_tl, peekV_d, asB_d, conv_d, conv_al, conv_nl, conv_vt, conv_at, conv_nt, toVal_d, toVal_t, convV_d, toDs_nil, toDs_cons, ca1_d, ca2_d, plOf_loc, seqQ_nx, seqQ_rt, seqQ_ex, retQ_rt, retQ_ex, rtQ_rt, handR_d, handR_t, fInt_i, fInt_b, fAbs_i, fMax_i, fMin_i, Option.some.injEq, Prod.mk.injEq, exists_eq_left', exists_eq_left, exists_eq', exists_and_left, exists_and_right, and_true, true_and, List.set_cons_zero, List.set_cons_succ, Bool.true_eq_false, Bool.false_eq_true, forall_const, D.int.injEq, D.str.injEq, D.bl.injEq, D.lst.injEq, D.tup.injEq, Res.d.injEq, SV.d.injEq, Option.map_some, atI_0, atI_1, atI_2, atI_3, decide_eq_true_eq, decide_eq_false_iff_not, and_assoc, tyOk_str, mStr1_d, o_join, o_joinT, o_split, caLen_d, fLen_l, fLen_t, o_lenS, o_slS, o_slL, ixR_n, ixR_i, o_eqI, i_rng, i_rngB, i_val, i_valT, i_str, e_comp, wipeE, o_inC, Bool.not_true, Bool.not_false, Bool.not_eq_true', Bool.not_eq_false', if_true, if_false, Bool.if_true_left, decide_true, decide_false, asg_nm, asg_tp2, asg_tp3, kvSV_d, List.cons.injEq, tyOk_at ha0, toVal_l ha1]
  generalize μ.put (.m (μ0.m.length + (j + 1))) (.frz (.lst (cols.map colD))) = μ5 at hS5 ⊢
  refine col_copy (by simp) hl ?_
  have ha5 : μ5.at (.m (μ0.m.length + 0)) = some (.lst (eds.map edD)) := hS5.at rfl
  simp only [List.map_cons, List.map_nil, List.length_cons, List.length_nil, List.replicate, List.nil_append, List.cons_append, Nat.reduceAdd, Nat.reduceSub, Nat.zero_add, List.append_nil, e_bin, e_c, e_un, e_if, e_eB, e_nil, e_cons, e_lst, e_tup, e_call, e_fn, e_fnK, e_meth, e_sl, e_pNo, e_eI, e_chain, e_var, eVar, List.getElem?_cons_zero, List.getElem?_cons_succ, o_ok, o_okD, o_none, o_guard, o_op2, o_opI, o_addI, o_addS, o_addL, o_addT, o_mulI, o_mulL, o_ixD, o_ixT, o_ixN, o_ixS, peek_d, peek_tl, peekV_d, asB_d, conv_d, conv_al, conv_nl, conv_vt, conv_at, conv_nt, toVal_d, toVal_t, convV_d, toDs_nil, toDs_cons, ca1_d, ca2_d, plOf_loc, seqQ_nx, seqQ_rt, seqQ_ex, retQ_rt, retQ_ex, rtQ_rt, handR_d, handR_t, fInt_i, fInt_b, fAbs_i, fMax_i, fMin_i, Option.some.injEq, Prod.mk.injEq, exists_eq_left', exists_eq_left, exists_eq', exists_and_left, exists_and_right, and_true, true_and, List.set_cons_zero, List.set_cons_succ, Bool.true_eq_false, Bool.false_eq_true, forall_const, D.int.injEq, D.str.injEq, D.bl.injEq, D.lst.injEq, D.tup.injEq, Res.d.injEq, SV.d.injEq, Option.map_some, atI_0, atI_1, atI_2, atI_3, decide_eq_true_eq, decide_eq_false_iff_not, and_assoc, tyOk_str, mStr1_d, o_join, o_joinT, o_split, caLen_d, fLen_l, fLen_t, o_lenS, o_slS, o_slL, ixR_n, ixR_i, o_eqI, i_rng, i_rngB, i_val, i_valT, i_str, e_comp, wipeE, o_inC, Bool.not_true, Bool.not_false, Bool.not_eq_true', Bool.not_eq_false', if_true, if_false, Bool.if_true_left, decide_true, decide_false, asg_nm, asg_tp2, asg_tp3, kvSV_d, List.cons.injEq]
  rw [o_append ha5 (by rw [List.length_map]; exact Nat.lt_of_lt_of_le (by omega : eds.length < 1001) (small_line (by decide)))]
  refine q _ ?_
  have := (hS5.put (j := 0) (.lst (eds.map edD ++ [D.lst (cols.map colD)]))).cut 1
  rw [List.map_append]
  exact this
theorem plan_turn {eds : List (List Col)} (hS : Sta n (k + 2 + ma * (3 + s3)) μ0 [.lst (eds.map edD)] μ) (hn : n < μ0.m.length) (h3 : s3 ≤ 20) (ht : ∀ x ∈ ts, Sx 8 x) (hl : ∀ x ∈ ls, Sx 8 x) (hk : ls.length = ki) (hk0 : 0 < ki) (hk1 : ki ≤ 20) (hco : 0 < co) (hco1 : co ≤ 100) (hma : ma ≤ 100) (htl : ts.length = co + ma)
    (he : eds.length ≤ 100) (hok : ∀ e ∈ eds, EdOk ma e)
    (q : ∀ (e : List Col) μ' x9 x15 x16, EdOk ma e → Sta n k μ0 [.lst ((eds ++ [e]).map edD)] (μ'.cut (μ0.m.length + 1)) → QS (.nx [some (.loc n), some (.d (.tup [.int s0, .int s1, .int s2, .int s3])), some (.d (.int tv)), some (.d (.lst (ts.map D.str))), some (.d (.lst (ls.map D.str))), some (.d (.int (co : Nat))), some (.d (.int (ma : Nat))), some (.d (.int (ki : Nat))), some (.loc (μ0.m.length + 0)), x9, none, none, none, none, none, x15, x16, none, none] μ')) :
    wpS g__law_drawn_plan_b3_1 [some (.loc n), some (.d (.tup [.int s0, .int s1, .int s2, .int s3])), some (.d (.int tv)), some (.d (.lst (ts.map D.str))), some (.d (.lst (ls.map D.str))), some (.d (.int (co : Nat))), some (.d (.int (ma : Nat))), some (.d (.int (ki : Nat))), some (.loc (μ0.m.length + 0)), none, none, none, none, none, none, none, none, none, none] μ QS := by
  apply s_seq
  apply s_set
  simp only [List.map_cons, List.map_nil, List.length_cons, List.length_nil, List.replicate, List.nil_append, List.cons_append, Nat.reduceAdd, Nat.reduceSub, Nat.zero_add, List.append_nil, e_bin, e_c, e_un, e_if, e_eB, e_nil, e_cons, e_lst, e_tup, e_call, e_fn, e_fnK, e_meth, e_sl, e_pNo, e_eI, e_chain, e_var, eVar, List.getElem?_cons_zero, List.getElem?_cons_succ, o_ok, o_okD, o_none, o_guard, o_op2, o_opI, o_addI, o_addS, o_addL, o_addT, o_mulI, o_mulL, o_ixD, o_ixT, o_ixN, o_ixS, peek_d, peek_tl, peekV_d, asB_d, conv_d, conv_al, conv_nl, conv_vt, conv_at, conv_nt, toVal_d, toVal_t, convV_d, toDs_nil, toDs_cons, ca1_d, ca2_d, plOf_loc, seqQ_nx, seqQ_rt, seqQ_ex, retQ_rt, retQ_ex, rtQ_rt, handR_d, handR_t, fInt_i, fInt_b, fAbs_i, fMax_i, fMin_i, Option.some.injEq, Prod.mk.injEq, exists_eq_left', exists_eq_left, exists_eq', exists_and_left, exists_and_right, and_true, true_and, List.set_cons_zero, List.set_cons_succ, Bool.true_eq_false, Bool.false_eq_true, forall_const, D.int.injEq, D.str.injEq, D.bl.injEq, D.lst.injEq, D.tup.injEq, Res.d.injEq, SV.d.injEq, Option.map_some, atI_0, atI_1, atI_2, atI_3, decide_eq_true_eq, decide_eq_false_iff_not, and_assoc, tyOk_str, mStr1_d, o_join, o_joinT, o_split, caLen_d, fLen_l, fLen_t, o_lenS, o_slS, o_slL, ixR_n, ixR_i, o_eqI, i_rng, i_rngB, i_val, i_valT, i_str, e_comp, wipeE, o_inC, Bool.not_true, Bool.not_false, Bool.not_eq_true', Bool.not_eq_false', if_true, if_false, Bool.if_true_left, decide_true, decide_false, asg_nm, asg_tp2, asg_tp3, kvSV_d, List.cons.injEq]
  refine ⟨small_line (by decide), ?_⟩
  rw [hS.len]
  have hS1 := hS.push (.lst [])
  generalize μ.pushM (.lst []) = μ1 at hS1 ⊢
  refine plan_cols (k := k + 2) (C0 := .lst (eds.map edD)) hS1 hn h3 ht hl hk hk0 hk1 hco hco1 hma htl fun cols μ2 hcl hco hS2 => ?_
  have ha0 : μ2.at (.m (μ0.m.length + 0)) = some (.lst (eds.map edD)) := hS2.at rfl
  have plain : ∀ μ3, Sta n k μ0 [.lst (eds.map edD), .lst (cols.map colD)] μ3 → wpS g__law_drawn_plan_b3_4 [some (.loc n), some (.d (.tup [.int s0, .int s1, .int s2, .int s3])), some (.d (.int tv)), some (.d (.lst (ts.map D.str))), some (.d (.lst (ls.map D.str))), some (.d (.int (co : Nat))), some (.d (.int (ma : Nat))), some (.d (.int (ki : Nat))), some (.loc (μ0.m.length + 0)), some (.loc (μ0.m.length + 1)), none, none, none, none, none, none, none, none, none] μ3 QS := fun μ3 hS3 =>
    plan_app (j := 0) hS3 rfl (by omega) he fun μ' h' => q cols μ' (some (.loc (μ0.m.length + 1))) none none ⟨hcl, hco⟩ h'
  apply s_seq
  apply s_if
  simp only [List.map_cons, List.map_nil, List.length_cons, List.length_nil, List.replicate, List.nil_append, List.cons_append, Nat.reduceAdd, Nat.reduceSub, Nat.zero_add, List.append_nil, e_bin, e_c, e_un, e_if, e_eB, e_nil, e_cons, e_lst, e_tup, e_call, e_fn, e_fnK, e_meth, e_sl, e_pNo, e_eI, e_chain, e_var, eVar, List.getElem?_cons_zero, List.getElem?_cons_succ, o_ok, o_okD, o_none, o_guard, o_op2, o_opI, o_addI, o_addS, o_addL, o_addT, o_mulI, o_mulL, o_ixD, o_ixT, o_ixN, o_ixS, peek_d, peek_tl, peekV_d, asB_d, conv_d, conv_al, conv_nl, conv_vt, conv_at, conv_nt, toVal_d, toVal_t, convV_d, toDs_nil, toDs_cons, ca1_d, ca2_d, plOf_loc, seqQ_nx, seqQ_rt, seqQ_ex, retQ_rt, retQ_ex, rtQ_rt, handR_d, handR_t, fInt_i, fInt_b, fAbs_i, fMax_i, fMin_i, Option.some.injEq, Prod.mk.injEq, exists_eq_left', exists_eq_left, exists_eq', exists_and_left, exists_and_right, and_true, true_and, List.set_cons_zero, List.set_cons_succ, Bool.true_eq_false, Bool.false_eq_true, forall_const, D.int.injEq, D.str.injEq, D.bl.injEq, D.lst.injEq, D.tup.injEq, Res.d.injEq, SV.d.injEq, Option.map_some, atI_0, atI_1, atI_2, atI_3, decide_eq_true_eq, decide_eq_false_iff_not, and_assoc, tyOk_str, mStr1_d, o_join, o_joinT, o_split, caLen_d, fLen_l, fLen_t, o_lenS, o_slS, o_slL, ixR_n, ixR_i, o_eqI, i_rng, i_rngB, i_val, i_valT, i_str, e_comp, wipeE, o_inC, Bool.not_true, Bool.not_false, Bool.not_eq_true', Bool.not_eq_false', if_true, if_false, Bool.if_true_left, decide_true, decide_false, asg_nm, asg_tp2, asg_tp3, kvSV_d, List.cons.injEq, peek_at ha0, o_eqL]
  refine ⟨small_line (by decide), ?_, rfl, ?_, fun hne => ?_, fun hne => ?_⟩
  · rw [noObj]; exact noObjs_eds eds
  · have : dep (.lst []) = 1 := by simp [dep, deps]
    rw [this]; omega
  · refine coinS (k := k + 1) hS2 hn (by decide) (by decide) fun i μ3 i0 i1 hS3 => ?_
    simp only [List.map_cons, List.map_nil, List.length_cons, List.length_nil, List.replicate, List.nil_append, List.cons_append, Nat.reduceAdd, Nat.reduceSub, Nat.zero_add, List.append_nil, e_bin, e_c, e_un, e_if, e_eB, e_nil, e_cons, e_lst, e_tup, e_call, e_fn, e_fnK, e_meth, e_sl, e_pNo, e_eI, e_chain, e_var, eVar, List.getElem?_cons_zero, List.getElem?_cons_succ, o_ok, o_okD, o_none, o_guard, o_op2, o_opI, o_addI, o_addS, o_addL, o_addT, o_mulI, o_mulL, o_ixD, o_ixT, o_ixN, o_ixS, peek_d, peek_tl, peekV_d, asB_d, conv_d, conv_al, conv_nl, conv_vt, conv_at, conv_nt, toVal_d, toVal_t, convV_d, toDs_nil, toDs_cons, ca1_d, ca2_d, plOf_loc, seqQ_nx, seqQ_rt, seqQ_ex, retQ_rt, retQ_ex, rtQ_rt, handR_d, handR_t, fInt_i, fInt_b, fAbs_i, fMax_i, fMin_i, Option.some.injEq, Prod.mk.injEq, exists_eq_left', exists_eq_left, exists_eq', exists_and_left, exists_and_right, and_true, true_and, List.set_cons_zero, List.set_cons_succ, Bool.true_eq_false, Bool.false_eq_true, forall_const, D.int.injEq, D.str.injEq, D.bl.injEq, D.lst.injEq, D.tup.injEq, Res.d.injEq, SV.d.injEq, Option.map_some, atI_0, atI_1, atI_2, atI_3, decide_eq_true_eq, decide_eq_false_iff_not, and_assoc, tyOk_str, mStr1_d, o_join, o_joinT, o_split, caLen_d, fLen_l, fLen_t, o_lenS, o_slS, o_slL, ixR_n, ixR_i, o_eqI, i_rng, i_rngB, i_val, i_valT, i_str, e_comp, wipeE, o_inC, Bool.not_true, Bool.not_false, Bool.not_eq_true', Bool.not_eq_false', if_true, if_false, Bool.if_true_left, decide_true, decide_false, asg_nm, asg_tp2, asg_tp3, kvSV_d, List.cons.injEq]
    refine ⟨fun _ => ?_, fun _ => ?_⟩
    · -- one column of the elder edition is drawn anew
      apply s_seq
      apply s_set
      have fin : ∀ (at_ : Nat) μ4, (at_ < ma ∨ (ma = 0 ∧ at_ = 0)) → Sta n k μ0 [.lst (eds.map edD), .lst (cols.map colD)] μ4 → wpS g__law_drawn_plan_b7_2 [some (.loc n), some (.d (.tup [.int s0, .int s1, .int s2, .int s3])), some (.d (.int tv)), some (.d (.lst (ts.map D.str))), some (.d (.lst (ls.map D.str))), some (.d (.int (co : Nat))), some (.d (.int (ma : Nat))), some (.d (.int (ki : Nat))), some (.loc (μ0.m.length + 0)), some (.loc (μ0.m.length + 1)), none, none, none, none, none, some (.d (.int (at_ : Nat))), none, none, none] μ4 (seqQ g__law_drawn_plan_b3_4 QS) := fun at_ μ4 hat hS4 => by
        have ha0 : μ4.at (.m (μ0.m.length + 0)) = some (.lst (eds.map edD)) := hS4.at rfl
        have ha1 : μ4.at (.m (μ0.m.length + 1)) = some (.lst (cols.map colD)) := hS4.at rfl
        have hz : eds ≠ [] := fun z => by
          subst z
          simp [D.eq_lst, D.eqs_nil] at hne
        obtain ⟨el, hel, hmem⟩ := atI_last hz
        have hel' : atI (eds.map edD) (-1) = some (.lst (el.map colD)) := by
          have : ∀ (l : List (List Col)) (x : List Col), atI l (-1) = some x → atI (l.map edD) (-1) = some (edD x) := fun l x h => by
            unfold atI at h ⊢
            rw [List.length_map]
            cases e : ixN l.length (-1) with
            | none => rw [e] at h; cases h
            | some j =>
              rw [e] at h
              have h : l[j]? = some x := h
              show (l.map edD)[j]? = _
              rw [List.getElem?_map, h]
              rfl
          exact this _ _ hel
        have hok1 := hok el hmem
        apply s_seq
        apply s_set
        have eneg : fNeg μ4 (.d (.int 1)) = okD μ4 (.int (-1)) := rfl
        simp only [List.map_cons, List.map_nil, List.length_cons, List.length_nil, List.replicate, List.nil_append, List.cons_append, Nat.reduceAdd, Nat.reduceSub, Nat.zero_add, List.append_nil, e_bin, e_c, e_un, e_if, e_eB, e_nil, e_cons, e_lst, e_tup, e_call, e_fn, e_fnK, e_meth, e_sl, e_pNo, e_eI, e_chain, e_var, eVar, List.getElem?_cons_zero, List.getElem?_cons_succ, o_ok, o_okD, o_none, o_guard, o_op2, o_opI, o_addI, o_addS, o_addL, o_addT, o_mulI, o_mulL, o_ixD, o_ixT, o_ixN, o_ixS, peek_d, peek_tl, peekV_d, asB_d, conv_d, conv_al, conv_nl, conv_vt, conv_at, conv_nt, toVal_d, toVal_t, convV_d, toDs_nil, toDs_cons, ca1_d, ca2_d, plOf_loc, seqQ_nx, seqQ_rt, seqQ_ex, retQ_rt, retQ_ex, rtQ_rt, handR_d, handR_t, fInt_i, fInt_b, fAbs_i, fMax_i, fMin_i, Option.some.injEq, Prod.mk.injEq, exists_eq_left', exists_eq_left, exists_eq', exists_and_left, exists_and_right, and_true, true_and, List.set_cons_zero, List.set_cons_succ, Bool.true_eq_false, Bool.false_eq_true, forall_const, D.int.injEq, D.str.injEq, D.bl.injEq, D.lst.injEq, D.tup.injEq, Res.d.injEq, SV.d.injEq, Option.map_some, atI_0, atI_1, atI_2, atI_3, decide_eq_true_eq, decide_eq_false_iff_not, and_assoc, tyOk_str, mStr1_d, o_join, o_joinT, o_split, caLen_d, fLen_l, fLen_t, o_lenS, o_slS, o_slL, ixR_n, ixR_i, o_eqI, i_rng, i_rngB, i_val, i_valT, i_str, e_comp, wipeE, o_inC, Bool.not_true, Bool.not_false, Bool.not_eq_true', Bool.not_eq_false', if_true, if_false, Bool.if_true_left, decide_true, decide_false, asg_nm, asg_tp2, asg_tp3, kvSV_d, List.cons.injEq, eneg, o_ixL (items_at ha0), hel']
        apply s_set
        have c1 : (at_ : Int) + 1 = ((at_ + 1 : Nat) : Int) := by push_cast; rfl
        simp only [List.map_cons, List.map_nil, List.length_cons, List.length_nil, List.replicate, List.nil_append, List.cons_append, Nat.reduceAdd, Nat.reduceSub, Nat.zero_add, List.append_nil, e_bin, e_c, e_un, e_if, e_eB, e_nil, e_cons, e_lst, e_tup, e_call, e_fn, e_fnK, e_meth, e_sl, e_pNo, e_eI, e_chain, e_var, eVar, List.getElem?_cons_zero, List.getElem?_cons_succ, o_ok, o_okD, o_none, o_guard, o_op2, o_opI, o_addI, o_addS, o_addL, o_addT, o_mulI, o_mulL, o_ixD, o_ixT, o_ixN, o_ixS, peek_d, peek_tl, peekV_d, asB_d, conv_d, conv_al, conv_nl, conv_vt, conv_at, conv_nt, toVal_d, toVal_t, convV_d, toDs_nil, toDs_cons, ca1_d, ca2_d, plOf_loc, seqQ_nx, seqQ_rt, seqQ_ex, retQ_rt, retQ_ex, rtQ_rt, handR_d, handR_t, fInt_i, fInt_b, fAbs_i, fMax_i, fMin_i, Option.some.injEq, Prod.mk.injEq, exists_eq_left', exists_eq_left, exists_eq', exists_and_left, exists_and_right, and_true, true_and, List.set_cons_zero, List.set_cons_succ, Bool.true_eq_false, Bool.false_eq_true, forall_const, D.int.injEq, D.str.injEq, D.bl.injEq, D.lst.injEq, D.tup.injEq, Res.d.injEq, SV.d.injEq, Option.map_some, atI_0, atI_1, atI_2, atI_3, decide_eq_true_eq, decide_eq_false_iff_not, and_assoc, tyOk_str, mStr1_d, o_join, o_joinT, o_split, caLen_d, fLen_l, fLen_t, o_lenS, o_slS, o_slL, ixR_n, ixR_i, o_eqI, i_rng, i_rngB, i_val, i_valT, i_str, e_comp, wipeE, o_inC, Bool.not_true, Bool.not_false, Bool.not_eq_true', Bool.not_eq_false', if_true, if_false, Bool.if_true_left, decide_true, decide_false, asg_nm, asg_tp2, asg_tp3, kvSV_d, List.cons.injEq, peek_at ha1, c1, cut_take, cut_drop, cut_mid]
        have l1 : ((el.take at_).map colD ++ ((cols.drop at_).take (at_ + 1 - at_)).map colD ++ (el.drop (at_ + 1)).map colD) = ((el.take at_ ++ (cols.drop at_).take 1 ++ el.drop (at_ + 1)).map colD) := by
          rw [List.map_append, List.map_append, Nat.add_sub_cancel_left]
        have l2 : (el.take at_ ++ (cols.drop at_).take 1 ++ el.drop (at_ + 1)).length = ma := by
          rw [List.length_append, List.length_append, List.length_take, List.length_take, List.length_drop, List.length_drop, hok1.len, hcl]
          omega
        have ok2 : EdOk ma (el.take at_ ++ (cols.drop at_).take 1 ++ el.drop (at_ + 1)) := ⟨l2, fun c hc => by
          rcases List.mem_append.mp hc with hc | hc
          · rcases List.mem_append.mp hc with hc | hc
            · exact hok1.ok c (List.mem_of_mem_take hc)
            · exact hco c (List.mem_of_mem_drop (List.mem_of_mem_take hc))
          · exact hok1.ok c (List.mem_of_mem_drop hc)⟩
        refine ⟨?_, ?_, ?_⟩
        · rw [List.length_map, List.length_map, List.length_take, List.length_take]
          have := hok1.len
          exact small_line (by omega)
        · rw [List.length_append, List.length_map, List.length_map, List.length_map, List.length_take, List.length_take, List.length_drop, List.length_drop]
          have := hok1.len
          exact small_line (by omega)
        rw [l1, hS4.len]
        have hS5 := hS4.push (.lst ((el.take at_ ++ (cols.drop at_).take 1 ++ el.drop (at_ + 1)).map colD))
        generalize μ4.pushM (.lst ((el.take at_ ++ (cols.drop at_).take 1 ++ el.drop (at_ + 1)).map colD)) = μ5 at hS5 ⊢
        exact plan_app (j := 1) hS5 rfl (by omega) he fun μ' h' => q _ μ' (some (.loc (μ0.m.length + 2))) _ _ ok2 h'
      simp only [List.map_cons, List.map_nil, List.length_cons, List.length_nil, List.replicate, List.nil_append, List.cons_append, Nat.reduceAdd, Nat.reduceSub, Nat.zero_add, List.append_nil, e_bin, e_c, e_un, e_if, e_eB, e_nil, e_cons, e_lst, e_tup, e_call, e_fn, e_fnK, e_meth, e_sl, e_pNo, e_eI, e_chain, e_var, eVar, List.getElem?_cons_zero, List.getElem?_cons_succ, o_ok, o_okD, o_none, o_guard, o_op2, o_opI, o_addI, o_addS, o_addL, o_addT, o_mulI, o_mulL, o_ixD, o_ixT, o_ixN, o_ixS, peek_d, peek_tl, peekV_d, asB_d, conv_d, conv_al, conv_nl, conv_vt, conv_at, conv_nt, toVal_d, toVal_t, convV_d, toDs_nil, toDs_cons, ca1_d, ca2_d, plOf_loc, seqQ_nx, seqQ_rt, seqQ_ex, retQ_rt, retQ_ex, rtQ_rt, handR_d, handR_t, fInt_i, fInt_b, fAbs_i, fMax_i, fMin_i, Option.some.injEq, Prod.mk.injEq, exists_eq_left', exists_eq_left, exists_eq', exists_and_left, exists_and_right, and_true, true_and, List.set_cons_zero, List.set_cons_succ, Bool.true_eq_false, Bool.false_eq_true, forall_const, D.int.injEq, D.str.injEq, D.bl.injEq, D.lst.injEq, D.tup.injEq, Res.d.injEq, SV.d.injEq, Option.map_some, atI_0, atI_1, atI_2, atI_3, decide_eq_true_eq, decide_eq_false_iff_not, and_assoc, tyOk_str, mStr1_d, o_join, o_joinT, o_split, caLen_d, fLen_l, fLen_t, o_lenS, o_slS, o_slL, ixR_n, ixR_i, o_eqI, i_rng, i_rngB, i_val, i_valT, i_str, e_comp, wipeE, o_inC, Bool.not_true, Bool.not_false, Bool.not_eq_true', Bool.not_eq_false', if_true, if_false, Bool.if_true_left, decide_true, decide_false, asg_nm, asg_tp2, asg_tp3, kvSV_d, List.cons.injEq]
      refine ⟨fun hm => ?_, fun hm => ?_⟩
      · refine coinS (k := k) hS3 hn (by omega) (by omega) fun i μ4 i0 i1 hS4 => ?_
        simp only [List.map_cons, List.map_nil, List.length_cons, List.length_nil, List.replicate, List.nil_append, List.cons_append, Nat.reduceAdd, Nat.reduceSub, Nat.zero_add, List.append_nil, e_bin, e_c, e_un, e_if, e_eB, e_nil, e_cons, e_lst, e_tup, e_call, e_fn, e_fnK, e_meth, e_sl, e_pNo, e_eI, e_chain, e_var, eVar, List.getElem?_cons_zero, List.getElem?_cons_succ, o_ok, o_okD, o_none, o_guard, o_op2, o_opI, o_addI, o_addS, o_addL, o_addT, o_mulI, o_mulL, o_ixD, o_ixT, o_ixN, o_ixS, peek_d, peek_tl, peekV_d, asB_d, conv_d, conv_al, conv_nl, conv_vt, conv_at, conv_nt, toVal_d, toVal_t, convV_d, toDs_nil, toDs_cons, ca1_d, ca2_d, plOf_loc, seqQ_nx, seqQ_rt, seqQ_ex, retQ_rt, retQ_ex, rtQ_rt, handR_d, handR_t, fInt_i, fInt_b, fAbs_i, fMax_i, fMin_i, Option.some.injEq, Prod.mk.injEq, exists_eq_left', exists_eq_left, exists_eq', exists_and_left, exists_and_right, and_true, true_and, List.set_cons_zero, List.set_cons_succ, Bool.true_eq_false, Bool.false_eq_true, forall_const, D.int.injEq, D.str.injEq, D.bl.injEq, D.lst.injEq, D.tup.injEq, Res.d.injEq, SV.d.injEq, Option.map_some, atI_0, atI_1, atI_2, atI_3, decide_eq_true_eq, decide_eq_false_iff_not, and_assoc, tyOk_str, mStr1_d, o_join, o_joinT, o_split, caLen_d, fLen_l, fLen_t, o_lenS, o_slS, o_slL, ixR_n, ixR_i, o_eqI, i_rng, i_rngB, i_val, i_valT, i_str, e_comp, wipeE, o_inC, Bool.not_true, Bool.not_false, Bool.not_eq_true', Bool.not_eq_false', if_true, if_false, Bool.if_true_left, decide_true, decide_false, asg_nm, asg_tp2, asg_tp3, kvSV_d, List.cons.injEq]
        have := fin i.toNat μ4 (.inl (by omega)) hS4
        rw [Int.toNat_of_nonneg i0] at this
        exact this
      · exact fin 0 μ3 (.inr ⟨by omega, rfl⟩) (hS3.le (by omega))
    · apply s_nx
      exact plain μ3 (hS3.le (by omega))
  · refine ⟨fun z => z.elim, ?_⟩
    apply s_nx
    exact plain μ2 (hS2.le (by omega))
end

def planD (ps : List Str) (eds : List (List Col)) : D := .tup [.lst (ps.map D.str), .lst (eds.map edD)]
structure PlanOk (s0 s1 s2 : Nat) (ps : List Str) (eds : List (List Col)) : Prop where
  p0 : 1 ≤ ps.length
  p1 : ps.length ≤ s0
  p : ∀ x ∈ ps, Sx 8 x
  e0 : eds ≠ []
  e1 : eds.length ≤ s2
  e : ∃ ma, ma ≤ s1 ∧ ∀ e ∈ eds, EdOk ma e
theorem plan_ok {n k s0 s1 s2 s3 : Nat} {μ : Sto} {Q : Res → Sto → Prop} (h : Pur n (k + 1000) μ) (h0 : 1 ≤ s0) (h01 : s0 ≤ 6) (h1 : s1 ≤ 8) (h2 : 1 ≤ s2) (h21 : s2 ≤ 8) (h3 : s3 ≤ 6)
    (q : ∀ ps eds μ', PlanOk s0 s1 s2 ps eds → Pw n k μ μ' → Q (.d (planD ps eds)) μ') : wpF f__law_drawn_plan [.loc n, .d (.tup [.int s0, .int s1, .int s2, .int s3])] μ (rtQ Q) := by
  have hn := h.lt
  have hS0 := Sta.start h
  apply f_def
  apply s_seq
  apply s_par
  simp only [List.map_cons, List.map_nil, List.length_cons, List.length_nil, List.replicate, List.nil_append, List.cons_append, Nat.reduceAdd, Nat.reduceSub, Nat.zero_add, List.append_nil, e_bin, e_c, e_un, e_if, e_eB, e_nil, e_cons, e_lst, e_tup, e_call, e_fn, e_fnK, e_meth, e_sl, e_pNo, e_eI, e_chain, e_var, eVar, List.getElem?_cons_zero, List.getElem?_cons_succ, o_ok, o_okD, o_none, o_guard, o_op2, o_opI, o_addI, o_addS, o_addL, o_addT, o_mulI, o_mulL, o_ixD, o_ixT, o_ixN, o_ixS, peek_d, peek_tl, peekV_d, asB_d, conv_d, conv_al, conv_nl, conv_vt, conv_at, conv_nt, toVal_d, toVal_t, convV_d, toDs_nil, toDs_cons, ca1_d, ca2_d, plOf_loc, seqQ_nx, seqQ_rt, seqQ_ex, retQ_rt, retQ_ex, rtQ_rt, handR_d, handR_t, fInt_i, fInt_b, fAbs_i, fMax_i, fMin_i, Option.some.injEq, Prod.mk.injEq, exists_eq_left', exists_eq_left, exists_eq', exists_and_left, exists_and_right, and_true, true_and, List.set_cons_zero, List.set_cons_succ, Bool.true_eq_false, Bool.false_eq_true, forall_const, D.int.injEq, D.str.injEq, D.bl.injEq, D.lst.injEq, D.tup.injEq, Res.d.injEq, SV.d.injEq, Option.map_some, atI_0, atI_1, atI_2, atI_3, decide_eq_true_eq, decide_eq_false_iff_not, and_assoc, tyOk_str, mStr1_d, o_join, o_joinT, o_split, caLen_d, fLen_l, fLen_t, o_lenS, o_slS, o_slL, ixR_n, ixR_i, o_eqI, i_rng, i_rngB, i_val, i_valT, i_str, e_comp, wipeE, o_inC, Bool.not_true, Bool.not_false, Bool.not_eq_true', Bool.not_eq_false', if_true, if_false, Bool.if_true_left, decide_true, decide_false, asg_nm, asg_tp2, asg_tp3, kvSV_d, List.cons.injEq]
  refine coinS (k := k + 999) hS0 hn (by omega) (by omega) fun c μ1 i0 i1 hS1 => ?_
  simp only [List.map_cons, List.map_nil, List.length_cons, List.length_nil, List.replicate, List.nil_append, List.cons_append, Nat.reduceAdd, Nat.reduceSub, Nat.zero_add, List.append_nil, e_bin, e_c, e_un, e_if, e_eB, e_nil, e_cons, e_lst, e_tup, e_call, e_fn, e_fnK, e_meth, e_sl, e_pNo, e_eI, e_chain, e_var, eVar, List.getElem?_cons_zero, List.getElem?_cons_succ, o_ok, o_okD, o_none, o_guard, o_op2, o_opI, o_addI, o_addS, o_addL, o_addT, o_mulI, o_mulL, o_ixD, o_ixT, o_ixN, o_ixS, peek_d, peek_tl, peekV_d, asB_d, conv_d, conv_al, conv_nl, conv_vt, conv_at, conv_nt, toVal_d, toVal_t, convV_d, toDs_nil, toDs_cons, ca1_d, ca2_d, plOf_loc, seqQ_nx, seqQ_rt, seqQ_ex, retQ_rt, retQ_ex, rtQ_rt, handR_d, handR_t, fInt_i, fInt_b, fAbs_i, fMax_i, fMin_i, Option.some.injEq, Prod.mk.injEq, exists_eq_left', exists_eq_left, exists_eq', exists_and_left, exists_and_right, and_true, true_and, List.set_cons_zero, List.set_cons_succ, Bool.true_eq_false, Bool.false_eq_true, forall_const, D.int.injEq, D.str.injEq, D.bl.injEq, D.lst.injEq, D.tup.injEq, Res.d.injEq, SV.d.injEq, Option.map_some, atI_0, atI_1, atI_2, atI_3, decide_eq_true_eq, decide_eq_false_iff_not, and_assoc, tyOk_str, mStr1_d, o_join, o_joinT, o_split, caLen_d, fLen_l, fLen_t, o_lenS, o_slS, o_slL, ixR_n, ixR_i, o_eqI, i_rng, i_rngB, i_val, i_valT, i_str, e_comp, wipeE, o_inC, Bool.not_true, Bool.not_false, Bool.not_eq_true', Bool.not_eq_false', if_true, if_false, Bool.if_true_left, decide_true, decide_false, asg_nm, asg_tp2, asg_tp3, kvSV_d, List.cons.injEq]
  obtain ⟨co, rfl⟩ : ∃ co : Nat, c = (co : Int) := ⟨c.toNat, by omega⟩
  apply s_seq
  apply s_for
  simp only [List.map_cons, List.map_nil, List.length_cons, List.length_nil, List.replicate, List.nil_append, List.cons_append, Nat.reduceAdd, Nat.reduceSub, Nat.zero_add, List.append_nil, e_bin, e_c, e_un, e_if, e_eB, e_nil, e_cons, e_lst, e_tup, e_call, e_fn, e_fnK, e_meth, e_sl, e_pNo, e_eI, e_chain, e_var, eVar, List.getElem?_cons_zero, List.getElem?_cons_succ, o_ok, o_okD, o_none, o_guard, o_op2, o_opI, o_addI, o_addS, o_addL, o_addT, o_mulI, o_mulL, o_ixD, o_ixT, o_ixN, o_ixS, peek_d, peek_tl, peekV_d, asB_d, conv_d, conv_al, conv_nl, conv_vt, conv_at, conv_nt, toVal_d, toVal_t, convV_d, toDs_nil, toDs_cons, ca1_d, ca2_d, plOf_loc, seqQ_nx, seqQ_rt, seqQ_ex, retQ_rt, retQ_ex, rtQ_rt, handR_d, handR_t, fInt_i, fInt_b, fAbs_i, fMax_i, fMin_i, Option.some.injEq, Prod.mk.injEq, exists_eq_left', exists_eq_left, exists_eq', exists_and_left, exists_and_right, and_true, true_and, List.set_cons_zero, List.set_cons_succ, Bool.true_eq_false, Bool.false_eq_true, forall_const, D.int.injEq, D.str.injEq, D.bl.injEq, D.lst.injEq, D.tup.injEq, Res.d.injEq, SV.d.injEq, Option.map_some, atI_0, atI_1, atI_2, atI_3, decide_eq_true_eq, decide_eq_false_iff_not, and_assoc, tyOk_str, mStr1_d, o_join, o_joinT, o_split, caLen_d, fLen_l, fLen_t, o_lenS, o_slS, o_slL, ixR_n, ixR_i, o_eqI, i_rng, i_rngB, i_val, i_valT, i_str, e_comp, wipeE, o_inC, Bool.not_true, Bool.not_false, Bool.not_eq_true', Bool.not_eq_false', if_true, if_false, Bool.if_true_left, decide_true, decide_false, asg_nm, asg_tp2, asg_tp3, kvSV_d, List.cons.injEq]
  refine ⟨by decide, by decide, ?_⟩
  rw [hS1.len]
  have e1 : (1 : Int) + (co : Int) = ((1 + co : Nat) : Int) := by push_cast; rfl
  rw [e1]
  generalize hco : 1 + co = co' at *
  refine for_inv (fun xs ρ μ' => ∃ (j : Nat) (ma : Nat) (lo : Int), xs = rngI lo j ∧ ma ≤ s1 ∧ Sta n (k + 997 + j) μ [] μ' ∧ ρ = [some (.loc n), some (.d (.tup [.int s0, .int s1, .int s2, .int s3])), none, none, none, some (.d (.int (co' : Nat))), some (.d (.int (ma : Nat))), none, none, none, none, none, none, none, none, none, none, none, none]) ?_ ?_ _ _ _ ⟨2, 0, 0, rfl, by omega, hS1, rfl⟩
  · rintro x xs ρ μ2 ⟨j, ma, lo, e, hma, hS, rfl⟩
    obtain ⟨rfl, rfl⟩ := rngI_cons e.symm
    obtain ⟨j, rfl⟩ := rngI_pos e.symm
    refine ⟨_, asg_nm, ?_⟩
    apply s_set
    generalize hI : loopQ _ _ _ _ = LQ
    simp only [List.map_cons, List.map_nil, List.length_cons, List.length_nil, List.replicate, List.nil_append, List.cons_append, Nat.reduceAdd, Nat.reduceSub, Nat.zero_add, List.append_nil, e_bin, e_c, e_un, e_if, e_eB, e_nil, e_cons, e_lst, e_tup, e_call, e_fn, e_fnK, e_meth, e_sl, e_pNo, e_eI, e_chain, e_var, eVar, List.getElem?_cons_zero, List.getElem?_cons_succ, o_ok, o_okD, o_none, o_guard, o_op2, o_opI, o_addI, o_addS, o_addL, o_addT, o_mulI, o_mulL, o_ixD, o_ixT, o_ixN, o_ixS, peek_d, peek_tl, peekV_d, asB_d, conv_d, conv_al, conv_nl, conv_vt, conv_at, conv_nt, toVal_d, toVal_t, convV_d, toDs_nil, toDs_cons, ca1_d, ca2_d, plOf_loc, seqQ_nx, seqQ_rt, seqQ_ex, retQ_rt, retQ_ex, rtQ_rt, handR_d, handR_t, fInt_i, fInt_b, fAbs_i, fMax_i, fMin_i, Option.some.injEq, Prod.mk.injEq, exists_eq_left', exists_eq_left, exists_eq', exists_and_left, exists_and_right, and_true, true_and, List.set_cons_zero, List.set_cons_succ, Bool.true_eq_false, Bool.false_eq_true, forall_const, D.int.injEq, D.str.injEq, D.bl.injEq, D.lst.injEq, D.tup.injEq, Res.d.injEq, SV.d.injEq, Option.map_some, atI_0, atI_1, atI_2, atI_3, decide_eq_true_eq, decide_eq_false_iff_not, and_assoc, tyOk_str, mStr1_d, o_join, o_joinT, o_split, caLen_d, fLen_l, fLen_t, o_lenS, o_slS, o_slL, ixR_n, ixR_i, o_eqI, i_rng, i_rngB, i_val, i_valT, i_str, e_comp, wipeE, o_inC, Bool.not_true, Bool.not_false, Bool.not_eq_true', Bool.not_eq_false', if_true, if_false, Bool.if_true_left, decide_true, decide_false, asg_nm, asg_tp2, asg_tp3, kvSV_d, List.cons.injEq]
    refine coinS (k := k + 997 + j) hS hn (by omega) (by omega) fun m μ3 j0 j1 hS3 => ?_
    simp only [List.map_cons, List.map_nil, List.length_cons, List.length_nil, List.replicate, List.nil_append, List.cons_append, Nat.reduceAdd, Nat.reduceSub, Nat.zero_add, List.append_nil, e_bin, e_c, e_un, e_if, e_eB, e_nil, e_cons, e_lst, e_tup, e_call, e_fn, e_fnK, e_meth, e_sl, e_pNo, e_eI, e_chain, e_var, eVar, List.getElem?_cons_zero, List.getElem?_cons_succ, o_ok, o_okD, o_none, o_guard, o_op2, o_opI, o_addI, o_addS, o_addL, o_addT, o_mulI, o_mulL, o_ixD, o_ixT, o_ixN, o_ixS, peek_d, peek_tl, peekV_d, asB_d, conv_d, conv_al, conv_nl, conv_vt, conv_at, conv_nt, toVal_d, toVal_t, convV_d, toDs_nil, toDs_cons, ca1_d, ca2_d, plOf_loc, seqQ_nx, seqQ_rt, seqQ_ex, retQ_rt, retQ_ex, rtQ_rt, handR_d, handR_t, fInt_i, fInt_b, fAbs_i, fMax_i, fMin_i, Option.some.injEq, Prod.mk.injEq, exists_eq_left', exists_eq_left, exists_eq', exists_and_left, exists_and_right, and_true, true_and, List.set_cons_zero, List.set_cons_succ, Bool.true_eq_false, Bool.false_eq_true, forall_const, D.int.injEq, D.str.injEq, D.bl.injEq, D.lst.injEq, D.tup.injEq, Res.d.injEq, SV.d.injEq, Option.map_some, atI_0, atI_1, atI_2, atI_3, decide_eq_true_eq, decide_eq_false_iff_not, and_assoc, tyOk_str, mStr1_d, o_join, o_joinT, o_split, caLen_d, fLen_l, fLen_t, o_lenS, o_slS, o_slL, ixR_n, ixR_i, o_eqI, i_rng, i_rngB, i_val, i_valT, i_str, e_comp, wipeE, o_inC, Bool.not_true, Bool.not_false, Bool.not_eq_true', Bool.not_eq_false', if_true, if_false, Bool.if_true_left, decide_true, decide_false, asg_nm, asg_tp2, asg_tp3, kvSV_d, List.cons.injEq]
    subst hI
    obtain ⟨m, rfl⟩ : ∃ m' : Nat, m = (m' : Int) := ⟨m.toNat, by omega⟩
    have em : (if (m : Int) > (ma : Int) then (m : Int) else (ma : Int)) = ((max m ma : Nat) : Int) := by split <;> omega
    rw [em]
    exact ⟨j, max m ma, lo + 1, rfl, by omega, hS3.same (l := 0) (Nat.le_refl _), by rw [trim_eq]; simp (discharger := omega) only [List.map_cons, List.map_nil, tm_none, tm_d, tm_o, tm_loc, wipeE, List.set_cons_succ, List.set_cons_zero, List.length_cons, List.length_nil, Nat.zero_add, List.length_append]⟩
  rintro ρ μ2 ⟨j, ma, lo, e, hma, hS, rfl⟩
  cases rngI_nil e.symm
  show wpS g__law_drawn_plan_3 _ _ _
  apply s_seq
  apply s_set
  have ec : ((co' : Nat) : Int) + ((ma : Nat) : Int) = ((co' + ma : Nat) : Int) := by push_cast; rfl
  simp only [List.map_cons, List.map_nil, List.length_cons, List.length_nil, List.replicate, List.nil_append, List.cons_append, Nat.reduceAdd, Nat.reduceSub, Nat.zero_add, List.append_nil, e_bin, e_c, e_un, e_if, e_eB, e_nil, e_cons, e_lst, e_tup, e_call, e_fn, e_fnK, e_meth, e_sl, e_pNo, e_eI, e_chain, e_var, eVar, List.getElem?_cons_zero, List.getElem?_cons_succ, o_ok, o_okD, o_none, o_guard, o_op2, o_opI, o_addI, o_addS, o_addL, o_addT, o_mulI, o_mulL, o_ixD, o_ixT, o_ixN, o_ixS, peek_d, peek_tl, peekV_d, asB_d, conv_d, conv_al, conv_nl, conv_vt, conv_at, conv_nt, toVal_d, toVal_t, convV_d, toDs_nil, toDs_cons, ca1_d, ca2_d, plOf_loc, seqQ_nx, seqQ_rt, seqQ_ex, retQ_rt, retQ_ex, rtQ_rt, handR_d, handR_t, fInt_i, fInt_b, fAbs_i, fMax_i, fMin_i, Option.some.injEq, Prod.mk.injEq, exists_eq_left', exists_eq_left, exists_eq', exists_and_left, exists_and_right, and_true, true_and, List.set_cons_zero, List.set_cons_succ, Bool.true_eq_false, Bool.false_eq_true, forall_const, D.int.injEq, D.str.injEq, D.bl.injEq, D.lst.injEq, D.tup.injEq, Res.d.injEq, SV.d.injEq, Option.map_some, atI_0, atI_1, atI_2, atI_3, decide_eq_true_eq, decide_eq_false_iff_not, and_assoc, tyOk_str, mStr1_d, o_join, o_joinT, o_split, caLen_d, fLen_l, fLen_t, o_lenS, o_slS, o_slL, ixR_n, ixR_i, o_eqI, i_rng, i_rngB, i_val, i_valT, i_str, e_comp, wipeE, o_inC, Bool.not_true, Bool.not_false, Bool.not_eq_true', Bool.not_eq_false', if_true, if_false, Bool.if_true_left, decide_true, decide_false, asg_nm, asg_tp2, asg_tp3, kvSV_d, List.cons.injEq, ec]
  refine words_ok (k := k + 797) (hS.pur hn) (by omega) (by omega) fun ts μ3 htl hts w3 => ?_
  have hS3 := hS.pw hn w3
  simp only [List.map_cons, List.map_nil, List.length_cons, List.length_nil, List.replicate, List.nil_append, List.cons_append, Nat.reduceAdd, Nat.reduceSub, Nat.zero_add, List.append_nil, e_bin, e_c, e_un, e_if, e_eB, e_nil, e_cons, e_lst, e_tup, e_call, e_fn, e_fnK, e_meth, e_sl, e_pNo, e_eI, e_chain, e_var, eVar, List.getElem?_cons_zero, List.getElem?_cons_succ, o_ok, o_okD, o_none, o_guard, o_op2, o_opI, o_addI, o_addS, o_addL, o_addT, o_mulI, o_mulL, o_ixD, o_ixT, o_ixN, o_ixS, peek_d, peek_tl, peekV_d, asB_d, conv_d, conv_al, conv_nl, conv_vt, conv_at, conv_nt, toVal_d, toVal_t, convV_d, toDs_nil, toDs_cons, ca1_d, ca2_d, plOf_loc, seqQ_nx, seqQ_rt, seqQ_ex, retQ_rt, retQ_ex, rtQ_rt, handR_d, handR_t, fInt_i, fInt_b, fAbs_i, fMax_i, fMin_i, Option.some.injEq, Prod.mk.injEq, exists_eq_left', exists_eq_left, exists_eq', exists_and_left, exists_and_right, and_true, true_and, List.set_cons_zero, List.set_cons_succ, Bool.true_eq_false, Bool.false_eq_true, forall_const, D.int.injEq, D.str.injEq, D.bl.injEq, D.lst.injEq, D.tup.injEq, Res.d.injEq, SV.d.injEq, Option.map_some, atI_0, atI_1, atI_2, atI_3, decide_eq_true_eq, decide_eq_false_iff_not, and_assoc, tyOk_str, mStr1_d, o_join, o_joinT, o_split, caLen_d, fLen_l, fLen_t, o_lenS, o_slS, o_slL, ixR_n, ixR_i, o_eqI, i_rng, i_rngB, i_val, i_valT, i_str, e_comp, wipeE, o_inC, Bool.not_true, Bool.not_false, Bool.not_eq_true', Bool.not_eq_false', if_true, if_false, Bool.if_true_left, decide_true, decide_false, asg_nm, asg_tp2, asg_tp3, kvSV_d, List.cons.injEq]
  apply s_seq
  apply s_par
  simp only [List.map_cons, List.map_nil, List.length_cons, List.length_nil, List.replicate, List.nil_append, List.cons_append, Nat.reduceAdd, Nat.reduceSub, Nat.zero_add, List.append_nil, e_bin, e_c, e_un, e_if, e_eB, e_nil, e_cons, e_lst, e_tup, e_call, e_fn, e_fnK, e_meth, e_sl, e_pNo, e_eI, e_chain, e_var, eVar, List.getElem?_cons_zero, List.getElem?_cons_succ, o_ok, o_okD, o_none, o_guard, o_op2, o_opI, o_addI, o_addS, o_addL, o_addT, o_mulI, o_mulL, o_ixD, o_ixT, o_ixN, o_ixS, peek_d, peek_tl, peekV_d, asB_d, conv_d, conv_al, conv_nl, conv_vt, conv_at, conv_nt, toVal_d, toVal_t, convV_d, toDs_nil, toDs_cons, ca1_d, ca2_d, plOf_loc, seqQ_nx, seqQ_rt, seqQ_ex, retQ_rt, retQ_ex, rtQ_rt, handR_d, handR_t, fInt_i, fInt_b, fAbs_i, fMax_i, fMin_i, Option.some.injEq, Prod.mk.injEq, exists_eq_left', exists_eq_left, exists_eq', exists_and_left, exists_and_right, and_true, true_and, List.set_cons_zero, List.set_cons_succ, Bool.true_eq_false, Bool.false_eq_true, forall_const, D.int.injEq, D.str.injEq, D.bl.injEq, D.lst.injEq, D.tup.injEq, Res.d.injEq, SV.d.injEq, Option.map_some, atI_0, atI_1, atI_2, atI_3, decide_eq_true_eq, decide_eq_false_iff_not, and_assoc, tyOk_str, mStr1_d, o_join, o_joinT, o_split, caLen_d, fLen_l, fLen_t, o_lenS, o_slS, o_slL, ixR_n, ixR_i, o_eqI, i_rng, i_rngB, i_val, i_valT, i_str, e_comp, wipeE, o_inC, Bool.not_true, Bool.not_false, Bool.not_eq_true', Bool.not_eq_false', if_true, if_false, Bool.if_true_left, decide_true, decide_false, asg_nm, asg_tp2, asg_tp3, kvSV_d, List.cons.injEq]
  refine coinS (k := k + 796) hS3 hn (by decide) (by decide) fun ki0 μ4 k0 k1 hS4 => ?_
  simp only [List.map_cons, List.map_nil, List.length_cons, List.length_nil, List.replicate, List.nil_append, List.cons_append, Nat.reduceAdd, Nat.reduceSub, Nat.zero_add, List.append_nil, e_bin, e_c, e_un, e_if, e_eB, e_nil, e_cons, e_lst, e_tup, e_call, e_fn, e_fnK, e_meth, e_sl, e_pNo, e_eI, e_chain, e_var, eVar, List.getElem?_cons_zero, List.getElem?_cons_succ, o_ok, o_okD, o_none, o_guard, o_op2, o_opI, o_addI, o_addS, o_addL, o_addT, o_mulI, o_mulL, o_ixD, o_ixT, o_ixN, o_ixS, peek_d, peek_tl, peekV_d, asB_d, conv_d, conv_al, conv_nl, conv_vt, conv_at, conv_nt, toVal_d, toVal_t, convV_d, toDs_nil, toDs_cons, ca1_d, ca2_d, plOf_loc, seqQ_nx, seqQ_rt, seqQ_ex, retQ_rt, retQ_ex, rtQ_rt, handR_d, handR_t, fInt_i, fInt_b, fAbs_i, fMax_i, fMin_i, Option.some.injEq, Prod.mk.injEq, exists_eq_left', exists_eq_left, exists_eq', exists_and_left, exists_and_right, and_true, true_and, List.set_cons_zero, List.set_cons_succ, Bool.true_eq_false, Bool.false_eq_true, forall_const, D.int.injEq, D.str.injEq, D.bl.injEq, D.lst.injEq, D.tup.injEq, Res.d.injEq, SV.d.injEq, Option.map_some, atI_0, atI_1, atI_2, atI_3, decide_eq_true_eq, decide_eq_false_iff_not, and_assoc, tyOk_str, mStr1_d, o_join, o_joinT, o_split, caLen_d, fLen_l, fLen_t, o_lenS, o_slS, o_slL, ixR_n, ixR_i, o_eqI, i_rng, i_rngB, i_val, i_valT, i_str, e_comp, wipeE, o_inC, Bool.not_true, Bool.not_false, Bool.not_eq_true', Bool.not_eq_false', if_true, if_false, Bool.if_true_left, decide_true, decide_false, asg_nm, asg_tp2, asg_tp3, kvSV_d, List.cons.injEq]
  obtain ⟨ki, hki⟩ : ∃ ki : Nat, 3 + ki0 = (ki : Int) := ⟨(3 + ki0).toNat, by omega⟩
  rw [hki]
  refine ⟨small_line (by decide), ?_⟩
  rw [hS4.len]
  have hS5 := hS4.push (.lst [])
  generalize μ4.pushM (.lst []) = μ5 at hS5 ⊢
  apply s_seq
  apply s_set
  simp only [List.map_cons, List.map_nil, List.length_cons, List.length_nil, List.replicate, List.nil_append, List.cons_append, Nat.reduceAdd, Nat.reduceSub, Nat.zero_add, List.append_nil, e_bin, e_c, e_un, e_if, e_eB, e_nil, e_cons, e_lst, e_tup, e_call, e_fn, e_fnK, e_meth, e_sl, e_pNo, e_eI, e_chain, e_var, eVar, List.getElem?_cons_zero, List.getElem?_cons_succ, o_ok, o_okD, o_none, o_guard, o_op2, o_opI, o_addI, o_addS, o_addL, o_addT, o_mulI, o_mulL, o_ixD, o_ixT, o_ixN, o_ixS, peek_d, peek_tl, peekV_d, asB_d, conv_d, conv_al, conv_nl, conv_vt, conv_at, conv_nt, toVal_d, toVal_t, convV_d, toDs_nil, toDs_cons, ca1_d, ca2_d, plOf_loc, seqQ_nx, seqQ_rt, seqQ_ex, retQ_rt, retQ_ex, rtQ_rt, handR_d, handR_t, fInt_i, fInt_b, fAbs_i, fMax_i, fMin_i, Option.some.injEq, Prod.mk.injEq, exists_eq_left', exists_eq_left, exists_eq', exists_and_left, exists_and_right, and_true, true_and, List.set_cons_zero, List.set_cons_succ, Bool.true_eq_false, Bool.false_eq_true, forall_const, D.int.injEq, D.str.injEq, D.bl.injEq, D.lst.injEq, D.tup.injEq, Res.d.injEq, SV.d.injEq, Option.map_some, atI_0, atI_1, atI_2, atI_3, decide_eq_true_eq, decide_eq_false_iff_not, and_assoc, tyOk_str, mStr1_d, o_join, o_joinT, o_split, caLen_d, fLen_l, fLen_t, o_lenS, o_slS, o_slL, ixR_n, ixR_i, o_eqI, i_rng, i_rngB, i_val, i_valT, i_str, e_comp, wipeE, o_inC, Bool.not_true, Bool.not_false, Bool.not_eq_true', Bool.not_eq_false', if_true, if_false, Bool.if_true_left, decide_true, decide_false, asg_nm, asg_tp2, asg_tp3, kvSV_d, List.cons.injEq]
  refine words_ok (k := k + 596) (hS5.pur hn) (by omega) (by omega) fun ls μ6 hll hls w6 => ?_
  have hS6 := hS5.pw hn w6
  simp only [List.map_cons, List.map_nil, List.length_cons, List.length_nil, List.replicate, List.nil_append, List.cons_append, Nat.reduceAdd, Nat.reduceSub, Nat.zero_add, List.append_nil, e_bin, e_c, e_un, e_if, e_eB, e_nil, e_cons, e_lst, e_tup, e_call, e_fn, e_fnK, e_meth, e_sl, e_pNo, e_eI, e_chain, e_var, eVar, List.getElem?_cons_zero, List.getElem?_cons_succ, o_ok, o_okD, o_none, o_guard, o_op2, o_opI, o_addI, o_addS, o_addL, o_addT, o_mulI, o_mulL, o_ixD, o_ixT, o_ixN, o_ixS, peek_d, peek_tl, peekV_d, asB_d, conv_d, conv_al, conv_nl, conv_vt, conv_at, conv_nt, toVal_d, toVal_t, convV_d, toDs_nil, toDs_cons, ca1_d, ca2_d, plOf_loc, seqQ_nx, seqQ_rt, seqQ_ex, retQ_rt, retQ_ex, rtQ_rt, handR_d, handR_t, fInt_i, fInt_b, fAbs_i, fMax_i, fMin_i, Option.some.injEq, Prod.mk.injEq, exists_eq_left', exists_eq_left, exists_eq', exists_and_left, exists_and_right, and_true, true_and, List.set_cons_zero, List.set_cons_succ, Bool.true_eq_false, Bool.false_eq_true, forall_const, D.int.injEq, D.str.injEq, D.bl.injEq, D.lst.injEq, D.tup.injEq, Res.d.injEq, SV.d.injEq, Option.map_some, atI_0, atI_1, atI_2, atI_3, decide_eq_true_eq, decide_eq_false_iff_not, and_assoc, tyOk_str, mStr1_d, o_join, o_joinT, o_split, caLen_d, fLen_l, fLen_t, o_lenS, o_slS, o_slL, ixR_n, ixR_i, o_eqI, i_rng, i_rngB, i_val, i_valT, i_str, e_comp, wipeE, o_inC, Bool.not_true, Bool.not_false, Bool.not_eq_true', Bool.not_eq_false', if_true, if_false, Bool.if_true_left, decide_true, decide_false, asg_nm, asg_tp2, asg_tp3, kvSV_d, List.cons.injEq]
  apply s_seq
  apply s_for
  simp only [List.map_cons, List.map_nil, List.length_cons, List.length_nil, List.replicate, List.nil_append, List.cons_append, Nat.reduceAdd, Nat.reduceSub, Nat.zero_add, List.append_nil, e_bin, e_c, e_un, e_if, e_eB, e_nil, e_cons, e_lst, e_tup, e_call, e_fn, e_fnK, e_meth, e_sl, e_pNo, e_eI, e_chain, e_var, eVar, List.getElem?_cons_zero, List.getElem?_cons_succ, o_ok, o_okD, o_none, o_guard, o_op2, o_opI, o_addI, o_addS, o_addL, o_addT, o_mulI, o_mulL, o_ixD, o_ixT, o_ixN, o_ixS, peek_d, peek_tl, peekV_d, asB_d, conv_d, conv_al, conv_nl, conv_vt, conv_at, conv_nt, toVal_d, toVal_t, convV_d, toDs_nil, toDs_cons, ca1_d, ca2_d, plOf_loc, seqQ_nx, seqQ_rt, seqQ_ex, retQ_rt, retQ_ex, rtQ_rt, handR_d, handR_t, fInt_i, fInt_b, fAbs_i, fMax_i, fMin_i, Option.some.injEq, Prod.mk.injEq, exists_eq_left', exists_eq_left, exists_eq', exists_and_left, exists_and_right, and_true, true_and, List.set_cons_zero, List.set_cons_succ, Bool.true_eq_false, Bool.false_eq_true, forall_const, D.int.injEq, D.str.injEq, D.bl.injEq, D.lst.injEq, D.tup.injEq, Res.d.injEq, SV.d.injEq, Option.map_some, atI_0, atI_1, atI_2, atI_3, decide_eq_true_eq, decide_eq_false_iff_not, and_assoc, tyOk_str, mStr1_d, o_join, o_joinT, o_split, caLen_d, fLen_l, fLen_t, o_lenS, o_slS, o_slL, ixR_n, ixR_i, o_eqI, i_rng, i_rngB, i_val, i_valT, i_str, e_comp, wipeE, o_inC, Bool.not_true, Bool.not_false, Bool.not_eq_true', Bool.not_eq_false', if_true, if_false, Bool.if_true_left, decide_true, decide_false, asg_nm, asg_tp2, asg_tp3, kvSV_d, List.cons.injEq]
  refine coinS (k := k + 595) hS6 hn (by omega) (by omega) fun ne μ7 n0 n1 hS7 => ?_
  simp only [List.map_cons, List.map_nil, List.length_cons, List.length_nil, List.replicate, List.nil_append, List.cons_append, Nat.reduceAdd, Nat.reduceSub, Nat.zero_add, List.append_nil, e_bin, e_c, e_un, e_if, e_eB, e_nil, e_cons, e_lst, e_tup, e_call, e_fn, e_fnK, e_meth, e_sl, e_pNo, e_eI, e_chain, e_var, eVar, List.getElem?_cons_zero, List.getElem?_cons_succ, o_ok, o_okD, o_none, o_guard, o_op2, o_opI, o_addI, o_addS, o_addL, o_addT, o_mulI, o_mulL, o_ixD, o_ixT, o_ixN, o_ixS, peek_d, peek_tl, peekV_d, asB_d, conv_d, conv_al, conv_nl, conv_vt, conv_at, conv_nt, toVal_d, toVal_t, convV_d, toDs_nil, toDs_cons, ca1_d, ca2_d, plOf_loc, seqQ_nx, seqQ_rt, seqQ_ex, retQ_rt, retQ_ex, rtQ_rt, handR_d, handR_t, fInt_i, fInt_b, fAbs_i, fMax_i, fMin_i, Option.some.injEq, Prod.mk.injEq, exists_eq_left', exists_eq_left, exists_eq', exists_and_left, exists_and_right, and_true, true_and, List.set_cons_zero, List.set_cons_succ, Bool.true_eq_false, Bool.false_eq_true, forall_const, D.int.injEq, D.str.injEq, D.bl.injEq, D.lst.injEq, D.tup.injEq, Res.d.injEq, SV.d.injEq, Option.map_some, atI_0, atI_1, atI_2, atI_3, decide_eq_true_eq, decide_eq_false_iff_not, and_assoc, tyOk_str, mStr1_d, o_join, o_joinT, o_split, caLen_d, fLen_l, fLen_t, o_lenS, o_slS, o_slL, ixR_n, ixR_i, o_eqI, i_rng, i_rngB, i_val, i_valT, i_str, e_comp, wipeE, o_inC, Bool.not_true, Bool.not_false, Bool.not_eq_true', Bool.not_eq_false', if_true, if_false, Bool.if_true_left, decide_true, decide_false, asg_nm, asg_tp2, asg_tp3, kvSV_d, List.cons.injEq]
  refine ⟨by omega, by omega, ?_⟩
  rw [hS7.len]
  have hb : ma * (3 + s3) ≤ 8 * 9 := Nat.mul_le_mul (by omega) (by omega)
  refine for_inv (fun xs ρ μ' => ∃ (j : Nat) (eds : List (List Col)) (lo : Int), xs = rngI lo j ∧ 1 ≤ j + eds.length ∧ j + eds.length ≤ s2 ∧ (∀ e ∈ eds, EdOk ma e) ∧ Sta n (k + j * 74) μ [.lst (eds.map edD)] μ' ∧ ρ = [some (.loc n), some (.d (.tup [.int s0, .int s1, .int s2, .int s3])), none, some (.d (.lst (ts.map D.str))), some (.d (.lst (ls.map D.str))), some (.d (.int (co' : Nat))), some (.d (.int (ma : Nat))), some (.d (.int (ki : Nat))), some (.loc (μ.m.length + 0)), none, none, none, none, none, none, none, none, none, none]) ?_ ?_ _ _ _
    ⟨(1 + ne).toNat, [], 0, rfl, by simp; omega, by simp; omega, by simp, hS7.le (by omega), rfl⟩
  · rintro x xs ρ μ8 ⟨j, eds, lo, e, hj0, hj, hok, hS, rfl⟩
    obtain ⟨rfl, rfl⟩ := rngI_cons e.symm
    obtain ⟨j, rfl⟩ := rngI_pos e.symm
    refine ⟨_, asg_nm, ?_⟩
    refine plan_turn (k := k + j * 74) (ma := ma) (s3 := s3) (ki := ki) (hS.le (by rw [Nat.add_mul]; omega)) hn (by omega) hts hls hll (by omega) (by omega) (by omega) (by omega) (by omega) htl (by omega) hok fun e μ9 x9 x15 x16 he hS9 => ?_
    refine ⟨j, eds ++ [e], lo + 1, rfl, by rw [List.length_append]; simp; omega, by rw [List.length_append]; simp; omega, fun y hy' => ?_, hS9, by rw [trim_eq]; simp (discharger := omega) only [List.map_cons, List.map_nil, tm_none, tm_d, tm_o, tm_loc, wipeE, List.set_cons_succ, List.set_cons_zero, List.length_cons, List.length_nil, Nat.zero_add, List.length_append]⟩
    rcases List.mem_append.mp hy' with u | u
    · exact hok y u
    · rw [List.mem_singleton.mp u]; exact he
  · rintro ρ μ8 ⟨j, eds, lo, e, hj0, hj, hok, hS, rfl⟩
    cases rngI_nil e.symm
    show wpS g__law_drawn_plan_7 _ _ _
    have ha : μ8.at (.m (μ.m.length + 0)) = some (.lst (eds.map edD)) := hS.at rfl
    have hS9 := hS.put (j := 0) (.frz (.lst (eds.map edD)))
    apply s_ret
    simp only [List.map_cons, List.map_nil, List.length_cons, List.length_nil, List.replicate, List.nil_append, List.cons_append, Nat.reduceAdd, Nat.reduceSub, Nat.zero_add, List.append_nil, e_bin, e_c, e_un, e_if, e_eB, e_nil, e_cons, e_lst, e_tup, e_call, e_fn, e_fnK, e_meth, e_sl, e_pNo, e_eI, e_chain, e_var, eVar, List.getElem?_cons_zero, List.getElem?_cons_succ, o_ok, o_okD, o_none, o_guard, o_op2, o_opI, o_addI, o_addS, o_addL, o_addT, o_mulI, o_mulL, o_ixD, o_ixT, o_ixN, o_ixS, peek_d, peek_tl, peekV_d, asB_d, conv_d, conv_al, conv_nl, conv_vt, conv_at, conv_nt, toVal_d, toVal_t, convV_d, toDs_nil, toDs_cons, ca1_d, ca2_d, plOf_loc, seqQ_nx, seqQ_rt, seqQ_ex, retQ_rt, retQ_ex, rtQ_rt, handR_d, handR_t, fInt_i, fInt_b, fAbs_i, fMax_i, fMin_i, Option.some.injEq, Prod.mk.injEq, exists_eq_left', exists_eq_left, exists_eq', exists_and_left, exists_and_right, and_true, true_and, List.set_cons_zero, List.set_cons_succ, Bool.true_eq_false, Bool.false_eq_true, forall_const, D.int.injEq, D.str.injEq, D.bl.injEq, D.lst.injEq, D.tup.injEq, Res.d.injEq, SV.d.injEq, Option.map_some, atI_0, atI_1, atI_2, atI_3, decide_eq_true_eq, decide_eq_false_iff_not, and_assoc, tyOk_str, mStr1_d, o_join, o_joinT, o_split, caLen_d, fLen_l, fLen_t, o_lenS, o_slS, o_slL, ixR_n, ixR_i, o_eqI, i_rng, i_rngB, i_val, i_valT, i_str, e_comp, wipeE, o_inC, Bool.not_true, Bool.not_false, Bool.not_eq_true', Bool.not_eq_false', if_true, if_false, Bool.if_true_left, decide_true, decide_false, asg_nm, asg_tp2, asg_tp3, kvSV_d, List.cons.injEq, conv_vl ha, cut_take]
    refine ⟨small_line (by decide), q (ts.take co') eds _ ⟨?_, ?_, fun x hx => hts x (List.mem_of_mem_take hx), ?_, by omega, ma, hma, hok⟩ (hS9.le (by omega)).out⟩
    · rw [List.length_take]; omega
    · rw [List.length_take]; omega
    · intro z; subst z; simp at hj0
end DF
namespace DF
open PySem PySem.Spec PyProof.Rows L2
def dD (d : List Str) : D := .tup (d.map D.str)
structure DeedOk (d : List Str) : Prop where
  l0 : 1 ≤ d.length
  l1 : d.length ≤ 2
  ok : ∀ x ∈ d, Sx 8 x
theorem noObj_dD (d : List Str) : noObj (dD d) = true := by unfold dD; rw [noObj]; exact noObjs_strs d
theorem dep_dD (d : List Str) : dep (dD d) = 1 := by unfold dD; rw [dep, deps_strs]
theorem kvs_map {α : Type} (f : α → D) (xs : List α) : kvs (xs.map f) = xs.map fun a => KV.d (f a) := by unfold kvs; rw [List.map_map]; rfl
theorem lit8 {l : List Str} (h : l.all (fun x => decide (x.length ≤ 8) && okB x) = true) : ∀ x ∈ l, Sx 8 x := fun x hx => Sx.lit (List.all_eq_true.mp h x hx)
def deedsOf (ps : List Str) (e : List Col) : List (List Str) := ([["put"]] : List (List Str)) ++ ps.map (fun p => (["set", p] : List Str)) ++ e.map (fun c => (["rewrite", c.1] : List Str)) ++ ([["edition"]] : List (List Str))
theorem deeds_of_ok {s0 s1 s2 : Nat} {ps : List Str} {eds : List (List Col)} {μ : Sto} {Q : Res → Sto → Prop} (hp : PlanOk s0 s1 s2 ps eds) (h0 : s0 ≤ 6) (h1 : s1 ≤ 8)
    (q : ∀ ds, ds.length ≤ 20 → ds ≠ [] → (∀ d ∈ ds, DeedOk d) → Q (.tmp (.lst (ds.map dD))) μ) : wpF f__law_deeds_of [.d (planD ps eds)] μ (rtQ Q) := by
  obtain ⟨p0, p1, hps, e0, e1, ma, hma, hed⟩ := hp
  cases eds with
  | nil => exact absurd rfl e0
  | cons e0' er =>
  have he := hed e0' List.mem_cons_self
  apply f_def
  apply s_seq
  apply s_set
  simp only [List.map_cons, List.map_nil, List.length_cons, List.length_nil, List.replicate, List.nil_append, List.cons_append, Nat.reduceAdd, Nat.reduceSub, Nat.zero_add, List.append_nil, e_bin, e_c, e_un, e_if, e_eB, e_nil, e_cons, e_lst, e_tup, e_call, e_fn, e_fnK, e_meth, e_sl, e_pNo, e_eI, e_chain, e_var, eVar, List.getElem?_cons_zero, List.getElem?_cons_succ, o_ok, o_okD, o_none, o_guard, o_op2, o_opI, o_addI, o_addS, o_addL, o_addT, o_mulI, o_mulL, o_ixD, o_ixT, o_ixN, o_ixS, peek_d, peek_tl, peekV_d, asB_d, conv_d, conv_al, conv_nl, conv_vt, conv_at, conv_nt, toVal_d, toVal_t, convV_d, toDs_nil, toDs_cons, ca1_d, ca2_d, plOf_loc, seqQ_nx, seqQ_rt, seqQ_ex, retQ_rt, retQ_ex, rtQ_rt, handR_d, handR_t, fInt_i, fInt_b, fAbs_i, fMax_i, fMin_i, Option.some.injEq, Prod.mk.injEq, exists_eq_left', exists_eq_left, exists_eq', exists_and_left, exists_and_right, and_true, true_and, List.set_cons_zero, List.set_cons_succ, Bool.true_eq_false, Bool.false_eq_true, forall_const, D.int.injEq, D.str.injEq, D.bl.injEq, D.lst.injEq, D.tup.injEq, Res.d.injEq, SV.d.injEq, Option.map_some, atI_0, atI_1, atI_2, atI_3, decide_eq_true_eq, decide_eq_false_iff_not, and_assoc, tyOk_str, mStr1_d, o_join, o_joinT, o_split, caLen_d, fLen_l, fLen_t, o_lenS, o_slS, o_slL, ixR_n, ixR_i, o_eqI, i_rng, i_rngB, i_val, i_valT, i_str, e_comp, wipeE, o_inC, Bool.not_true, Bool.not_false, Bool.not_eq_true', Bool.not_eq_false', if_true, if_false, Bool.if_true_left, decide_true, decide_false, asg_nm, asg_tp2, asg_tp3, kvSV_d, List.cons.injEq, planD]
  refine ⟨small_line (by decide), small_line (by decide), ?_⟩
  refine map_comp _ (fun x => match x with | .d (.str s) => dD ["set", s] | _ => .non) (by rw [kvs_map, List.length_map]; omega) (fun x hx R r => ?_) ?_
  · rw [kvs_map] at hx
    obtain ⟨s, _, rfl⟩ := List.mem_map.mp hx
    simp only [List.map_cons, List.map_nil, List.length_cons, List.length_nil, List.replicate, List.nil_append, List.cons_append, Nat.reduceAdd, Nat.reduceSub, Nat.zero_add, List.append_nil, e_bin, e_c, e_un, e_if, e_eB, e_nil, e_cons, e_lst, e_tup, e_call, e_fn, e_fnK, e_meth, e_sl, e_pNo, e_eI, e_chain, e_var, eVar, List.getElem?_cons_zero, List.getElem?_cons_succ, o_ok, o_okD, o_none, o_guard, o_op2, o_opI, o_addI, o_addS, o_addL, o_addT, o_mulI, o_mulL, o_ixD, o_ixT, o_ixN, o_ixS, peek_d, peek_tl, peekV_d, asB_d, conv_d, conv_al, conv_nl, conv_vt, conv_at, conv_nt, toVal_d, toVal_t, convV_d, toDs_nil, toDs_cons, ca1_d, ca2_d, plOf_loc, seqQ_nx, seqQ_rt, seqQ_ex, retQ_rt, retQ_ex, rtQ_rt, handR_d, handR_t, fInt_i, fInt_b, fAbs_i, fMax_i, fMin_i, Option.some.injEq, Prod.mk.injEq, exists_eq_left', exists_eq_left, exists_eq', exists_and_left, exists_and_right, and_true, true_and, List.set_cons_zero, List.set_cons_succ, Bool.true_eq_false, Bool.false_eq_true, forall_const, D.int.injEq, D.str.injEq, D.bl.injEq, D.lst.injEq, D.tup.injEq, Res.d.injEq, SV.d.injEq, Option.map_some, atI_0, atI_1, atI_2, atI_3, decide_eq_true_eq, decide_eq_false_iff_not, and_assoc, tyOk_str, mStr1_d, o_join, o_joinT, o_split, caLen_d, fLen_l, fLen_t, o_lenS, o_slS, o_slL, ixR_n, ixR_i, o_eqI, i_rng, i_rngB, i_val, i_valT, i_str, e_comp, wipeE, o_inC, Bool.not_true, Bool.not_false, Bool.not_eq_true', Bool.not_eq_false', if_true, if_false, Bool.if_true_left, decide_true, decide_false, asg_nm, asg_tp2, asg_tp3, kvSV_d, List.cons.injEq]
    exact ⟨small_line (by decide), r _ rfl⟩
  simp only [List.map_cons, List.map_nil, List.length_cons, List.length_nil, List.replicate, List.nil_append, List.cons_append, Nat.reduceAdd, Nat.reduceSub, Nat.zero_add, List.append_nil, e_bin, e_c, e_un, e_if, e_eB, e_nil, e_cons, e_lst, e_tup, e_call, e_fn, e_fnK, e_meth, e_sl, e_pNo, e_eI, e_chain, e_var, eVar, List.getElem?_cons_zero, List.getElem?_cons_succ, o_ok, o_okD, o_none, o_guard, o_op2, o_opI, o_addI, o_addS, o_addL, o_addT, o_mulI, o_mulL, o_ixD, o_ixT, o_ixN, o_ixS, peek_d, peek_tl, peekV_d, asB_d, conv_d, conv_al, conv_nl, conv_vt, conv_at, conv_nt, toVal_d, toVal_t, convV_d, toDs_nil, toDs_cons, ca1_d, ca2_d, plOf_loc, seqQ_nx, seqQ_rt, seqQ_ex, retQ_rt, retQ_ex, rtQ_rt, handR_d, handR_t, fInt_i, fInt_b, fAbs_i, fMax_i, fMin_i, Option.some.injEq, Prod.mk.injEq, exists_eq_left', exists_eq_left, exists_eq', exists_and_left, exists_and_right, and_true, true_and, List.set_cons_zero, List.set_cons_succ, Bool.true_eq_false, Bool.false_eq_true, forall_const, D.int.injEq, D.str.injEq, D.bl.injEq, D.lst.injEq, D.tup.injEq, Res.d.injEq, SV.d.injEq, Option.map_some, atI_0, atI_1, atI_2, atI_3, decide_eq_true_eq, decide_eq_false_iff_not, and_assoc, tyOk_str, mStr1_d, o_join, o_joinT, o_split, caLen_d, fLen_l, fLen_t, o_lenS, o_slS, o_slL, ixR_n, ixR_i, o_eqI, i_rng, i_rngB, i_val, i_valT, i_str, e_comp, wipeE, o_inC, Bool.not_true, Bool.not_false, Bool.not_eq_true', Bool.not_eq_false', if_true, if_false, Bool.if_true_left, decide_true, decide_false, asg_nm, asg_tp2, asg_tp3, kvSV_d, List.cons.injEq, kvs_map, List.map_map]
  refine ⟨by rw [List.length_map]; exact small_line (by omega), ?_⟩
  apply s_ret
  simp only [List.map_cons, List.map_nil, List.length_cons, List.length_nil, List.replicate, List.nil_append, List.cons_append, Nat.reduceAdd, Nat.reduceSub, Nat.zero_add, List.append_nil, e_bin, e_c, e_un, e_if, e_eB, e_nil, e_cons, e_lst, e_tup, e_call, e_fn, e_fnK, e_meth, e_sl, e_pNo, e_eI, e_chain, e_var, eVar, List.getElem?_cons_zero, List.getElem?_cons_succ, o_ok, o_okD, o_none, o_guard, o_op2, o_opI, o_addI, o_addS, o_addL, o_addT, o_mulI, o_mulL, o_ixD, o_ixT, o_ixN, o_ixS, peek_d, peek_tl, peekV_d, asB_d, conv_d, conv_al, conv_nl, conv_vt, conv_at, conv_nt, toVal_d, toVal_t, convV_d, toDs_nil, toDs_cons, ca1_d, ca2_d, plOf_loc, seqQ_nx, seqQ_rt, seqQ_ex, retQ_rt, retQ_ex, rtQ_rt, handR_d, handR_t, fInt_i, fInt_b, fAbs_i, fMax_i, fMin_i, Option.some.injEq, Prod.mk.injEq, exists_eq_left', exists_eq_left, exists_eq', exists_and_left, exists_and_right, and_true, true_and, List.set_cons_zero, List.set_cons_succ, Bool.true_eq_false, Bool.false_eq_true, forall_const, D.int.injEq, D.str.injEq, D.bl.injEq, D.lst.injEq, D.tup.injEq, Res.d.injEq, SV.d.injEq, Option.map_some, atI_0, atI_1, atI_2, atI_3, decide_eq_true_eq, decide_eq_false_iff_not, and_assoc, tyOk_str, mStr1_d, o_join, o_joinT, o_split, caLen_d, fLen_l, fLen_t, o_lenS, o_slS, o_slL, ixR_n, ixR_i, o_eqI, i_rng, i_rngB, i_val, i_valT, i_str, e_comp, wipeE, o_inC, Bool.not_true, Bool.not_false, Bool.not_eq_true', Bool.not_eq_false', if_true, if_false, Bool.if_true_left, decide_true, decide_false, asg_nm, asg_tp2, asg_tp3, kvSV_d, List.cons.injEq, edD]
  refine map_comp _ (fun x => match x with | .d (.tup (.str s :: _)) => dD ["rewrite", s] | _ => .non) (by rw [kvs_map, List.length_map, he.len]; omega) (fun x hx R r => ?_) ?_
  · rw [kvs_map] at hx
    obtain ⟨c, _, rfl⟩ := List.mem_map.mp hx
    simp only [List.map_cons, List.map_nil, List.length_cons, List.length_nil, List.replicate, List.nil_append, List.cons_append, Nat.reduceAdd, Nat.reduceSub, Nat.zero_add, List.append_nil, e_bin, e_c, e_un, e_if, e_eB, e_nil, e_cons, e_lst, e_tup, e_call, e_fn, e_fnK, e_meth, e_sl, e_pNo, e_eI, e_chain, e_var, eVar, List.getElem?_cons_zero, List.getElem?_cons_succ, o_ok, o_okD, o_none, o_guard, o_op2, o_opI, o_addI, o_addS, o_addL, o_addT, o_mulI, o_mulL, o_ixD, o_ixT, o_ixN, o_ixS, peek_d, peek_tl, peekV_d, asB_d, conv_d, conv_al, conv_nl, conv_vt, conv_at, conv_nt, toVal_d, toVal_t, convV_d, toDs_nil, toDs_cons, ca1_d, ca2_d, plOf_loc, seqQ_nx, seqQ_rt, seqQ_ex, retQ_rt, retQ_ex, rtQ_rt, handR_d, handR_t, fInt_i, fInt_b, fAbs_i, fMax_i, fMin_i, Option.some.injEq, Prod.mk.injEq, exists_eq_left', exists_eq_left, exists_eq', exists_and_left, exists_and_right, and_true, true_and, List.set_cons_zero, List.set_cons_succ, Bool.true_eq_false, Bool.false_eq_true, forall_const, D.int.injEq, D.str.injEq, D.bl.injEq, D.lst.injEq, D.tup.injEq, Res.d.injEq, SV.d.injEq, Option.map_some, atI_0, atI_1, atI_2, atI_3, decide_eq_true_eq, decide_eq_false_iff_not, and_assoc, tyOk_str, mStr1_d, o_join, o_joinT, o_split, caLen_d, fLen_l, fLen_t, o_lenS, o_slS, o_slL, ixR_n, ixR_i, o_eqI, i_rng, i_rngB, i_val, i_valT, i_str, e_comp, wipeE, o_inC, Bool.not_true, Bool.not_false, Bool.not_eq_true', Bool.not_eq_false', if_true, if_false, Bool.if_true_left, decide_true, decide_false, asg_nm, asg_tp2, asg_tp3, kvSV_d, List.cons.injEq, colD]
    exact ⟨small_line (by decide), r _ rfl⟩
  simp only [List.map_cons, List.map_nil, List.length_cons, List.length_nil, List.replicate, List.nil_append, List.cons_append, Nat.reduceAdd, Nat.reduceSub, Nat.zero_add, List.append_nil, e_bin, e_c, e_un, e_if, e_eB, e_nil, e_cons, e_lst, e_tup, e_call, e_fn, e_fnK, e_meth, e_sl, e_pNo, e_eI, e_chain, e_var, eVar, List.getElem?_cons_zero, List.getElem?_cons_succ, o_ok, o_okD, o_none, o_guard, o_op2, o_opI, o_addI, o_addS, o_addL, o_addT, o_mulI, o_mulL, o_ixD, o_ixT, o_ixN, o_ixS, peek_d, peek_tl, peekV_d, asB_d, conv_d, conv_al, conv_nl, conv_vt, conv_at, conv_nt, toVal_d, toVal_t, convV_d, toDs_nil, toDs_cons, ca1_d, ca2_d, plOf_loc, seqQ_nx, seqQ_rt, seqQ_ex, retQ_rt, retQ_ex, rtQ_rt, handR_d, handR_t, fInt_i, fInt_b, fAbs_i, fMax_i, fMin_i, Option.some.injEq, Prod.mk.injEq, exists_eq_left', exists_eq_left, exists_eq', exists_and_left, exists_and_right, and_true, true_and, List.set_cons_zero, List.set_cons_succ, Bool.true_eq_false, Bool.false_eq_true, forall_const, D.int.injEq, D.str.injEq, D.bl.injEq, D.lst.injEq, D.tup.injEq, Res.d.injEq, SV.d.injEq, Option.map_some, atI_0, atI_1, atI_2, atI_3, decide_eq_true_eq, decide_eq_false_iff_not, and_assoc, tyOk_str, mStr1_d, o_join, o_joinT, o_split, caLen_d, fLen_l, fLen_t, o_lenS, o_slS, o_slL, ixR_n, ixR_i, o_eqI, i_rng, i_rngB, i_val, i_valT, i_str, e_comp, wipeE, o_inC, Bool.not_true, Bool.not_false, Bool.not_eq_true', Bool.not_eq_false', if_true, if_false, Bool.if_true_left, decide_true, decide_false, asg_nm, asg_tp2, asg_tp3, kvSV_d, List.cons.injEq, kvs_map, List.map_map]
  have e2 : ∀ ys : List D, ys.length = ma → True := fun _ _ => trivial
  refine ⟨?_, small_line (by decide), small_line (by decide), ?_, ?_⟩
  · simp only [List.length_append, List.length_cons, List.length_map, List.length_nil, he.len]; exact small_line (by omega)
  · simp only [List.length_append, List.length_cons, List.length_map, List.length_nil, he.len]; exact small_line (by omega)
  rw [cut_id (Nat.le_refl _)]
  have := q (deedsOf ps e0') (by unfold deedsOf; simp [he.len]; omega) (by unfold deedsOf; simp) (fun d hd => by
    unfold deedsOf at hd
    rcases List.mem_append.mp hd with hd | hd
    · rcases List.mem_append.mp hd with hd | hd
      · rcases List.mem_append.mp hd with hd | hd
        · rw [List.mem_singleton.mp hd]; exact ⟨by decide, by decide, lit8 (by decide +kernel)⟩
        · obtain ⟨p, hp, rfl⟩ := List.mem_map.mp hd
          refine ⟨by simp, by simp, fun x hx => ?_⟩
          rcases List.mem_cons.mp hx with rfl | hx
          · exact Sx.lit (by decide +kernel)
          · rw [List.mem_singleton.mp hx]; exact hps p hp
      · obtain ⟨p, hp, rfl⟩ := List.mem_map.mp hd
        refine ⟨by simp, by simp, fun x hx => ?_⟩
        rcases List.mem_cons.mp hx with rfl | hx
        · exact Sx.lit (by decide +kernel)
        · rw [List.mem_singleton.mp hx]; exact (he.ok p hp).a
    · rw [List.mem_singleton.mp hd]; exact ⟨by decide, by decide, lit8 (by decide +kernel)⟩)
  have ex : (deedsOf ps e0').map dD = ([D.tup [D.str "put"]] ++ ps.map (fun s => dD ["set", s]) ++ e0'.map (fun c => dD ["rewrite", c.1])) ++ [D.tup [D.str "edition"]] := by
    unfold deedsOf
    simp only [List.map_append, List.map_map, List.map_cons, List.map_nil]
    rfl
  rw [ex] at this
  exact this
section
variable {n k s0 s1 s2 mo : Nat} {ps : List Str} {eds : List (List Col)} {ds : List (List Str)} {μ : Sto} {Q : Res → Sto → Prop}
theorem history_ok (h : Pur n (k + 1 + mo) μ) (hp : PlanOk s0 s1 s2 ps eds) (h0 : s0 ≤ 6) (h1 : s1 ≤ 8) (hm0 : 0 < mo) (hm : mo ≤ 1000)
    (q : ∀ (hs : List (List Str)) μ', 1 ≤ hs.length → hs.length ≤ mo → (∀ d ∈ hs, DeedOk d) → Pw n k μ μ' → Q (.tmp (.lst (hs.map dD))) μ') : wpF f__law_drawn_history [.loc n, .d (planD ps eds), .d (.int mo)] μ (rtQ Q) := by
  have hn := h.lt
  have hS0 := Sta.start h
  apply f_def
  apply s_seq
  apply s_par3
  simp only [List.map_cons, List.map_nil, List.length_cons, List.length_nil, List.replicate, List.nil_append, List.cons_append, Nat.reduceAdd, Nat.reduceSub, Nat.zero_add, List.append_nil, e_bin, e_c, e_un, e_if, e_eB, e_nil, e_cons, e_lst, e_tup, e_call, e_fn, e_fnK, e_meth, e_sl, e_pNo, e_eI, e_chain, e_var, eVar, List.getElem?_cons_zero, List.getElem?_cons_succ, o_ok, o_okD, o_none, o_guard, o_op2, o_opI, o_addI, o_addS, o_addL, o_addT, o_mulI, o_mulL, o_ixD, o_ixT, o_ixN, o_ixS, peek_d, peek_tl, peekV_d, asB_d, conv_d, conv_al, conv_nl, conv_vt, conv_at, conv_nt, toVal_d, toVal_t, convV_d, toDs_nil, toDs_cons, ca1_d, ca2_d, plOf_loc, seqQ_nx, seqQ_rt, seqQ_ex, retQ_rt, retQ_ex, rtQ_rt, handR_d, handR_t, fInt_i, fInt_b, fAbs_i, fMax_i, fMin_i, Option.some.injEq, Prod.mk.injEq, exists_eq_left', exists_eq_left, exists_eq', exists_and_left, exists_and_right, and_true, true_and, List.set_cons_zero, List.set_cons_succ, Bool.true_eq_false, Bool.false_eq_true, forall_const, D.int.injEq, D.str.injEq, D.bl.injEq, D.lst.injEq, D.tup.injEq, Res.d.injEq, SV.d.injEq, Option.map_some, atI_0, atI_1, atI_2, atI_3, decide_eq_true_eq, decide_eq_false_iff_not, and_assoc, tyOk_str, mStr1_d, o_join, o_joinT, o_split, caLen_d, fLen_l, fLen_t, o_lenS, o_slS, o_slL, ixR_n, ixR_i, o_eqI, i_rng, i_rngB, i_val, i_valT, i_str, e_comp, wipeE, o_inC, Bool.not_true, Bool.not_false, Bool.not_eq_true', Bool.not_eq_false', if_true, if_false, Bool.if_true_left, decide_true, decide_false, asg_nm, asg_tp2, asg_tp3, kvSV_d, List.cons.injEq]
  refine ⟨small_line (by decide), small_line (by decide), ?_⟩
  have hS1 := hS0.push (.lst [dD ["put"]])
  show wpF f__law_deeds_of [.d (planD ps eds)] (μ.pushM (.lst [dD ["put"]])) _
  have el : μ.m.length = μ.m.length + 0 := rfl
  generalize μ.pushM (.lst [dD ["put"]]) = μ1 at hS1 ⊢
  refine deeds_of_ok hp h0 h1 fun ds hdl hdn hds => ?_
  simp only [List.map_cons, List.map_nil, List.length_cons, List.length_nil, List.replicate, List.nil_append, List.cons_append, Nat.reduceAdd, Nat.reduceSub, Nat.zero_add, List.append_nil, e_bin, e_c, e_un, e_if, e_eB, e_nil, e_cons, e_lst, e_tup, e_call, e_fn, e_fnK, e_meth, e_sl, e_pNo, e_eI, e_chain, e_var, eVar, List.getElem?_cons_zero, List.getElem?_cons_succ, o_ok, o_okD, o_none, o_guard, o_op2, o_opI, o_addI, o_addS, o_addL, o_addT, o_mulI, o_mulL, o_ixD, o_ixT, o_ixN, o_ixS, peek_d, peek_tl, peekV_d, asB_d, conv_d, conv_al, conv_nl, conv_vt, conv_at, conv_nt, toVal_d, toVal_t, convV_d, toDs_nil, toDs_cons, ca1_d, ca2_d, plOf_loc, seqQ_nx, seqQ_rt, seqQ_ex, retQ_rt, retQ_ex, rtQ_rt, handR_d, handR_t, fInt_i, fInt_b, fAbs_i, fMax_i, fMin_i, Option.some.injEq, Prod.mk.injEq, exists_eq_left', exists_eq_left, exists_eq', exists_and_left, exists_and_right, and_true, true_and, List.set_cons_zero, List.set_cons_succ, Bool.true_eq_false, Bool.false_eq_true, forall_const, D.int.injEq, D.str.injEq, D.bl.injEq, D.lst.injEq, D.tup.injEq, Res.d.injEq, SV.d.injEq, Option.map_some, atI_0, atI_1, atI_2, atI_3, decide_eq_true_eq, decide_eq_false_iff_not, and_assoc, tyOk_str, mStr1_d, o_join, o_joinT, o_split, caLen_d, fLen_l, fLen_t, o_lenS, o_slS, o_slL, ixR_n, ixR_i, o_eqI, i_rng, i_rngB, i_val, i_valT, i_str, e_comp, wipeE, o_inC, Bool.not_true, Bool.not_false, Bool.not_eq_true', Bool.not_eq_false', if_true, if_false, Bool.if_true_left, decide_true, decide_false, asg_nm, asg_tp2, asg_tp3, kvSV_d, List.cons.injEq, planD]
  have left : ∃ lf : Int, ((eds.map edD).length : Int) - 1 = lf := ⟨_, rfl⟩
  obtain ⟨lf, hlf⟩ := left
  rw [hlf]
  apply s_seq
  apply s_for
  simp only [List.map_cons, List.map_nil, List.length_cons, List.length_nil, List.replicate, List.nil_append, List.cons_append, Nat.reduceAdd, Nat.reduceSub, Nat.zero_add, List.append_nil, e_bin, e_c, e_un, e_if, e_eB, e_nil, e_cons, e_lst, e_tup, e_call, e_fn, e_fnK, e_meth, e_sl, e_pNo, e_eI, e_chain, e_var, eVar, List.getElem?_cons_zero, List.getElem?_cons_succ, o_ok, o_okD, o_none, o_guard, o_op2, o_opI, o_addI, o_addS, o_addL, o_addT, o_mulI, o_mulL, o_ixD, o_ixT, o_ixN, o_ixS, peek_d, peek_tl, peekV_d, asB_d, conv_d, conv_al, conv_nl, conv_vt, conv_at, conv_nt, toVal_d, toVal_t, convV_d, toDs_nil, toDs_cons, ca1_d, ca2_d, plOf_loc, seqQ_nx, seqQ_rt, seqQ_ex, retQ_rt, retQ_ex, rtQ_rt, handR_d, handR_t, fInt_i, fInt_b, fAbs_i, fMax_i, fMin_i, Option.some.injEq, Prod.mk.injEq, exists_eq_left', exists_eq_left, exists_eq', exists_and_left, exists_and_right, and_true, true_and, List.set_cons_zero, List.set_cons_succ, Bool.true_eq_false, Bool.false_eq_true, forall_const, D.int.injEq, D.str.injEq, D.bl.injEq, D.lst.injEq, D.tup.injEq, Res.d.injEq, SV.d.injEq, Option.map_some, atI_0, atI_1, atI_2, atI_3, decide_eq_true_eq, decide_eq_false_iff_not, and_assoc, tyOk_str, mStr1_d, o_join, o_joinT, o_split, caLen_d, fLen_l, fLen_t, o_lenS, o_slS, o_slL, ixR_n, ixR_i, o_eqI, i_rng, i_rngB, i_val, i_valT, i_str, e_comp, wipeE, o_inC, Bool.not_true, Bool.not_false, Bool.not_eq_true', Bool.not_eq_false', if_true, if_false, Bool.if_true_left, decide_true, decide_false, asg_nm, asg_tp2, asg_tp3, kvSV_d, List.cons.injEq]
  refine coinS (k := k + mo) (hS1.le (by omega)) hn (by omega) (by omega) fun nt μ2 i0 i1 hS2 => ?_
  simp only [List.map_cons, List.map_nil, List.length_cons, List.length_nil, List.replicate, List.nil_append, List.cons_append, Nat.reduceAdd, Nat.reduceSub, Nat.zero_add, List.append_nil, e_bin, e_c, e_un, e_if, e_eB, e_nil, e_cons, e_lst, e_tup, e_call, e_fn, e_fnK, e_meth, e_sl, e_pNo, e_eI, e_chain, e_var, eVar, List.getElem?_cons_zero, List.getElem?_cons_succ, o_ok, o_okD, o_none, o_guard, o_op2, o_opI, o_addI, o_addS, o_addL, o_addT, o_mulI, o_mulL, o_ixD, o_ixT, o_ixN, o_ixS, peek_d, peek_tl, peekV_d, asB_d, conv_d, conv_al, conv_nl, conv_vt, conv_at, conv_nt, toVal_d, toVal_t, convV_d, toDs_nil, toDs_cons, ca1_d, ca2_d, plOf_loc, seqQ_nx, seqQ_rt, seqQ_ex, retQ_rt, retQ_ex, rtQ_rt, handR_d, handR_t, fInt_i, fInt_b, fAbs_i, fMax_i, fMin_i, Option.some.injEq, Prod.mk.injEq, exists_eq_left', exists_eq_left, exists_eq', exists_and_left, exists_and_right, and_true, true_and, List.set_cons_zero, List.set_cons_succ, Bool.true_eq_false, Bool.false_eq_true, forall_const, D.int.injEq, D.str.injEq, D.bl.injEq, D.lst.injEq, D.tup.injEq, Res.d.injEq, SV.d.injEq, Option.map_some, atI_0, atI_1, atI_2, atI_3, decide_eq_true_eq, decide_eq_false_iff_not, and_assoc, tyOk_str, mStr1_d, o_join, o_joinT, o_split, caLen_d, fLen_l, fLen_t, o_lenS, o_slS, o_slL, ixR_n, ixR_i, o_eqI, i_rng, i_rngB, i_val, i_valT, i_str, e_comp, wipeE, o_inC, Bool.not_true, Bool.not_false, Bool.not_eq_true', Bool.not_eq_false', if_true, if_false, Bool.if_true_left, decide_true, decide_false, asg_nm, asg_tp2, asg_tp3, kvSV_d, List.cons.injEq]
  refine ⟨by omega, by omega, ?_⟩
  rw [hS2.len]
  refine for_inv (fun xs ρ μ' => ∃ (j : Nat) (hs : List (List Str)) (lo : Int) (lf : Int), xs = rngI lo j ∧ 1 ≤ hs.length ∧ j + hs.length ≤ mo ∧ (∀ d ∈ hs, DeedOk d) ∧ Sta n (k + j) μ [.lst (hs.map dD)] μ' ∧ ρ = [some (.loc n), some (.d (planD ps eds)), some (.d (.int (mo : Nat))), none, some (.loc (μ.m.length + 0)), some (.d (.lst (ds.map dD))), some (.d (.int lf)), none]) ?_ ?_ _ _ _
    ⟨nt.toNat, [["put"]], 0, lf, rfl, Nat.le_refl _, by simp; omega, fun d hd => by rw [List.mem_singleton.mp hd]; exact ⟨by decide, by decide, lit8 (by decide +kernel)⟩, hS2.le (by omega), rfl⟩
  · rintro x xs ρ μ3 ⟨j, hs, lo, lf, e, hl0, hl, hok, hS, rfl⟩
    obtain ⟨rfl, rfl⟩ := rngI_cons e.symm
    obtain ⟨j, rfl⟩ := rngI_pos e.symm
    refine ⟨_, asg_nm, ?_⟩
    apply s_seq
    apply s_set
    generalize hI : loopQ _ _ _ _ = LQ
    have hd0 : 0 < ds.length := List.length_pos_iff.mpr hdn
    simp only [List.map_cons, List.map_nil, List.length_cons, List.length_nil, List.replicate, List.nil_append, List.cons_append, Nat.reduceAdd, Nat.reduceSub, Nat.zero_add, List.append_nil, e_bin, e_c, e_un, e_if, e_eB, e_nil, e_cons, e_lst, e_tup, e_call, e_fn, e_fnK, e_meth, e_sl, e_pNo, e_eI, e_chain, e_var, eVar, List.getElem?_cons_zero, List.getElem?_cons_succ, o_ok, o_okD, o_none, o_guard, o_op2, o_opI, o_addI, o_addS, o_addL, o_addT, o_mulI, o_mulL, o_ixD, o_ixT, o_ixN, o_ixS, peek_d, peek_tl, peekV_d, asB_d, conv_d, conv_al, conv_nl, conv_vt, conv_at, conv_nt, toVal_d, toVal_t, convV_d, toDs_nil, toDs_cons, ca1_d, ca2_d, plOf_loc, seqQ_nx, seqQ_rt, seqQ_ex, retQ_rt, retQ_ex, rtQ_rt, handR_d, handR_t, fInt_i, fInt_b, fAbs_i, fMax_i, fMin_i, Option.some.injEq, Prod.mk.injEq, exists_eq_left', exists_eq_left, exists_eq', exists_and_left, exists_and_right, and_true, true_and, List.set_cons_zero, List.set_cons_succ, Bool.true_eq_false, Bool.false_eq_true, forall_const, D.int.injEq, D.str.injEq, D.bl.injEq, D.lst.injEq, D.tup.injEq, Res.d.injEq, SV.d.injEq, Option.map_some, atI_0, atI_1, atI_2, atI_3, decide_eq_true_eq, decide_eq_false_iff_not, and_assoc, tyOk_str, mStr1_d, o_join, o_joinT, o_split, caLen_d, fLen_l, fLen_t, o_lenS, o_slS, o_slL, ixR_n, ixR_i, o_eqI, i_rng, i_rngB, i_val, i_valT, i_str, e_comp, wipeE, o_inC, Bool.not_true, Bool.not_false, Bool.not_eq_true', Bool.not_eq_false', if_true, if_false, Bool.if_true_left, decide_true, decide_false, asg_nm, asg_tp2, asg_tp3, kvSV_d, List.cons.injEq]
    refine coinS (k := k + j) hS hn (by rw [List.length_map]; omega) (by rw [List.length_map]; omega) fun i μ4 j0 j1 hS4 => ?_
    simp only [List.map_cons, List.map_nil, List.length_cons, List.length_nil, List.replicate, List.nil_append, List.cons_append, Nat.reduceAdd, Nat.reduceSub, Nat.zero_add, List.append_nil, e_bin, e_c, e_un, e_if, e_eB, e_nil, e_cons, e_lst, e_tup, e_call, e_fn, e_fnK, e_meth, e_sl, e_pNo, e_eI, e_chain, e_var, eVar, List.getElem?_cons_zero, List.getElem?_cons_succ, o_ok, o_okD, o_none, o_guard, o_op2, o_opI, o_addI, o_addS, o_addL, o_addT, o_mulI, o_mulL, o_ixD, o_ixT, o_ixN, o_ixS, peek_d, peek_tl, peekV_d, asB_d, conv_d, conv_al, conv_nl, conv_vt, conv_at, conv_nt, toVal_d, toVal_t, convV_d, toDs_nil, toDs_cons, ca1_d, ca2_d, plOf_loc, seqQ_nx, seqQ_rt, seqQ_ex, retQ_rt, retQ_ex, rtQ_rt, handR_d, handR_t, fInt_i, fInt_b, fAbs_i, fMax_i, fMin_i, Option.some.injEq, Prod.mk.injEq, exists_eq_left', exists_eq_left, exists_eq', exists_and_left, exists_and_right, and_true, true_and, List.set_cons_zero, List.set_cons_succ, Bool.true_eq_false, Bool.false_eq_true, forall_const, D.int.injEq, D.str.injEq, D.bl.injEq, D.lst.injEq, D.tup.injEq, Res.d.injEq, SV.d.injEq, Option.map_some, atI_0, atI_1, atI_2, atI_3, decide_eq_true_eq, decide_eq_false_iff_not, and_assoc, tyOk_str, mStr1_d, o_join, o_joinT, o_split, caLen_d, fLen_l, fLen_t, o_lenS, o_slS, o_slL, ixR_n, ixR_i, o_eqI, i_rng, i_rngB, i_val, i_valT, i_str, e_comp, wipeE, o_inC, Bool.not_true, Bool.not_false, Bool.not_eq_true', Bool.not_eq_false', if_true, if_false, Bool.if_true_left, decide_true, decide_false, asg_nm, asg_tp2, asg_tp3, kvSV_d, List.cons.injEq]
    rw [List.length_map] at j1
    obtain ⟨dd, hdd, hmem⟩ := atI_of (l := ds.map dD) (i := i) j0 (by rw [List.length_map]; exact j1)
    obtain ⟨d, hd, rfl⟩ := List.mem_map.mp hmem
    refine ⟨_, hdd, ?_⟩
    have ha : μ4.at (.m (μ.m.length + 0)) = some (.lst (hs.map dD)) := hS4.at rfl
    have skip : loopQ (fun (ρ : En) (μ' : Sto) => ∃ (j' : Nat) (hs : List (List Str)) (lo' : Int) (lf : Int), rngI (lo + 1) (j + 1 - 1) = rngI lo' j' ∧ 1 ≤ hs.length ∧ j' + hs.length ≤ mo ∧ (∀ d ∈ hs, DeedOk d) ∧ Sta n (k + j') μ [.lst (hs.map dD)] μ' ∧ ρ = [some (.loc n), some (.d (planD ps eds)), some (.d (.int (mo : Nat))), none, some (.loc (μ.m.length + 0)), some (.d (.lst (ds.map dD))), some (.d (.int lf)), none]) (μ.m.length + 1) [3, 7] (retQ μ.m.length (rtQ Q)) (.nx [some (.loc n), some (.d (planD ps eds)), some (.d (.int (mo : Nat))), some (.d (.int lo)), some (.loc (μ.m.length + 0)), some (.d (.lst (ds.map dD))), some (.d (.int lf)), some (.d (dD d))] μ4) :=
      ⟨j, hs, lo + 1, lf, rfl, hl0, by omega, hok, hS4.same (l := 1) (Nat.le_refl _), by rw [trim_eq]; simp (discharger := omega) only [List.map_cons, List.map_nil, tm_none, tm_d, tm_o, tm_loc, wipeE, List.set_cons_succ, List.set_cons_zero, List.length_cons, List.length_nil, Nat.zero_add, List.length_append]⟩
    have take : wpS g__law_drawn_history_b3_1 [some (.loc n), some (.d (planD ps eds)), some (.d (.int (mo : Nat))), some (.d (.int lo)), some (.loc (μ.m.length + 0)), some (.d (.lst (ds.map dD))), some (.d (.int lf)), some (.d (dD d))] μ4 LQ := by
      apply s_seq
      apply s_set
      have eo : ∀ (ν : Sto) (R : Res → Sto → Prop), wpO (fEq false ν (dD d) (.tup [.str "edition"])) R ↔ R (.d (.bl (D.eq (dD d) (.tup [.str "edition"])))) ν := fun ν R => by
        rw [o_eq]
        exact ⟨fun z => z.2, fun z => ⟨⟨noObj_dD d, by rw [noObj]; rfl, by rw [dep_dD]; omega⟩, z⟩⟩
      simp only [List.map_cons, List.map_nil, List.length_cons, List.length_nil, List.replicate, List.nil_append, List.cons_append, Nat.reduceAdd, Nat.reduceSub, Nat.zero_add, List.append_nil, e_bin, e_c, e_un, e_if, e_eB, e_nil, e_cons, e_lst, e_tup, e_call, e_fn, e_fnK, e_meth, e_sl, e_pNo, e_eI, e_chain, e_var, eVar, List.getElem?_cons_zero, List.getElem?_cons_succ, o_ok, o_okD, o_none, o_guard, o_op2, o_opI, o_addI, o_addS, o_addL, o_addT, o_mulI, o_mulL, o_ixD, o_ixT, o_ixN, o_ixS, peek_d, peek_tl, peekV_d, asB_d, conv_d, conv_al, conv_nl, conv_vt, conv_at, conv_nt, toVal_d, toVal_t, convV_d, toDs_nil, toDs_cons, ca1_d, ca2_d, plOf_loc, seqQ_nx, seqQ_rt, seqQ_ex, retQ_rt, retQ_ex, rtQ_rt, handR_d, handR_t, fInt_i, fInt_b, fAbs_i, fMax_i, fMin_i, Option.some.injEq, Prod.mk.injEq, exists_eq_left', exists_eq_left, exists_eq', exists_and_left, exists_and_right, and_true, true_and, List.set_cons_zero, List.set_cons_succ, Bool.true_eq_false, Bool.false_eq_true, forall_const, D.int.injEq, D.str.injEq, D.bl.injEq, D.lst.injEq, D.tup.injEq, Res.d.injEq, SV.d.injEq, Option.map_some, atI_0, atI_1, atI_2, atI_3, decide_eq_true_eq, decide_eq_false_iff_not, and_assoc, tyOk_str, mStr1_d, o_join, o_joinT, o_split, caLen_d, fLen_l, fLen_t, o_lenS, o_slS, o_slL, ixR_n, ixR_i, o_eqI, i_rng, i_rngB, i_val, i_valT, i_str, e_comp, wipeE, o_inC, Bool.not_true, Bool.not_false, Bool.not_eq_true', Bool.not_eq_false', if_true, if_false, Bool.if_true_left, decide_true, decide_false, asg_nm, asg_tp2, asg_tp3, kvSV_d, List.cons.injEq, eo]
      refine ⟨small_line (by decide), ?_⟩
      apply s_expr
      simp only [List.map_cons, List.map_nil, List.length_cons, List.length_nil, List.replicate, List.nil_append, List.cons_append, Nat.reduceAdd, Nat.reduceSub, Nat.zero_add, List.append_nil, e_bin, e_c, e_un, e_if, e_eB, e_nil, e_cons, e_lst, e_tup, e_call, e_fn, e_fnK, e_meth, e_sl, e_pNo, e_eI, e_chain, e_var, eVar, List.getElem?_cons_zero, List.getElem?_cons_succ, o_ok, o_okD, o_none, o_guard, o_op2, o_opI, o_addI, o_addS, o_addL, o_addT, o_mulI, o_mulL, o_ixD, o_ixT, o_ixN, o_ixS, peek_d, peek_tl, peekV_d, asB_d, conv_d, conv_al, conv_nl, conv_vt, conv_at, conv_nt, toVal_d, toVal_t, convV_d, toDs_nil, toDs_cons, ca1_d, ca2_d, plOf_loc, seqQ_nx, seqQ_rt, seqQ_ex, retQ_rt, retQ_ex, rtQ_rt, handR_d, handR_t, fInt_i, fInt_b, fAbs_i, fMax_i, fMin_i, Option.some.injEq, Prod.mk.injEq, exists_eq_left', exists_eq_left, exists_eq', exists_and_left, exists_and_right, and_true, true_and, List.set_cons_zero, List.set_cons_succ, Bool.true_eq_false, Bool.false_eq_true, forall_const, D.int.injEq, D.str.injEq, D.bl.injEq, D.lst.injEq, D.tup.injEq, Res.d.injEq, SV.d.injEq, Option.map_some, atI_0, atI_1, atI_2, atI_3, decide_eq_true_eq, decide_eq_false_iff_not, and_assoc, tyOk_str, mStr1_d, o_join, o_joinT, o_split, caLen_d, fLen_l, fLen_t, o_lenS, o_slS, o_slL, ixR_n, ixR_i, o_eqI, i_rng, i_rngB, i_val, i_valT, i_str, e_comp, wipeE, o_inC, Bool.not_true, Bool.not_false, Bool.not_eq_true', Bool.not_eq_false', if_true, if_false, Bool.if_true_left, decide_true, decide_false, asg_nm, asg_tp2, asg_tp3, kvSV_d, List.cons.injEq, tyOk_at ha]
      rw [o_append ha (by rw [List.length_map]; exact Nat.lt_of_lt_of_le (by omega : hs.length < 1001) (small_line (by decide)))]
      subst hI
      refine ⟨j, hs ++ [d], lo + 1, lf - (if D.eq (dD d) (.tup [.str "edition"]) = true then 1 else 0), rfl, by rw [List.length_append]; simp, by rw [List.length_append]; simp; omega, fun y hy' => ?_, ?_, by rw [trim_eq]; simp (discharger := omega) only [List.map_cons, List.map_nil, tm_none, tm_d, tm_o, tm_loc, wipeE, List.set_cons_succ, List.set_cons_zero, List.length_cons, List.length_nil, Nat.zero_add, List.length_append]⟩
      · rcases List.mem_append.mp hy' with u | u
        · exact hok y u
        · rw [List.mem_singleton.mp u]; exact hds d hd
      · have := (hS4.put (j := 0) (.lst (hs.map dD ++ [dD d]))).same (l := 1) (Nat.le_refl _)
        rw [List.map_append]
        exact this
    apply s_if
    have eo : ∀ (ν : Sto) (R : Res → Sto → Prop), wpO (fEq true ν (dD d) (.tup [.str "edition"])) R ↔ R (.d (.bl (!D.eq (dD d) (.tup [.str "edition"])))) ν := fun ν R => by
      rw [o_eq]
      exact ⟨fun z => z.2, fun z => ⟨⟨noObj_dD d, by rw [noObj]; rfl, by rw [dep_dD]; omega⟩, z⟩⟩
    simp only [List.map_cons, List.map_nil, List.length_cons, List.length_nil, List.replicate, List.nil_append, List.cons_append, Nat.reduceAdd, Nat.reduceSub, Nat.zero_add, List.append_nil, e_bin, e_c, e_un, e_if, e_eB, e_nil, e_cons, e_lst, e_tup, e_call, e_fn, e_fnK, e_meth, e_sl, e_pNo, e_eI, e_chain, e_var, eVar, List.getElem?_cons_zero, List.getElem?_cons_succ, o_ok, o_okD, o_none, o_guard, o_op2, o_opI, o_addI, o_addS, o_addL, o_addT, o_mulI, o_mulL, o_ixD, o_ixT, o_ixN, o_ixS, peek_d, peek_tl, peekV_d, asB_d, conv_d, conv_al, conv_nl, conv_vt, conv_at, conv_nt, toVal_d, toVal_t, convV_d, toDs_nil, toDs_cons, ca1_d, ca2_d, plOf_loc, seqQ_nx, seqQ_rt, seqQ_ex, retQ_rt, retQ_ex, rtQ_rt, handR_d, handR_t, fInt_i, fInt_b, fAbs_i, fMax_i, fMin_i, Option.some.injEq, Prod.mk.injEq, exists_eq_left', exists_eq_left, exists_eq', exists_and_left, exists_and_right, and_true, true_and, List.set_cons_zero, List.set_cons_succ, Bool.true_eq_false, Bool.false_eq_true, forall_const, D.int.injEq, D.str.injEq, D.bl.injEq, D.lst.injEq, D.tup.injEq, Res.d.injEq, SV.d.injEq, Option.map_some, atI_0, atI_1, atI_2, atI_3, decide_eq_true_eq, decide_eq_false_iff_not, and_assoc, tyOk_str, mStr1_d, o_join, o_joinT, o_split, caLen_d, fLen_l, fLen_t, o_lenS, o_slS, o_slL, ixR_n, ixR_i, o_eqI, i_rng, i_rngB, i_val, i_valT, i_str, e_comp, wipeE, o_inC, Bool.not_true, Bool.not_false, Bool.not_eq_true', Bool.not_eq_false', if_true, if_false, Bool.if_true_left, decide_true, decide_false, asg_nm, asg_tp2, asg_tp3, kvSV_d, List.cons.injEq, eo]
    refine ⟨small_line (by decide), fun _ => ⟨take, fun z => z.elim⟩, fun _ => ⟨fun _ => take, fun _ => ?_⟩⟩
    apply s_nx
    rw [← hI]
    exact skip
  · rintro ρ μ3 ⟨j, hs, lo, lf, e, hl0, hl, hok, hS, rfl⟩
    cases rngI_nil e.symm
    have ha : μ3.at (.m (μ.m.length + 0)) = some (.lst (hs.map dD)) := hS.at rfl
    show wpS g__law_drawn_history_3 _ _ _
    apply s_ret
    simp only [List.map_cons, List.map_nil, List.length_cons, List.length_nil, List.replicate, List.nil_append, List.cons_append, Nat.reduceAdd, Nat.reduceSub, Nat.zero_add, List.append_nil, e_bin, e_c, e_un, e_if, e_eB, e_nil, e_cons, e_lst, e_tup, e_call, e_fn, e_fnK, e_meth, e_sl, e_pNo, e_eI, e_chain, e_var, eVar, List.getElem?_cons_zero, List.getElem?_cons_succ, o_ok, o_okD, o_none, o_guard, o_op2, o_opI, o_addI, o_addS, o_addL, o_addT, o_mulI, o_mulL, o_ixD, o_ixT, o_ixN, o_ixS, peek_d, peek_tl, peekV_d, asB_d, conv_d, conv_al, conv_nl, conv_vt, conv_at, conv_nt, toVal_d, toVal_t, convV_d, toDs_nil, toDs_cons, ca1_d, ca2_d, plOf_loc, seqQ_nx, seqQ_rt, seqQ_ex, retQ_rt, retQ_ex, rtQ_rt, handR_d, handR_t, fInt_i, fInt_b, fAbs_i, fMax_i, fMin_i, Option.some.injEq, Prod.mk.injEq, exists_eq_left', exists_eq_left, exists_eq', exists_and_left, exists_and_right, and_true, true_and, List.set_cons_zero, List.set_cons_succ, Bool.true_eq_false, Bool.false_eq_true, forall_const, D.int.injEq, D.str.injEq, D.bl.injEq, D.lst.injEq, D.tup.injEq, Res.d.injEq, SV.d.injEq, Option.map_some, atI_0, atI_1, atI_2, atI_3, decide_eq_true_eq, decide_eq_false_iff_not, and_assoc, tyOk_str, mStr1_d, o_join, o_joinT, o_split, caLen_d, fLen_l, fLen_t, o_lenS, o_slS, o_slL, ixR_n, ixR_i, o_eqI, i_rng, i_rngB, i_val, i_valT, i_str, e_comp, wipeE, o_inC, Bool.not_true, Bool.not_false, Bool.not_eq_true', Bool.not_eq_false', if_true, if_false, Bool.if_true_left, decide_true, decide_false, asg_nm, asg_tp2, asg_tp3, kvSV_d, List.cons.injEq, handR_own (Nat.le_add_right _ _) ha]
    exact q hs _ hl0 (by omega) hok (hS.le (by omega)).out
end
end DF
namespace DF
open PySem PySem.Spec PyProof.Rows L2
theorem vs_strs {N : Nat} : ∀ {vs : List SV}, (∀ v ∈ vs, ∃ y, v = .d (.str y) ∧ Sx N y) → ∃ ys : List Str, toDs vs = some (ys.map D.str) ∧ ys.length = vs.length ∧ ∀ y ∈ ys, Sx N y
  | [], _ => ⟨[], rfl, rfl, fun _ h => nomatch h⟩
  | v :: vs, h => by
    obtain ⟨y, rfl, hy⟩ := h v List.mem_cons_self
    obtain ⟨ys, e, l, h2⟩ := vs_strs fun w hw => h w (List.mem_cons_of_mem _ hw)
    refine ⟨y :: ys, by rw [toDs_cons, e]; rfl, by rw [List.length_cons, List.length_cons, l], fun z hz => ?_⟩
    rcases List.mem_cons.mp hz with rfl | hz
    · exact hy
    · exact h2 z hz
theorem mem_app {P : Str → Prop} {xs ys : List Str} (h : ∀ x ∈ xs, P x) (h' : ∀ x ∈ ys, P x) : ∀ x ∈ xs ++ ys, P x := fun x hx => (List.mem_append.mp hx).elim (h x) (h' x)
section
variable {n k j N i : Nat} {μ0 μ : Sto} {L : List Cell} {ρ : En} {xs : List Str} {A : AF} {QS : SO → Prop}
/-- menu = menu + [..] -/
theorem s_menu (hρ : ρ[i]? = some (some (.loc (μ0.m.length + j)))) (hS : Sta n k μ0 L μ) (hj : L[j]? = some (.lst (xs.map D.str))) (hl : xs.length ≤ 3000)
    (hA : wpA A ρ μ fun vs μ' => μ' = μ ∧ vs.length ≤ 100 ∧ ∀ v ∈ vs, ∃ y, v = .d (.str y) ∧ Sx N y)
    (q : ∀ (ys : List Str) μ', ys.length ≤ 100 → (∀ y ∈ ys, Sx N y) → Sta n k μ0 (L ++ [.lst ((xs ++ ys).map D.str)]) μ' → QS (.nx (ρ.set i (some (.loc (μ0.m.length + L.length)))) μ')) :
    wpS (sSet i .n (eBin (op2 fAdd) (eVar i) (eLst A))) ρ μ QS := by
  apply s_set
  have e1 : eVar i ρ μ = some (.ok (.loc (μ0.m.length + j)) μ) := v_loc hρ
  obtain ⟨vs, μ', ea, rfl, hv, h⟩ := hA
  obtain ⟨ys, et, el, hy⟩ := vs_strs h
  refine e_bin.mpr ⟨_, _, e1, e_lst.mpr ⟨vs, _, ea, _, et, by rw [List.length_map, el]; exact small_line (by omega), o_op2.mpr ⟨_, _, peek_at (hS.at hj), rfl, o_addL.mpr ?_⟩⟩⟩
  refine ⟨by rw [List.length_map, List.length_map, el]; exact small_line (by omega), _, _, rfl, ?_⟩
  rw [hS.len, ← List.map_append]
  exact q ys _ (by omega) hy (hS.push _)
end
section
variable {n k j : Nat} {μ0 μ : Sto} {L : List Cell} {xs : List Str} {wd : Str} {Q : Res → Sto → Prop}
theorem join_rep {s : Str} {m : Nat} : (List.replicate m [D.str s]).flatten = (List.replicate m s).map D.str := by
  induction m with
  | zero => rfl
  | succ m ih => rw [List.replicate_succ, List.flatten_cons, ih, List.replicate_succ]; rfl
theorem strOk_repl {x y z : Str} (hx : strOk x) (hz : strOk z) : strOk (Txt.replace x y z) := by
  unfold Txt.replace
  split
  · exact hx
  · rw [PySem.StrLaws.glued_eq_join]
    have e : ∀ ps : List Str, Str.join z ps = Txt.join z ps := fun ps => by
      unfold Txt.join
      rw [PySem.StrLaws.glued_eq_join]
    rw [e]
    refine strOk_join hz fun p hp c hc => hx c ?_
    have := mem_join (y := y) hp hc
    rw [← PySem.StrLaws.glued_eq_join, PySem.StrLaws.glued_between_self] at this
    exact this
theorem o_repl {x y z : Str} {R : Res → Sto → Prop} {ν : Sto} : wpO (fRepl y z ν (.d (.str x))) R ↔ (x.length + (x.length + 1) * z.length ≤ 16777216 ∧ okB (Txt.replace x y z) = true) ∧ R (.d (.str (Txt.replace x y z))) ν := by
  show wpO (guardE _ _) R ↔ _
  rw [o_guard, o_okD, Bool.and_eq_true, decide_eq_true_eq]
theorem Sx.repl {x y z : Str} (hx : Sx 4000 x) (hz : Sx 2 z) : Sx 12010 (Txt.replace x y z) := ⟨by
  have := TK.replace_len x y z
  have h1 : (x.length + 1) * z.length ≤ 4001 * 2 := Nat.mul_le_mul (by have := hx.1; omega) hz.1
  have := hx.1
  omega, strOk_repl hx.2 hz.2⟩
theorem odd9 (hS : Sta n (k + 300) μ0 L μ) (hn : n < μ0.m.length) (hj : L[j]? = some (.lst (xs.map D.str))) (hl0' : 1 ≤ xs.length) (hl : xs.length ≤ 700) (hx : ∀ x ∈ xs, Sx 20000 x) (hw : Sx 4000 wd)
    (q : ∀ z μ', Sx 20000 z → Pw n k μ0 μ' → Q (.d (.str z)) μ') : wpS g__law_odd_his_8 [some (.loc n), some (.d (.str wd)), some (.loc (μ0.m.length + j)), none, none, none] μ (retQ μ0.m.length (rtQ Q)) := by
  apply s_seq
  apply s_set
  simp only [List.map_cons, List.map_nil, List.length_cons, List.length_nil, List.replicate, List.nil_append, List.cons_append, Nat.reduceAdd, Nat.reduceSub, Nat.zero_add, List.append_nil, e_bin, e_c, e_un, e_if, e_eB, e_nil, e_cons, e_lst, e_tup, e_call, e_fn, e_fnK, e_meth, e_sl, e_pNo, e_eI, e_chain, e_var, eVar, List.getElem?_cons_zero, List.getElem?_cons_succ, o_ok, o_okD, o_none, o_guard, o_op2, o_opI, o_addI, o_addS, o_addL, o_addT, o_mulI, o_mulL, o_ixD, o_ixT, o_ixN, o_ixS, peek_d, peek_tl, peekV_d, asB_d, conv_d, conv_al, conv_nl, conv_vt, conv_at, conv_nt, toVal_d, toVal_t, convV_d, toDs_nil, toDs_cons, ca1_d, ca2_d, plOf_loc, seqQ_nx, seqQ_rt, seqQ_ex, retQ_rt, retQ_ex, rtQ_rt, handR_d, handR_t, fInt_i, fInt_b, fAbs_i, fMax_i, fMin_i, Option.some.injEq, Prod.mk.injEq, exists_eq_left', exists_eq_left, exists_eq', exists_and_left, exists_and_right, and_true, true_and, List.set_cons_zero, List.set_cons_succ, Bool.true_eq_false, Bool.false_eq_true, forall_const, D.int.injEq, D.str.injEq, D.bl.injEq, D.lst.injEq, D.tup.injEq, Res.d.injEq, SV.d.injEq, Option.map_some, atI_0, atI_1, atI_2, atI_3, decide_eq_true_eq, decide_eq_false_iff_not, and_assoc, tyOk_str, mStr1_d, o_join, o_joinT, o_split, caLen_d, fLen_l, fLen_t, o_lenS, o_slS, o_slL, ixR_n, ixR_i, o_eqI, i_rng, i_rngB, i_val, i_valT, i_str, e_comp, wipeE, o_inC, Bool.not_true, Bool.not_false, Bool.not_eq_true', Bool.not_eq_false', if_true, if_false, Bool.if_true_left, decide_true, decide_false, asg_nm, asg_tp2, asg_tp3, kvSV_d, List.cons.injEq]
  refine ⟨small_line (by decide), ?_⟩
  have ha := hS.at hj
  apply s_seq
  apply s_expr
  simp only [List.map_cons, List.map_nil, List.length_cons, List.length_nil, List.replicate, List.nil_append, List.cons_append, Nat.reduceAdd, Nat.reduceSub, Nat.zero_add, List.append_nil, e_bin, e_c, e_un, e_if, e_eB, e_nil, e_cons, e_lst, e_tup, e_call, e_fn, e_fnK, e_meth, e_sl, e_pNo, e_eI, e_chain, e_var, eVar, List.getElem?_cons_zero, List.getElem?_cons_succ, o_ok, o_okD, o_none, o_guard, o_op2, o_opI, o_addI, o_addS, o_addL, o_addT, o_mulI, o_mulL, o_ixD, o_ixT, o_ixN, o_ixS, peek_d, peek_tl, peekV_d, asB_d, conv_d, conv_al, conv_nl, conv_vt, conv_at, conv_nt, toVal_d, toVal_t, convV_d, toDs_nil, toDs_cons, ca1_d, ca2_d, plOf_loc, seqQ_nx, seqQ_rt, seqQ_ex, retQ_rt, retQ_ex, rtQ_rt, handR_d, handR_t, fInt_i, fInt_b, fAbs_i, fMax_i, fMin_i, Option.some.injEq, Prod.mk.injEq, exists_eq_left', exists_eq_left, exists_eq', exists_and_left, exists_and_right, and_true, true_and, List.set_cons_zero, List.set_cons_succ, Bool.true_eq_false, Bool.false_eq_true, forall_const, D.int.injEq, D.str.injEq, D.bl.injEq, D.lst.injEq, D.tup.injEq, Res.d.injEq, SV.d.injEq, Option.map_some, atI_0, atI_1, atI_2, atI_3, decide_eq_true_eq, decide_eq_false_iff_not, and_assoc, tyOk_str, mStr1_d, o_join, o_joinT, o_split, caLen_d, fLen_l, fLen_t, o_lenS, o_slS, o_slL, ixR_n, ixR_i, o_eqI, i_rng, i_rngB, i_val, i_valT, i_str, e_comp, wipeE, o_inC, Bool.not_true, Bool.not_false, Bool.not_eq_true', Bool.not_eq_false', if_true, if_false, Bool.if_true_left, decide_true, decide_false, asg_nm, asg_tp2, asg_tp3, kvSV_d, List.cons.injEq, tyOk_at ha]
  refine coinS (k := k + 299) hS hn (by decide) (by decide) fun nt μ1 i0 i1 hS1 => ?_
  simp only [List.map_cons, List.map_nil, List.length_cons, List.length_nil, List.replicate, List.nil_append, List.cons_append, Nat.reduceAdd, Nat.reduceSub, Nat.zero_add, List.append_nil, e_bin, e_c, e_un, e_if, e_eB, e_nil, e_cons, e_lst, e_tup, e_call, e_fn, e_fnK, e_meth, e_sl, e_pNo, e_eI, e_chain, e_var, eVar, List.getElem?_cons_zero, List.getElem?_cons_succ, o_ok, o_okD, o_none, o_guard, o_op2, o_opI, o_addI, o_addS, o_addL, o_addT, o_mulI, o_mulL, o_ixD, o_ixT, o_ixN, o_ixS, peek_d, peek_tl, peekV_d, asB_d, conv_d, conv_al, conv_nl, conv_vt, conv_at, conv_nt, toVal_d, toVal_t, convV_d, toDs_nil, toDs_cons, ca1_d, ca2_d, plOf_loc, seqQ_nx, seqQ_rt, seqQ_ex, retQ_rt, retQ_ex, rtQ_rt, handR_d, handR_t, fInt_i, fInt_b, fAbs_i, fMax_i, fMin_i, Option.some.injEq, Prod.mk.injEq, exists_eq_left', exists_eq_left, exists_eq', exists_and_left, exists_and_right, and_true, true_and, List.set_cons_zero, List.set_cons_succ, Bool.true_eq_false, Bool.false_eq_true, forall_const, D.int.injEq, D.str.injEq, D.bl.injEq, D.lst.injEq, D.tup.injEq, Res.d.injEq, SV.d.injEq, Option.map_some, atI_0, atI_1, atI_2, atI_3, decide_eq_true_eq, decide_eq_false_iff_not, and_assoc, tyOk_str, mStr1_d, o_join, o_joinT, o_split, caLen_d, fLen_l, fLen_t, o_lenS, o_slS, o_slL, ixR_n, ixR_i, o_eqI, i_rng, i_rngB, i_val, i_valT, i_str, e_comp, wipeE, o_inC, Bool.not_true, Bool.not_false, Bool.not_eq_true', Bool.not_eq_false', if_true, if_false, Bool.if_true_left, decide_true, decide_false, asg_nm, asg_tp2, asg_tp3, kvSV_d, List.cons.injEq]
  refine ⟨by omega, by omega, ?_⟩
  have comp : ∀ R : Res → Sto → Prop, (∀ (ys : List Str) μ', ys.length ≤ 280 → (∀ y ∈ ys, Sx 20 y) → Sta n (k + 19) μ0 L μ' → R (.tmp (.lst (ys.map D.str))) μ') →
      wpO (compLoop (.nm 5) [some (.loc n), some (.d (.str wd)), some (.loc (μ0.m.length + j)), some (.d (.lst [.str "put", .str "set a", .str "rewrite bb", .str "edition", .str "set abcdefgh"])), none, none] (eB true) (eBin opIx (eVar 3) (eFn f__law_coin (aCons .a (eVar 0) (aCons .a (eC (.int 5)) aNil)))) (rngI 0 (1 + nt).toNat) [] μ1) R := fun R r => by
    refine comp_inv (fun zs acc μ' => ∃ (d : Nat) (ys : List Str) (lo : Int), zs = rngI lo d ∧ d + ys.length ≤ 280 ∧ acc = ys.map D.str ∧ (∀ y ∈ ys, Sx 20 y) ∧ Sta n (k + 19 + d) μ0 L μ') ?_ ?_ _ [] μ1 ⟨(1 + nt).toNat, [], 0, rfl, by simp; omega, rfl, by simp, hS1.le (by omega)⟩
    · rintro x zs acc μ2 ⟨d, ys, lo, e, hd, rfl, hy, hS2⟩
      obtain ⟨rfl, rfl⟩ := rngI_cons e.symm
      obtain ⟨d, rfl⟩ := rngI_pos e.symm
      refine ⟨by rw [List.length_map]; exact Nat.lt_of_lt_of_le (by omega : ys.length < 1001) (small_line (by decide)), _, asg_nm, ?_⟩
      simp only [e_eB, asB_d, Option.some.injEq, exists_eq_left', forall_const, Bool.true_eq_false, false_imp_iff, and_true]
      refine e_bin.mpr ⟨_, _, v_d rfl, e_fn.mpr (e_cons.mpr ⟨_, _, v_loc rfl, _, _, rfl, e_cons.mpr ⟨_, _, rfl, _, _, rfl, e_nil.mpr ?_⟩⟩)⟩
      refine coinS (k := k + 19 + d) hS2 hn (by decide) (by decide) fun i μ3 j0 j1 hS3 => ?_
      obtain ⟨z, hz, sz, _⟩ := str_at (xs := ["put", "set a", "rewrite bb", "edition", "set abcdefgh"]) (i := i) (N := 20) (fun x hx => by
        have h : (["put", "set a", "rewrite bb", "edition", "set abcdefgh"] : List Str).all (fun x => decide (x.length ≤ 20) && okB x) = true := by decide +kernel
        exact Sx.lit (List.all_eq_true.mp h x hx)) j0 j1
      refine o_ixD.mpr ⟨_, hz, _, _, rfl, d, ys ++ [z], lo + 1, rfl, by rw [List.length_append]; simp; omega, by rw [List.map_append]; rfl, fun y hy' => ?_, hS3⟩
      rcases List.mem_append.mp hy' with u | u
      · exact hy y u
      · rw [List.mem_singleton.mp u]; exact sz
    · rintro acc μ2 ⟨d, ys, lo, e, hd, rfl, hy, hS2⟩
      cases rngI_nil e.symm
      exact r ys μ2 (by omega) hy hS2
  refine comp _ fun ys μ2 hyl hy hS2 => ?_
  simp only [List.map_cons, List.map_nil, List.length_cons, List.length_nil, List.replicate, List.nil_append, List.cons_append, Nat.reduceAdd, Nat.reduceSub, Nat.zero_add, List.append_nil, e_bin, e_c, e_un, e_if, e_eB, e_nil, e_cons, e_lst, e_tup, e_call, e_fn, e_fnK, e_meth, e_sl, e_pNo, e_eI, e_chain, e_var, eVar, List.getElem?_cons_zero, List.getElem?_cons_succ, o_ok, o_okD, o_none, o_guard, o_op2, o_opI, o_addI, o_addS, o_addL, o_addT, o_mulI, o_mulL, o_ixD, o_ixT, o_ixN, o_ixS, peek_d, peek_tl, peekV_d, asB_d, conv_d, conv_al, conv_nl, conv_vt, conv_at, conv_nt, toVal_d, toVal_t, convV_d, toDs_nil, toDs_cons, ca1_d, ca2_d, plOf_loc, seqQ_nx, seqQ_rt, seqQ_ex, retQ_rt, retQ_ex, rtQ_rt, handR_d, handR_t, fInt_i, fInt_b, fAbs_i, fMax_i, fMin_i, Option.some.injEq, Prod.mk.injEq, exists_eq_left', exists_eq_left, exists_eq', exists_and_left, exists_and_right, and_true, true_and, List.set_cons_zero, List.set_cons_succ, Bool.true_eq_false, Bool.false_eq_true, forall_const, D.int.injEq, D.str.injEq, D.bl.injEq, D.lst.injEq, D.tup.injEq, Res.d.injEq, SV.d.injEq, Option.map_some, atI_0, atI_1, atI_2, atI_3, decide_eq_true_eq, decide_eq_false_iff_not, and_assoc, tyOk_str, mStr1_d, o_join, o_joinT, o_split, caLen_d, fLen_l, fLen_t, o_lenS, o_slS, o_slL, ixR_n, ixR_i, o_eqI, i_rng, i_rngB, i_val, i_valT, i_str, e_comp, wipeE, o_inC, Bool.not_true, Bool.not_false, Bool.not_eq_true', Bool.not_eq_false', if_true, if_false, Bool.if_true_left, decide_true, decide_false, asg_nm, asg_tp2, asg_tp3, kvSV_d, List.cons.injEq]
  have c2 : Sx 2 ", " := Sx.lit (by decide +kernel)
  have hb : Sx 20000 (Txt.join ", " ys) := (Sx.join c2 hy).le (by omega)
  refine ⟨?_, ?_⟩
  · have := sum_le fun p hp => (hy p hp).1
    have e2 : (", " : Str).length = 2 := by decide +kernel
    rw [e2]
    omega
  generalize Txt.join ", " ys = jn at hb ⊢
  have ha2 := hS2.at hj
  rw [o_append ha2 (by rw [List.length_map]; exact Nat.lt_of_lt_of_le (by omega : xs.length < 1001) (small_line (by decide)))]
  have hS3 := hS2.put (j := j) (.lst (xs.map D.str ++ [D.str jn]))
  generalize μ2.put (.m (μ0.m.length + j)) (.lst (xs.map D.str ++ [D.str jn])) = μ3 at hS3 ⊢
  have hj3 : (L.set j (.lst (xs.map D.str ++ [D.str jn])))[j]? = some (.lst ((xs ++ [jn]).map D.str)) := by
    rw [List.getElem?_set_self (List.getElem?_eq_some_iff.mp hj).1, List.map_append]; rfl
  generalize L.set j (.lst (xs.map D.str ++ [D.str jn])) = L3 at hS3 hj3
  have hx3 : ∀ x ∈ xs ++ [jn], Sx 20000 x := mem_app hx fun x h => by rw [List.mem_singleton.mp h]; exact hb
  have hl3 : 1 ≤ (xs ++ [jn]).length ∧ (xs ++ [jn]).length ≤ 701 := by rw [List.length_append, List.length_singleton]; omega
  generalize xs ++ [jn] = xs3 at hj3 hx3 hl3
  apply s_seq
  apply s_set
  simp only [List.map_cons, List.map_nil, List.length_cons, List.length_nil, List.replicate, List.nil_append, List.cons_append, Nat.reduceAdd, Nat.reduceSub, Nat.zero_add, List.append_nil, e_bin, e_c, e_un, e_if, e_eB, e_nil, e_cons, e_lst, e_tup, e_call, e_fn, e_fnK, e_meth, e_sl, e_pNo, e_eI, e_chain, e_var, eVar, List.getElem?_cons_zero, List.getElem?_cons_succ, o_ok, o_okD, o_none, o_guard, o_op2, o_opI, o_addI, o_addS, o_addL, o_addT, o_mulI, o_mulL, o_ixD, o_ixT, o_ixN, o_ixS, peek_d, peek_tl, peekV_d, asB_d, conv_d, conv_al, conv_nl, conv_vt, conv_at, conv_nt, toVal_d, toVal_t, convV_d, toDs_nil, toDs_cons, ca1_d, ca2_d, plOf_loc, seqQ_nx, seqQ_rt, seqQ_ex, retQ_rt, retQ_ex, rtQ_rt, handR_d, handR_t, fInt_i, fInt_b, fAbs_i, fMax_i, fMin_i, Option.some.injEq, Prod.mk.injEq, exists_eq_left', exists_eq_left, exists_eq', exists_and_left, exists_and_right, and_true, true_and, List.set_cons_zero, List.set_cons_succ, Bool.true_eq_false, Bool.false_eq_true, forall_const, D.int.injEq, D.str.injEq, D.bl.injEq, D.lst.injEq, D.tup.injEq, Res.d.injEq, SV.d.injEq, Option.map_some, atI_0, atI_1, atI_2, atI_3, decide_eq_true_eq, decide_eq_false_iff_not, and_assoc, tyOk_str, mStr1_d, o_join, o_joinT, o_split, caLen_d, fLen_l, fLen_t, o_lenS, o_slS, o_slL, ixR_n, ixR_i, o_eqI, i_rng, i_rngB, i_val, i_valT, i_str, e_comp, wipeE, o_inC, Bool.not_true, Bool.not_false, Bool.not_eq_true', Bool.not_eq_false', if_true, if_false, Bool.if_true_left, decide_true, decide_false, asg_nm, asg_tp2, asg_tp3, kvSV_d, List.cons.injEq]
  refine coinS (k := k + 18) hS3 hn (by decide) (by decide) fun mn μ4 m0 m1 hS4 => ?_
  simp only [List.map_cons, List.map_nil, List.length_cons, List.length_nil, List.replicate, List.nil_append, List.cons_append, Nat.reduceAdd, Nat.reduceSub, Nat.zero_add, List.append_nil, e_bin, e_c, e_un, e_if, e_eB, e_nil, e_cons, e_lst, e_tup, e_call, e_fn, e_fnK, e_meth, e_sl, e_pNo, e_eI, e_chain, e_var, eVar, List.getElem?_cons_zero, List.getElem?_cons_succ, o_ok, o_okD, o_none, o_guard, o_op2, o_opI, o_addI, o_addS, o_addL, o_addT, o_mulI, o_mulL, o_ixD, o_ixT, o_ixN, o_ixS, peek_d, peek_tl, peekV_d, asB_d, conv_d, conv_al, conv_nl, conv_vt, conv_at, conv_nt, toVal_d, toVal_t, convV_d, toDs_nil, toDs_cons, ca1_d, ca2_d, plOf_loc, seqQ_nx, seqQ_rt, seqQ_ex, retQ_rt, retQ_ex, rtQ_rt, handR_d, handR_t, fInt_i, fInt_b, fAbs_i, fMax_i, fMin_i, Option.some.injEq, Prod.mk.injEq, exists_eq_left', exists_eq_left, exists_eq', exists_and_left, exists_and_right, and_true, true_and, List.set_cons_zero, List.set_cons_succ, Bool.true_eq_false, Bool.false_eq_true, forall_const, D.int.injEq, D.str.injEq, D.bl.injEq, D.lst.injEq, D.tup.injEq, Res.d.injEq, SV.d.injEq, Option.map_some, atI_0, atI_1, atI_2, atI_3, decide_eq_true_eq, decide_eq_false_iff_not, and_assoc, tyOk_str, mStr1_d, o_join, o_joinT, o_split, caLen_d, fLen_l, fLen_t, o_lenS, o_slS, o_slL, ixR_n, ixR_i, o_eqI, i_rng, i_rngB, i_val, i_valT, i_str, e_comp, wipeE, o_inC, Bool.not_true, Bool.not_false, Bool.not_eq_true', Bool.not_eq_false', if_true, if_false, Bool.if_true_left, decide_true, decide_false, asg_nm, asg_tp2, asg_tp3, kvSV_d, List.cons.injEq]
  obtain ⟨mm, hmm⟩ : ∃ mm : Nat, 1 + mn = (mm : Int) := ⟨(1 + mn).toNat, by omega⟩
  rw [hmm]
  have hm3 : mm ≤ 300 := by omega
  have rep : ∀ {s : Str}, Sx 10 s → Sx 9000 (Txt.join ", " (List.replicate mm s)) := fun {s} hs => (Sx.join c2 (fun p hp => by rw [List.eq_of_mem_replicate hp]; exact hs)).le (by rw [List.length_replicate]; omega)
  have repl : ∀ {s : Str}, Sx 10 s → ((List.replicate mm s).map (·.length)).sum + (List.replicate mm s).length * (", " : Str).length ≤ 16777216 := fun {s} hs => by
    have := sum_le (N := 10) (ps := List.replicate mm s) fun p hp => by rw [List.eq_of_mem_replicate hp]; exact hs.1
    have e2 : (", " : Str).length = 2 := by decide +kernel
    rw [e2]
    rw [List.length_replicate] at this ⊢
    omega
  have p1 : Sx 10 "put" := Sx.lit (by decide +kernel)
  have p2 : Sx 10 "set a" := Sx.lit (by decide +kernel)
  have p3 : Sx 10 "edition" := Sx.lit (by decide +kernel)
  have p4 : Sx 10 "set" := Sx.lit (by decide +kernel)
  apply s_seq
  refine s_menu (N := 20000) rfl hS4 hj3 (by omega) ?_ fun y5 μ5 l5 h5 hS5 => ?_
  · have tn : Int.toNat (mm : Int) = mm := Int.toNat_natCast mm
    simp only [List.map_cons, List.map_nil, List.length_cons, List.length_nil, List.replicate, List.nil_append, List.cons_append, Nat.reduceAdd, Nat.reduceSub, Nat.zero_add, List.append_nil, e_bin, e_c, e_un, e_if, e_eB, e_nil, e_cons, e_lst, e_tup, e_call, e_fn, e_fnK, e_meth, e_sl, e_pNo, e_eI, e_chain, e_var, eVar, List.getElem?_cons_zero, List.getElem?_cons_succ, o_ok, o_okD, o_none, o_guard, o_op2, o_opI, o_addI, o_addS, o_addL, o_addT, o_mulI, o_mulL, o_ixD, o_ixT, o_ixN, o_ixS, peek_d, peek_tl, peekV_d, asB_d, conv_d, conv_al, conv_nl, conv_vt, conv_at, conv_nt, toVal_d, toVal_t, convV_d, toDs_nil, toDs_cons, ca1_d, ca2_d, plOf_loc, seqQ_nx, seqQ_rt, seqQ_ex, retQ_rt, retQ_ex, rtQ_rt, handR_d, handR_t, fInt_i, fInt_b, fAbs_i, fMax_i, fMin_i, Option.some.injEq, Prod.mk.injEq, exists_eq_left', exists_eq_left, exists_eq', exists_and_left, exists_and_right, and_true, true_and, List.set_cons_zero, List.set_cons_succ, Bool.true_eq_false, Bool.false_eq_true, forall_const, D.int.injEq, D.str.injEq, D.bl.injEq, D.lst.injEq, D.tup.injEq, Res.d.injEq, SV.d.injEq, Option.map_some, atI_0, atI_1, atI_2, atI_3, decide_eq_true_eq, decide_eq_false_iff_not, and_assoc, tyOk_str, mStr1_d, o_join, o_joinT, o_split, caLen_d, fLen_l, fLen_t, o_lenS, o_slS, o_slL, ixR_n, ixR_i, o_eqI, i_rng, i_rngB, i_val, i_valT, i_str, e_comp, wipeE, o_inC, Bool.not_true, Bool.not_false, Bool.not_eq_true', Bool.not_eq_false', if_true, if_false, Bool.if_true_left, decide_true, decide_false, asg_nm, asg_tp2, asg_tp3, kvSV_d, List.cons.injEq, join_rep, tn]
    refine ⟨small_line (by decide), by omega, by omega, small_line (by omega), repl p1, small_line (by decide), by omega, by omega, small_line (by omega), repl p2, by decide, ?_⟩
    refine List.forall_mem_cons.mpr ⟨⟨_, rfl, (rep p1).le (by decide)⟩, List.forall_mem_cons.mpr ⟨⟨_, rfl, (rep p2).le (by decide)⟩, fun _ h => nomatch h⟩⟩
  have hj5 : (L3 ++ [Cell.lst ((xs3 ++ y5).map D.str)])[L3.length]? = some (.lst ((xs3 ++ y5).map D.str)) := by rw [List.getElem?_append_right (Nat.le_refl _), Nat.sub_self]; rfl
  have hx5 := mem_app hx3 h5
  have hl5 : 1 ≤ (xs3 ++ y5).length ∧ (xs3 ++ y5).length ≤ 801 := by rw [List.length_append]; omega
  show wpS g__law_odd_his_12 [some (.loc n), some (.d (.str wd)), some (.loc (μ0.m.length + L3.length)), some (.d (.lst [.str "put", .str "set a", .str "rewrite bb", .str "edition", .str "set abcdefgh"])), some (.d (.int (mm : Nat))), none] μ5 _
  generalize L3.length = j5 at hj5 ⊢
  generalize L3 ++ [Cell.lst ((xs3 ++ y5).map D.str)] = L5 at hS5 hj5
  generalize xs3 ++ y5 = xs5 at hj5 hx5 hl5
  apply s_seq
  refine s_menu (N := 20000) rfl hS5 hj5 (by omega) ?_ fun y6 μ6 l6 h6 hS6 => ?_
  · have tn : Int.toNat (mm : Int) = mm := Int.toNat_natCast mm
    have ej : (List.replicate mm ("put" : Str)).map D.str ++ [D.str "set"] = (List.replicate mm ("put" : Str) ++ [("set" : Str)]).map D.str := by rw [List.map_append]; rfl
    simp only [List.map_cons, List.map_nil, List.length_cons, List.length_nil, List.replicate, List.nil_append, List.cons_append, Nat.reduceAdd, Nat.reduceSub, Nat.zero_add, List.append_nil, e_bin, e_c, e_un, e_if, e_eB, e_nil, e_cons, e_lst, e_tup, e_call, e_fn, e_fnK, e_meth, e_sl, e_pNo, e_eI, e_chain, e_var, eVar, List.getElem?_cons_zero, List.getElem?_cons_succ, o_ok, o_okD, o_none, o_guard, o_op2, o_opI, o_addI, o_addS, o_addL, o_addT, o_mulI, o_mulL, o_ixD, o_ixT, o_ixN, o_ixS, peek_d, peek_tl, peekV_d, asB_d, conv_d, conv_al, conv_nl, conv_vt, conv_at, conv_nt, toVal_d, toVal_t, convV_d, toDs_nil, toDs_cons, ca1_d, ca2_d, plOf_loc, seqQ_nx, seqQ_rt, seqQ_ex, retQ_rt, retQ_ex, rtQ_rt, handR_d, handR_t, fInt_i, fInt_b, fAbs_i, fMax_i, fMin_i, Option.some.injEq, Prod.mk.injEq, exists_eq_left', exists_eq_left, exists_eq', exists_and_left, exists_and_right, and_true, true_and, List.set_cons_zero, List.set_cons_succ, Bool.true_eq_false, Bool.false_eq_true, forall_const, D.int.injEq, D.str.injEq, D.bl.injEq, D.lst.injEq, D.tup.injEq, Res.d.injEq, SV.d.injEq, Option.map_some, atI_0, atI_1, atI_2, atI_3, decide_eq_true_eq, decide_eq_false_iff_not, and_assoc, tyOk_str, mStr1_d, o_join, o_joinT, o_split, caLen_d, fLen_l, fLen_t, o_lenS, o_slS, o_slL, ixR_n, ixR_i, o_eqI, i_rng, i_rngB, i_val, i_valT, i_str, e_comp, wipeE, o_inC, Bool.not_true, Bool.not_false, Bool.not_eq_true', Bool.not_eq_false', if_true, if_false, Bool.if_true_left, decide_true, decide_false, asg_nm, asg_tp2, asg_tp3, kvSV_d, List.cons.injEq, join_rep, tn, ej]
    have hm4 : ∀ p ∈ List.replicate mm ("put" : Str) ++ [("set" : Str)], Sx 10 p := mem_app (fun p hp => by rw [List.eq_of_mem_replicate hp]; exact p1) fun p hp => by rw [List.mem_singleton.mp hp]; exact p4
    have hl4 : (List.replicate mm ("put" : Str) ++ [("set" : Str)]).length ≤ 301 := by rw [List.length_append, List.length_replicate]; simp; omega
    refine ⟨small_line (by decide), by omega, by omega, small_line (by omega), small_line (by decide), ?_, ?_, small_line (by decide), by omega, by omega, small_line (by omega), repl p3, by decide, ?_⟩
    · rw [List.length_map, List.length_replicate]; exact small_line (by omega)
    · have := sum_le (N := 10) fun p hp => (hm4 p hp).1
      have e2 : (", " : Str).length = 2 := by decide +kernel
      rw [e2]
      omega
    · refine List.forall_mem_cons.mpr ⟨⟨_, rfl, (Sx.join c2 hm4).le (by omega)⟩, List.forall_mem_cons.mpr ⟨⟨_, rfl, (rep p3).le (by decide)⟩, fun _ h => nomatch h⟩⟩
  have hj6 : (L5 ++ [Cell.lst ((xs5 ++ y6).map D.str)])[L5.length]? = some (.lst ((xs5 ++ y6).map D.str)) := by rw [List.getElem?_append_right (Nat.le_refl _), Nat.sub_self]; rfl
  have hx6 := mem_app hx5 h6
  have hl6 : 1 ≤ (xs5 ++ y6).length ∧ (xs5 ++ y6).length ≤ 901 := by rw [List.length_append]; omega
  show wpS g__law_odd_his_13 [some (.loc n), some (.d (.str wd)), some (.loc (μ0.m.length + L5.length)), some (.d (.lst [.str "put", .str "set a", .str "rewrite bb", .str "edition", .str "set abcdefgh"])), some (.d (.int (mm : Nat))), none] μ6 _
  generalize L5.length = j6 at hj6 ⊢
  generalize L5 ++ [Cell.lst ((xs5 ++ y6).map D.str)] = L6 at hS6 hj6
  generalize xs5 ++ y6 = xs6 at hj6 hx6 hl6
  have q1 : Sx 10 ", put" := Sx.lit (by decide +kernel)
  have q2 : Sx 10 " a" := Sx.lit (by decide +kernel)
  have q3 : Sx 10 "put, " := Sx.lit (by decide +kernel)
  have hwl := hw.1
  apply s_seq
  refine s_menu (N := 20000) rfl hS6 hj6 (by omega) ?_ fun y7 μ7 l7 h7 hS7 => ?_
  · have t1 : Sx 12010 (Txt.replace wd ", " ",") := hw.repl (Sx.lit (by decide +kernel))
    simp only [List.map_cons, List.map_nil, List.length_cons, List.length_nil, List.replicate, List.nil_append, List.cons_append, Nat.reduceAdd, Nat.reduceSub, Nat.zero_add, List.append_nil, e_bin, e_c, e_un, e_if, e_eB, e_nil, e_cons, e_lst, e_tup, e_call, e_fn, e_fnK, e_meth, e_sl, e_pNo, e_eI, e_chain, e_var, eVar, List.getElem?_cons_zero, List.getElem?_cons_succ, o_ok, o_okD, o_none, o_guard, o_op2, o_opI, o_addI, o_addS, o_addL, o_addT, o_mulI, o_mulL, o_ixD, o_ixT, o_ixN, o_ixS, peek_d, peek_tl, peekV_d, asB_d, conv_d, conv_al, conv_nl, conv_vt, conv_at, conv_nt, toVal_d, toVal_t, convV_d, toDs_nil, toDs_cons, ca1_d, ca2_d, plOf_loc, seqQ_nx, seqQ_rt, seqQ_ex, retQ_rt, retQ_ex, rtQ_rt, handR_d, handR_t, fInt_i, fInt_b, fAbs_i, fMax_i, fMin_i, Option.some.injEq, Prod.mk.injEq, exists_eq_left', exists_eq_left, exists_eq', exists_and_left, exists_and_right, and_true, true_and, List.set_cons_zero, List.set_cons_succ, Bool.true_eq_false, Bool.false_eq_true, forall_const, D.int.injEq, D.str.injEq, D.bl.injEq, D.lst.injEq, D.tup.injEq, Res.d.injEq, SV.d.injEq, Option.map_some, atI_0, atI_1, atI_2, atI_3, decide_eq_true_eq, decide_eq_false_iff_not, and_assoc, tyOk_str, mStr1_d, o_join, o_joinT, o_split, caLen_d, fLen_l, fLen_t, o_lenS, o_slS, o_slL, ixR_n, ixR_i, o_eqI, i_rng, i_rngB, i_val, i_valT, i_str, e_comp, wipeE, o_inC, Bool.not_true, Bool.not_false, Bool.not_eq_true', Bool.not_eq_false', if_true, if_false, Bool.if_true_left, decide_true, decide_false, asg_nm, asg_tp2, asg_tp3, kvSV_d, List.cons.injEq, o_repl]
    refine ⟨?_, ?_, ?_, okB_of t1.2, ?_, by decide, ?_⟩
    · have := q1.1; exact small_line (by omega)
    · have := c2.1; exact small_line (by omega)
    · have e2 : ("," : Str).length = 1 := by decide +kernel
      rw [e2]; omega
    · have := q2.1; exact small_line (by omega)
    · exact List.forall_mem_cons.mpr ⟨⟨_, rfl, (hw.app q1).le (by decide)⟩, List.forall_mem_cons.mpr ⟨⟨_, rfl, (hw.app c2).le (by decide)⟩, List.forall_mem_cons.mpr ⟨⟨_, rfl, t1.le (by decide)⟩, List.forall_mem_cons.mpr ⟨⟨_, rfl, (hw.app q2).le (by decide)⟩, fun _ h => nomatch h⟩⟩⟩⟩
  have hj7 : (L6 ++ [Cell.lst ((xs6 ++ y7).map D.str)])[L6.length]? = some (.lst ((xs6 ++ y7).map D.str)) := by rw [List.getElem?_append_right (Nat.le_refl _), Nat.sub_self]; rfl
  have hx7 := mem_app hx6 h7
  have hl7 : 1 ≤ (xs6 ++ y7).length ∧ (xs6 ++ y7).length ≤ 1101 := by rw [List.length_append]; omega
  show wpS g__law_odd_his_14 [some (.loc n), some (.d (.str wd)), some (.loc (μ0.m.length + L6.length)), some (.d (.lst [.str "put", .str "set a", .str "rewrite bb", .str "edition", .str "set abcdefgh"])), some (.d (.int (mm : Nat))), none] μ7 _
  generalize L6.length = j7 at hj7 ⊢
  generalize L6 ++ [Cell.lst ((xs6 ++ y7).map D.str)] = L7 at hS7 hj7
  generalize xs6 ++ y7 = xs7 at hj7 hx7 hl7
  apply s_seq
  refine s_menu (N := 20000) rfl hS7 hj7 (by omega) ?_ fun y8 μ8 l8 h8 hS8 => ?_
  · have t1 : Sx 12010 (Txt.replace wd " " "  ") := hw.repl (Sx.lit (by decide +kernel))
    simp only [List.map_cons, List.map_nil, List.length_cons, List.length_nil, List.replicate, List.nil_append, List.cons_append, Nat.reduceAdd, Nat.reduceSub, Nat.zero_add, List.append_nil, e_bin, e_c, e_un, e_if, e_eB, e_nil, e_cons, e_lst, e_tup, e_call, e_fn, e_fnK, e_meth, e_sl, e_pNo, e_eI, e_chain, e_var, eVar, List.getElem?_cons_zero, List.getElem?_cons_succ, o_ok, o_okD, o_none, o_guard, o_op2, o_opI, o_addI, o_addS, o_addL, o_addT, o_mulI, o_mulL, o_ixD, o_ixT, o_ixN, o_ixS, peek_d, peek_tl, peekV_d, asB_d, conv_d, conv_al, conv_nl, conv_vt, conv_at, conv_nt, toVal_d, toVal_t, convV_d, toDs_nil, toDs_cons, ca1_d, ca2_d, plOf_loc, seqQ_nx, seqQ_rt, seqQ_ex, retQ_rt, retQ_ex, rtQ_rt, handR_d, handR_t, fInt_i, fInt_b, fAbs_i, fMax_i, fMin_i, Option.some.injEq, Prod.mk.injEq, exists_eq_left', exists_eq_left, exists_eq', exists_and_left, exists_and_right, and_true, true_and, List.set_cons_zero, List.set_cons_succ, Bool.true_eq_false, Bool.false_eq_true, forall_const, D.int.injEq, D.str.injEq, D.bl.injEq, D.lst.injEq, D.tup.injEq, Res.d.injEq, SV.d.injEq, Option.map_some, atI_0, atI_1, atI_2, atI_3, decide_eq_true_eq, decide_eq_false_iff_not, and_assoc, tyOk_str, mStr1_d, o_join, o_joinT, o_split, caLen_d, fLen_l, fLen_t, o_lenS, o_slS, o_slL, ixR_n, ixR_i, o_eqI, i_rng, i_rngB, i_val, i_valT, i_str, e_comp, wipeE, o_inC, Bool.not_true, Bool.not_false, Bool.not_eq_true', Bool.not_eq_false', if_true, if_false, Bool.if_true_left, decide_true, decide_false, asg_nm, asg_tp2, asg_tp3, kvSV_d, List.cons.injEq, o_repl]
    refine ⟨?_, ?_, okB_of t1.2, by decide, ?_⟩
    · have := q3.1; exact small_line (by omega)
    · have e2 : ("  " : Str).length = 2 := by decide +kernel
      rw [e2]; omega
    · exact List.forall_mem_cons.mpr ⟨⟨_, rfl, (q3.app hw).le (by decide)⟩, List.forall_mem_cons.mpr ⟨⟨_, rfl, t1.le (by decide)⟩, fun _ h => nomatch h⟩⟩
  have hj8 : (L7 ++ [Cell.lst ((xs7 ++ y8).map D.str)])[L7.length]? = some (.lst ((xs7 ++ y8).map D.str)) := by rw [List.getElem?_append_right (Nat.le_refl _), Nat.sub_self]; rfl
  have hx8 := mem_app hx7 h8
  have hl8 : 1 ≤ (xs7 ++ y8).length ∧ (xs7 ++ y8).length ≤ 1201 := by rw [List.length_append]; omega
  show wpS g__law_odd_his_15 [some (.loc n), some (.d (.str wd)), some (.loc (μ0.m.length + L7.length)), some (.d (.lst [.str "put", .str "set a", .str "rewrite bb", .str "edition", .str "set abcdefgh"])), some (.d (.int (mm : Nat))), none] μ8 _
  generalize L7.length = j8 at hj8 ⊢
  generalize L7 ++ [Cell.lst ((xs7 ++ y8).map D.str)] = L8 at hS8 hj8
  generalize xs7 ++ y8 = xs8 at hj8 hx8 hl8
  have ha8 := hS8.at hj8
  apply s_ret
  simp only [List.map_cons, List.map_nil, List.length_cons, List.length_nil, List.replicate, List.nil_append, List.cons_append, Nat.reduceAdd, Nat.reduceSub, Nat.zero_add, List.append_nil, e_bin, e_c, e_un, e_if, e_eB, e_nil, e_cons, e_lst, e_tup, e_call, e_fn, e_fnK, e_meth, e_sl, e_pNo, e_eI, e_chain, e_var, eVar, List.getElem?_cons_zero, List.getElem?_cons_succ, o_ok, o_okD, o_none, o_guard, o_op2, o_opI, o_addI, o_addS, o_addL, o_addT, o_mulI, o_mulL, o_ixD, o_ixT, o_ixN, o_ixS, peek_d, peek_tl, peekV_d, asB_d, conv_d, conv_al, conv_nl, conv_vt, conv_at, conv_nt, toVal_d, toVal_t, convV_d, toDs_nil, toDs_cons, ca1_d, ca2_d, plOf_loc, seqQ_nx, seqQ_rt, seqQ_ex, retQ_rt, retQ_ex, rtQ_rt, handR_d, handR_t, fInt_i, fInt_b, fAbs_i, fMax_i, fMin_i, Option.some.injEq, Prod.mk.injEq, exists_eq_left', exists_eq_left, exists_eq', exists_and_left, exists_and_right, and_true, true_and, List.set_cons_zero, List.set_cons_succ, Bool.true_eq_false, Bool.false_eq_true, forall_const, D.int.injEq, D.str.injEq, D.bl.injEq, D.lst.injEq, D.tup.injEq, Res.d.injEq, SV.d.injEq, Option.map_some, atI_0, atI_1, atI_2, atI_3, decide_eq_true_eq, decide_eq_false_iff_not, and_assoc, tyOk_str, mStr1_d, o_join, o_joinT, o_split, caLen_d, fLen_l, fLen_t, o_lenS, o_slS, o_slL, ixR_n, ixR_i, o_eqI, i_rng, i_rngB, i_val, i_valT, i_str, e_comp, wipeE, o_inC, Bool.not_true, Bool.not_false, Bool.not_eq_true', Bool.not_eq_false', if_true, if_false, Bool.if_true_left, decide_true, decide_false, asg_nm, asg_tp2, asg_tp3, kvSV_d, List.cons.injEq, caLen_at ha8]
  refine coinS (k := k + 17) hS8 hn (by rw [List.length_map]; omega) (by rw [List.length_map]; omega) fun pick μ9 p0 p1' hS9 => ?_
  rw [List.length_map] at p1'
  have ha9 := hS9.at hj8
  obtain ⟨z, hz, sz, _⟩ := str_at (i := pick) hx8 p0 p1'
  simp only [List.map_cons, List.map_nil, List.length_cons, List.length_nil, List.replicate, List.nil_append, List.cons_append, Nat.reduceAdd, Nat.reduceSub, Nat.zero_add, List.append_nil, e_bin, e_c, e_un, e_if, e_eB, e_nil, e_cons, e_lst, e_tup, e_call, e_fn, e_fnK, e_meth, e_sl, e_pNo, e_eI, e_chain, e_var, eVar, List.getElem?_cons_zero, List.getElem?_cons_succ, o_ok, o_okD, o_none, o_guard, o_op2, o_opI, o_addI, o_addS, o_addL, o_addT, o_mulI, o_mulL, o_ixD, o_ixT, o_ixN, o_ixS, peek_d, peek_tl, peekV_d, asB_d, conv_d, conv_al, conv_nl, conv_vt, conv_at, conv_nt, toVal_d, toVal_t, convV_d, toDs_nil, toDs_cons, ca1_d, ca2_d, plOf_loc, seqQ_nx, seqQ_rt, seqQ_ex, retQ_rt, retQ_ex, rtQ_rt, handR_d, handR_t, fInt_i, fInt_b, fAbs_i, fMax_i, fMin_i, Option.some.injEq, Prod.mk.injEq, exists_eq_left', exists_eq_left, exists_eq', exists_and_left, exists_and_right, and_true, true_and, List.set_cons_zero, List.set_cons_succ, Bool.true_eq_false, Bool.false_eq_true, forall_const, D.int.injEq, D.str.injEq, D.bl.injEq, D.lst.injEq, D.tup.injEq, Res.d.injEq, SV.d.injEq, Option.map_some, atI_0, atI_1, atI_2, atI_3, decide_eq_true_eq, decide_eq_false_iff_not, and_assoc, tyOk_str, mStr1_d, o_join, o_joinT, o_split, caLen_d, fLen_l, fLen_t, o_lenS, o_slS, o_slL, ixR_n, ixR_i, o_eqI, i_rng, i_rngB, i_val, i_valT, i_str, e_comp, wipeE, o_inC, Bool.not_true, Bool.not_false, Bool.not_eq_true', Bool.not_eq_false', if_true, if_false, Bool.if_true_left, decide_true, decide_false, asg_nm, asg_tp2, asg_tp3, kvSV_d, List.cons.injEq, o_ixL (items_at ha9)]
  exact ⟨_, hz, q z _ sz (hS9.le (by omega)).out⟩
end

section
variable {n k : Nat} {μ : Sto} {wd : Str} {Q : Res → Sto → Prop}
theorem odd_ok (h : Pur n (k + 300) μ) (hw : Sx 4000 wd) (q : ∀ z μ', Sx 20000 z → Pw n k μ μ' → Q (.d (.str z)) μ') : wpF f__law_odd_his [.loc n, .d (.str wd)] μ (rtQ Q) := by
  have hn := h.lt
  have hS0 := Sta.start h
  apply f_def
  apply s_seq
  apply s_set
  simp only [List.map_cons, List.map_nil, List.length_cons, List.length_nil, List.replicate, List.nil_append, List.cons_append, Nat.reduceAdd, Nat.reduceSub, Nat.zero_add, List.append_nil, e_bin, e_c, e_un, e_if, e_eB, e_nil, e_cons, e_lst, e_tup, e_call, e_fn, e_fnK, e_meth, e_sl, e_pNo, e_eI, e_chain, e_var, eVar, List.getElem?_cons_zero, List.getElem?_cons_succ, o_ok, o_okD, o_none, o_guard, o_op2, o_opI, o_addI, o_addS, o_addL, o_addT, o_mulI, o_mulL, o_ixD, o_ixT, o_ixN, o_ixS, peek_d, peek_tl, peekV_d, asB_d, conv_d, conv_al, conv_nl, conv_vt, conv_at, conv_nt, toVal_d, toVal_t, convV_d, toDs_nil, toDs_cons, ca1_d, ca2_d, plOf_loc, seqQ_nx, seqQ_rt, seqQ_ex, retQ_rt, retQ_ex, rtQ_rt, handR_d, handR_t, fInt_i, fInt_b, fAbs_i, fMax_i, fMin_i, Option.some.injEq, Prod.mk.injEq, exists_eq_left', exists_eq_left, exists_eq', exists_and_left, exists_and_right, and_true, true_and, List.set_cons_zero, List.set_cons_succ, Bool.true_eq_false, Bool.false_eq_true, forall_const, D.int.injEq, D.str.injEq, D.bl.injEq, D.lst.injEq, D.tup.injEq, Res.d.injEq, SV.d.injEq, Option.map_some, atI_0, atI_1, atI_2, atI_3, decide_eq_true_eq, decide_eq_false_iff_not, and_assoc, tyOk_str, mStr1_d, o_join, o_joinT, o_split, caLen_d, fLen_l, fLen_t, o_lenS, o_slS, o_slL, ixR_n, ixR_i, o_eqI, i_rng, i_rngB, i_val, i_valT, i_str, e_comp, wipeE, o_inC, Bool.not_true, Bool.not_false, Bool.not_eq_true', Bool.not_eq_false', if_true, if_false, Bool.if_true_left, decide_true, decide_false, asg_nm, asg_tp2, asg_tp3, kvSV_d, List.cons.injEq]
  refine ⟨small_line (by decide), ?_⟩
  have hS1 := hS0.push (.lst ((["", " ", "put", "put ", " put", "Put", "put a", "edition", "edition 1"] : List Str).map D.str))
  have hx1 : ∀ x ∈ (["", " ", "put", "put ", " put", "Put", "put a", "edition", "edition 1"] : List Str), Sx 20000 x := fun x hx => Sx.lit (List.all_eq_true.mp (by decide +kernel : (["", " ", "put", "put ", " put", "Put", "put a", "edition", "edition 1"] : List Str).all (fun x => decide (x.length ≤ 20000) && okB x) = true) x hx)
  have hl1 : 1 ≤ (["", " ", "put", "put ", " put", "Put", "put a", "edition", "edition 1"] : List Str).length ∧ (["", " ", "put", "put ", " put", "Put", "put a", "edition", "edition 1"] : List Str).length ≤ 20 := by decide
  show wpS g__law_odd_his_2 [some (.loc n), some (.d (.str wd)), some (.loc (μ.m.length + ([] : List Cell).length)), none, none, none] (μ.pushM (.lst ((["", " ", "put", "put ", " put", "Put", "put a", "edition", "edition 1"] : List Str).map D.str))) _
  have hj1 : (([] : List Cell) ++ [Cell.lst ((["", " ", "put", "put ", " put", "Put", "put a", "edition", "edition 1"] : List Str).map D.str)])[([] : List Cell).length]? = some (.lst ((["", " ", "put", "put ", " put", "Put", "put a", "edition", "edition 1"] : List Str).map D.str)) := rfl
  generalize (["", " ", "put", "put ", " put", "Put", "put a", "edition", "edition 1"] : List Str) = xs1 at hS1 hx1 hl1 hj1 ⊢
  generalize (([] : List Cell) ++ [Cell.lst (xs1.map D.str)]) = L1 at hS1 hj1
  generalize μ.pushM (.lst (xs1.map D.str)) = μ1 at hS1 ⊢
  generalize ([] : List Cell).length = j1 at hj1 ⊢
  apply s_seq
  refine s_menu (N := 20000) rfl hS1 hj1 (by omega) ?_ fun y2 μ2 l2 h2 hS2 => ?_
  · simp only [List.map_cons, List.map_nil, List.length_cons, List.length_nil, List.replicate, List.nil_append, List.cons_append, Nat.reduceAdd, Nat.reduceSub, Nat.zero_add, List.append_nil, e_bin, e_c, e_un, e_if, e_eB, e_nil, e_cons, e_lst, e_tup, e_call, e_fn, e_fnK, e_meth, e_sl, e_pNo, e_eI, e_chain, e_var, eVar, List.getElem?_cons_zero, List.getElem?_cons_succ, o_ok, o_okD, o_none, o_guard, o_op2, o_opI, o_addI, o_addS, o_addL, o_addT, o_mulI, o_mulL, o_ixD, o_ixT, o_ixN, o_ixS, peek_d, peek_tl, peekV_d, asB_d, conv_d, conv_al, conv_nl, conv_vt, conv_at, conv_nt, toVal_d, toVal_t, convV_d, toDs_nil, toDs_cons, ca1_d, ca2_d, plOf_loc, seqQ_nx, seqQ_rt, seqQ_ex, retQ_rt, retQ_ex, rtQ_rt, handR_d, handR_t, fInt_i, fInt_b, fAbs_i, fMax_i, fMin_i, Option.some.injEq, Prod.mk.injEq, exists_eq_left', exists_eq_left, exists_eq', exists_and_left, exists_and_right, and_true, true_and, List.set_cons_zero, List.set_cons_succ, Bool.true_eq_false, Bool.false_eq_true, forall_const, D.int.injEq, D.str.injEq, D.bl.injEq, D.lst.injEq, D.tup.injEq, Res.d.injEq, SV.d.injEq, Option.map_some, atI_0, atI_1, atI_2, atI_3, decide_eq_true_eq, decide_eq_false_iff_not, and_assoc, tyOk_str, mStr1_d, o_join, o_joinT, o_split, caLen_d, fLen_l, fLen_t, o_lenS, o_slS, o_slL, ixR_n, ixR_i, o_eqI, i_rng, i_rngB, i_val, i_valT, i_str, e_comp, wipeE, o_inC, Bool.not_true, Bool.not_false, Bool.not_eq_true', Bool.not_eq_false', if_true, if_false, Bool.if_true_left, decide_true, decide_false, asg_nm, asg_tp2, asg_tp3, kvSV_d, List.cons.injEq]
    refine ⟨by decide, ?_⟩
    repeat' first
      | refine List.forall_mem_cons.mpr ⟨⟨_, rfl, Sx.lit (by decide +kernel)⟩, ?_⟩
      | exact fun _ h => nomatch h
  have hj2 : (L1 ++ [Cell.lst ((xs1 ++ y2).map D.str)])[L1.length]? = some (.lst ((xs1 ++ y2).map D.str)) := by rw [List.getElem?_append_right (Nat.le_refl _), Nat.sub_self]; rfl
  have hx2 := mem_app hx1 h2
  have hl2 : 1 ≤ (xs1 ++ y2).length ∧ (xs1 ++ y2).length ≤ 120 := by rw [List.length_append]; omega
  show wpS g__law_odd_his_3 [some (.loc n), some (.d (.str wd)), some (.loc (μ.m.length + L1.length)), none, none, none] μ2 _
  generalize L1.length = j2 at hj2 ⊢
  generalize L1 ++ [Cell.lst ((xs1 ++ y2).map D.str)] = L2 at hS2 hj2
  generalize xs1 ++ y2 = xs2 at hj2 hx2 hl2
  apply s_seq
  refine s_menu (N := 20000) rfl hS2 hj2 (by omega) ?_ fun y3 μ3 l3 h3 hS3 => ?_
  · simp only [List.map_cons, List.map_nil, List.length_cons, List.length_nil, List.replicate, List.nil_append, List.cons_append, Nat.reduceAdd, Nat.reduceSub, Nat.zero_add, List.append_nil, e_bin, e_c, e_un, e_if, e_eB, e_nil, e_cons, e_lst, e_tup, e_call, e_fn, e_fnK, e_meth, e_sl, e_pNo, e_eI, e_chain, e_var, eVar, List.getElem?_cons_zero, List.getElem?_cons_succ, o_ok, o_okD, o_none, o_guard, o_op2, o_opI, o_addI, o_addS, o_addL, o_addT, o_mulI, o_mulL, o_ixD, o_ixT, o_ixN, o_ixS, peek_d, peek_tl, peekV_d, asB_d, conv_d, conv_al, conv_nl, conv_vt, conv_at, conv_nt, toVal_d, toVal_t, convV_d, toDs_nil, toDs_cons, ca1_d, ca2_d, plOf_loc, seqQ_nx, seqQ_rt, seqQ_ex, retQ_rt, retQ_ex, rtQ_rt, handR_d, handR_t, fInt_i, fInt_b, fAbs_i, fMax_i, fMin_i, Option.some.injEq, Prod.mk.injEq, exists_eq_left', exists_eq_left, exists_eq', exists_and_left, exists_and_right, and_true, true_and, List.set_cons_zero, List.set_cons_succ, Bool.true_eq_false, Bool.false_eq_true, forall_const, D.int.injEq, D.str.injEq, D.bl.injEq, D.lst.injEq, D.tup.injEq, Res.d.injEq, SV.d.injEq, Option.map_some, atI_0, atI_1, atI_2, atI_3, decide_eq_true_eq, decide_eq_false_iff_not, and_assoc, tyOk_str, mStr1_d, o_join, o_joinT, o_split, caLen_d, fLen_l, fLen_t, o_lenS, o_slS, o_slL, ixR_n, ixR_i, o_eqI, i_rng, i_rngB, i_val, i_valT, i_str, e_comp, wipeE, o_inC, Bool.not_true, Bool.not_false, Bool.not_eq_true', Bool.not_eq_false', if_true, if_false, Bool.if_true_left, decide_true, decide_false, asg_nm, asg_tp2, asg_tp3, kvSV_d, List.cons.injEq]
    refine ⟨by decide, ?_⟩
    repeat' first
      | refine List.forall_mem_cons.mpr ⟨⟨_, rfl, Sx.lit (by decide +kernel)⟩, ?_⟩
      | exact fun _ h => nomatch h
  have hj3 : (L2 ++ [Cell.lst ((xs2 ++ y3).map D.str)])[L2.length]? = some (.lst ((xs2 ++ y3).map D.str)) := by rw [List.getElem?_append_right (Nat.le_refl _), Nat.sub_self]; rfl
  have hx3 := mem_app hx2 h3
  have hl3 : 1 ≤ (xs2 ++ y3).length ∧ (xs2 ++ y3).length ≤ 220 := by rw [List.length_append]; omega
  show wpS g__law_odd_his_4 [some (.loc n), some (.d (.str wd)), some (.loc (μ.m.length + L2.length)), none, none, none] μ3 _
  generalize L2.length = j3 at hj3 ⊢
  generalize L2 ++ [Cell.lst ((xs2 ++ y3).map D.str)] = L3 at hS3 hj3
  generalize xs2 ++ y3 = xs3 at hj3 hx3 hl3
  apply s_seq
  refine s_menu (N := 20000) rfl hS3 hj3 (by omega) ?_ fun y4 μ4 l4 h4 hS4 => ?_
  · simp only [List.map_cons, List.map_nil, List.length_cons, List.length_nil, List.replicate, List.nil_append, List.cons_append, Nat.reduceAdd, Nat.reduceSub, Nat.zero_add, List.append_nil, e_bin, e_c, e_un, e_if, e_eB, e_nil, e_cons, e_lst, e_tup, e_call, e_fn, e_fnK, e_meth, e_sl, e_pNo, e_eI, e_chain, e_var, eVar, List.getElem?_cons_zero, List.getElem?_cons_succ, o_ok, o_okD, o_none, o_guard, o_op2, o_opI, o_addI, o_addS, o_addL, o_addT, o_mulI, o_mulL, o_ixD, o_ixT, o_ixN, o_ixS, peek_d, peek_tl, peekV_d, asB_d, conv_d, conv_al, conv_nl, conv_vt, conv_at, conv_nt, toVal_d, toVal_t, convV_d, toDs_nil, toDs_cons, ca1_d, ca2_d, plOf_loc, seqQ_nx, seqQ_rt, seqQ_ex, retQ_rt, retQ_ex, rtQ_rt, handR_d, handR_t, fInt_i, fInt_b, fAbs_i, fMax_i, fMin_i, Option.some.injEq, Prod.mk.injEq, exists_eq_left', exists_eq_left, exists_eq', exists_and_left, exists_and_right, and_true, true_and, List.set_cons_zero, List.set_cons_succ, Bool.true_eq_false, Bool.false_eq_true, forall_const, D.int.injEq, D.str.injEq, D.bl.injEq, D.lst.injEq, D.tup.injEq, Res.d.injEq, SV.d.injEq, Option.map_some, atI_0, atI_1, atI_2, atI_3, decide_eq_true_eq, decide_eq_false_iff_not, and_assoc, tyOk_str, mStr1_d, o_join, o_joinT, o_split, caLen_d, fLen_l, fLen_t, o_lenS, o_slS, o_slL, ixR_n, ixR_i, o_eqI, i_rng, i_rngB, i_val, i_valT, i_str, e_comp, wipeE, o_inC, Bool.not_true, Bool.not_false, Bool.not_eq_true', Bool.not_eq_false', if_true, if_false, Bool.if_true_left, decide_true, decide_false, asg_nm, asg_tp2, asg_tp3, kvSV_d, List.cons.injEq]
    refine ⟨by decide, ?_⟩
    repeat' first
      | refine List.forall_mem_cons.mpr ⟨⟨_, rfl, Sx.lit (by decide +kernel)⟩, ?_⟩
      | exact fun _ h => nomatch h
  have hj4 : (L3 ++ [Cell.lst ((xs3 ++ y4).map D.str)])[L3.length]? = some (.lst ((xs3 ++ y4).map D.str)) := by rw [List.getElem?_append_right (Nat.le_refl _), Nat.sub_self]; rfl
  have hx4 := mem_app hx3 h4
  have hl4 : 1 ≤ (xs3 ++ y4).length ∧ (xs3 ++ y4).length ≤ 320 := by rw [List.length_append]; omega
  show wpS g__law_odd_his_5 [some (.loc n), some (.d (.str wd)), some (.loc (μ.m.length + L3.length)), none, none, none] μ4 _
  generalize L3.length = j4 at hj4 ⊢
  generalize L3 ++ [Cell.lst ((xs3 ++ y4).map D.str)] = L4 at hS4 hj4
  generalize xs3 ++ y4 = xs4 at hj4 hx4 hl4
  apply s_seq
  refine s_menu (N := 20000) rfl hS4 hj4 (by omega) ?_ fun y5 μ5 l5 h5 hS5 => ?_
  · simp only [List.map_cons, List.map_nil, List.length_cons, List.length_nil, List.replicate, List.nil_append, List.cons_append, Nat.reduceAdd, Nat.reduceSub, Nat.zero_add, List.append_nil, e_bin, e_c, e_un, e_if, e_eB, e_nil, e_cons, e_lst, e_tup, e_call, e_fn, e_fnK, e_meth, e_sl, e_pNo, e_eI, e_chain, e_var, eVar, List.getElem?_cons_zero, List.getElem?_cons_succ, o_ok, o_okD, o_none, o_guard, o_op2, o_opI, o_addI, o_addS, o_addL, o_addT, o_mulI, o_mulL, o_ixD, o_ixT, o_ixN, o_ixS, peek_d, peek_tl, peekV_d, asB_d, conv_d, conv_al, conv_nl, conv_vt, conv_at, conv_nt, toVal_d, toVal_t, convV_d, toDs_nil, toDs_cons, ca1_d, ca2_d, plOf_loc, seqQ_nx, seqQ_rt, seqQ_ex, retQ_rt, retQ_ex, rtQ_rt, handR_d, handR_t, fInt_i, fInt_b, fAbs_i, fMax_i, fMin_i, Option.some.injEq, Prod.mk.injEq, exists_eq_left', exists_eq_left, exists_eq', exists_and_left, exists_and_right, and_true, true_and, List.set_cons_zero, List.set_cons_succ, Bool.true_eq_false, Bool.false_eq_true, forall_const, D.int.injEq, D.str.injEq, D.bl.injEq, D.lst.injEq, D.tup.injEq, Res.d.injEq, SV.d.injEq, Option.map_some, atI_0, atI_1, atI_2, atI_3, decide_eq_true_eq, decide_eq_false_iff_not, and_assoc, tyOk_str, mStr1_d, o_join, o_joinT, o_split, caLen_d, fLen_l, fLen_t, o_lenS, o_slS, o_slL, ixR_n, ixR_i, o_eqI, i_rng, i_rngB, i_val, i_valT, i_str, e_comp, wipeE, o_inC, Bool.not_true, Bool.not_false, Bool.not_eq_true', Bool.not_eq_false', if_true, if_false, Bool.if_true_left, decide_true, decide_false, asg_nm, asg_tp2, asg_tp3, kvSV_d, List.cons.injEq]
    refine ⟨by decide, ?_⟩
    repeat' first
      | refine List.forall_mem_cons.mpr ⟨⟨_, rfl, Sx.lit (by decide +kernel)⟩, ?_⟩
      | exact fun _ h => nomatch h
  have hj5 : (L4 ++ [Cell.lst ((xs4 ++ y5).map D.str)])[L4.length]? = some (.lst ((xs4 ++ y5).map D.str)) := by rw [List.getElem?_append_right (Nat.le_refl _), Nat.sub_self]; rfl
  have hx5 := mem_app hx4 h5
  have hl5 : 1 ≤ (xs4 ++ y5).length ∧ (xs4 ++ y5).length ≤ 420 := by rw [List.length_append]; omega
  show wpS g__law_odd_his_6 [some (.loc n), some (.d (.str wd)), some (.loc (μ.m.length + L4.length)), none, none, none] μ5 _
  generalize L4.length = j5 at hj5 ⊢
  generalize L4 ++ [Cell.lst ((xs4 ++ y5).map D.str)] = L5 at hS5 hj5
  generalize xs4 ++ y5 = xs5 at hj5 hx5 hl5
  apply s_seq
  refine s_menu (N := 20000) rfl hS5 hj5 (by omega) ?_ fun y6 μ6 l6 h6 hS6 => ?_
  · simp only [List.map_cons, List.map_nil, List.length_cons, List.length_nil, List.replicate, List.nil_append, List.cons_append, Nat.reduceAdd, Nat.reduceSub, Nat.zero_add, List.append_nil, e_bin, e_c, e_un, e_if, e_eB, e_nil, e_cons, e_lst, e_tup, e_call, e_fn, e_fnK, e_meth, e_sl, e_pNo, e_eI, e_chain, e_var, eVar, List.getElem?_cons_zero, List.getElem?_cons_succ, o_ok, o_okD, o_none, o_guard, o_op2, o_opI, o_addI, o_addS, o_addL, o_addT, o_mulI, o_mulL, o_ixD, o_ixT, o_ixN, o_ixS, peek_d, peek_tl, peekV_d, asB_d, conv_d, conv_al, conv_nl, conv_vt, conv_at, conv_nt, toVal_d, toVal_t, convV_d, toDs_nil, toDs_cons, ca1_d, ca2_d, plOf_loc, seqQ_nx, seqQ_rt, seqQ_ex, retQ_rt, retQ_ex, rtQ_rt, handR_d, handR_t, fInt_i, fInt_b, fAbs_i, fMax_i, fMin_i, Option.some.injEq, Prod.mk.injEq, exists_eq_left', exists_eq_left, exists_eq', exists_and_left, exists_and_right, and_true, true_and, List.set_cons_zero, List.set_cons_succ, Bool.true_eq_false, Bool.false_eq_true, forall_const, D.int.injEq, D.str.injEq, D.bl.injEq, D.lst.injEq, D.tup.injEq, Res.d.injEq, SV.d.injEq, Option.map_some, atI_0, atI_1, atI_2, atI_3, decide_eq_true_eq, decide_eq_false_iff_not, and_assoc, tyOk_str, mStr1_d, o_join, o_joinT, o_split, caLen_d, fLen_l, fLen_t, o_lenS, o_slS, o_slL, ixR_n, ixR_i, o_eqI, i_rng, i_rngB, i_val, i_valT, i_str, e_comp, wipeE, o_inC, Bool.not_true, Bool.not_false, Bool.not_eq_true', Bool.not_eq_false', if_true, if_false, Bool.if_true_left, decide_true, decide_false, asg_nm, asg_tp2, asg_tp3, kvSV_d, List.cons.injEq]
    refine ⟨by decide, ?_⟩
    repeat' first
      | refine List.forall_mem_cons.mpr ⟨⟨_, rfl, Sx.lit (by decide +kernel)⟩, ?_⟩
      | exact fun _ h => nomatch h
  have hj6 : (L5 ++ [Cell.lst ((xs5 ++ y6).map D.str)])[L5.length]? = some (.lst ((xs5 ++ y6).map D.str)) := by rw [List.getElem?_append_right (Nat.le_refl _), Nat.sub_self]; rfl
  have hx6 := mem_app hx5 h6
  have hl6 : 1 ≤ (xs5 ++ y6).length ∧ (xs5 ++ y6).length ≤ 520 := by rw [List.length_append]; omega
  show wpS g__law_odd_his_7 [some (.loc n), some (.d (.str wd)), some (.loc (μ.m.length + L5.length)), none, none, none] μ6 _
  generalize L5.length = j6 at hj6 ⊢
  generalize L5 ++ [Cell.lst ((xs5 ++ y6).map D.str)] = L6 at hS6 hj6
  generalize xs5 ++ y6 = xs6 at hj6 hx6 hl6
  apply s_seq
  refine s_menu (N := 20000) rfl hS6 hj6 (by omega) ?_ fun y7 μ7 l7 h7 hS7 => ?_
  · simp only [List.map_cons, List.map_nil, List.length_cons, List.length_nil, List.replicate, List.nil_append, List.cons_append, Nat.reduceAdd, Nat.reduceSub, Nat.zero_add, List.append_nil, e_bin, e_c, e_un, e_if, e_eB, e_nil, e_cons, e_lst, e_tup, e_call, e_fn, e_fnK, e_meth, e_sl, e_pNo, e_eI, e_chain, e_var, eVar, List.getElem?_cons_zero, List.getElem?_cons_succ, o_ok, o_okD, o_none, o_guard, o_op2, o_opI, o_addI, o_addS, o_addL, o_addT, o_mulI, o_mulL, o_ixD, o_ixT, o_ixN, o_ixS, peek_d, peek_tl, peekV_d, asB_d, conv_d, conv_al, conv_nl, conv_vt, conv_at, conv_nt, toVal_d, toVal_t, convV_d, toDs_nil, toDs_cons, ca1_d, ca2_d, plOf_loc, seqQ_nx, seqQ_rt, seqQ_ex, retQ_rt, retQ_ex, rtQ_rt, handR_d, handR_t, fInt_i, fInt_b, fAbs_i, fMax_i, fMin_i, Option.some.injEq, Prod.mk.injEq, exists_eq_left', exists_eq_left, exists_eq', exists_and_left, exists_and_right, and_true, true_and, List.set_cons_zero, List.set_cons_succ, Bool.true_eq_false, Bool.false_eq_true, forall_const, D.int.injEq, D.str.injEq, D.bl.injEq, D.lst.injEq, D.tup.injEq, Res.d.injEq, SV.d.injEq, Option.map_some, atI_0, atI_1, atI_2, atI_3, decide_eq_true_eq, decide_eq_false_iff_not, and_assoc, tyOk_str, mStr1_d, o_join, o_joinT, o_split, caLen_d, fLen_l, fLen_t, o_lenS, o_slS, o_slL, ixR_n, ixR_i, o_eqI, i_rng, i_rngB, i_val, i_valT, i_str, e_comp, wipeE, o_inC, Bool.not_true, Bool.not_false, Bool.not_eq_true', Bool.not_eq_false', if_true, if_false, Bool.if_true_left, decide_true, decide_false, asg_nm, asg_tp2, asg_tp3, kvSV_d, List.cons.injEq]
    refine ⟨by decide, ?_⟩
    repeat' first
      | refine List.forall_mem_cons.mpr ⟨⟨_, rfl, Sx.lit (by decide +kernel)⟩, ?_⟩
      | exact fun _ h => nomatch h
  have hj7 : (L6 ++ [Cell.lst ((xs6 ++ y7).map D.str)])[L6.length]? = some (.lst ((xs6 ++ y7).map D.str)) := by rw [List.getElem?_append_right (Nat.le_refl _), Nat.sub_self]; rfl
  have hx7 := mem_app hx6 h7
  have hl7 : 1 ≤ (xs6 ++ y7).length ∧ (xs6 ++ y7).length ≤ 620 := by rw [List.length_append]; omega
  show wpS g__law_odd_his_8 [some (.loc n), some (.d (.str wd)), some (.loc (μ.m.length + L6.length)), none, none, none] μ7 _
  generalize L6.length = j7 at hj7 ⊢
  generalize L6 ++ [Cell.lst ((xs6 ++ y7).map D.str)] = L7 at hS7 hj7
  generalize xs6 ++ y7 = xs7 at hj7 hx7 hl7
  exact odd9 hS7 hn hj7 (by omega) (by omega) hx7 hw q
end
end DF
namespace DF
open PySem PySem.Spec PyProof.Rows L2
theorem join_len (y : Str) : ∀ {ps : List Str}, ps ≠ [] → (Str.join y ps).length + y.length = (ps.map (·.length)).sum + ps.length * y.length
  | [], h => absurd rfl h
  | [p], _ => by
    show p.length + y.length = _
    simp
  | p :: q :: r, _ => by
    have ih := join_len y (ps := q :: r) (by simp)
    show (p ++ y ++ Str.join y (q :: r)).length + y.length = _
    rw [len_app, len_app, List.map_cons, List.sum_cons, List.length_cons, Nat.add_mul]
    omega
theorem split_ne (x y : Str) : Txt.split x y ≠ [] := by
  unfold Txt.split
  split
  · simp
  · split
    · simp
    · intro h
      have := congrArg List.length h
      first | rw [PySem.length_partsBetween] at this | rw [length_partsBetween] at this | rw [PySem.Builtin.Str.length_partsBetween] at this | rw [PySem.Spec.length_partsBetween] at this
      cases this
theorem split_few {x y : Str} (hy : 1 ≤ y.length) : (Txt.split x y).length ≤ x.length + 1 ∧ ∀ p ∈ Txt.split x y, p.length ≤ x.length := by
  have h := split_ne x y
  · have e := join_len y h
    rw [PySem.StrLaws.join_split] at e
    have hl := List.length_pos_iff.mpr h
    have h1 : (Txt.split x y).length * 1 ≤ (Txt.split x y).length * y.length := Nat.mul_le_mul_left _ hy
    have h2 : (Txt.split x y).length * y.length = ((Txt.split x y).length - 1) * y.length + y.length := by
      obtain ⟨m, hm⟩ : ∃ m, (Txt.split x y).length = m + 1 := ⟨(Txt.split x y).length - 1, by omega⟩
      rw [hm, Nat.add_sub_cancel, Nat.add_mul, Nat.one_mul]
    have h3 : ((Txt.split x y).length - 1) * 1 ≤ ((Txt.split x y).length - 1) * y.length := Nat.mul_le_mul_left _ hy
    refine ⟨by omega, fun p hp => ?_⟩
    have h4 : p.length ≤ ((Txt.split x y).map (·.length)).sum := by
      have : ∀ (l : List Str), p ∈ l → p.length ≤ (l.map (·.length)).sum := fun l => by
        induction l with
        | nil => intro h; cases h
        | cons a r ih =>
          intro h
          rw [List.map_cons, List.sum_cons]
          rcases List.mem_cons.mp h with rfl | h
          · omega
          · have := ih h; omega
      exact this _ hp
    omega
theorem Sx.split {N : Nat} {x y : Str} (h : Sx N x) (hy : 1 ≤ y.length) : ∀ p ∈ Txt.split x y, Sx N p := fun p hp => ⟨Nat.le_trans ((split_few hy).2 p hp) h.1, strOk_split h.2 p hp⟩
theorem set_at {xs : List Str} {i : Int} (h0 : 0 ≤ i) (h1 : i < xs.length) (z : Str) : cellSet (.lst (xs.map D.str)) i (.str z) = some (.lst ((xs.set i.toNat z).map D.str)) := by
  unfold cellSet ixN
  dsimp only
  rw [if_pos h0, if_pos (by rw [List.length_map]; exact h1), List.map_set]
theorem mem_set {P : Str → Prop} {xs : List Str} {i : Nat} {z : Str} (h : ∀ x ∈ xs, P x) (hz : P z) : ∀ x ∈ xs.set i z, P x := fun x hx => (List.mem_or_eq_of_mem_set hx).elim (h x) fun e => e ▸ hz
section
variable {n k : Nat} {μ0 μ : Sto} {wd : Str} {spot way : Int} {x2 x3 x4 : Option SV} {Q : Res → Sto → Prop}
theorem marred9 (hS : Sta n (k + 2) μ0 [] μ) (hn : n < μ0.m.length) (hw : Sx 400 wd) (w0 : 0 ≤ way) (q : ∀ z μ', Sx 170000 z → Pw n k μ0 μ' → Q (.d (.str z)) μ') :
    wpS g__law_marred_his_9 [some (.loc n), some (.d (.str wd)), x2, x3, x4, some (.d (.int spot)), some (.d (.int way)), none, none, none, none, none] μ (retQ μ0.m.length (rtQ Q)) := by
  apply s_seq
  apply s_if
  have e45 : D.eqs [D.int 4, D.int 5] [] = false := D.eqs_cn
  simp only [List.map_cons, List.map_nil, List.length_cons, List.length_nil, List.replicate, List.nil_append, List.cons_append, Nat.reduceAdd, Nat.reduceSub, Nat.zero_add, List.append_nil, e_bin, e_c, e_un, e_if, e_eB, e_nil, e_cons, e_lst, e_tup, e_call, e_fn, e_fnK, e_meth, e_sl, e_pNo, e_eI, e_chain, e_var, eVar, List.getElem?_cons_zero, List.getElem?_cons_succ, o_ok, o_okD, o_none, o_guard, o_op2, o_opI, o_addI, o_addS, o_addL, o_addT, o_mulI, o_mulL, o_ixD, o_ixT, o_ixN, o_ixS, peek_d, peek_tl, peekV_d, asB_d, conv_d, conv_al, conv_nl, conv_vt, conv_at, conv_nt, toVal_d, toVal_t, convV_d, toDs_nil, toDs_cons, ca1_d, ca2_d, plOf_loc, seqQ_nx, seqQ_rt, seqQ_ex, retQ_rt, retQ_ex, rtQ_rt, handR_d, handR_t, fInt_i, fInt_b, fAbs_i, fMax_i, fMin_i, Option.some.injEq, Prod.mk.injEq, exists_eq_left', exists_eq_left, exists_eq', exists_and_left, exists_and_right, and_true, true_and, List.set_cons_zero, List.set_cons_succ, Bool.true_eq_false, Bool.false_eq_true, forall_const, D.int.injEq, D.str.injEq, D.bl.injEq, D.lst.injEq, D.tup.injEq, Res.d.injEq, SV.d.injEq, Option.map_some, atI_0, atI_1, atI_2, atI_3, decide_eq_true_eq, decide_eq_false_iff_not, and_assoc, tyOk_str, mStr1_d, o_join, o_joinT, o_split, caLen_d, fLen_l, fLen_t, o_lenS, o_slS, o_slL, ixR_n, ixR_i, o_eqI, i_rng, i_rngB, i_val, i_valT, i_str, e_comp, wipeE, o_inC, Bool.not_true, Bool.not_false, Bool.not_eq_true', Bool.not_eq_false', if_true, if_false, Bool.if_true_left, decide_true, decide_false, asg_nm, asg_tp2, asg_tp3, kvSV_d, List.cons.injEq, o_inT, List.any_cons, List.any_nil, D.eq_int, Bool.or_false, Bool.or_eq_true, Bool.or_eq_false_iff]
  refine ⟨small_line (by decide), rfl, rfl, by simp [dep, deps], fun h => ?_, fun _ => ?_⟩
  · apply s_seq
    apply s_set
    simp only [List.map_cons, List.map_nil, List.length_cons, List.length_nil, List.replicate, List.nil_append, List.cons_append, Nat.reduceAdd, Nat.reduceSub, Nat.zero_add, List.append_nil, e_bin, e_c, e_un, e_if, e_eB, e_nil, e_cons, e_lst, e_tup, e_call, e_fn, e_fnK, e_meth, e_sl, e_pNo, e_eI, e_chain, e_var, eVar, List.getElem?_cons_zero, List.getElem?_cons_succ, o_ok, o_okD, o_none, o_guard, o_op2, o_opI, o_addI, o_addS, o_addL, o_addT, o_mulI, o_mulL, o_ixD, o_ixT, o_ixN, o_ixS, peek_d, peek_tl, peekV_d, asB_d, conv_d, conv_al, conv_nl, conv_vt, conv_at, conv_nt, toVal_d, toVal_t, convV_d, toDs_nil, toDs_cons, ca1_d, ca2_d, plOf_loc, seqQ_nx, seqQ_rt, seqQ_ex, retQ_rt, retQ_ex, rtQ_rt, handR_d, handR_t, fInt_i, fInt_b, fAbs_i, fMax_i, fMin_i, Option.some.injEq, Prod.mk.injEq, exists_eq_left', exists_eq_left, exists_eq', exists_and_left, exists_and_right, and_true, true_and, List.set_cons_zero, List.set_cons_succ, Bool.true_eq_false, Bool.false_eq_true, forall_const, D.int.injEq, D.str.injEq, D.bl.injEq, D.lst.injEq, D.tup.injEq, Res.d.injEq, SV.d.injEq, Option.map_some, atI_0, atI_1, atI_2, atI_3, decide_eq_true_eq, decide_eq_false_iff_not, and_assoc, tyOk_str, mStr1_d, o_join, o_joinT, o_split, caLen_d, fLen_l, fLen_t, o_lenS, o_slS, o_slL, ixR_n, ixR_i, o_eqI, i_rng, i_rngB, i_val, i_valT, i_str, e_comp, wipeE, o_inC, Bool.not_true, Bool.not_false, Bool.not_eq_true', Bool.not_eq_false', if_true, if_false, Bool.if_true_left, decide_true, decide_false, asg_nm, asg_tp2, asg_tp3, kvSV_d, List.cons.injEq]
    refine ⟨small_line (by decide), ?_⟩
    obtain ⟨bt, hbt, hb⟩ : ∃ bt, atI [D.str " ", D.str ", "] (way - 4) = some (.str bt) ∧ Sx 2 bt ∧ 1 ≤ bt.length := by
      rcases h with rfl | rfl
      · exact ⟨_, atI_0, Sx.lit (by decide +kernel), by decide +kernel⟩
      · exact ⟨_, atI_1, Sx.lit (by decide +kernel), by decide +kernel⟩
    refine ⟨_, hbt, ?_⟩
    apply s_seq
    apply s_set
    simp only [List.map_cons, List.map_nil, List.length_cons, List.length_nil, List.replicate, List.nil_append, List.cons_append, Nat.reduceAdd, Nat.reduceSub, Nat.zero_add, List.append_nil, e_bin, e_c, e_un, e_if, e_eB, e_nil, e_cons, e_lst, e_tup, e_call, e_fn, e_fnK, e_meth, e_sl, e_pNo, e_eI, e_chain, e_var, eVar, List.getElem?_cons_zero, List.getElem?_cons_succ, o_ok, o_okD, o_none, o_guard, o_op2, o_opI, o_addI, o_addS, o_addL, o_addT, o_mulI, o_mulL, o_ixD, o_ixT, o_ixN, o_ixS, peek_d, peek_tl, peekV_d, asB_d, conv_d, conv_al, conv_nl, conv_vt, conv_at, conv_nt, toVal_d, toVal_t, convV_d, toDs_nil, toDs_cons, ca1_d, ca2_d, plOf_loc, seqQ_nx, seqQ_rt, seqQ_ex, retQ_rt, retQ_ex, rtQ_rt, handR_d, handR_t, fInt_i, fInt_b, fAbs_i, fMax_i, fMin_i, Option.some.injEq, Prod.mk.injEq, exists_eq_left', exists_eq_left, exists_eq', exists_and_left, exists_and_right, and_true, true_and, List.set_cons_zero, List.set_cons_succ, Bool.true_eq_false, Bool.false_eq_true, forall_const, D.int.injEq, D.str.injEq, D.bl.injEq, D.lst.injEq, D.tup.injEq, Res.d.injEq, SV.d.injEq, Option.map_some, atI_0, atI_1, atI_2, atI_3, decide_eq_true_eq, decide_eq_false_iff_not, and_assoc, tyOk_str, mStr1_d, o_join, o_joinT, o_split, caLen_d, fLen_l, fLen_t, o_lenS, o_slS, o_slL, ixR_n, ixR_i, o_eqI, i_rng, i_rngB, i_val, i_valT, i_str, e_comp, wipeE, o_inC, Bool.not_true, Bool.not_false, Bool.not_eq_true', Bool.not_eq_false', if_true, if_false, Bool.if_true_left, decide_true, decide_false, asg_nm, asg_tp2, asg_tp3, kvSV_d, List.cons.injEq]
    refine ⟨by simp; omega, by have := hw.1; exact small_line (by omega), ?_⟩
    rw [hS.len]
    have hps := hw.split hb.2
    have hpl := (split_few (x := wd) hb.2).1
    have hS1 := hS.push (.lst ((Txt.split wd bt).map D.str))
    generalize μ.pushM (.lst ((Txt.split wd bt).map D.str)) = μ1 at hS1 ⊢
    have hz := split_ne wd bt
    generalize Txt.split wd bt = ps at hS1 hps hpl hz
    have ha1 : μ1.at (.m (μ0.m.length + 0)) = some (.lst (ps.map D.str)) := hS1.at rfl
    have hwl := hw.1
    apply s_seq
    apply s_par
    simp only [List.map_cons, List.map_nil, List.length_cons, List.length_nil, List.replicate, List.nil_append, List.cons_append, Nat.reduceAdd, Nat.reduceSub, Nat.zero_add, List.append_nil, e_bin, e_c, e_un, e_if, e_eB, e_nil, e_cons, e_lst, e_tup, e_call, e_fn, e_fnK, e_meth, e_sl, e_pNo, e_eI, e_chain, e_var, eVar, List.getElem?_cons_zero, List.getElem?_cons_succ, o_ok, o_okD, o_none, o_guard, o_op2, o_opI, o_addI, o_addS, o_addL, o_addT, o_mulI, o_mulL, o_ixD, o_ixT, o_ixN, o_ixS, peek_d, peek_tl, peekV_d, asB_d, conv_d, conv_al, conv_nl, conv_vt, conv_at, conv_nt, toVal_d, toVal_t, convV_d, toDs_nil, toDs_cons, ca1_d, ca2_d, plOf_loc, seqQ_nx, seqQ_rt, seqQ_ex, retQ_rt, retQ_ex, rtQ_rt, handR_d, handR_t, fInt_i, fInt_b, fAbs_i, fMax_i, fMin_i, Option.some.injEq, Prod.mk.injEq, exists_eq_left', exists_eq_left, exists_eq', exists_and_left, exists_and_right, and_true, true_and, List.set_cons_zero, List.set_cons_succ, Bool.true_eq_false, Bool.false_eq_true, forall_const, D.int.injEq, D.str.injEq, D.bl.injEq, D.lst.injEq, D.tup.injEq, Res.d.injEq, SV.d.injEq, Option.map_some, atI_0, atI_1, atI_2, atI_3, decide_eq_true_eq, decide_eq_false_iff_not, and_assoc, tyOk_str, mStr1_d, o_join, o_joinT, o_split, caLen_d, fLen_l, fLen_t, o_lenS, o_slS, o_slL, ixR_n, ixR_i, o_eqI, i_rng, i_rngB, i_val, i_valT, i_str, e_comp, wipeE, o_inC, Bool.not_true, Bool.not_false, Bool.not_eq_true', Bool.not_eq_false', if_true, if_false, Bool.if_true_left, decide_true, decide_false, asg_nm, asg_tp2, asg_tp3, kvSV_d, List.cons.injEq, caLen_at ha1]
    have hp0 := List.length_pos_iff.mpr hz
    refine coinS (k := k + 1) hS1 hn (by rw [List.length_map]; omega) (by rw [List.length_map]; omega) fun le μ2 i0 i1 hS2 => ?_
    have ha2 : μ2.at (.m (μ0.m.length + 0)) = some (.lst (ps.map D.str)) := hS2.at rfl
    simp only [List.map_cons, List.map_nil, List.length_cons, List.length_nil, List.replicate, List.nil_append, List.cons_append, Nat.reduceAdd, Nat.reduceSub, Nat.zero_add, List.append_nil, e_bin, e_c, e_un, e_if, e_eB, e_nil, e_cons, e_lst, e_tup, e_call, e_fn, e_fnK, e_meth, e_sl, e_pNo, e_eI, e_chain, e_var, eVar, List.getElem?_cons_zero, List.getElem?_cons_succ, o_ok, o_okD, o_none, o_guard, o_op2, o_opI, o_addI, o_addS, o_addL, o_addT, o_mulI, o_mulL, o_ixD, o_ixT, o_ixN, o_ixS, peek_d, peek_tl, peekV_d, asB_d, conv_d, conv_al, conv_nl, conv_vt, conv_at, conv_nt, toVal_d, toVal_t, convV_d, toDs_nil, toDs_cons, ca1_d, ca2_d, plOf_loc, seqQ_nx, seqQ_rt, seqQ_ex, retQ_rt, retQ_ex, rtQ_rt, handR_d, handR_t, fInt_i, fInt_b, fAbs_i, fMax_i, fMin_i, Option.some.injEq, Prod.mk.injEq, exists_eq_left', exists_eq_left, exists_eq', exists_and_left, exists_and_right, and_true, true_and, List.set_cons_zero, List.set_cons_succ, Bool.true_eq_false, Bool.false_eq_true, forall_const, D.int.injEq, D.str.injEq, D.bl.injEq, D.lst.injEq, D.tup.injEq, Res.d.injEq, SV.d.injEq, Option.map_some, atI_0, atI_1, atI_2, atI_3, decide_eq_true_eq, decide_eq_false_iff_not, and_assoc, tyOk_str, mStr1_d, o_join, o_joinT, o_split, caLen_d, fLen_l, fLen_t, o_lenS, o_slS, o_slL, ixR_n, ixR_i, o_eqI, i_rng, i_rngB, i_val, i_valT, i_str, e_comp, wipeE, o_inC, Bool.not_true, Bool.not_false, Bool.not_eq_true', Bool.not_eq_false', if_true, if_false, Bool.if_true_left, decide_true, decide_false, asg_nm, asg_tp2, asg_tp3, kvSV_d, List.cons.injEq, caLen_at ha2]
    refine coinS (k := k) hS2 hn (by rw [List.length_map]; omega) (by rw [List.length_map]; omega) fun ri μ3 j0 j1 hS3 => ?_
    rw [List.length_map] at i1 j1
    have ha3 : μ3.at (.m (μ0.m.length + 0)) = some (.lst (ps.map D.str)) := hS3.at rfl
    obtain ⟨pl, hpl', spl, _⟩ := str_at (i := le) hps i0 i1
    obtain ⟨pr, hpr', spr, _⟩ := str_at (i := ri) hps j0 j1
    simp only [List.map_cons, List.map_nil, List.length_cons, List.length_nil, List.replicate, List.nil_append, List.cons_append, Nat.reduceAdd, Nat.reduceSub, Nat.zero_add, List.append_nil, e_bin, e_c, e_un, e_if, e_eB, e_nil, e_cons, e_lst, e_tup, e_call, e_fn, e_fnK, e_meth, e_sl, e_pNo, e_eI, e_chain, e_var, eVar, List.getElem?_cons_zero, List.getElem?_cons_succ, o_ok, o_okD, o_none, o_guard, o_op2, o_opI, o_addI, o_addS, o_addL, o_addT, o_mulI, o_mulL, o_ixD, o_ixT, o_ixN, o_ixS, peek_d, peek_tl, peekV_d, asB_d, conv_d, conv_al, conv_nl, conv_vt, conv_at, conv_nt, toVal_d, toVal_t, convV_d, toDs_nil, toDs_cons, ca1_d, ca2_d, plOf_loc, seqQ_nx, seqQ_rt, seqQ_ex, retQ_rt, retQ_ex, rtQ_rt, handR_d, handR_t, fInt_i, fInt_b, fAbs_i, fMax_i, fMin_i, Option.some.injEq, Prod.mk.injEq, exists_eq_left', exists_eq_left, exists_eq', exists_and_left, exists_and_right, and_true, true_and, List.set_cons_zero, List.set_cons_succ, Bool.true_eq_false, Bool.false_eq_true, forall_const, D.int.injEq, D.str.injEq, D.bl.injEq, D.lst.injEq, D.tup.injEq, Res.d.injEq, SV.d.injEq, Option.map_some, atI_0, atI_1, atI_2, atI_3, decide_eq_true_eq, decide_eq_false_iff_not, and_assoc, tyOk_str, mStr1_d, o_join, o_joinT, o_split, caLen_d, fLen_l, fLen_t, o_lenS, o_slS, o_slL, ixR_n, ixR_i, o_eqI, i_rng, i_rngB, i_val, i_valT, i_str, e_comp, wipeE, o_inC, Bool.not_true, Bool.not_false, Bool.not_eq_true', Bool.not_eq_false', if_true, if_false, Bool.if_true_left, decide_true, decide_false, asg_nm, asg_tp2, asg_tp3, kvSV_d, List.cons.injEq]
    apply s_seq
    apply s_set
    simp only [List.map_cons, List.map_nil, List.length_cons, List.length_nil, List.replicate, List.nil_append, List.cons_append, Nat.reduceAdd, Nat.reduceSub, Nat.zero_add, List.append_nil, e_bin, e_c, e_un, e_if, e_eB, e_nil, e_cons, e_lst, e_tup, e_call, e_fn, e_fnK, e_meth, e_sl, e_pNo, e_eI, e_chain, e_var, eVar, List.getElem?_cons_zero, List.getElem?_cons_succ, o_ok, o_okD, o_none, o_guard, o_op2, o_opI, o_addI, o_addS, o_addL, o_addT, o_mulI, o_mulL, o_ixD, o_ixT, o_ixN, o_ixS, peek_d, peek_tl, peekV_d, asB_d, conv_d, conv_al, conv_nl, conv_vt, conv_at, conv_nt, toVal_d, toVal_t, convV_d, toDs_nil, toDs_cons, ca1_d, ca2_d, plOf_loc, seqQ_nx, seqQ_rt, seqQ_ex, retQ_rt, retQ_ex, rtQ_rt, handR_d, handR_t, fInt_i, fInt_b, fAbs_i, fMax_i, fMin_i, Option.some.injEq, Prod.mk.injEq, exists_eq_left', exists_eq_left, exists_eq', exists_and_left, exists_and_right, and_true, true_and, List.set_cons_zero, List.set_cons_succ, Bool.true_eq_false, Bool.false_eq_true, forall_const, D.int.injEq, D.str.injEq, D.bl.injEq, D.lst.injEq, D.tup.injEq, Res.d.injEq, SV.d.injEq, Option.map_some, atI_0, atI_1, atI_2, atI_3, decide_eq_true_eq, decide_eq_false_iff_not, and_assoc, tyOk_str, mStr1_d, o_join, o_joinT, o_split, caLen_d, fLen_l, fLen_t, o_lenS, o_slS, o_slL, ixR_n, ixR_i, o_eqI, i_rng, i_rngB, i_val, i_valT, i_str, e_comp, wipeE, o_inC, Bool.not_true, Bool.not_false, Bool.not_eq_true', Bool.not_eq_false', if_true, if_false, Bool.if_true_left, decide_true, decide_false, asg_nm, asg_tp2, asg_tp3, kvSV_d, List.cons.injEq, o_ixL (items_at ha3)]
    refine ⟨_, hpl', ?_⟩
    apply s_seq
    apply s_sub
    simp only [List.map_cons, List.map_nil, List.length_cons, List.length_nil, List.replicate, List.nil_append, List.cons_append, Nat.reduceAdd, Nat.reduceSub, Nat.zero_add, List.append_nil, e_bin, e_c, e_un, e_if, e_eB, e_nil, e_cons, e_lst, e_tup, e_call, e_fn, e_fnK, e_meth, e_sl, e_pNo, e_eI, e_chain, e_var, eVar, List.getElem?_cons_zero, List.getElem?_cons_succ, o_ok, o_okD, o_none, o_guard, o_op2, o_opI, o_addI, o_addS, o_addL, o_addT, o_mulI, o_mulL, o_ixD, o_ixT, o_ixN, o_ixS, peek_d, peek_tl, peekV_d, asB_d, conv_d, conv_al, conv_nl, conv_vt, conv_at, conv_nt, toVal_d, toVal_t, convV_d, toDs_nil, toDs_cons, ca1_d, ca2_d, plOf_loc, seqQ_nx, seqQ_rt, seqQ_ex, retQ_rt, retQ_ex, rtQ_rt, handR_d, handR_t, fInt_i, fInt_b, fAbs_i, fMax_i, fMin_i, Option.some.injEq, Prod.mk.injEq, exists_eq_left', exists_eq_left, exists_eq', exists_and_left, exists_and_right, and_true, true_and, List.set_cons_zero, List.set_cons_succ, Bool.true_eq_false, Bool.false_eq_true, forall_const, D.int.injEq, D.str.injEq, D.bl.injEq, D.lst.injEq, D.tup.injEq, Res.d.injEq, SV.d.injEq, Option.map_some, atI_0, atI_1, atI_2, atI_3, decide_eq_true_eq, decide_eq_false_iff_not, and_assoc, tyOk_str, mStr1_d, o_join, o_joinT, o_split, caLen_d, fLen_l, fLen_t, o_lenS, o_slS, o_slL, ixR_n, ixR_i, o_eqI, i_rng, i_rngB, i_val, i_valT, i_str, e_comp, wipeE, o_inC, Bool.not_true, Bool.not_false, Bool.not_eq_true', Bool.not_eq_false', if_true, if_false, Bool.if_true_left, decide_true, decide_false, asg_nm, asg_tp2, asg_tp3, kvSV_d, List.cons.injEq, o_ixL (items_at ha3)]
    refine ⟨_, hpr', _, ha3, _, set_at i0 i1 pr, ?_⟩
    have hS4 := hS3.put (j := 0) (.lst ((ps.set le.toNat pr).map D.str))
    generalize μ3.put (.m (μ0.m.length + 0)) (.lst ((ps.set le.toNat pr).map D.str)) = μ4 at hS4 ⊢
    have hps4 := mem_set (i := le.toNat) hps spr
    have hl4 : (ps.set le.toNat pr).length = ps.length := List.length_set
    have ha4 : μ4.at (.m (μ0.m.length + 0)) = some (.lst ((ps.set le.toNat pr).map D.str)) := hS4.at rfl
    generalize ps.set le.toNat pr = ps4 at hS4 hps4 hl4 ha4
    apply s_seq
    apply s_sub
    simp only [List.map_cons, List.map_nil, List.length_cons, List.length_nil, List.replicate, List.nil_append, List.cons_append, Nat.reduceAdd, Nat.reduceSub, Nat.zero_add, List.append_nil, e_bin, e_c, e_un, e_if, e_eB, e_nil, e_cons, e_lst, e_tup, e_call, e_fn, e_fnK, e_meth, e_sl, e_pNo, e_eI, e_chain, e_var, eVar, List.getElem?_cons_zero, List.getElem?_cons_succ, o_ok, o_okD, o_none, o_guard, o_op2, o_opI, o_addI, o_addS, o_addL, o_addT, o_mulI, o_mulL, o_ixD, o_ixT, o_ixN, o_ixS, peek_d, peek_tl, peekV_d, asB_d, conv_d, conv_al, conv_nl, conv_vt, conv_at, conv_nt, toVal_d, toVal_t, convV_d, toDs_nil, toDs_cons, ca1_d, ca2_d, plOf_loc, seqQ_nx, seqQ_rt, seqQ_ex, retQ_rt, retQ_ex, rtQ_rt, handR_d, handR_t, fInt_i, fInt_b, fAbs_i, fMax_i, fMin_i, Option.some.injEq, Prod.mk.injEq, exists_eq_left', exists_eq_left, exists_eq', exists_and_left, exists_and_right, and_true, true_and, List.set_cons_zero, List.set_cons_succ, Bool.true_eq_false, Bool.false_eq_true, forall_const, D.int.injEq, D.str.injEq, D.bl.injEq, D.lst.injEq, D.tup.injEq, Res.d.injEq, SV.d.injEq, Option.map_some, atI_0, atI_1, atI_2, atI_3, decide_eq_true_eq, decide_eq_false_iff_not, and_assoc, tyOk_str, mStr1_d, o_join, o_joinT, o_split, caLen_d, fLen_l, fLen_t, o_lenS, o_slS, o_slL, ixR_n, ixR_i, o_eqI, i_rng, i_rngB, i_val, i_valT, i_str, e_comp, wipeE, o_inC, Bool.not_true, Bool.not_false, Bool.not_eq_true', Bool.not_eq_false', if_true, if_false, Bool.if_true_left, decide_true, decide_false, asg_nm, asg_tp2, asg_tp3, kvSV_d, List.cons.injEq]
    refine ⟨_, ha4, _, set_at j0 (by rw [hl4]; exact j1) pl, ?_⟩
    have hS5 := hS4.put (j := 0) (.lst ((ps4.set ri.toNat pl).map D.str))
    generalize μ4.put (.m (μ0.m.length + 0)) (.lst ((ps4.set ri.toNat pl).map D.str)) = μ5 at hS5 ⊢
    have hps5 := mem_set (i := ri.toNat) hps4 spl
    have hl5 : (ps4.set ri.toNat pl).length = ps.length := List.length_set.trans hl4
    have ha5 : μ5.at (.m (μ0.m.length + 0)) = some (.lst ((ps4.set ri.toNat pl).map D.str)) := hS5.at rfl
    generalize ps4.set ri.toNat pl = ps5 at hS5 hps5 hl5 ha5
    apply s_ret
    have ej : ∀ (R : Res → Sto → Prop), wpO (mStr1 hJoin μ5 (.d (.str bt)) [.loc (μ0.m.length + 0)]) R ↔ wpO (hJoin μ5 bt (.lst (ps5.map D.str))) R := fun R => by
      have : mStr1 hJoin μ5 (.d (.str bt)) [.loc (μ0.m.length + 0)] = hJoin μ5 bt (.lst (ps5.map D.str)) := by
        unfold mStr1
        dsimp only [peek]
        rw [peekV_at ha5]
      rw [this]
    simp only [List.map_cons, List.map_nil, List.length_cons, List.length_nil, List.replicate, List.nil_append, List.cons_append, Nat.reduceAdd, Nat.reduceSub, Nat.zero_add, List.append_nil, e_bin, e_c, e_un, e_if, e_eB, e_nil, e_cons, e_lst, e_tup, e_call, e_fn, e_fnK, e_meth, e_sl, e_pNo, e_eI, e_chain, e_var, eVar, List.getElem?_cons_zero, List.getElem?_cons_succ, o_ok, o_okD, o_none, o_guard, o_op2, o_opI, o_addI, o_addS, o_addL, o_addT, o_mulI, o_mulL, o_ixD, o_ixT, o_ixN, o_ixS, peek_d, peek_tl, peekV_d, asB_d, conv_d, conv_al, conv_nl, conv_vt, conv_at, conv_nt, toVal_d, toVal_t, convV_d, toDs_nil, toDs_cons, ca1_d, ca2_d, plOf_loc, seqQ_nx, seqQ_rt, seqQ_ex, retQ_rt, retQ_ex, rtQ_rt, handR_d, handR_t, fInt_i, fInt_b, fAbs_i, fMax_i, fMin_i, Option.some.injEq, Prod.mk.injEq, exists_eq_left', exists_eq_left, exists_eq', exists_and_left, exists_and_right, and_true, true_and, List.set_cons_zero, List.set_cons_succ, Bool.true_eq_false, Bool.false_eq_true, forall_const, D.int.injEq, D.str.injEq, D.bl.injEq, D.lst.injEq, D.tup.injEq, Res.d.injEq, SV.d.injEq, Option.map_some, atI_0, atI_1, atI_2, atI_3, decide_eq_true_eq, decide_eq_false_iff_not, and_assoc, tyOk_str, mStr1_d, o_join, o_joinT, o_split, caLen_d, fLen_l, fLen_t, o_lenS, o_slS, o_slL, ixR_n, ixR_i, o_eqI, i_rng, i_rngB, i_val, i_valT, i_str, e_comp, wipeE, o_inC, Bool.not_true, Bool.not_false, Bool.not_eq_true', Bool.not_eq_false', if_true, if_false, Bool.if_true_left, decide_true, decide_false, asg_nm, asg_tp2, asg_tp3, kvSV_d, List.cons.injEq, ej]
    have h1 := sum_le fun p hp => (hps5 p hp).1
    have h2 : ps5.length * bt.length ≤ 401 * 2 := Nat.mul_le_mul (by omega) hb.1.1
    have h3 : ps5.length * 400 ≤ 401 * 400 := Nat.mul_le_mul_right _ (by omega)
    refine ⟨by omega, q _ _ ((Sx.join hb.1 hps5).le ?_) hS5.out⟩
    have : ps5.length * (400 + 2) ≤ 401 * 402 := Nat.mul_le_mul_right _ (by omega)
    omega
  · apply s_nx
    apply s_ret
    simp only [List.map_cons, List.map_nil, List.length_cons, List.length_nil, List.replicate, List.nil_append, List.cons_append, Nat.reduceAdd, Nat.reduceSub, Nat.zero_add, List.append_nil, e_bin, e_c, e_un, e_if, e_eB, e_nil, e_cons, e_lst, e_tup, e_call, e_fn, e_fnK, e_meth, e_sl, e_pNo, e_eI, e_chain, e_var, eVar, List.getElem?_cons_zero, List.getElem?_cons_succ, o_ok, o_okD, o_none, o_guard, o_op2, o_opI, o_addI, o_addS, o_addL, o_addT, o_mulI, o_mulL, o_ixD, o_ixT, o_ixN, o_ixS, peek_d, peek_tl, peekV_d, asB_d, conv_d, conv_al, conv_nl, conv_vt, conv_at, conv_nt, toVal_d, toVal_t, convV_d, toDs_nil, toDs_cons, ca1_d, ca2_d, plOf_loc, seqQ_nx, seqQ_rt, seqQ_ex, retQ_rt, retQ_ex, rtQ_rt, handR_d, handR_t, fInt_i, fInt_b, fAbs_i, fMax_i, fMin_i, Option.some.injEq, Prod.mk.injEq, exists_eq_left', exists_eq_left, exists_eq', exists_and_left, exists_and_right, and_true, true_and, List.set_cons_zero, List.set_cons_succ, Bool.true_eq_false, Bool.false_eq_true, forall_const, D.int.injEq, D.str.injEq, D.bl.injEq, D.lst.injEq, D.tup.injEq, Res.d.injEq, SV.d.injEq, Option.map_some, atI_0, atI_1, atI_2, atI_3, decide_eq_true_eq, decide_eq_false_iff_not, and_assoc, tyOk_str, mStr1_d, o_join, o_joinT, o_split, caLen_d, fLen_l, fLen_t, o_lenS, o_slS, o_slL, ixR_n, ixR_i, o_eqI, i_rng, i_rngB, i_val, i_valT, i_str, e_comp, wipeE, o_inC, Bool.not_true, Bool.not_false, Bool.not_eq_true', Bool.not_eq_false', if_true, if_false, Bool.if_true_left, decide_true, decide_false, asg_nm, asg_tp2, asg_tp3, kvSV_d, List.cons.injEq]
    exact q wd _ (hw.le (by decide)) (hS.le (by omega)).out
end

section
variable {n k : Nat} {μ : Sto} {wd : Str} {Q : Res → Sto → Prop}
theorem char_at {z : Str} {i : Int} (hz : strOk z) (h0 : 0 ≤ i) (h1 : i < z.length) : ∃ c, atI z.cps.toList i = some c ∧ Sx 1 ⟨#[c]⟩ := by
  obtain ⟨c, hc, hm⟩ := atI_of (l := z.cps.toList) (i := i) h0 (by rw [Array.length_toList]; exact h1)
  exact ⟨c, hc, Sx.one hz hm⟩
theorem marred_ok (h : Pur n (k + 304) μ) (hw : Sx 400 wd) (q : ∀ z μ', Sx 170000 z → Pw n k μ μ' → Q (.d (.str z)) μ') : wpF f__law_marred_his [.loc n, .d (.str wd)] μ (rtQ Q) := by
  have hn := h.lt
  have hS0 := Sta.start h
  have hwl := hw.1
  apply f_def
  apply s_seq
  apply s_par
  simp only [List.map_cons, List.map_nil, List.length_cons, List.length_nil, List.replicate, List.nil_append, List.cons_append, Nat.reduceAdd, Nat.reduceSub, Nat.zero_add, List.append_nil, e_bin, e_c, e_un, e_if, e_eB, e_nil, e_cons, e_lst, e_tup, e_call, e_fn, e_fnK, e_meth, e_sl, e_pNo, e_eI, e_chain, e_var, eVar, List.getElem?_cons_zero, List.getElem?_cons_succ, o_ok, o_okD, o_none, o_guard, o_op2, o_opI, o_addI, o_addS, o_addL, o_addT, o_mulI, o_mulL, o_ixD, o_ixT, o_ixN, o_ixS, peek_d, peek_tl, peekV_d, asB_d, conv_d, conv_al, conv_nl, conv_vt, conv_at, conv_nt, toVal_d, toVal_t, convV_d, toDs_nil, toDs_cons, ca1_d, ca2_d, plOf_loc, seqQ_nx, seqQ_rt, seqQ_ex, retQ_rt, retQ_ex, rtQ_rt, handR_d, handR_t, fInt_i, fInt_b, fAbs_i, fMax_i, fMin_i, Option.some.injEq, Prod.mk.injEq, exists_eq_left', exists_eq_left, exists_eq', exists_and_left, exists_and_right, and_true, true_and, List.set_cons_zero, List.set_cons_succ, Bool.true_eq_false, Bool.false_eq_true, forall_const, D.int.injEq, D.str.injEq, D.bl.injEq, D.lst.injEq, D.tup.injEq, Res.d.injEq, SV.d.injEq, Option.map_some, atI_0, atI_1, atI_2, atI_3, decide_eq_true_eq, decide_eq_false_iff_not, and_assoc, tyOk_str, mStr1_d, o_join, o_joinT, o_split, caLen_d, fLen_l, fLen_t, o_lenS, o_slS, o_slL, ixR_n, ixR_i, o_eqI, i_rng, i_rngB, i_val, i_valT, i_str, e_comp, wipeE, o_inC, Bool.not_true, Bool.not_false, Bool.not_eq_true', Bool.not_eq_false', if_true, if_false, Bool.if_true_left, decide_true, decide_false, asg_nm, asg_tp2, asg_tp3, kvSV_d, List.cons.injEq]
  refine ⟨small_line (by omega), coinS (k := k + 303) hS0 hn (by omega) (by omega) fun spot μ1 i0 i1 hS1 => ?_⟩
  simp only [List.map_cons, List.map_nil, List.length_cons, List.length_nil, List.replicate, List.nil_append, List.cons_append, Nat.reduceAdd, Nat.reduceSub, Nat.zero_add, List.append_nil, e_bin, e_c, e_un, e_if, e_eB, e_nil, e_cons, e_lst, e_tup, e_call, e_fn, e_fnK, e_meth, e_sl, e_pNo, e_eI, e_chain, e_var, eVar, List.getElem?_cons_zero, List.getElem?_cons_succ, o_ok, o_okD, o_none, o_guard, o_op2, o_opI, o_addI, o_addS, o_addL, o_addT, o_mulI, o_mulL, o_ixD, o_ixT, o_ixN, o_ixS, peek_d, peek_tl, peekV_d, asB_d, conv_d, conv_al, conv_nl, conv_vt, conv_at, conv_nt, toVal_d, toVal_t, convV_d, toDs_nil, toDs_cons, ca1_d, ca2_d, plOf_loc, seqQ_nx, seqQ_rt, seqQ_ex, retQ_rt, retQ_ex, rtQ_rt, handR_d, handR_t, fInt_i, fInt_b, fAbs_i, fMax_i, fMin_i, Option.some.injEq, Prod.mk.injEq, exists_eq_left', exists_eq_left, exists_eq', exists_and_left, exists_and_right, and_true, true_and, List.set_cons_zero, List.set_cons_succ, Bool.true_eq_false, Bool.false_eq_true, forall_const, D.int.injEq, D.str.injEq, D.bl.injEq, D.lst.injEq, D.tup.injEq, Res.d.injEq, SV.d.injEq, Option.map_some, atI_0, atI_1, atI_2, atI_3, decide_eq_true_eq, decide_eq_false_iff_not, and_assoc, tyOk_str, mStr1_d, o_join, o_joinT, o_split, caLen_d, fLen_l, fLen_t, o_lenS, o_slS, o_slL, ixR_n, ixR_i, o_eqI, i_rng, i_rngB, i_val, i_valT, i_str, e_comp, wipeE, o_inC, Bool.not_true, Bool.not_false, Bool.not_eq_true', Bool.not_eq_false', if_true, if_false, Bool.if_true_left, decide_true, decide_false, asg_nm, asg_tp2, asg_tp3, kvSV_d, List.cons.injEq]
  refine coinS (k := k + 302) hS1 hn (by omega) (by omega) fun way μ2 w0 w1 hS2 => ?_
  simp only [List.map_cons, List.map_nil, List.length_cons, List.length_nil, List.replicate, List.nil_append, List.cons_append, Nat.reduceAdd, Nat.reduceSub, Nat.zero_add, List.append_nil, e_bin, e_c, e_un, e_if, e_eB, e_nil, e_cons, e_lst, e_tup, e_call, e_fn, e_fnK, e_meth, e_sl, e_pNo, e_eI, e_chain, e_var, eVar, List.getElem?_cons_zero, List.getElem?_cons_succ, o_ok, o_okD, o_none, o_guard, o_op2, o_opI, o_addI, o_addS, o_addL, o_addT, o_mulI, o_mulL, o_ixD, o_ixT, o_ixN, o_ixS, peek_d, peek_tl, peekV_d, asB_d, conv_d, conv_al, conv_nl, conv_vt, conv_at, conv_nt, toVal_d, toVal_t, convV_d, toDs_nil, toDs_cons, ca1_d, ca2_d, plOf_loc, seqQ_nx, seqQ_rt, seqQ_ex, retQ_rt, retQ_ex, rtQ_rt, handR_d, handR_t, fInt_i, fInt_b, fAbs_i, fMax_i, fMin_i, Option.some.injEq, Prod.mk.injEq, exists_eq_left', exists_eq_left, exists_eq', exists_and_left, exists_and_right, and_true, true_and, List.set_cons_zero, List.set_cons_succ, Bool.true_eq_false, Bool.false_eq_true, forall_const, D.int.injEq, D.str.injEq, D.bl.injEq, D.lst.injEq, D.tup.injEq, Res.d.injEq, SV.d.injEq, Option.map_some, atI_0, atI_1, atI_2, atI_3, decide_eq_true_eq, decide_eq_false_iff_not, and_assoc, tyOk_str, mStr1_d, o_join, o_joinT, o_split, caLen_d, fLen_l, fLen_t, o_lenS, o_slS, o_slL, ixR_n, ixR_i, o_eqI, i_rng, i_rngB, i_val, i_valT, i_str, e_comp, wipeE, o_inC, Bool.not_true, Bool.not_false, Bool.not_eq_true', Bool.not_eq_false', if_true, if_false, Bool.if_true_left, decide_true, decide_false, asg_nm, asg_tp2, asg_tp3, kvSV_d, List.cons.injEq]
  apply s_seq
  apply s_set
  simp only [List.map_cons, List.map_nil, List.length_cons, List.length_nil, List.replicate, List.nil_append, List.cons_append, Nat.reduceAdd, Nat.reduceSub, Nat.zero_add, List.append_nil, e_bin, e_c, e_un, e_if, e_eB, e_nil, e_cons, e_lst, e_tup, e_call, e_fn, e_fnK, e_meth, e_sl, e_pNo, e_eI, e_chain, e_var, eVar, List.getElem?_cons_zero, List.getElem?_cons_succ, o_ok, o_okD, o_none, o_guard, o_op2, o_opI, o_addI, o_addS, o_addL, o_addT, o_mulI, o_mulL, o_ixD, o_ixT, o_ixN, o_ixS, peek_d, peek_tl, peekV_d, asB_d, conv_d, conv_al, conv_nl, conv_vt, conv_at, conv_nt, toVal_d, toVal_t, convV_d, toDs_nil, toDs_cons, ca1_d, ca2_d, plOf_loc, seqQ_nx, seqQ_rt, seqQ_ex, retQ_rt, retQ_ex, rtQ_rt, handR_d, handR_t, fInt_i, fInt_b, fAbs_i, fMax_i, fMin_i, Option.some.injEq, Prod.mk.injEq, exists_eq_left', exists_eq_left, exists_eq', exists_and_left, exists_and_right, and_true, true_and, List.set_cons_zero, List.set_cons_succ, Bool.true_eq_false, Bool.false_eq_true, forall_const, D.int.injEq, D.str.injEq, D.bl.injEq, D.lst.injEq, D.tup.injEq, Res.d.injEq, SV.d.injEq, Option.map_some, atI_0, atI_1, atI_2, atI_3, decide_eq_true_eq, decide_eq_false_iff_not, and_assoc, tyOk_str, mStr1_d, o_join, o_joinT, o_split, caLen_d, fLen_l, fLen_t, o_lenS, o_slS, o_slL, ixR_n, ixR_i, o_eqI, i_rng, i_rngB, i_val, i_valT, i_str, e_comp, wipeE, o_inC, Bool.not_true, Bool.not_false, Bool.not_eq_true', Bool.not_eq_false', if_true, if_false, Bool.if_true_left, decide_true, decide_false, asg_nm, asg_tp2, asg_tp3, kvSV_d, List.cons.injEq]
  apply s_seq
  apply s_set
  simp only [List.map_cons, List.map_nil, List.length_cons, List.length_nil, List.replicate, List.nil_append, List.cons_append, Nat.reduceAdd, Nat.reduceSub, Nat.zero_add, List.append_nil, e_bin, e_c, e_un, e_if, e_eB, e_nil, e_cons, e_lst, e_tup, e_call, e_fn, e_fnK, e_meth, e_sl, e_pNo, e_eI, e_chain, e_var, eVar, List.getElem?_cons_zero, List.getElem?_cons_succ, o_ok, o_okD, o_none, o_guard, o_op2, o_opI, o_addI, o_addS, o_addL, o_addT, o_mulI, o_mulL, o_ixD, o_ixT, o_ixN, o_ixS, peek_d, peek_tl, peekV_d, asB_d, conv_d, conv_al, conv_nl, conv_vt, conv_at, conv_nt, toVal_d, toVal_t, convV_d, toDs_nil, toDs_cons, ca1_d, ca2_d, plOf_loc, seqQ_nx, seqQ_rt, seqQ_ex, retQ_rt, retQ_ex, rtQ_rt, handR_d, handR_t, fInt_i, fInt_b, fAbs_i, fMax_i, fMin_i, Option.some.injEq, Prod.mk.injEq, exists_eq_left', exists_eq_left, exists_eq', exists_and_left, exists_and_right, and_true, true_and, List.set_cons_zero, List.set_cons_succ, Bool.true_eq_false, Bool.false_eq_true, forall_const, D.int.injEq, D.str.injEq, D.bl.injEq, D.lst.injEq, D.tup.injEq, Res.d.injEq, SV.d.injEq, Option.map_some, atI_0, atI_1, atI_2, atI_3, decide_eq_true_eq, decide_eq_false_iff_not, and_assoc, tyOk_str, mStr1_d, o_join, o_joinT, o_split, caLen_d, fLen_l, fLen_t, o_lenS, o_slS, o_slL, ixR_n, ixR_i, o_eqI, i_rng, i_rngB, i_val, i_valT, i_str, e_comp, wipeE, o_inC, Bool.not_true, Bool.not_false, Bool.not_eq_true', Bool.not_eq_false', if_true, if_false, Bool.if_true_left, decide_true, decide_false, asg_nm, asg_tp2, asg_tp3, kvSV_d, List.cons.injEq]
  refine ⟨small_line (by decide), ?_⟩
  refine coinS (k := k + 301) hS2 hn (by omega) (by omega) fun sg μ3 g0 g1 hS3 => ?_
  simp only [List.map_cons, List.map_nil, List.length_cons, List.length_nil, List.replicate, List.nil_append, List.cons_append, Nat.reduceAdd, Nat.reduceSub, Nat.zero_add, List.append_nil, e_bin, e_c, e_un, e_if, e_eB, e_nil, e_cons, e_lst, e_tup, e_call, e_fn, e_fnK, e_meth, e_sl, e_pNo, e_eI, e_chain, e_var, eVar, List.getElem?_cons_zero, List.getElem?_cons_succ, o_ok, o_okD, o_none, o_guard, o_op2, o_opI, o_addI, o_addS, o_addL, o_addT, o_mulI, o_mulL, o_ixD, o_ixT, o_ixN, o_ixS, peek_d, peek_tl, peekV_d, asB_d, conv_d, conv_al, conv_nl, conv_vt, conv_at, conv_nt, toVal_d, toVal_t, convV_d, toDs_nil, toDs_cons, ca1_d, ca2_d, plOf_loc, seqQ_nx, seqQ_rt, seqQ_ex, retQ_rt, retQ_ex, rtQ_rt, handR_d, handR_t, fInt_i, fInt_b, fAbs_i, fMax_i, fMin_i, Option.some.injEq, Prod.mk.injEq, exists_eq_left', exists_eq_left, exists_eq', exists_and_left, exists_and_right, and_true, true_and, List.set_cons_zero, List.set_cons_succ, Bool.true_eq_false, Bool.false_eq_true, forall_const, D.int.injEq, D.str.injEq, D.bl.injEq, D.lst.injEq, D.tup.injEq, Res.d.injEq, SV.d.injEq, Option.map_some, atI_0, atI_1, atI_2, atI_3, decide_eq_true_eq, decide_eq_false_iff_not, and_assoc, tyOk_str, mStr1_d, o_join, o_joinT, o_split, caLen_d, fLen_l, fLen_t, o_lenS, o_slS, o_slL, ixR_n, ixR_i, o_eqI, i_rng, i_rngB, i_val, i_valT, i_str, e_comp, wipeE, o_inC, Bool.not_true, Bool.not_false, Bool.not_eq_true', Bool.not_eq_false', if_true, if_false, Bool.if_true_left, decide_true, decide_false, asg_nm, asg_tp2, asg_tp3, kvSV_d, List.cons.injEq]
  obtain ⟨sgn, hsg, s0, s1, s2⟩ : ∃ sgn, atI [D.str "put set,rewiaon", D.str "ABCDEFGHIJKLMNOPQRSTUVWXYZ0123456789abcdefghijklmnopqrstuvwxyz !#$&'()*+,-./:;<=>?@\x5b]^_`{|}~\"\\"] sg = some (.str sgn) ∧ strOk sgn ∧ 1 ≤ sgn.length ∧ sgn.length ≤ 200 := by
    have : sg = 0 ∨ sg = 1 := by omega
    rcases this with rfl | rfl
    · exact ⟨_, atI_0, strOk_of (by decide +kernel), by decide +kernel, by decide +kernel⟩
    · exact ⟨_, atI_1, strOk_of (by decide +kernel), by decide +kernel, by decide +kernel⟩
  refine ⟨_, hsg, ?_⟩
  apply s_seq
  apply s_set
  simp only [List.map_cons, List.map_nil, List.length_cons, List.length_nil, List.replicate, List.nil_append, List.cons_append, Nat.reduceAdd, Nat.reduceSub, Nat.zero_add, List.append_nil, e_bin, e_c, e_un, e_if, e_eB, e_nil, e_cons, e_lst, e_tup, e_call, e_fn, e_fnK, e_meth, e_sl, e_pNo, e_eI, e_chain, e_var, eVar, List.getElem?_cons_zero, List.getElem?_cons_succ, o_ok, o_okD, o_none, o_guard, o_op2, o_opI, o_addI, o_addS, o_addL, o_addT, o_mulI, o_mulL, o_ixD, o_ixT, o_ixN, o_ixS, peek_d, peek_tl, peekV_d, asB_d, conv_d, conv_al, conv_nl, conv_vt, conv_at, conv_nt, toVal_d, toVal_t, convV_d, toDs_nil, toDs_cons, ca1_d, ca2_d, plOf_loc, seqQ_nx, seqQ_rt, seqQ_ex, retQ_rt, retQ_ex, rtQ_rt, handR_d, handR_t, fInt_i, fInt_b, fAbs_i, fMax_i, fMin_i, Option.some.injEq, Prod.mk.injEq, exists_eq_left', exists_eq_left, exists_eq', exists_and_left, exists_and_right, and_true, true_and, List.set_cons_zero, List.set_cons_succ, Bool.true_eq_false, Bool.false_eq_true, forall_const, D.int.injEq, D.str.injEq, D.bl.injEq, D.lst.injEq, D.tup.injEq, Res.d.injEq, SV.d.injEq, Option.map_some, atI_0, atI_1, atI_2, atI_3, decide_eq_true_eq, decide_eq_false_iff_not, and_assoc, tyOk_str, mStr1_d, o_join, o_joinT, o_split, caLen_d, fLen_l, fLen_t, o_lenS, o_slS, o_slL, ixR_n, ixR_i, o_eqI, i_rng, i_rngB, i_val, i_valT, i_str, e_comp, wipeE, o_inC, Bool.not_true, Bool.not_false, Bool.not_eq_true', Bool.not_eq_false', if_true, if_false, Bool.if_true_left, decide_true, decide_false, asg_nm, asg_tp2, asg_tp3, kvSV_d, List.cons.injEq]
  refine ⟨small_line (by omega), coinS (k := k + 300) hS3 hn (by omega) (by omega) fun si μ4 m0 m1 hS4 => ?_⟩
  simp only [List.map_cons, List.map_nil, List.length_cons, List.length_nil, List.replicate, List.nil_append, List.cons_append, Nat.reduceAdd, Nat.reduceSub, Nat.zero_add, List.append_nil, e_bin, e_c, e_un, e_if, e_eB, e_nil, e_cons, e_lst, e_tup, e_call, e_fn, e_fnK, e_meth, e_sl, e_pNo, e_eI, e_chain, e_var, eVar, List.getElem?_cons_zero, List.getElem?_cons_succ, o_ok, o_okD, o_none, o_guard, o_op2, o_opI, o_addI, o_addS, o_addL, o_addT, o_mulI, o_mulL, o_ixD, o_ixT, o_ixN, o_ixS, peek_d, peek_tl, peekV_d, asB_d, conv_d, conv_al, conv_nl, conv_vt, conv_at, conv_nt, toVal_d, toVal_t, convV_d, toDs_nil, toDs_cons, ca1_d, ca2_d, plOf_loc, seqQ_nx, seqQ_rt, seqQ_ex, retQ_rt, retQ_ex, rtQ_rt, handR_d, handR_t, fInt_i, fInt_b, fAbs_i, fMax_i, fMin_i, Option.some.injEq, Prod.mk.injEq, exists_eq_left', exists_eq_left, exists_eq', exists_and_left, exists_and_right, and_true, true_and, List.set_cons_zero, List.set_cons_succ, Bool.true_eq_false, Bool.false_eq_true, forall_const, D.int.injEq, D.str.injEq, D.bl.injEq, D.lst.injEq, D.tup.injEq, Res.d.injEq, SV.d.injEq, Option.map_some, atI_0, atI_1, atI_2, atI_3, decide_eq_true_eq, decide_eq_false_iff_not, and_assoc, tyOk_str, mStr1_d, o_join, o_joinT, o_split, caLen_d, fLen_l, fLen_t, o_lenS, o_slS, o_slL, ixR_n, ixR_i, o_eqI, i_rng, i_rngB, i_val, i_valT, i_str, e_comp, wipeE, o_inC, Bool.not_true, Bool.not_false, Bool.not_eq_true', Bool.not_eq_false', if_true, if_false, Bool.if_true_left, decide_true, decide_false, asg_nm, asg_tp2, asg_tp3, kvSV_d, List.cons.injEq]
  obtain ⟨c, hc, h1⟩ := char_at (z := sgn) (i := si) s0 m0 m1
  refine ⟨c, hc, small_line (by omega), ?_⟩
  have h1l := h1.1
  have done : ∀ z, Sx 170000 z → Q (.d (.str z)) (μ4.cut μ.m.length) := fun z hz => q z _ hz (hS4.le (Nat.le_add_right k 300)).out
  have a1 := hw.cut none (some spot)
  have a2 := hw.cut (some spot) none
  have a3 := hw.cut (some (spot + 1)) none
  have a1l := a1.1
  have a2l := a2.1
  have a3l := a3.1
  apply s_seq
  apply s_if
  simp only [List.map_cons, List.map_nil, List.length_cons, List.length_nil, List.replicate, List.nil_append, List.cons_append, Nat.reduceAdd, Nat.reduceSub, Nat.zero_add, List.append_nil, e_bin, e_c, e_un, e_if, e_eB, e_nil, e_cons, e_lst, e_tup, e_call, e_fn, e_fnK, e_meth, e_sl, e_pNo, e_eI, e_chain, e_var, eVar, List.getElem?_cons_zero, List.getElem?_cons_succ, o_ok, o_okD, o_none, o_guard, o_op2, o_opI, o_addI, o_addS, o_addL, o_addT, o_mulI, o_mulL, o_ixD, o_ixT, o_ixN, o_ixS, peek_d, peek_tl, peekV_d, asB_d, conv_d, conv_al, conv_nl, conv_vt, conv_at, conv_nt, toVal_d, toVal_t, convV_d, toDs_nil, toDs_cons, ca1_d, ca2_d, plOf_loc, seqQ_nx, seqQ_rt, seqQ_ex, retQ_rt, retQ_ex, rtQ_rt, handR_d, handR_t, fInt_i, fInt_b, fAbs_i, fMax_i, fMin_i, Option.some.injEq, Prod.mk.injEq, exists_eq_left', exists_eq_left, exists_eq', exists_and_left, exists_and_right, and_true, true_and, List.set_cons_zero, List.set_cons_succ, Bool.true_eq_false, Bool.false_eq_true, forall_const, D.int.injEq, D.str.injEq, D.bl.injEq, D.lst.injEq, D.tup.injEq, Res.d.injEq, SV.d.injEq, Option.map_some, atI_0, atI_1, atI_2, atI_3, decide_eq_true_eq, decide_eq_false_iff_not, and_assoc, tyOk_str, mStr1_d, o_join, o_joinT, o_split, caLen_d, fLen_l, fLen_t, o_lenS, o_slS, o_slL, ixR_n, ixR_i, o_eqI, i_rng, i_rngB, i_val, i_valT, i_str, e_comp, wipeE, o_inC, Bool.not_true, Bool.not_false, Bool.not_eq_true', Bool.not_eq_false', if_true, if_false, Bool.if_true_left, decide_true, decide_false, asg_nm, asg_tp2, asg_tp3, kvSV_d, List.cons.injEq]
  refine ⟨fun _ => ?_, fun _ => ?_⟩
  · apply s_ret
    simp only [List.map_cons, List.map_nil, List.length_cons, List.length_nil, List.replicate, List.nil_append, List.cons_append, Nat.reduceAdd, Nat.reduceSub, Nat.zero_add, List.append_nil, e_bin, e_c, e_un, e_if, e_eB, e_nil, e_cons, e_lst, e_tup, e_call, e_fn, e_fnK, e_meth, e_sl, e_pNo, e_eI, e_chain, e_var, eVar, List.getElem?_cons_zero, List.getElem?_cons_succ, o_ok, o_okD, o_none, o_guard, o_op2, o_opI, o_addI, o_addS, o_addL, o_addT, o_mulI, o_mulL, o_ixD, o_ixT, o_ixN, o_ixS, peek_d, peek_tl, peekV_d, asB_d, conv_d, conv_al, conv_nl, conv_vt, conv_at, conv_nt, toVal_d, toVal_t, convV_d, toDs_nil, toDs_cons, ca1_d, ca2_d, plOf_loc, seqQ_nx, seqQ_rt, seqQ_ex, retQ_rt, retQ_ex, rtQ_rt, handR_d, handR_t, fInt_i, fInt_b, fAbs_i, fMax_i, fMin_i, Option.some.injEq, Prod.mk.injEq, exists_eq_left', exists_eq_left, exists_eq', exists_and_left, exists_and_right, and_true, true_and, List.set_cons_zero, List.set_cons_succ, Bool.true_eq_false, Bool.false_eq_true, forall_const, D.int.injEq, D.str.injEq, D.bl.injEq, D.lst.injEq, D.tup.injEq, Res.d.injEq, SV.d.injEq, Option.map_some, atI_0, atI_1, atI_2, atI_3, decide_eq_true_eq, decide_eq_false_iff_not, and_assoc, tyOk_str, mStr1_d, o_join, o_joinT, o_split, caLen_d, fLen_l, fLen_t, o_lenS, o_slS, o_slL, ixR_n, ixR_i, o_eqI, i_rng, i_rngB, i_val, i_valT, i_str, e_comp, wipeE, o_inC, Bool.not_true, Bool.not_false, Bool.not_eq_true', Bool.not_eq_false', if_true, if_false, Bool.if_true_left, decide_true, decide_false, asg_nm, asg_tp2, asg_tp3, kvSV_d, List.cons.injEq]
    refine ⟨small_line (by omega), small_line (by omega), small_line (by omega), ?_, done _ (((a1.app h1).app a2).le (by decide))⟩
    rw [len_app]; exact small_line (by omega)
  apply s_nx
  apply s_seq
  apply s_if
  simp only [List.map_cons, List.map_nil, List.length_cons, List.length_nil, List.replicate, List.nil_append, List.cons_append, Nat.reduceAdd, Nat.reduceSub, Nat.zero_add, List.append_nil, e_bin, e_c, e_un, e_if, e_eB, e_nil, e_cons, e_lst, e_tup, e_call, e_fn, e_fnK, e_meth, e_sl, e_pNo, e_eI, e_chain, e_var, eVar, List.getElem?_cons_zero, List.getElem?_cons_succ, o_ok, o_okD, o_none, o_guard, o_op2, o_opI, o_addI, o_addS, o_addL, o_addT, o_mulI, o_mulL, o_ixD, o_ixT, o_ixN, o_ixS, peek_d, peek_tl, peekV_d, asB_d, conv_d, conv_al, conv_nl, conv_vt, conv_at, conv_nt, toVal_d, toVal_t, convV_d, toDs_nil, toDs_cons, ca1_d, ca2_d, plOf_loc, seqQ_nx, seqQ_rt, seqQ_ex, retQ_rt, retQ_ex, rtQ_rt, handR_d, handR_t, fInt_i, fInt_b, fAbs_i, fMax_i, fMin_i, Option.some.injEq, Prod.mk.injEq, exists_eq_left', exists_eq_left, exists_eq', exists_and_left, exists_and_right, and_true, true_and, List.set_cons_zero, List.set_cons_succ, Bool.true_eq_false, Bool.false_eq_true, forall_const, D.int.injEq, D.str.injEq, D.bl.injEq, D.lst.injEq, D.tup.injEq, Res.d.injEq, SV.d.injEq, Option.map_some, atI_0, atI_1, atI_2, atI_3, decide_eq_true_eq, decide_eq_false_iff_not, and_assoc, tyOk_str, mStr1_d, o_join, o_joinT, o_split, caLen_d, fLen_l, fLen_t, o_lenS, o_slS, o_slL, ixR_n, ixR_i, o_eqI, i_rng, i_rngB, i_val, i_valT, i_str, e_comp, wipeE, o_inC, Bool.not_true, Bool.not_false, Bool.not_eq_true', Bool.not_eq_false', if_true, if_false, Bool.if_true_left, decide_true, decide_false, asg_nm, asg_tp2, asg_tp3, kvSV_d, List.cons.injEq]
  refine ⟨fun _ => ?_, fun _ => ?_⟩
  · apply s_ret
    simp only [List.map_cons, List.map_nil, List.length_cons, List.length_nil, List.replicate, List.nil_append, List.cons_append, Nat.reduceAdd, Nat.reduceSub, Nat.zero_add, List.append_nil, e_bin, e_c, e_un, e_if, e_eB, e_nil, e_cons, e_lst, e_tup, e_call, e_fn, e_fnK, e_meth, e_sl, e_pNo, e_eI, e_chain, e_var, eVar, List.getElem?_cons_zero, List.getElem?_cons_succ, o_ok, o_okD, o_none, o_guard, o_op2, o_opI, o_addI, o_addS, o_addL, o_addT, o_mulI, o_mulL, o_ixD, o_ixT, o_ixN, o_ixS, peek_d, peek_tl, peekV_d, asB_d, conv_d, conv_al, conv_nl, conv_vt, conv_at, conv_nt, toVal_d, toVal_t, convV_d, toDs_nil, toDs_cons, ca1_d, ca2_d, plOf_loc, seqQ_nx, seqQ_rt, seqQ_ex, retQ_rt, retQ_ex, rtQ_rt, handR_d, handR_t, fInt_i, fInt_b, fAbs_i, fMax_i, fMin_i, Option.some.injEq, Prod.mk.injEq, exists_eq_left', exists_eq_left, exists_eq', exists_and_left, exists_and_right, and_true, true_and, List.set_cons_zero, List.set_cons_succ, Bool.true_eq_false, Bool.false_eq_true, forall_const, D.int.injEq, D.str.injEq, D.bl.injEq, D.lst.injEq, D.tup.injEq, Res.d.injEq, SV.d.injEq, Option.map_some, atI_0, atI_1, atI_2, atI_3, decide_eq_true_eq, decide_eq_false_iff_not, and_assoc, tyOk_str, mStr1_d, o_join, o_joinT, o_split, caLen_d, fLen_l, fLen_t, o_lenS, o_slS, o_slL, ixR_n, ixR_i, o_eqI, i_rng, i_rngB, i_val, i_valT, i_str, e_comp, wipeE, o_inC, Bool.not_true, Bool.not_false, Bool.not_eq_true', Bool.not_eq_false', if_true, if_false, Bool.if_true_left, decide_true, decide_false, asg_nm, asg_tp2, asg_tp3, kvSV_d, List.cons.injEq]
    exact ⟨small_line (by omega), small_line (by omega), small_line (by omega), done _ ((a1.app a3).le (by decide))⟩
  apply s_nx
  apply s_seq
  apply s_if
  simp only [List.map_cons, List.map_nil, List.length_cons, List.length_nil, List.replicate, List.nil_append, List.cons_append, Nat.reduceAdd, Nat.reduceSub, Nat.zero_add, List.append_nil, e_bin, e_c, e_un, e_if, e_eB, e_nil, e_cons, e_lst, e_tup, e_call, e_fn, e_fnK, e_meth, e_sl, e_pNo, e_eI, e_chain, e_var, eVar, List.getElem?_cons_zero, List.getElem?_cons_succ, o_ok, o_okD, o_none, o_guard, o_op2, o_opI, o_addI, o_addS, o_addL, o_addT, o_mulI, o_mulL, o_ixD, o_ixT, o_ixN, o_ixS, peek_d, peek_tl, peekV_d, asB_d, conv_d, conv_al, conv_nl, conv_vt, conv_at, conv_nt, toVal_d, toVal_t, convV_d, toDs_nil, toDs_cons, ca1_d, ca2_d, plOf_loc, seqQ_nx, seqQ_rt, seqQ_ex, retQ_rt, retQ_ex, rtQ_rt, handR_d, handR_t, fInt_i, fInt_b, fAbs_i, fMax_i, fMin_i, Option.some.injEq, Prod.mk.injEq, exists_eq_left', exists_eq_left, exists_eq', exists_and_left, exists_and_right, and_true, true_and, List.set_cons_zero, List.set_cons_succ, Bool.true_eq_false, Bool.false_eq_true, forall_const, D.int.injEq, D.str.injEq, D.bl.injEq, D.lst.injEq, D.tup.injEq, Res.d.injEq, SV.d.injEq, Option.map_some, atI_0, atI_1, atI_2, atI_3, decide_eq_true_eq, decide_eq_false_iff_not, and_assoc, tyOk_str, mStr1_d, o_join, o_joinT, o_split, caLen_d, fLen_l, fLen_t, o_lenS, o_slS, o_slL, ixR_n, ixR_i, o_eqI, i_rng, i_rngB, i_val, i_valT, i_str, e_comp, wipeE, o_inC, Bool.not_true, Bool.not_false, Bool.not_eq_true', Bool.not_eq_false', if_true, if_false, Bool.if_true_left, decide_true, decide_false, asg_nm, asg_tp2, asg_tp3, kvSV_d, List.cons.injEq]
  refine ⟨fun _ => ?_, fun _ => ?_⟩
  · apply s_ret
    simp only [List.map_cons, List.map_nil, List.length_cons, List.length_nil, List.replicate, List.nil_append, List.cons_append, Nat.reduceAdd, Nat.reduceSub, Nat.zero_add, List.append_nil, e_bin, e_c, e_un, e_if, e_eB, e_nil, e_cons, e_lst, e_tup, e_call, e_fn, e_fnK, e_meth, e_sl, e_pNo, e_eI, e_chain, e_var, eVar, List.getElem?_cons_zero, List.getElem?_cons_succ, o_ok, o_okD, o_none, o_guard, o_op2, o_opI, o_addI, o_addS, o_addL, o_addT, o_mulI, o_mulL, o_ixD, o_ixT, o_ixN, o_ixS, peek_d, peek_tl, peekV_d, asB_d, conv_d, conv_al, conv_nl, conv_vt, conv_at, conv_nt, toVal_d, toVal_t, convV_d, toDs_nil, toDs_cons, ca1_d, ca2_d, plOf_loc, seqQ_nx, seqQ_rt, seqQ_ex, retQ_rt, retQ_ex, rtQ_rt, handR_d, handR_t, fInt_i, fInt_b, fAbs_i, fMax_i, fMin_i, Option.some.injEq, Prod.mk.injEq, exists_eq_left', exists_eq_left, exists_eq', exists_and_left, exists_and_right, and_true, true_and, List.set_cons_zero, List.set_cons_succ, Bool.true_eq_false, Bool.false_eq_true, forall_const, D.int.injEq, D.str.injEq, D.bl.injEq, D.lst.injEq, D.tup.injEq, Res.d.injEq, SV.d.injEq, Option.map_some, atI_0, atI_1, atI_2, atI_3, decide_eq_true_eq, decide_eq_false_iff_not, and_assoc, tyOk_str, mStr1_d, o_join, o_joinT, o_split, caLen_d, fLen_l, fLen_t, o_lenS, o_slS, o_slL, ixR_n, ixR_i, o_eqI, i_rng, i_rngB, i_val, i_valT, i_str, e_comp, wipeE, o_inC, Bool.not_true, Bool.not_false, Bool.not_eq_true', Bool.not_eq_false', if_true, if_false, Bool.if_true_left, decide_true, decide_false, asg_nm, asg_tp2, asg_tp3, kvSV_d, List.cons.injEq]
    refine ⟨small_line (by omega), small_line (by omega), small_line (by omega), ?_, done _ (((a1.app h1).app a3).le (by decide))⟩
    rw [len_app]; exact small_line (by omega)
  apply s_nx
  apply s_seq
  apply s_if
  simp only [List.map_cons, List.map_nil, List.length_cons, List.length_nil, List.replicate, List.nil_append, List.cons_append, Nat.reduceAdd, Nat.reduceSub, Nat.zero_add, List.append_nil, e_bin, e_c, e_un, e_if, e_eB, e_nil, e_cons, e_lst, e_tup, e_call, e_fn, e_fnK, e_meth, e_sl, e_pNo, e_eI, e_chain, e_var, eVar, List.getElem?_cons_zero, List.getElem?_cons_succ, o_ok, o_okD, o_none, o_guard, o_op2, o_opI, o_addI, o_addS, o_addL, o_addT, o_mulI, o_mulL, o_ixD, o_ixT, o_ixN, o_ixS, peek_d, peek_tl, peekV_d, asB_d, conv_d, conv_al, conv_nl, conv_vt, conv_at, conv_nt, toVal_d, toVal_t, convV_d, toDs_nil, toDs_cons, ca1_d, ca2_d, plOf_loc, seqQ_nx, seqQ_rt, seqQ_ex, retQ_rt, retQ_ex, rtQ_rt, handR_d, handR_t, fInt_i, fInt_b, fAbs_i, fMax_i, fMin_i, Option.some.injEq, Prod.mk.injEq, exists_eq_left', exists_eq_left, exists_eq', exists_and_left, exists_and_right, and_true, true_and, List.set_cons_zero, List.set_cons_succ, Bool.true_eq_false, Bool.false_eq_true, forall_const, D.int.injEq, D.str.injEq, D.bl.injEq, D.lst.injEq, D.tup.injEq, Res.d.injEq, SV.d.injEq, Option.map_some, atI_0, atI_1, atI_2, atI_3, decide_eq_true_eq, decide_eq_false_iff_not, and_assoc, tyOk_str, mStr1_d, o_join, o_joinT, o_split, caLen_d, fLen_l, fLen_t, o_lenS, o_slS, o_slL, ixR_n, ixR_i, o_eqI, i_rng, i_rngB, i_val, i_valT, i_str, e_comp, wipeE, o_inC, Bool.not_true, Bool.not_false, Bool.not_eq_true', Bool.not_eq_false', if_true, if_false, Bool.if_true_left, decide_true, decide_false, asg_nm, asg_tp2, asg_tp3, kvSV_d, List.cons.injEq]
  refine ⟨fun _ => ?_, fun _ => ?_⟩
  · apply s_ret
    simp only [List.map_cons, List.map_nil, List.length_cons, List.length_nil, List.replicate, List.nil_append, List.cons_append, Nat.reduceAdd, Nat.reduceSub, Nat.zero_add, List.append_nil, e_bin, e_c, e_un, e_if, e_eB, e_nil, e_cons, e_lst, e_tup, e_call, e_fn, e_fnK, e_meth, e_sl, e_pNo, e_eI, e_chain, e_var, eVar, List.getElem?_cons_zero, List.getElem?_cons_succ, o_ok, o_okD, o_none, o_guard, o_op2, o_opI, o_addI, o_addS, o_addL, o_addT, o_mulI, o_mulL, o_ixD, o_ixT, o_ixN, o_ixS, peek_d, peek_tl, peekV_d, asB_d, conv_d, conv_al, conv_nl, conv_vt, conv_at, conv_nt, toVal_d, toVal_t, convV_d, toDs_nil, toDs_cons, ca1_d, ca2_d, plOf_loc, seqQ_nx, seqQ_rt, seqQ_ex, retQ_rt, retQ_ex, rtQ_rt, handR_d, handR_t, fInt_i, fInt_b, fAbs_i, fMax_i, fMin_i, Option.some.injEq, Prod.mk.injEq, exists_eq_left', exists_eq_left, exists_eq', exists_and_left, exists_and_right, and_true, true_and, List.set_cons_zero, List.set_cons_succ, Bool.true_eq_false, Bool.false_eq_true, forall_const, D.int.injEq, D.str.injEq, D.bl.injEq, D.lst.injEq, D.tup.injEq, Res.d.injEq, SV.d.injEq, Option.map_some, atI_0, atI_1, atI_2, atI_3, decide_eq_true_eq, decide_eq_false_iff_not, and_assoc, tyOk_str, mStr1_d, o_join, o_joinT, o_split, caLen_d, fLen_l, fLen_t, o_lenS, o_slS, o_slL, ixR_n, ixR_i, o_eqI, i_rng, i_rngB, i_val, i_valT, i_str, e_comp, wipeE, o_inC, Bool.not_true, Bool.not_false, Bool.not_eq_true', Bool.not_eq_false', if_true, if_false, Bool.if_true_left, decide_true, decide_false, asg_nm, asg_tp2, asg_tp3, kvSV_d, List.cons.injEq]
    refine odd_ok (k := k) (hS4.pur hn) (hw.le (by decide)) fun z μ5 hz w5 => ?_
    simp only [List.map_cons, List.map_nil, List.length_cons, List.length_nil, List.replicate, List.nil_append, List.cons_append, Nat.reduceAdd, Nat.reduceSub, Nat.zero_add, List.append_nil, e_bin, e_c, e_un, e_if, e_eB, e_nil, e_cons, e_lst, e_tup, e_call, e_fn, e_fnK, e_meth, e_sl, e_pNo, e_eI, e_chain, e_var, eVar, List.getElem?_cons_zero, List.getElem?_cons_succ, o_ok, o_okD, o_none, o_guard, o_op2, o_opI, o_addI, o_addS, o_addL, o_addT, o_mulI, o_mulL, o_ixD, o_ixT, o_ixN, o_ixS, peek_d, peek_tl, peekV_d, asB_d, conv_d, conv_al, conv_nl, conv_vt, conv_at, conv_nt, toVal_d, toVal_t, convV_d, toDs_nil, toDs_cons, ca1_d, ca2_d, plOf_loc, seqQ_nx, seqQ_rt, seqQ_ex, retQ_rt, retQ_ex, rtQ_rt, handR_d, handR_t, fInt_i, fInt_b, fAbs_i, fMax_i, fMin_i, Option.some.injEq, Prod.mk.injEq, exists_eq_left', exists_eq_left, exists_eq', exists_and_left, exists_and_right, and_true, true_and, List.set_cons_zero, List.set_cons_succ, Bool.true_eq_false, Bool.false_eq_true, forall_const, D.int.injEq, D.str.injEq, D.bl.injEq, D.lst.injEq, D.tup.injEq, Res.d.injEq, SV.d.injEq, Option.map_some, atI_0, atI_1, atI_2, atI_3, decide_eq_true_eq, decide_eq_false_iff_not, and_assoc, tyOk_str, mStr1_d, o_join, o_joinT, o_split, caLen_d, fLen_l, fLen_t, o_lenS, o_slS, o_slL, ixR_n, ixR_i, o_eqI, i_rng, i_rngB, i_val, i_valT, i_str, e_comp, wipeE, o_inC, Bool.not_true, Bool.not_false, Bool.not_eq_true', Bool.not_eq_false', if_true, if_false, Bool.if_true_left, decide_true, decide_false, asg_nm, asg_tp2, asg_tp3, kvSV_d, List.cons.injEq]
    exact q z _ (hz.le (by decide)) (hS4.pw hn w5).out
  apply s_nx
  exact marred9 (k := k) (hS4.le (by omega)) hn hw w0 q
end
end DF
namespace DF
open PySem PySem.Spec PyProof.Rows L2
/-! ### names -/
abbrev LET : Str := "abcdefghijklmnopqrstuvwxyz"
def isName (x : Str) : Bool := decide (1 ≤ x.length) && decide (x.length ≤ 8) && x.cps.toList.all fun c => decide (c ∈ LET.cps.toList)
theorem blsOf_map : ∀ bs : List Bool, blsOf (bs.map D.bl) = some bs
  | [] => rfl
  | b :: r => by
    show (match blsOf (r.map D.bl) with | some bs => some (b :: bs) | none => none) = _
    rw [blsOf_map r]
theorem o_all {μ : Sto} {bs : List Bool} {Q : Res → Sto → Prop} : wpO (fAll false μ (.lst (bs.map D.bl))) Q ↔ Q (.d (.bl (bs.all id))) μ := by
  have e : fAll false μ (.lst (bs.map D.bl)) = okD μ (.bl (bs.all id)) := by
    unfold fAll
    dsimp only
    rw [blsOf_map]
    rfl
  rw [e, o_okD]
section
variable {μ : Sto} {Q : Res → Sto → Prop} {x : Str}
def notLet : KV → Bool
  | .d (.str z) => !decide (z.cps.toList.getD 0 0 ∈ LET.cps.toList)
  | _ => false
def chD (c : Nat) : KV := .d (.str ⟨#[c]⟩)
theorem name_ok (hx : x.length ≤ 16777216) (q : Q (.d (.bl (isName x))) μ) : wpF f_is_name [.d (.str x)] μ (rtQ Q) := by
  have hc : c_LETTERS = eC (.str LET) := rfl
  apply f_def
  apply s_ret
  simp only [List.map_cons, List.map_nil, List.length_cons, List.length_nil, List.replicate, List.nil_append, List.cons_append, Nat.reduceAdd, Nat.reduceSub, Nat.zero_add, List.append_nil, e_bin, e_c, e_un, e_if, e_eB, e_nil, e_cons, e_lst, e_tup, e_call, e_fn, e_fnK, e_meth, e_sl, e_pNo, e_eI, e_chain, e_var, eVar, List.getElem?_cons_zero, List.getElem?_cons_succ, o_ok, o_okD, o_none, o_guard, o_op2, o_opI, o_addI, o_addS, o_addL, o_addT, o_mulI, o_mulL, o_ixD, o_ixT, o_ixN, o_ixS, peek_d, peek_tl, peekV_d, asB_d, conv_d, conv_al, conv_nl, conv_vt, conv_at, conv_nt, toVal_d, toVal_t, convV_d, toDs_nil, toDs_cons, ca1_d, ca2_d, plOf_loc, seqQ_nx, seqQ_rt, seqQ_ex, retQ_rt, retQ_ex, rtQ_rt, handR_d, handR_t, fInt_i, fInt_b, fAbs_i, fMax_i, fMin_i, Option.some.injEq, Prod.mk.injEq, exists_eq_left', exists_eq_left, exists_eq', exists_and_left, exists_and_right, and_true, true_and, List.set_cons_zero, List.set_cons_succ, Bool.true_eq_false, Bool.false_eq_true, forall_const, D.int.injEq, D.str.injEq, D.bl.injEq, D.lst.injEq, D.tup.injEq, Res.d.injEq, SV.d.injEq, Option.map_some, atI_0, atI_1, atI_2, atI_3, decide_eq_true_eq, decide_eq_false_iff_not, and_assoc, tyOk_str, mStr1_d, o_join, o_joinT, o_split, caLen_d, fLen_l, fLen_t, o_lenS, o_slS, o_slL, ixR_n, ixR_i, o_eqI, i_rng, i_rngB, i_val, i_valT, i_str, e_comp, wipeE, o_inC, Bool.not_true, Bool.not_false, Bool.not_eq_true', Bool.not_eq_false', if_true, if_false, Bool.if_true_left, decide_true, decide_false, asg_nm, asg_tp2, asg_tp3, kvSV_d, List.cons.injEq]
  refine ⟨small_line hx, fun h1 => ⟨fun h8 => ?_, fun h8 => ?_⟩, fun h1 => ⟨fun z => z.elim, ?_⟩⟩
  · refine map_comp _ (fun v => match v with | .d (.str z) => .bl (decide (z.cps.toList.getD 0 0 ∈ LET.cps.toList)) | _ => .non) (by rw [List.length_map, Array.length_toList]; show x.length ≤ _; omega) (fun v hv R r => ?_) ?_
    · obtain ⟨c, _, rfl⟩ := List.mem_map.mp hv
      simp only [List.map_cons, List.map_nil, List.length_cons, List.length_nil, List.replicate, List.nil_append, List.cons_append, Nat.reduceAdd, Nat.reduceSub, Nat.zero_add, List.append_nil, e_bin, e_c, e_un, e_if, e_eB, e_nil, e_cons, e_lst, e_tup, e_call, e_fn, e_fnK, e_meth, e_sl, e_pNo, e_eI, e_chain, e_var, eVar, List.getElem?_cons_zero, List.getElem?_cons_succ, o_ok, o_okD, o_none, o_guard, o_op2, o_opI, o_addI, o_addS, o_addL, o_addT, o_mulI, o_mulL, o_ixD, o_ixT, o_ixN, o_ixS, peek_d, peek_tl, peekV_d, asB_d, conv_d, conv_al, conv_nl, conv_vt, conv_at, conv_nt, toVal_d, toVal_t, convV_d, toDs_nil, toDs_cons, ca1_d, ca2_d, plOf_loc, seqQ_nx, seqQ_rt, seqQ_ex, retQ_rt, retQ_ex, rtQ_rt, handR_d, handR_t, fInt_i, fInt_b, fAbs_i, fMax_i, fMin_i, Option.some.injEq, Prod.mk.injEq, exists_eq_left', exists_eq_left, exists_eq', exists_and_left, exists_and_right, and_true, true_and, List.set_cons_zero, List.set_cons_succ, Bool.true_eq_false, Bool.false_eq_true, forall_const, D.int.injEq, D.str.injEq, D.bl.injEq, D.lst.injEq, D.tup.injEq, Res.d.injEq, SV.d.injEq, Option.map_some, atI_0, atI_1, atI_2, atI_3, decide_eq_true_eq, decide_eq_false_iff_not, and_assoc, tyOk_str, mStr1_d, o_join, o_joinT, o_split, caLen_d, fLen_l, fLen_t, o_lenS, o_slS, o_slL, ixR_n, ixR_i, o_eqI, i_rng, i_rngB, i_val, i_valT, i_str, e_comp, wipeE, o_inC, Bool.not_true, Bool.not_false, Bool.not_eq_true', Bool.not_eq_false', if_true, if_false, Bool.if_true_left, decide_true, decide_false, asg_nm, asg_tp2, asg_tp3, kvSV_d, List.cons.injEq, hc]
      exact r _ rfl
    · simp only [List.map_cons, List.map_nil, List.length_cons, List.length_nil, List.replicate, List.nil_append, List.cons_append, Nat.reduceAdd, Nat.reduceSub, Nat.zero_add, List.append_nil, e_bin, e_c, e_un, e_if, e_eB, e_nil, e_cons, e_lst, e_tup, e_call, e_fn, e_fnK, e_meth, e_sl, e_pNo, e_eI, e_chain, e_var, eVar, List.getElem?_cons_zero, List.getElem?_cons_succ, o_ok, o_okD, o_none, o_guard, o_op2, o_opI, o_addI, o_addS, o_addL, o_addT, o_mulI, o_mulL, o_ixD, o_ixT, o_ixN, o_ixS, peek_d, peek_tl, peekV_d, asB_d, conv_d, conv_al, conv_nl, conv_vt, conv_at, conv_nt, toVal_d, toVal_t, convV_d, toDs_nil, toDs_cons, ca1_d, ca2_d, plOf_loc, seqQ_nx, seqQ_rt, seqQ_ex, retQ_rt, retQ_ex, rtQ_rt, handR_d, handR_t, fInt_i, fInt_b, fAbs_i, fMax_i, fMin_i, Option.some.injEq, Prod.mk.injEq, exists_eq_left', exists_eq_left, exists_eq', exists_and_left, exists_and_right, and_true, true_and, List.set_cons_zero, List.set_cons_succ, Bool.true_eq_false, Bool.false_eq_true, forall_const, D.int.injEq, D.str.injEq, D.bl.injEq, D.lst.injEq, D.tup.injEq, Res.d.injEq, SV.d.injEq, Option.map_some, atI_0, atI_1, atI_2, atI_3, decide_eq_true_eq, decide_eq_false_iff_not, and_assoc, tyOk_str, mStr1_d, o_join, o_joinT, o_split, caLen_d, fLen_l, fLen_t, o_lenS, o_slS, o_slL, ixR_n, ixR_i, o_eqI, i_rng, i_rngB, i_val, i_valT, i_str, e_comp, wipeE, o_inC, Bool.not_true, Bool.not_false, Bool.not_eq_true', Bool.not_eq_false', if_true, if_false, Bool.if_true_left, decide_true, decide_false, asg_nm, asg_tp2, asg_tp3, kvSV_d, List.cons.injEq, List.map_map]
      have e : x.cps.toList.map ((fun v : KV => match v with | .d (.str z) => D.bl (decide (z.cps.toList.getD 0 0 ∈ LET.cps.toList)) | _ => D.non) ∘ fun c => KV.d (D.str ⟨#[c]⟩)) = (x.cps.toList.map fun c => decide (c ∈ LET.cps.toList)).map D.bl := by
        rw [List.map_map]
        rfl
      rw [e, o_all, cut_id (Nat.le_refl _), List.all_map]
      have e2 : isName x = (x.cps.toList.all (id ∘ fun c => decide (c ∈ LET.cps.toList))) := by
        unfold isName
        rw [decide_eq_true (by omega), decide_eq_true (by omega)]
        rfl
      rw [← e2]
      exact ⟨_, rfl, q⟩
  · rw [cut_id (Nat.le_refl _)]
    have e2 : isName x = false := by
      unfold isName
      rw [decide_eq_false (show ¬ x.length ≤ 8 by omega)]
      simp
    rw [← e2]; exact q
  · rw [cut_id (Nat.le_refl _)]
    have e2 : isName x = false := by
      unfold isName
      rw [decide_eq_false (show ¬ 1 ≤ x.length by omega)]
      simp
    rw [← e2]; exact q
theorem title_ok (hx : x.length ≤ 16777216) (q : Q (.d (.bl (isName x))) μ) : wpF f__law_is_title [.d (.str x)] μ (rtQ Q) := by
  apply f_def
  apply s_seq
  apply s_set
  simp only [List.map_cons, List.map_nil, List.length_cons, List.length_nil, List.replicate, List.nil_append, List.cons_append, Nat.reduceAdd, Nat.reduceSub, Nat.zero_add, List.append_nil, e_bin, e_c, e_un, e_if, e_eB, e_nil, e_cons, e_lst, e_tup, e_call, e_fn, e_fnK, e_meth, e_sl, e_pNo, e_eI, e_chain, e_var, eVar, List.getElem?_cons_zero, List.getElem?_cons_succ, o_ok, o_okD, o_none, o_guard, o_op2, o_opI, o_addI, o_addS, o_addL, o_addT, o_mulI, o_mulL, o_ixD, o_ixT, o_ixN, o_ixS, peek_d, peek_tl, peekV_d, asB_d, conv_d, conv_al, conv_nl, conv_vt, conv_at, conv_nt, toVal_d, toVal_t, convV_d, toDs_nil, toDs_cons, ca1_d, ca2_d, plOf_loc, seqQ_nx, seqQ_rt, seqQ_ex, retQ_rt, retQ_ex, rtQ_rt, handR_d, handR_t, fInt_i, fInt_b, fAbs_i, fMax_i, fMin_i, Option.some.injEq, Prod.mk.injEq, exists_eq_left', exists_eq_left, exists_eq', exists_and_left, exists_and_right, and_true, true_and, List.set_cons_zero, List.set_cons_succ, Bool.true_eq_false, Bool.false_eq_true, forall_const, D.int.injEq, D.str.injEq, D.bl.injEq, D.lst.injEq, D.tup.injEq, Res.d.injEq, SV.d.injEq, Option.map_some, atI_0, atI_1, atI_2, atI_3, decide_eq_true_eq, decide_eq_false_iff_not, and_assoc, tyOk_str, mStr1_d, o_join, o_joinT, o_split, caLen_d, fLen_l, fLen_t, o_lenS, o_slS, o_slL, ixR_n, ixR_i, o_eqI, i_rng, i_rngB, i_val, i_valT, i_str, e_comp, wipeE, o_inC, Bool.not_true, Bool.not_false, Bool.not_eq_true', Bool.not_eq_false', if_true, if_false, Bool.if_true_left, decide_true, decide_false, asg_nm, asg_tp2, asg_tp3, kvSV_d, List.cons.injEq]
  apply s_ret
  simp only [List.map_cons, List.map_nil, List.length_cons, List.length_nil, List.replicate, List.nil_append, List.cons_append, Nat.reduceAdd, Nat.reduceSub, Nat.zero_add, List.append_nil, e_bin, e_c, e_un, e_if, e_eB, e_nil, e_cons, e_lst, e_tup, e_call, e_fn, e_fnK, e_meth, e_sl, e_pNo, e_eI, e_chain, e_var, eVar, List.getElem?_cons_zero, List.getElem?_cons_succ, o_ok, o_okD, o_none, o_guard, o_op2, o_opI, o_addI, o_addS, o_addL, o_addT, o_mulI, o_mulL, o_ixD, o_ixT, o_ixN, o_ixS, peek_d, peek_tl, peekV_d, asB_d, conv_d, conv_al, conv_nl, conv_vt, conv_at, conv_nt, toVal_d, toVal_t, convV_d, toDs_nil, toDs_cons, ca1_d, ca2_d, plOf_loc, seqQ_nx, seqQ_rt, seqQ_ex, retQ_rt, retQ_ex, rtQ_rt, handR_d, handR_t, fInt_i, fInt_b, fAbs_i, fMax_i, fMin_i, Option.some.injEq, Prod.mk.injEq, exists_eq_left', exists_eq_left, exists_eq', exists_and_left, exists_and_right, and_true, true_and, List.set_cons_zero, List.set_cons_succ, Bool.true_eq_false, Bool.false_eq_true, forall_const, D.int.injEq, D.str.injEq, D.bl.injEq, D.lst.injEq, D.tup.injEq, Res.d.injEq, SV.d.injEq, Option.map_some, atI_0, atI_1, atI_2, atI_3, decide_eq_true_eq, decide_eq_false_iff_not, and_assoc, tyOk_str, mStr1_d, o_join, o_joinT, o_split, caLen_d, fLen_l, fLen_t, o_lenS, o_slS, o_slL, ixR_n, ixR_i, o_eqI, i_rng, i_rngB, i_val, i_valT, i_str, e_comp, wipeE, o_inC, Bool.not_true, Bool.not_false, Bool.not_eq_true', Bool.not_eq_false', if_true, if_false, Bool.if_true_left, decide_true, decide_false, asg_nm, asg_tp2, asg_tp3, kvSV_d, List.cons.injEq]
  refine ⟨small_line hx, fun h1 => ⟨fun h8 => ?_, fun h8 => ?_⟩, fun h1 => ⟨fun z => z.elim, ?_⟩⟩
  · have fin : ∀ (l : List KV), noObjs ((l.filter notLet).map kvD) = true := fun l => by
      induction l with
      | nil => rfl
      | cons v r ih =>
        rw [List.filter_cons]
        split
        · rename_i h
          rw [List.map_cons, noObjs, ih]
          cases v with
          | obj _ => cases h
          | d d => cases d with
            | str _ => rfl
            | _ => cases h
        · exact ih
    refine filter_comp _ notLet kvD (by rw [List.length_map, Array.length_toList]; show x.length ≤ _; omega) (fun v hv R r => ?_) (fun v hv hp R r => ?_) ?_
    · obtain ⟨c, _, rfl⟩ := List.mem_map.mp hv
      simp only [List.map_cons, List.map_nil, List.length_cons, List.length_nil, List.replicate, List.nil_append, List.cons_append, Nat.reduceAdd, Nat.reduceSub, Nat.zero_add, List.append_nil, e_bin, e_c, e_un, e_if, e_eB, e_nil, e_cons, e_lst, e_tup, e_call, e_fn, e_fnK, e_meth, e_sl, e_pNo, e_eI, e_chain, e_var, eVar, List.getElem?_cons_zero, List.getElem?_cons_succ, o_ok, o_okD, o_none, o_guard, o_op2, o_opI, o_addI, o_addS, o_addL, o_addT, o_mulI, o_mulL, o_ixD, o_ixT, o_ixN, o_ixS, peek_d, peek_tl, peekV_d, asB_d, conv_d, conv_al, conv_nl, conv_vt, conv_at, conv_nt, toVal_d, toVal_t, convV_d, toDs_nil, toDs_cons, ca1_d, ca2_d, plOf_loc, seqQ_nx, seqQ_rt, seqQ_ex, retQ_rt, retQ_ex, rtQ_rt, handR_d, handR_t, fInt_i, fInt_b, fAbs_i, fMax_i, fMin_i, Option.some.injEq, Prod.mk.injEq, exists_eq_left', exists_eq_left, exists_eq', exists_and_left, exists_and_right, and_true, true_and, List.set_cons_zero, List.set_cons_succ, Bool.true_eq_false, Bool.false_eq_true, forall_const, D.int.injEq, D.str.injEq, D.bl.injEq, D.lst.injEq, D.tup.injEq, Res.d.injEq, SV.d.injEq, Option.map_some, atI_0, atI_1, atI_2, atI_3, decide_eq_true_eq, decide_eq_false_iff_not, and_assoc, tyOk_str, mStr1_d, o_join, o_joinT, o_split, caLen_d, fLen_l, fLen_t, o_lenS, o_slS, o_slL, ixR_n, ixR_i, o_eqI, i_rng, i_rngB, i_val, i_valT, i_str, e_comp, wipeE, o_inC, Bool.not_true, Bool.not_false, Bool.not_eq_true', Bool.not_eq_false', if_true, if_false, Bool.if_true_left, decide_true, decide_false, asg_nm, asg_tp2, asg_tp3, kvSV_d, List.cons.injEq]
      exact r
    · obtain ⟨c, _, rfl⟩ := List.mem_map.mp hv
      simp only [List.map_cons, List.map_nil, List.length_cons, List.length_nil, List.replicate, List.nil_append, List.cons_append, Nat.reduceAdd, Nat.reduceSub, Nat.zero_add, List.append_nil, e_bin, e_c, e_un, e_if, e_eB, e_nil, e_cons, e_lst, e_tup, e_call, e_fn, e_fnK, e_meth, e_sl, e_pNo, e_eI, e_chain, e_var, eVar, List.getElem?_cons_zero, List.getElem?_cons_succ, o_ok, o_okD, o_none, o_guard, o_op2, o_opI, o_addI, o_addS, o_addL, o_addT, o_mulI, o_mulL, o_ixD, o_ixT, o_ixN, o_ixS, peek_d, peek_tl, peekV_d, asB_d, conv_d, conv_al, conv_nl, conv_vt, conv_at, conv_nt, toVal_d, toVal_t, convV_d, toDs_nil, toDs_cons, ca1_d, ca2_d, plOf_loc, seqQ_nx, seqQ_rt, seqQ_ex, retQ_rt, retQ_ex, rtQ_rt, handR_d, handR_t, fInt_i, fInt_b, fAbs_i, fMax_i, fMin_i, Option.some.injEq, Prod.mk.injEq, exists_eq_left', exists_eq_left, exists_eq', exists_and_left, exists_and_right, and_true, true_and, List.set_cons_zero, List.set_cons_succ, Bool.true_eq_false, Bool.false_eq_true, forall_const, D.int.injEq, D.str.injEq, D.bl.injEq, D.lst.injEq, D.tup.injEq, Res.d.injEq, SV.d.injEq, Option.map_some, atI_0, atI_1, atI_2, atI_3, decide_eq_true_eq, decide_eq_false_iff_not, and_assoc, tyOk_str, mStr1_d, o_join, o_joinT, o_split, caLen_d, fLen_l, fLen_t, o_lenS, o_slS, o_slL, ixR_n, ixR_i, o_eqI, i_rng, i_rngB, i_val, i_valT, i_str, e_comp, wipeE, o_inC, Bool.not_true, Bool.not_false, Bool.not_eq_true', Bool.not_eq_false', if_true, if_false, Bool.if_true_left, decide_true, decide_false, asg_nm, asg_tp2, asg_tp3, kvSV_d, List.cons.injEq]
      exact r _ rfl
    · have e2 : isName x = D.eq (.lst (((x.cps.toList.map fun c => KV.d (D.str ⟨#[c]⟩)).filter notLet).map kvD)) (.lst []) := by
        unfold isName
        rw [decide_eq_true (by omega), decide_eq_true (by omega), D.eq_lst, List.filter_map, List.map_map]
        show (true && true && (x.cps.toList.all fun c => decide (c ∈ LET.cps.toList))) = D.eqs ((x.cps.toList.filter fun c => !decide (c ∈ LET.cps.toList)).map fun c => D.str ⟨#[c]⟩) []
        cases hf : x.cps.toList.filter (fun c => !decide (c ∈ LET.cps.toList)) with
        | nil =>
          rw [List.map_nil, D.eqs_nil]
          have := List.filter_eq_nil_iff.mp hf
          have : (x.cps.toList.all fun c => decide (c ∈ LET.cps.toList)) = true := List.all_eq_true.mpr fun c hc => by
            have := this c hc
            simpa using this
          rw [this]; rfl
        | cons c r =>
          rw [List.map_cons, D.eqs_cn]
          have hc : c ∈ x.cps.toList.filter (fun c => !decide (c ∈ LET.cps.toList)) := by rw [hf]; exact List.mem_cons_self
          obtain ⟨h1, h2⟩ := List.mem_filter.mp hc
          have : (x.cps.toList.all fun c => decide (c ∈ LET.cps.toList)) = false := List.all_eq_false.mpr ⟨c, h1, by simpa using h2⟩
          rw [this]; rfl
      have d1 : dep (.lst []) = 1 := by simp [dep, deps]
      generalize hl : ((x.cps.toList.map fun c => KV.d (D.str ⟨#[c]⟩)).filter notLet).map kvD = fl at e2 ⊢
      have hno : noObjs fl = true := by rw [← hl]; exact fin _
      simp only [List.map_cons, List.map_nil, List.length_cons, List.length_nil, List.replicate, List.nil_append, List.cons_append, Nat.reduceAdd, Nat.reduceSub, Nat.zero_add, List.append_nil, e_bin, e_c, e_un, e_if, e_eB, e_nil, e_cons, e_lst, e_tup, e_call, e_fn, e_fnK, e_meth, e_sl, e_pNo, e_eI, e_chain, e_var, eVar, List.getElem?_cons_zero, List.getElem?_cons_succ, o_ok, o_okD, o_none, o_guard, o_op2, o_opI, o_addI, o_addS, o_addL, o_addT, o_mulI, o_mulL, o_ixD, o_ixT, o_ixN, o_ixS, peek_d, peek_tl, peekV_d, asB_d, conv_d, conv_al, conv_nl, conv_vt, conv_at, conv_nt, toVal_d, toVal_t, convV_d, toDs_nil, toDs_cons, ca1_d, ca2_d, plOf_loc, seqQ_nx, seqQ_rt, seqQ_ex, retQ_rt, retQ_ex, rtQ_rt, handR_d, handR_t, fInt_i, fInt_b, fAbs_i, fMax_i, fMin_i, Option.some.injEq, Prod.mk.injEq, exists_eq_left', exists_eq_left, exists_eq', exists_and_left, exists_and_right, and_true, true_and, List.set_cons_zero, List.set_cons_succ, Bool.true_eq_false, Bool.false_eq_true, forall_const, D.int.injEq, D.str.injEq, D.bl.injEq, D.lst.injEq, D.tup.injEq, Res.d.injEq, SV.d.injEq, Option.map_some, atI_0, atI_1, atI_2, atI_3, decide_eq_true_eq, decide_eq_false_iff_not, and_assoc, tyOk_str, mStr1_d, o_join, o_joinT, o_split, caLen_d, fLen_l, fLen_t, o_lenS, o_slS, o_slL, ixR_n, ixR_i, o_eqI, i_rng, i_rngB, i_val, i_valT, i_str, e_comp, wipeE, o_inC, Bool.not_true, Bool.not_false, Bool.not_eq_true', Bool.not_eq_false', if_true, if_false, Bool.if_true_left, decide_true, decide_false, asg_nm, asg_tp2, asg_tp3, kvSV_d, List.cons.injEq, o_eqL]
      refine ⟨small_line (by decide), by rw [noObj]; exact hno, rfl, by rw [d1]; omega, ?_⟩
      rw [cut_id (Nat.le_refl _), ← e2]
      exact q
  · rw [cut_id (Nat.le_refl _)]
    have e2 : isName x = false := by
      unfold isName
      rw [decide_eq_false (show ¬ x.length ≤ 8 by omega)]
      simp
    rw [← e2]; exact q
  · rw [cut_id (Nat.le_refl _)]
    have e2 : isName x = false := by
      unfold isName
      rw [decide_eq_false (show ¬ 1 ≤ x.length by omega)]
      simp
    rw [← e2]; exact q
end
end DF
namespace DF
open PySem PySem.Spec PyProof.Rows L2
def inPE (ps : List Str) : Bool := [D.lst [D.str "put"], D.lst [D.str "edition"]].any fun z => D.eq z (.lst (ps.map D.str))
def inSR (x : Str) : Bool := [D.str "set", D.str "rewrite"].any fun z => D.eq z (.str x)
def isDeed (ps : List Str) : Bool := inPE ps || (decide (ps.length = 2) && inSR (ps.getD 0 "") && isName (ps.getD 1 ""))
def strL (ps : List Str) : D := .lst (ps.map D.str)
theorem at_two {ps : List Str} (h : ps.length = 2) : ps = [ps.getD 0 "", ps.getD 1 ""] := by
  cases ps with
  | nil => cases h
  | cons a r =>
    cases r with
    | nil => cases h
    | cons b r =>
      cases r with
      | nil => rfl
      | cons _ _ => simp at h
theorem noObj_strL (ps : List Str) : noObj (strL ps) = true := by unfold strL; rw [noObj]; exact noObjs_strs ps
theorem dep_strL (ps : List Str) : dep (strL ps) = 1 := by unfold strL; rw [dep, deps_strs]
section
variable {μ : Sto} {Q : Res → Sto → Prop} {ps : List Str} {R : Res → Sto → Prop} {ν : Sto}
theorem o_inPE : wpO (fIn false ν (.lst (ps.map D.str)) (.tup [.lst [.str "put"], .lst [.str "edition"]])) R ↔ R (.d (.bl (inPE ps))) ν := by
  rw [o_inT]
  refine ⟨fun z => z.2, fun z => ⟨⟨noObj_strL ps, rfl, ?_⟩, z⟩⟩
  have : dep (.lst (ps.map D.str)) = 1 := dep_strL ps
  rw [this]
  omega
theorem o_inSR {x : Str} : wpO (fIn false ν (.str x) (.tup [.str "set", .str "rewrite"])) R ↔ R (.d (.bl (inSR x))) ν := by
  rw [o_inT]
  refine ⟨fun z => z.2, fun z => ⟨⟨rfl, rfl, ?_⟩, z⟩⟩
  simp [dep]
theorem deed_ok (hp : ∀ p ∈ ps, p.length ≤ 16777216) (q : Q (.d (.bl (isDeed ps))) μ) : wpF f_is_deed [.d (.lst (ps.map D.str))] μ (rtQ Q) := by
  apply f_def
  apply s_seq
  apply s_if
  simp only [List.map_cons, List.map_nil, List.length_cons, List.length_nil, List.replicate, List.nil_append, List.cons_append, Nat.reduceAdd, Nat.reduceSub, Nat.zero_add, List.append_nil, e_bin, e_c, e_un, e_if, e_eB, e_nil, e_cons, e_lst, e_tup, e_call, e_fn, e_fnK, e_meth, e_sl, e_pNo, e_eI, e_chain, e_var, eVar, List.getElem?_cons_zero, List.getElem?_cons_succ, o_ok, o_okD, o_none, o_guard, o_op2, o_opI, o_addI, o_addS, o_addL, o_addT, o_mulI, o_mulL, o_ixD, o_ixT, o_ixN, o_ixS, peek_d, peek_tl, peekV_d, asB_d, conv_d, conv_al, conv_nl, conv_vt, conv_at, conv_nt, toVal_d, toVal_t, convV_d, toDs_nil, toDs_cons, ca1_d, ca2_d, plOf_loc, seqQ_nx, seqQ_rt, seqQ_ex, retQ_rt, retQ_ex, rtQ_rt, handR_d, handR_t, fInt_i, fInt_b, fAbs_i, fMax_i, fMin_i, Option.some.injEq, Prod.mk.injEq, exists_eq_left', exists_eq_left, exists_eq', exists_and_left, exists_and_right, and_true, true_and, List.set_cons_zero, List.set_cons_succ, Bool.true_eq_false, Bool.false_eq_true, forall_const, D.int.injEq, D.str.injEq, D.bl.injEq, D.lst.injEq, D.tup.injEq, Res.d.injEq, SV.d.injEq, Option.map_some, atI_0, atI_1, atI_2, atI_3, decide_eq_true_eq, decide_eq_false_iff_not, and_assoc, tyOk_str, mStr1_d, o_join, o_joinT, o_split, caLen_d, fLen_l, fLen_t, o_lenS, o_slS, o_slL, ixR_n, ixR_i, o_eqI, i_rng, i_rngB, i_val, i_valT, i_str, e_comp, wipeE, o_inC, Bool.not_true, Bool.not_false, Bool.not_eq_true', Bool.not_eq_false', if_true, if_false, Bool.if_true_left, decide_true, decide_false, asg_nm, asg_tp2, asg_tp3, kvSV_d, List.cons.injEq, o_inPE]
  refine ⟨small_line (by decide), small_line (by decide), small_line (by decide), fun h => ?_, fun h => ?_⟩
  · apply s_ret
    simp only [List.map_cons, List.map_nil, List.length_cons, List.length_nil, List.replicate, List.nil_append, List.cons_append, Nat.reduceAdd, Nat.reduceSub, Nat.zero_add, List.append_nil, e_bin, e_c, e_un, e_if, e_eB, e_nil, e_cons, e_lst, e_tup, e_call, e_fn, e_fnK, e_meth, e_sl, e_pNo, e_eI, e_chain, e_var, eVar, List.getElem?_cons_zero, List.getElem?_cons_succ, o_ok, o_okD, o_none, o_guard, o_op2, o_opI, o_addI, o_addS, o_addL, o_addT, o_mulI, o_mulL, o_ixD, o_ixT, o_ixN, o_ixS, peek_d, peek_tl, peekV_d, asB_d, conv_d, conv_al, conv_nl, conv_vt, conv_at, conv_nt, toVal_d, toVal_t, convV_d, toDs_nil, toDs_cons, ca1_d, ca2_d, plOf_loc, seqQ_nx, seqQ_rt, seqQ_ex, retQ_rt, retQ_ex, rtQ_rt, handR_d, handR_t, fInt_i, fInt_b, fAbs_i, fMax_i, fMin_i, Option.some.injEq, Prod.mk.injEq, exists_eq_left', exists_eq_left, exists_eq', exists_and_left, exists_and_right, and_true, true_and, List.set_cons_zero, List.set_cons_succ, Bool.true_eq_false, Bool.false_eq_true, forall_const, D.int.injEq, D.str.injEq, D.bl.injEq, D.lst.injEq, D.tup.injEq, Res.d.injEq, SV.d.injEq, Option.map_some, atI_0, atI_1, atI_2, atI_3, decide_eq_true_eq, decide_eq_false_iff_not, and_assoc, tyOk_str, mStr1_d, o_join, o_joinT, o_split, caLen_d, fLen_l, fLen_t, o_lenS, o_slS, o_slL, ixR_n, ixR_i, o_eqI, i_rng, i_rngB, i_val, i_valT, i_str, e_comp, wipeE, o_inC, Bool.not_true, Bool.not_false, Bool.not_eq_true', Bool.not_eq_false', if_true, if_false, Bool.if_true_left, decide_true, decide_false, asg_nm, asg_tp2, asg_tp3, kvSV_d, List.cons.injEq]
    rw [cut_id (Nat.le_refl _)]
    have : isDeed ps = true := by unfold isDeed; rw [h]; rfl
    rw [← this]
    exact q
  · apply s_nx
    apply s_ret
    simp only [List.map_cons, List.map_nil, List.length_cons, List.length_nil, List.replicate, List.nil_append, List.cons_append, Nat.reduceAdd, Nat.reduceSub, Nat.zero_add, List.append_nil, e_bin, e_c, e_un, e_if, e_eB, e_nil, e_cons, e_lst, e_tup, e_call, e_fn, e_fnK, e_meth, e_sl, e_pNo, e_eI, e_chain, e_var, eVar, List.getElem?_cons_zero, List.getElem?_cons_succ, o_ok, o_okD, o_none, o_guard, o_op2, o_opI, o_addI, o_addS, o_addL, o_addT, o_mulI, o_mulL, o_ixD, o_ixT, o_ixN, o_ixS, peek_d, peek_tl, peekV_d, asB_d, conv_d, conv_al, conv_nl, conv_vt, conv_at, conv_nt, toVal_d, toVal_t, convV_d, toDs_nil, toDs_cons, ca1_d, ca2_d, plOf_loc, seqQ_nx, seqQ_rt, seqQ_ex, retQ_rt, retQ_ex, rtQ_rt, handR_d, handR_t, fInt_i, fInt_b, fAbs_i, fMax_i, fMin_i, Option.some.injEq, Prod.mk.injEq, exists_eq_left', exists_eq_left, exists_eq', exists_and_left, exists_and_right, and_true, true_and, List.set_cons_zero, List.set_cons_succ, Bool.true_eq_false, Bool.false_eq_true, forall_const, D.int.injEq, D.str.injEq, D.bl.injEq, D.lst.injEq, D.tup.injEq, Res.d.injEq, SV.d.injEq, Option.map_some, atI_0, atI_1, atI_2, atI_3, decide_eq_true_eq, decide_eq_false_iff_not, and_assoc, tyOk_str, mStr1_d, o_join, o_joinT, o_split, caLen_d, fLen_l, fLen_t, o_lenS, o_slS, o_slL, ixR_n, ixR_i, o_eqI, i_rng, i_rngB, i_val, i_valT, i_str, e_comp, wipeE, o_inC, Bool.not_true, Bool.not_false, Bool.not_eq_true', Bool.not_eq_false', if_true, if_false, Bool.if_true_left, decide_true, decide_false, asg_nm, asg_tp2, asg_tp3, kvSV_d, List.cons.injEq, o_inSR]
    rw [cut_id (Nat.le_refl _)]
    refine ⟨fun hl => ?_, fun hl => ?_⟩
    · rw [List.length_map] at hl
      have hl : ps.length = 2 := by omega
      have hps := at_two hl
      have e0 : atI (ps.map D.str) 0 = some (.str (ps.getD 0 "")) := by rw [hps]; exact atI_0
      have e1 : atI (ps.map D.str) 1 = some (.str (ps.getD 1 "")) := by rw [hps]; exact atI_1
      rw [e0]
      simp only [List.map_cons, List.map_nil, List.length_cons, List.length_nil, List.replicate, List.nil_append, List.cons_append, Nat.reduceAdd, Nat.reduceSub, Nat.zero_add, List.append_nil, e_bin, e_c, e_un, e_if, e_eB, e_nil, e_cons, e_lst, e_tup, e_call, e_fn, e_fnK, e_meth, e_sl, e_pNo, e_eI, e_chain, e_var, eVar, List.getElem?_cons_zero, List.getElem?_cons_succ, o_ok, o_okD, o_none, o_guard, o_op2, o_opI, o_addI, o_addS, o_addL, o_addT, o_mulI, o_mulL, o_ixD, o_ixT, o_ixN, o_ixS, peek_d, peek_tl, peekV_d, asB_d, conv_d, conv_al, conv_nl, conv_vt, conv_at, conv_nt, toVal_d, toVal_t, convV_d, toDs_nil, toDs_cons, ca1_d, ca2_d, plOf_loc, seqQ_nx, seqQ_rt, seqQ_ex, retQ_rt, retQ_ex, rtQ_rt, handR_d, handR_t, fInt_i, fInt_b, fAbs_i, fMax_i, fMin_i, Option.some.injEq, Prod.mk.injEq, exists_eq_left', exists_eq_left, exists_eq', exists_and_left, exists_and_right, and_true, true_and, List.set_cons_zero, List.set_cons_succ, Bool.true_eq_false, Bool.false_eq_true, forall_const, D.int.injEq, D.str.injEq, D.bl.injEq, D.lst.injEq, D.tup.injEq, Res.d.injEq, SV.d.injEq, Option.map_some, atI_0, atI_1, atI_2, atI_3, decide_eq_true_eq, decide_eq_false_iff_not, and_assoc, tyOk_str, mStr1_d, o_join, o_joinT, o_split, caLen_d, fLen_l, fLen_t, o_lenS, o_slS, o_slL, ixR_n, ixR_i, o_eqI, i_rng, i_rngB, i_val, i_valT, i_str, e_comp, wipeE, o_inC, Bool.not_true, Bool.not_false, Bool.not_eq_true', Bool.not_eq_false', if_true, if_false, Bool.if_true_left, decide_true, decide_false, asg_nm, asg_tp2, asg_tp3, kvSV_d, List.cons.injEq, o_inSR, e1]
      refine ⟨small_line (by decide), fun hs => ?_, fun hs => ?_⟩
      · refine name_ok (hp _ (by rw [hps]; simp)) ?_
        have : isDeed ps = isName (ps.getD 1 "") := by unfold isDeed; rw [h, hl, hs]; rfl
        simp only [List.map_cons, List.map_nil, List.length_cons, List.length_nil, List.replicate, List.nil_append, List.cons_append, Nat.reduceAdd, Nat.reduceSub, Nat.zero_add, List.append_nil, e_bin, e_c, e_un, e_if, e_eB, e_nil, e_cons, e_lst, e_tup, e_call, e_fn, e_fnK, e_meth, e_sl, e_pNo, e_eI, e_chain, e_var, eVar, List.getElem?_cons_zero, List.getElem?_cons_succ, o_ok, o_okD, o_none, o_guard, o_op2, o_opI, o_addI, o_addS, o_addL, o_addT, o_mulI, o_mulL, o_ixD, o_ixT, o_ixN, o_ixS, peek_d, peek_tl, peekV_d, asB_d, conv_d, conv_al, conv_nl, conv_vt, conv_at, conv_nt, toVal_d, toVal_t, convV_d, toDs_nil, toDs_cons, ca1_d, ca2_d, plOf_loc, seqQ_nx, seqQ_rt, seqQ_ex, retQ_rt, retQ_ex, rtQ_rt, handR_d, handR_t, fInt_i, fInt_b, fAbs_i, fMax_i, fMin_i, Option.some.injEq, Prod.mk.injEq, exists_eq_left', exists_eq_left, exists_eq', exists_and_left, exists_and_right, and_true, true_and, List.set_cons_zero, List.set_cons_succ, Bool.true_eq_false, Bool.false_eq_true, forall_const, D.int.injEq, D.str.injEq, D.bl.injEq, D.lst.injEq, D.tup.injEq, Res.d.injEq, SV.d.injEq, Option.map_some, atI_0, atI_1, atI_2, atI_3, decide_eq_true_eq, decide_eq_false_iff_not, and_assoc, tyOk_str, mStr1_d, o_join, o_joinT, o_split, caLen_d, fLen_l, fLen_t, o_lenS, o_slS, o_slL, ixR_n, ixR_i, o_eqI, i_rng, i_rngB, i_val, i_valT, i_str, e_comp, wipeE, o_inC, Bool.not_true, Bool.not_false, Bool.not_eq_true', Bool.not_eq_false', if_true, if_false, Bool.if_true_left, decide_true, decide_false, asg_nm, asg_tp2, asg_tp3, kvSV_d, List.cons.injEq]
        rw [cut_id (Nat.le_refl _), ← this]
        exact q
      · have : isDeed ps = false := by unfold isDeed; rw [h, hs]; simp
        rw [← this, cut_id (Nat.le_refl _)]
        exact q
    · rw [List.length_map] at hl
      have hl : ¬ ps.length = 2 := by omega
      have : isDeed ps = false := by unfold isDeed; rw [h, decide_eq_false hl]; rfl
      rw [← this]
      exact q
/-! ### the parts of a text -/
def parts (t : Str) : List (List Str) := if t = "" then [] else (Txt.split t ", ").map fun p => Txt.split p " "
theorem jn (a : Str) (ps : List Str) : Txt.join a ps = Str.join a ps := by
  unfold Txt.join
  rw [PySem.StrLaws.glued_eq_join]
theorem join_one (p : Str) : Txt.join " " (Txt.split p " ") = p := by rw [jn, PySem.StrLaws.join_split]
theorem join_parts (t : Str) : Txt.join ", " ((parts t).map (Txt.join " ")) = t := by
  unfold parts
  split
  · rename_i h; subst h; rfl
  · rw [List.map_map]
    have : (Txt.join " " ∘ fun p => Txt.split p " ") = id := funext fun p => join_one p
    rw [this, List.map_id, jn, PySem.StrLaws.join_split]
theorem len_sep1 : (" " : Str).length = 1 := by decide +kernel
theorem len_sep2 : (", " : Str).length = 2 := by decide +kernel
theorem join_room {a : Str} {ps : List Str} {N : Nat} (ha : 1 ≤ a.length) (h : (Txt.join a ps).length ≤ N) : (ps.map (·.length)).sum + ps.length * a.length ≤ N + a.length := by
  rcases Classical.em (ps = []) with e | e
  · subst e; simp
  · have := join_len a e
    rw [← jn] at this
    omega
theorem parts_len {t : Str} : (parts t).length ≤ t.length + 1 := by
  unfold parts
  split
  · exact Nat.zero_le _
  · rw [List.length_map]
    exact (split_few (by rw [len_sep2]; decide)).1
theorem parts_ok {t : Str} {N : Nat} (ht : Sx N t) : ∀ ps ∈ parts t, (∀ p ∈ ps, Sx N p) ∧ Sx N (Txt.join " " ps) ∧ ps.length ≤ N + 1 := by
  unfold parts
  split
  · intro ps h; cases h
  · intro ps h
    obtain ⟨p, hp, rfl⟩ := List.mem_map.mp h
    have h1 := ht.split (y := ", ") (by rw [len_sep2]; decide) p hp
    refine ⟨h1.split (by rw [len_sep1]; decide), by rw [join_one]; exact h1, ?_⟩
    have := (split_few (x := p) (y := " ") (by rw [len_sep1]; decide)).1
    have := h1.1
    omega
/-- show_history of such parts -/
theorem show_ok {t : Str} (ht : Sx 200000 t) (q : Q (.d (.str t)) μ) : wpF f_show_history [.d (.lst ((parts t).map dD))] μ (rtQ Q) := by
  apply f_def
  apply s_ret
  simp only [List.map_cons, List.map_nil, List.length_cons, List.length_nil, List.replicate, List.nil_append, List.cons_append, Nat.reduceAdd, Nat.reduceSub, Nat.zero_add, List.append_nil, e_bin, e_c, e_un, e_if, e_eB, e_nil, e_cons, e_lst, e_tup, e_call, e_fn, e_fnK, e_meth, e_sl, e_pNo, e_eI, e_chain, e_var, eVar, List.getElem?_cons_zero, List.getElem?_cons_succ, o_ok, o_okD, o_none, o_guard, o_op2, o_opI, o_addI, o_addS, o_addL, o_addT, o_mulI, o_mulL, o_ixD, o_ixT, o_ixN, o_ixS, peek_d, peek_tl, peekV_d, asB_d, conv_d, conv_al, conv_nl, conv_vt, conv_at, conv_nt, toVal_d, toVal_t, convV_d, toDs_nil, toDs_cons, ca1_d, ca2_d, plOf_loc, seqQ_nx, seqQ_rt, seqQ_ex, retQ_rt, retQ_ex, rtQ_rt, handR_d, handR_t, fInt_i, fInt_b, fAbs_i, fMax_i, fMin_i, Option.some.injEq, Prod.mk.injEq, exists_eq_left', exists_eq_left, exists_eq', exists_and_left, exists_and_right, and_true, true_and, List.set_cons_zero, List.set_cons_succ, Bool.true_eq_false, Bool.false_eq_true, forall_const, D.int.injEq, D.str.injEq, D.bl.injEq, D.lst.injEq, D.tup.injEq, Res.d.injEq, SV.d.injEq, Option.map_some, atI_0, atI_1, atI_2, atI_3, decide_eq_true_eq, decide_eq_false_iff_not, and_assoc, tyOk_str, mStr1_d, o_join, o_joinT, o_split, caLen_d, fLen_l, fLen_t, o_lenS, o_slS, o_slL, ixR_n, ixR_i, o_eqI, i_rng, i_rngB, i_val, i_valT, i_str, e_comp, wipeE, o_inC, Bool.not_true, Bool.not_false, Bool.not_eq_true', Bool.not_eq_false', if_true, if_false, Bool.if_true_left, decide_true, decide_false, asg_nm, asg_tp2, asg_tp3, kvSV_d, List.cons.injEq]
  have hp := parts_ok ht
  have hl := parts_len (t := t)
  have htl := ht.1
  refine map_comp _ (fun v => match v with | .d (.tup ds) => .str (Txt.join " " ((strsOf ds).getD [])) | _ => .non) (by rw [kvs_map, List.length_map]; omega) (fun v hv R r => ?_) ?_
  · rw [kvs_map] at hv
    obtain ⟨ps, hps, rfl⟩ := List.mem_map.mp hv
    obtain ⟨h1, h2, h3⟩ := hp ps hps
    simp only [List.map_cons, List.map_nil, List.length_cons, List.length_nil, List.replicate, List.nil_append, List.cons_append, Nat.reduceAdd, Nat.reduceSub, Nat.zero_add, List.append_nil, e_bin, e_c, e_un, e_if, e_eB, e_nil, e_cons, e_lst, e_tup, e_call, e_fn, e_fnK, e_meth, e_sl, e_pNo, e_eI, e_chain, e_var, eVar, List.getElem?_cons_zero, List.getElem?_cons_succ, o_ok, o_okD, o_none, o_guard, o_op2, o_opI, o_addI, o_addS, o_addL, o_addT, o_mulI, o_mulL, o_ixD, o_ixT, o_ixN, o_ixS, peek_d, peek_tl, peekV_d, asB_d, conv_d, conv_al, conv_nl, conv_vt, conv_at, conv_nt, toVal_d, toVal_t, convV_d, toDs_nil, toDs_cons, ca1_d, ca2_d, plOf_loc, seqQ_nx, seqQ_rt, seqQ_ex, retQ_rt, retQ_ex, rtQ_rt, handR_d, handR_t, fInt_i, fInt_b, fAbs_i, fMax_i, fMin_i, Option.some.injEq, Prod.mk.injEq, exists_eq_left', exists_eq_left, exists_eq', exists_and_left, exists_and_right, and_true, true_and, List.set_cons_zero, List.set_cons_succ, Bool.true_eq_false, Bool.false_eq_true, forall_const, D.int.injEq, D.str.injEq, D.bl.injEq, D.lst.injEq, D.tup.injEq, Res.d.injEq, SV.d.injEq, Option.map_some, atI_0, atI_1, atI_2, atI_3, decide_eq_true_eq, decide_eq_false_iff_not, and_assoc, tyOk_str, mStr1_d, o_join, o_joinT, o_split, caLen_d, fLen_l, fLen_t, o_lenS, o_slS, o_slL, ixR_n, ixR_i, o_eqI, i_rng, i_rngB, i_val, i_valT, i_str, e_comp, wipeE, o_inC, Bool.not_true, Bool.not_false, Bool.not_eq_true', Bool.not_eq_false', if_true, if_false, Bool.if_true_left, decide_true, decide_false, asg_nm, asg_tp2, asg_tp3, kvSV_d, List.cons.injEq, dD]
    have := join_room (a := " ") (by rw [len_sep1]; decide) h2.1
    refine ⟨by rw [len_sep1] at this ⊢; omega, r _ ?_⟩
    show some (D.str (Txt.join " " ps), μ) = some (D.str (Txt.join " " ((strsOf (ps.map D.str)).getD [])), μ)
    rw [strsOf_map]
    rfl
  · have e : (kvs ((parts t).map dD)).map (fun v : KV => match v with | .d (.tup ds) => D.str (Txt.join " " ((strsOf ds).getD [])) | _ => D.non) = ((parts t).map (Txt.join " ")).map D.str := by
      rw [kvs_map, List.map_map, List.map_map]
      apply List.map_congr_left
      intro ps _
      show D.str (Txt.join " " ((strsOf (ps.map D.str)).getD [])) = D.str (Txt.join " " ps)
      rw [strsOf_map]; rfl
    rw [e]
    simp only [List.map_cons, List.map_nil, List.length_cons, List.length_nil, List.replicate, List.nil_append, List.cons_append, Nat.reduceAdd, Nat.reduceSub, Nat.zero_add, List.append_nil, e_bin, e_c, e_un, e_if, e_eB, e_nil, e_cons, e_lst, e_tup, e_call, e_fn, e_fnK, e_meth, e_sl, e_pNo, e_eI, e_chain, e_var, eVar, List.getElem?_cons_zero, List.getElem?_cons_succ, o_ok, o_okD, o_none, o_guard, o_op2, o_opI, o_addI, o_addS, o_addL, o_addT, o_mulI, o_mulL, o_ixD, o_ixT, o_ixN, o_ixS, peek_d, peek_tl, peekV_d, asB_d, conv_d, conv_al, conv_nl, conv_vt, conv_at, conv_nt, toVal_d, toVal_t, convV_d, toDs_nil, toDs_cons, ca1_d, ca2_d, plOf_loc, seqQ_nx, seqQ_rt, seqQ_ex, retQ_rt, retQ_ex, rtQ_rt, handR_d, handR_t, fInt_i, fInt_b, fAbs_i, fMax_i, fMin_i, Option.some.injEq, Prod.mk.injEq, exists_eq_left', exists_eq_left, exists_eq', exists_and_left, exists_and_right, and_true, true_and, List.set_cons_zero, List.set_cons_succ, Bool.true_eq_false, Bool.false_eq_true, forall_const, D.int.injEq, D.str.injEq, D.bl.injEq, D.lst.injEq, D.tup.injEq, Res.d.injEq, SV.d.injEq, Option.map_some, atI_0, atI_1, atI_2, atI_3, decide_eq_true_eq, decide_eq_false_iff_not, and_assoc, tyOk_str, mStr1_d, o_join, o_joinT, o_split, caLen_d, fLen_l, fLen_t, o_lenS, o_slS, o_slL, ixR_n, ixR_i, o_eqI, i_rng, i_rngB, i_val, i_valT, i_str, e_comp, wipeE, o_inC, Bool.not_true, Bool.not_false, Bool.not_eq_true', Bool.not_eq_false', if_true, if_false, Bool.if_true_left, decide_true, decide_false, asg_nm, asg_tp2, asg_tp3, kvSV_d, List.cons.injEq]
    have := join_room (a := ", ") (ps := (parts t).map (Txt.join " ")) (N := t.length) (by rw [len_sep2]; decide) (by rw [join_parts]; exact Nat.le_refl _)
    refine ⟨by rw [len_sep2] at this ⊢; omega, ?_⟩
    rw [cut_id (Nat.le_refl _), join_parts]
    exact q
end
end DF
namespace DF
open PySem PySem.Spec PyProof.Rows L2
section
variable {μ : Sto} {ρ : En} {QF : FO → Prop} {QS : SO → Prop} {Q : Res → Sto → Prop} {t : Str}
def partL (t : Str) : D := .lst ((parts t).map strL)
theorem found_read (ht : Sx 170000 t) (e0 : ρ[0]? = some (some (.d (.str t)))) (h4 : 4 < ρ.length) (q : Q (.tmp (.lst ((parts t).map strL))) μ) :
    wpE (eIf (eBin (opEq true) (eVar 0) (eC (.str ""))) (eComp (iVal (eMeth "str" (mStr1 hSplit) (eVar 0) (aCons .a (eC (.str ", ")) (aNil)))) (.nm 4) [4] (eB true) (eMeth "str" (mStr1 hSplit) (eVar 4) (aCons .a (eC (.str " ")) (aNil)))) (eLst (aNil))) ρ μ Q := by
  have htl := ht.1
  have eo : ∀ (ν : Sto) (R : Res → Sto → Prop), wpO (fEq true ν (.str t) (.str "")) R ↔ R (.d (.bl (!decide (t = "")))) ν := fun ν R => by
    rw [o_eq, D.eq_str]
    exact ⟨fun z => z.2, fun z => ⟨⟨rfl, rfl, by simp [dep]⟩, z⟩⟩
  simp only [List.map_cons, List.map_nil, List.length_cons, List.length_nil, List.replicate, List.nil_append, List.cons_append, Nat.reduceAdd, Nat.reduceSub, Nat.zero_add, List.append_nil, e_bin, e_c, e_un, e_if, e_eB, e_nil, e_cons, e_lst, e_tup, e_call, e_fn, e_fnK, e_meth, e_sl, e_pNo, e_eI, e_chain, e_var, eVar, List.getElem?_cons_zero, List.getElem?_cons_succ, o_ok, o_okD, o_none, o_guard, o_op2, o_opI, o_addI, o_addS, o_addL, o_addT, o_mulI, o_mulL, o_ixD, o_ixT, o_ixN, o_ixS, peek_d, peek_tl, peekV_d, asB_d, conv_d, conv_al, conv_nl, conv_vt, conv_at, conv_nt, toVal_d, toVal_t, convV_d, toDs_nil, toDs_cons, ca1_d, ca2_d, plOf_loc, seqQ_nx, seqQ_rt, seqQ_ex, retQ_rt, retQ_ex, rtQ_rt, handR_d, handR_t, fInt_i, fInt_b, fAbs_i, fMax_i, fMin_i, Option.some.injEq, Prod.mk.injEq, exists_eq_left', exists_eq_left, exists_eq', exists_and_left, exists_and_right, and_true, true_and, List.set_cons_zero, List.set_cons_succ, Bool.true_eq_false, Bool.false_eq_true, forall_const, D.int.injEq, D.str.injEq, D.bl.injEq, D.lst.injEq, D.tup.injEq, Res.d.injEq, SV.d.injEq, Option.map_some, atI_0, atI_1, atI_2, atI_3, decide_eq_true_eq, decide_eq_false_iff_not, and_assoc, tyOk_str, mStr1_d, o_join, o_joinT, o_split, caLen_d, fLen_l, fLen_t, o_lenS, o_slS, o_slL, ixR_n, ixR_i, o_eqI, i_rng, i_rngB, i_val, i_valT, i_str, e_comp, wipeE, o_inC, Bool.not_true, Bool.not_false, Bool.not_eq_true', Bool.not_eq_false', if_true, if_false, Bool.if_true_left, decide_true, decide_false, asg_nm, asg_tp2, asg_tp3, kvSV_d, List.cons.injEq, e0, eo]
  refine ⟨fun h => ?_, fun h => ?_⟩
  · refine ⟨by decide +kernel, small_line (by omega), ?_⟩
    refine map_comp _ (fun v => match v with | .d (.str p) => strL (Txt.split p " ") | _ => .non) ?_ (fun v hv R r => ?_) ?_
    · rw [kvs_map, List.length_map]
      have := (split_few (x := t) (y := ", ") (by rw [len_sep2]; decide)).1
      omega
    · rw [kvs_map] at hv
      obtain ⟨p, hp, rfl⟩ := List.mem_map.mp hv
      have h1 := ht.split (y := ", ") (by rw [len_sep2]; decide) p hp
      have h1l := h1.1
      have eL : ∀ (ρ' : En) a, 4 < ρ'.length → (List.set ρ' 4 a)[4]? = some a := fun ρ' a h => List.getElem?_set_self h
      have hw : 4 < (wipeE ρ [4]).length := by rw [wipeE_length]; exact h4
      have e4 : ∀ a, (List.set (List.set ρ 4 none) 4 a)[4]? = some a := fun a => List.getElem?_set_self (by rw [List.length_set]; exact h4)
      simp only [List.map_cons, List.map_nil, List.length_cons, List.length_nil, List.replicate, List.nil_append, List.cons_append, Nat.reduceAdd, Nat.reduceSub, Nat.zero_add, List.append_nil, e_bin, e_c, e_un, e_if, e_eB, e_nil, e_cons, e_lst, e_tup, e_call, e_fn, e_fnK, e_meth, e_sl, e_pNo, e_eI, e_chain, e_var, eVar, List.getElem?_cons_zero, List.getElem?_cons_succ, o_ok, o_okD, o_none, o_guard, o_op2, o_opI, o_addI, o_addS, o_addL, o_addT, o_mulI, o_mulL, o_ixD, o_ixT, o_ixN, o_ixS, peek_d, peek_tl, peekV_d, asB_d, conv_d, conv_al, conv_nl, conv_vt, conv_at, conv_nt, toVal_d, toVal_t, convV_d, toDs_nil, toDs_cons, ca1_d, ca2_d, plOf_loc, seqQ_nx, seqQ_rt, seqQ_ex, retQ_rt, retQ_ex, rtQ_rt, handR_d, handR_t, fInt_i, fInt_b, fAbs_i, fMax_i, fMin_i, Option.some.injEq, Prod.mk.injEq, exists_eq_left', exists_eq_left, exists_eq', exists_and_left, exists_and_right, and_true, true_and, List.set_cons_zero, List.set_cons_succ, Bool.true_eq_false, Bool.false_eq_true, forall_const, D.int.injEq, D.str.injEq, D.bl.injEq, D.lst.injEq, D.tup.injEq, Res.d.injEq, SV.d.injEq, Option.map_some, atI_0, atI_1, atI_2, atI_3, decide_eq_true_eq, decide_eq_false_iff_not, and_assoc, tyOk_str, mStr1_d, o_join, o_joinT, o_split, caLen_d, fLen_l, fLen_t, o_lenS, o_slS, o_slL, ixR_n, ixR_i, o_eqI, i_rng, i_rngB, i_val, i_valT, i_str, e_comp, wipeE, o_inC, Bool.not_true, Bool.not_false, Bool.not_eq_true', Bool.not_eq_false', if_true, if_false, Bool.if_true_left, decide_true, decide_false, asg_nm, asg_tp2, asg_tp3, kvSV_d, List.cons.injEq, e4]
      refine ⟨by decide +kernel, small_line (by omega), r _ rfl⟩
    · have e : (kvs ((Txt.split t ", ").map D.str)).map (fun v : KV => match v with | .d (.str p) => strL (Txt.split p " ") | _ => .non) = (parts t).map strL := by
        unfold parts
        rw [if_neg h, kvs_map, List.map_map, List.map_map]
        rfl
      rw [e]
      exact q
  · have e : parts t = [] := by unfold parts; rw [if_pos h]
    rw [e] at q
    exact ⟨small_line (by decide), q⟩
theorem read_ok (ht : Sx 170000 t) (q : if ((parts t).all isDeed) = true then QF (.rt (.d (.lst ((parts t).map dD))) μ) else QF (.ex 0 (.str t) μ)) : wpF f_read_history [.d (.str t)] μ QF := by
  have hp := parts_ok ht
  have hl := parts_len (t := t)
  have htl := ht.1
  apply f_def
  apply s_seq
  apply s_set
  refine found_read ht rfl (by simp) ?_
  simp only [List.map_cons, List.map_nil, List.length_cons, List.length_nil, List.replicate, List.nil_append, List.cons_append, Nat.reduceAdd, Nat.reduceSub, Nat.zero_add, List.append_nil, e_bin, e_c, e_un, e_if, e_eB, e_nil, e_cons, e_lst, e_tup, e_call, e_fn, e_fnK, e_meth, e_sl, e_pNo, e_eI, e_chain, e_var, eVar, List.getElem?_cons_zero, List.getElem?_cons_succ, o_ok, o_okD, o_none, o_guard, o_op2, o_opI, o_addI, o_addS, o_addL, o_addT, o_mulI, o_mulL, o_ixD, o_ixT, o_ixN, o_ixS, peek_d, peek_tl, peekV_d, asB_d, conv_d, conv_al, conv_nl, conv_vt, conv_at, conv_nt, toVal_d, toVal_t, convV_d, toDs_nil, toDs_cons, ca1_d, ca2_d, plOf_loc, seqQ_nx, seqQ_rt, seqQ_ex, retQ_rt, retQ_ex, rtQ_rt, handR_d, handR_t, fInt_i, fInt_b, fAbs_i, fMax_i, fMin_i, Option.some.injEq, Prod.mk.injEq, exists_eq_left', exists_eq_left, exists_eq', exists_and_left, exists_and_right, and_true, true_and, List.set_cons_zero, List.set_cons_succ, Bool.true_eq_false, Bool.false_eq_true, forall_const, D.int.injEq, D.str.injEq, D.bl.injEq, D.lst.injEq, D.tup.injEq, Res.d.injEq, SV.d.injEq, Option.map_some, atI_0, atI_1, atI_2, atI_3, decide_eq_true_eq, decide_eq_false_iff_not, and_assoc, tyOk_str, mStr1_d, o_join, o_joinT, o_split, caLen_d, fLen_l, fLen_t, o_lenS, o_slS, o_slL, ixR_n, ixR_i, o_eqI, i_rng, i_rngB, i_val, i_valT, i_str, e_comp, wipeE, o_inC, Bool.not_true, Bool.not_false, Bool.not_eq_true', Bool.not_eq_false', if_true, if_false, Bool.if_true_left, decide_true, decide_false, asg_nm, asg_tp2, asg_tp3, kvSV_d, List.cons.injEq]
  show wpS g_read_history_2 [some (.d (.str t)), some (.d (partL t)), none, none, none] μ _
  unfold partL
  apply s_seq
  apply s_if
  simp only [List.map_cons, List.map_nil, List.length_cons, List.length_nil, List.replicate, List.nil_append, List.cons_append, Nat.reduceAdd, Nat.reduceSub, Nat.zero_add, List.append_nil, e_bin, e_c, e_un, e_if, e_eB, e_nil, e_cons, e_lst, e_tup, e_call, e_fn, e_fnK, e_meth, e_sl, e_pNo, e_eI, e_chain, e_var, eVar, List.getElem?_cons_zero, List.getElem?_cons_succ, o_ok, o_okD, o_none, o_guard, o_op2, o_opI, o_addI, o_addS, o_addL, o_addT, o_mulI, o_mulL, o_ixD, o_ixT, o_ixN, o_ixS, peek_d, peek_tl, peekV_d, asB_d, conv_d, conv_al, conv_nl, conv_vt, conv_at, conv_nt, toVal_d, toVal_t, convV_d, toDs_nil, toDs_cons, ca1_d, ca2_d, plOf_loc, seqQ_nx, seqQ_rt, seqQ_ex, retQ_rt, retQ_ex, rtQ_rt, handR_d, handR_t, fInt_i, fInt_b, fAbs_i, fMax_i, fMin_i, Option.some.injEq, Prod.mk.injEq, exists_eq_left', exists_eq_left, exists_eq', exists_and_left, exists_and_right, and_true, true_and, List.set_cons_zero, List.set_cons_succ, Bool.true_eq_false, Bool.false_eq_true, forall_const, D.int.injEq, D.str.injEq, D.bl.injEq, D.lst.injEq, D.tup.injEq, Res.d.injEq, SV.d.injEq, Option.map_some, atI_0, atI_1, atI_2, atI_3, decide_eq_true_eq, decide_eq_false_iff_not, and_assoc, tyOk_str, mStr1_d, o_join, o_joinT, o_split, caLen_d, fLen_l, fLen_t, o_lenS, o_slS, o_slL, ixR_n, ixR_i, o_eqI, i_rng, i_rngB, i_val, i_valT, i_str, e_comp, wipeE, o_inC, Bool.not_true, Bool.not_false, Bool.not_eq_true', Bool.not_eq_false', if_true, if_false, Bool.if_true_left, decide_true, decide_false, asg_nm, asg_tp2, asg_tp3, kvSV_d, List.cons.injEq]
  refine map_comp _ (fun v => match v with | .d (.lst ds) => .bl (isDeed ((strsOf ds).getD [])) | _ => .non) (by rw [kvs_map, List.length_map]; omega) (fun v hv R r => ?_) ?_
  · rw [kvs_map] at hv
    obtain ⟨ps, hps, rfl⟩ := List.mem_map.mp hv
    simp only [List.map_cons, List.map_nil, List.length_cons, List.length_nil, List.replicate, List.nil_append, List.cons_append, Nat.reduceAdd, Nat.reduceSub, Nat.zero_add, List.append_nil, e_bin, e_c, e_un, e_if, e_eB, e_nil, e_cons, e_lst, e_tup, e_call, e_fn, e_fnK, e_meth, e_sl, e_pNo, e_eI, e_chain, e_var, eVar, List.getElem?_cons_zero, List.getElem?_cons_succ, o_ok, o_okD, o_none, o_guard, o_op2, o_opI, o_addI, o_addS, o_addL, o_addT, o_mulI, o_mulL, o_ixD, o_ixT, o_ixN, o_ixS, peek_d, peek_tl, peekV_d, asB_d, conv_d, conv_al, conv_nl, conv_vt, conv_at, conv_nt, toVal_d, toVal_t, convV_d, toDs_nil, toDs_cons, ca1_d, ca2_d, plOf_loc, seqQ_nx, seqQ_rt, seqQ_ex, retQ_rt, retQ_ex, rtQ_rt, handR_d, handR_t, fInt_i, fInt_b, fAbs_i, fMax_i, fMin_i, Option.some.injEq, Prod.mk.injEq, exists_eq_left', exists_eq_left, exists_eq', exists_and_left, exists_and_right, and_true, true_and, List.set_cons_zero, List.set_cons_succ, Bool.true_eq_false, Bool.false_eq_true, forall_const, D.int.injEq, D.str.injEq, D.bl.injEq, D.lst.injEq, D.tup.injEq, Res.d.injEq, SV.d.injEq, Option.map_some, atI_0, atI_1, atI_2, atI_3, decide_eq_true_eq, decide_eq_false_iff_not, and_assoc, tyOk_str, mStr1_d, o_join, o_joinT, o_split, caLen_d, fLen_l, fLen_t, o_lenS, o_slS, o_slL, ixR_n, ixR_i, o_eqI, i_rng, i_rngB, i_val, i_valT, i_str, e_comp, wipeE, o_inC, Bool.not_true, Bool.not_false, Bool.not_eq_true', Bool.not_eq_false', if_true, if_false, Bool.if_true_left, decide_true, decide_false, asg_nm, asg_tp2, asg_tp3, kvSV_d, List.cons.injEq, strL]
    refine deed_ok (fun p h => Nat.le_trans ((hp ps hps).1 p h).1 (by decide)) ?_
    refine r _ ?_
    show some (D.bl (isDeed ps), μ) = some (D.bl (isDeed ((strsOf (ps.map D.str)).getD [])), μ)
    rw [strsOf_map]
    rfl
  have e : (kvs ((parts t).map strL)).map (fun v : KV => match v with | .d (.lst ds) => D.bl (isDeed ((strsOf ds).getD [])) | _ => D.non) = ((parts t).map isDeed).map D.bl := by
    rw [kvs_map, List.map_map, List.map_map]
    apply List.map_congr_left
    intro ps _
    show D.bl (isDeed ((strsOf (ps.map D.str)).getD [])) = D.bl (isDeed ps)
    rw [strsOf_map]; rfl
  rw [e]
  have ft : ∀ (b : Bool) (R : Res → Sto → Prop), wpO (fTru μ (.d (.bl b))) R ↔ R (.d (.bl b)) μ := fun b R => o_ok
  simp only [List.map_cons, List.map_nil, List.length_cons, List.length_nil, List.replicate, List.nil_append, List.cons_append, Nat.reduceAdd, Nat.reduceSub, Nat.zero_add, List.append_nil, e_bin, e_c, e_un, e_if, e_eB, e_nil, e_cons, e_lst, e_tup, e_call, e_fn, e_fnK, e_meth, e_sl, e_pNo, e_eI, e_chain, e_var, eVar, List.getElem?_cons_zero, List.getElem?_cons_succ, o_ok, o_okD, o_none, o_guard, o_op2, o_opI, o_addI, o_addS, o_addL, o_addT, o_mulI, o_mulL, o_ixD, o_ixT, o_ixN, o_ixS, peek_d, peek_tl, peekV_d, asB_d, conv_d, conv_al, conv_nl, conv_vt, conv_at, conv_nt, toVal_d, toVal_t, convV_d, toDs_nil, toDs_cons, ca1_d, ca2_d, plOf_loc, seqQ_nx, seqQ_rt, seqQ_ex, retQ_rt, retQ_ex, rtQ_rt, handR_d, handR_t, fInt_i, fInt_b, fAbs_i, fMax_i, fMin_i, Option.some.injEq, Prod.mk.injEq, exists_eq_left', exists_eq_left, exists_eq', exists_and_left, exists_and_right, and_true, true_and, List.set_cons_zero, List.set_cons_succ, Bool.true_eq_false, Bool.false_eq_true, forall_const, D.int.injEq, D.str.injEq, D.bl.injEq, D.lst.injEq, D.tup.injEq, Res.d.injEq, SV.d.injEq, Option.map_some, atI_0, atI_1, atI_2, atI_3, decide_eq_true_eq, decide_eq_false_iff_not, and_assoc, tyOk_str, mStr1_d, o_join, o_joinT, o_split, caLen_d, fLen_l, fLen_t, o_lenS, o_slS, o_slL, ixR_n, ixR_i, o_eqI, i_rng, i_rngB, i_val, i_valT, i_str, e_comp, wipeE, o_inC, Bool.not_true, Bool.not_false, Bool.not_eq_true', Bool.not_eq_false', if_true, if_false, Bool.if_true_left, decide_true, decide_false, asg_nm, asg_tp2, asg_tp3, kvSV_d, List.cons.injEq, o_all, ft, List.all_map]
  have ea : ((parts t).all (id ∘ isDeed)) = (parts t).all isDeed := rfl
  rw [ea]
  refine ⟨fun h => ?_, fun h => ?_⟩
  · refine ⟨fun z => z.elim, ?_⟩
    apply s_nx
    rw [if_pos h] at q
    apply s_seq
    apply s_set
    simp only [List.map_cons, List.map_nil, List.length_cons, List.length_nil, List.replicate, List.nil_append, List.cons_append, Nat.reduceAdd, Nat.reduceSub, Nat.zero_add, List.append_nil, e_bin, e_c, e_un, e_if, e_eB, e_nil, e_cons, e_lst, e_tup, e_call, e_fn, e_fnK, e_meth, e_sl, e_pNo, e_eI, e_chain, e_var, eVar, List.getElem?_cons_zero, List.getElem?_cons_succ, o_ok, o_okD, o_none, o_guard, o_op2, o_opI, o_addI, o_addS, o_addL, o_addT, o_mulI, o_mulL, o_ixD, o_ixT, o_ixN, o_ixS, peek_d, peek_tl, peekV_d, asB_d, conv_d, conv_al, conv_nl, conv_vt, conv_at, conv_nt, toVal_d, toVal_t, convV_d, toDs_nil, toDs_cons, ca1_d, ca2_d, plOf_loc, seqQ_nx, seqQ_rt, seqQ_ex, retQ_rt, retQ_ex, rtQ_rt, handR_d, handR_t, fInt_i, fInt_b, fAbs_i, fMax_i, fMin_i, Option.some.injEq, Prod.mk.injEq, exists_eq_left', exists_eq_left, exists_eq', exists_and_left, exists_and_right, and_true, true_and, List.set_cons_zero, List.set_cons_succ, Bool.true_eq_false, Bool.false_eq_true, forall_const, D.int.injEq, D.str.injEq, D.bl.injEq, D.lst.injEq, D.tup.injEq, Res.d.injEq, SV.d.injEq, Option.map_some, atI_0, atI_1, atI_2, atI_3, decide_eq_true_eq, decide_eq_false_iff_not, and_assoc, tyOk_str, mStr1_d, o_join, o_joinT, o_split, caLen_d, fLen_l, fLen_t, o_lenS, o_slS, o_slL, ixR_n, ixR_i, o_eqI, i_rng, i_rngB, i_val, i_valT, i_str, e_comp, wipeE, o_inC, Bool.not_true, Bool.not_false, Bool.not_eq_true', Bool.not_eq_false', if_true, if_false, Bool.if_true_left, decide_true, decide_false, asg_nm, asg_tp2, asg_tp3, kvSV_d, List.cons.injEq]
    refine map_comp _ (fun v => match v with | .d (.lst ds) => .tup ds | _ => .non) (by rw [kvs_map, List.length_map]; omega) (fun v hv R r => ?_) ?_
    · rw [kvs_map] at hv
      obtain ⟨ps, hps, rfl⟩ := List.mem_map.mp hv
      have et : caTuple μ [.d (.lst (ps.map D.str))] = okD μ (.tup (ps.map D.str)) := rfl
      simp only [List.map_cons, List.map_nil, List.length_cons, List.length_nil, List.replicate, List.nil_append, List.cons_append, Nat.reduceAdd, Nat.reduceSub, Nat.zero_add, List.append_nil, e_bin, e_c, e_un, e_if, e_eB, e_nil, e_cons, e_lst, e_tup, e_call, e_fn, e_fnK, e_meth, e_sl, e_pNo, e_eI, e_chain, e_var, eVar, List.getElem?_cons_zero, List.getElem?_cons_succ, o_ok, o_okD, o_none, o_guard, o_op2, o_opI, o_addI, o_addS, o_addL, o_addT, o_mulI, o_mulL, o_ixD, o_ixT, o_ixN, o_ixS, peek_d, peek_tl, peekV_d, asB_d, conv_d, conv_al, conv_nl, conv_vt, conv_at, conv_nt, toVal_d, toVal_t, convV_d, toDs_nil, toDs_cons, ca1_d, ca2_d, plOf_loc, seqQ_nx, seqQ_rt, seqQ_ex, retQ_rt, retQ_ex, rtQ_rt, handR_d, handR_t, fInt_i, fInt_b, fAbs_i, fMax_i, fMin_i, Option.some.injEq, Prod.mk.injEq, exists_eq_left', exists_eq_left, exists_eq', exists_and_left, exists_and_right, and_true, true_and, List.set_cons_zero, List.set_cons_succ, Bool.true_eq_false, Bool.false_eq_true, forall_const, D.int.injEq, D.str.injEq, D.bl.injEq, D.lst.injEq, D.tup.injEq, Res.d.injEq, SV.d.injEq, Option.map_some, atI_0, atI_1, atI_2, atI_3, decide_eq_true_eq, decide_eq_false_iff_not, and_assoc, tyOk_str, mStr1_d, o_join, o_joinT, o_split, caLen_d, fLen_l, fLen_t, o_lenS, o_slS, o_slL, ixR_n, ixR_i, o_eqI, i_rng, i_rngB, i_val, i_valT, i_str, e_comp, wipeE, o_inC, Bool.not_true, Bool.not_false, Bool.not_eq_true', Bool.not_eq_false', if_true, if_false, Bool.if_true_left, decide_true, decide_false, asg_nm, asg_tp2, asg_tp3, kvSV_d, List.cons.injEq, strL, et]
      exact r _ rfl
    have e : (kvs ((parts t).map strL)).map (fun v : KV => match v with | .d (.lst ds) => D.tup ds | _ => D.non) = (parts t).map dD := by
      rw [kvs_map, List.map_map]
      apply List.map_congr_left
      intro ps _
      rfl
    rw [e]
    simp only [List.map_cons, List.map_nil, List.length_cons, List.length_nil, List.replicate, List.nil_append, List.cons_append, Nat.reduceAdd, Nat.reduceSub, Nat.zero_add, List.append_nil, e_bin, e_c, e_un, e_if, e_eB, e_nil, e_cons, e_lst, e_tup, e_call, e_fn, e_fnK, e_meth, e_sl, e_pNo, e_eI, e_chain, e_var, eVar, List.getElem?_cons_zero, List.getElem?_cons_succ, o_ok, o_okD, o_none, o_guard, o_op2, o_opI, o_addI, o_addS, o_addL, o_addT, o_mulI, o_mulL, o_ixD, o_ixT, o_ixN, o_ixS, peek_d, peek_tl, peekV_d, asB_d, conv_d, conv_al, conv_nl, conv_vt, conv_at, conv_nt, toVal_d, toVal_t, convV_d, toDs_nil, toDs_cons, ca1_d, ca2_d, plOf_loc, seqQ_nx, seqQ_rt, seqQ_ex, retQ_rt, retQ_ex, rtQ_rt, handR_d, handR_t, fInt_i, fInt_b, fAbs_i, fMax_i, fMin_i, Option.some.injEq, Prod.mk.injEq, exists_eq_left', exists_eq_left, exists_eq', exists_and_left, exists_and_right, and_true, true_and, List.set_cons_zero, List.set_cons_succ, Bool.true_eq_false, Bool.false_eq_true, forall_const, D.int.injEq, D.str.injEq, D.bl.injEq, D.lst.injEq, D.tup.injEq, Res.d.injEq, SV.d.injEq, Option.map_some, atI_0, atI_1, atI_2, atI_3, decide_eq_true_eq, decide_eq_false_iff_not, and_assoc, tyOk_str, mStr1_d, o_join, o_joinT, o_split, caLen_d, fLen_l, fLen_t, o_lenS, o_slS, o_slL, ixR_n, ixR_i, o_eqI, i_rng, i_rngB, i_val, i_valT, i_str, e_comp, wipeE, o_inC, Bool.not_true, Bool.not_false, Bool.not_eq_true', Bool.not_eq_false', if_true, if_false, Bool.if_true_left, decide_true, decide_false, asg_nm, asg_tp2, asg_tp3, kvSV_d, List.cons.injEq]
    apply s_seq
    apply s_if
    have eo : ∀ (ν : Sto) (R : Res → Sto → Prop), wpO (fEq true ν (.str t) (.str t)) R ↔ R (.d (.bl false)) ν := fun ν R => by
      rw [o_eq, D.eq_str, decide_eq_true rfl]
      exact ⟨fun z => z.2, fun z => ⟨⟨rfl, rfl, by simp [dep]⟩, z⟩⟩
    simp only [List.map_cons, List.map_nil, List.length_cons, List.length_nil, List.replicate, List.nil_append, List.cons_append, Nat.reduceAdd, Nat.reduceSub, Nat.zero_add, List.append_nil, e_bin, e_c, e_un, e_if, e_eB, e_nil, e_cons, e_lst, e_tup, e_call, e_fn, e_fnK, e_meth, e_sl, e_pNo, e_eI, e_chain, e_var, eVar, List.getElem?_cons_zero, List.getElem?_cons_succ, o_ok, o_okD, o_none, o_guard, o_op2, o_opI, o_addI, o_addS, o_addL, o_addT, o_mulI, o_mulL, o_ixD, o_ixT, o_ixN, o_ixS, peek_d, peek_tl, peekV_d, asB_d, conv_d, conv_al, conv_nl, conv_vt, conv_at, conv_nt, toVal_d, toVal_t, convV_d, toDs_nil, toDs_cons, ca1_d, ca2_d, plOf_loc, seqQ_nx, seqQ_rt, seqQ_ex, retQ_rt, retQ_ex, rtQ_rt, handR_d, handR_t, fInt_i, fInt_b, fAbs_i, fMax_i, fMin_i, Option.some.injEq, Prod.mk.injEq, exists_eq_left', exists_eq_left, exists_eq', exists_and_left, exists_and_right, and_true, true_and, List.set_cons_zero, List.set_cons_succ, Bool.true_eq_false, Bool.false_eq_true, forall_const, D.int.injEq, D.str.injEq, D.bl.injEq, D.lst.injEq, D.tup.injEq, Res.d.injEq, SV.d.injEq, Option.map_some, atI_0, atI_1, atI_2, atI_3, decide_eq_true_eq, decide_eq_false_iff_not, and_assoc, tyOk_str, mStr1_d, o_join, o_joinT, o_split, caLen_d, fLen_l, fLen_t, o_lenS, o_slS, o_slL, ixR_n, ixR_i, o_eqI, i_rng, i_rngB, i_val, i_valT, i_str, e_comp, wipeE, o_inC, Bool.not_true, Bool.not_false, Bool.not_eq_true', Bool.not_eq_false', if_true, if_false, Bool.if_true_left, decide_true, decide_false, asg_nm, asg_tp2, asg_tp3, kvSV_d, List.cons.injEq]
    refine show_ok (ht.le (by decide)) ?_
    simp only [List.map_cons, List.map_nil, List.length_cons, List.length_nil, List.replicate, List.nil_append, List.cons_append, Nat.reduceAdd, Nat.reduceSub, Nat.zero_add, List.append_nil, e_bin, e_c, e_un, e_if, e_eB, e_nil, e_cons, e_lst, e_tup, e_call, e_fn, e_fnK, e_meth, e_sl, e_pNo, e_eI, e_chain, e_var, eVar, List.getElem?_cons_zero, List.getElem?_cons_succ, o_ok, o_okD, o_none, o_guard, o_op2, o_opI, o_addI, o_addS, o_addL, o_addT, o_mulI, o_mulL, o_ixD, o_ixT, o_ixN, o_ixS, peek_d, peek_tl, peekV_d, asB_d, conv_d, conv_al, conv_nl, conv_vt, conv_at, conv_nt, toVal_d, toVal_t, convV_d, toDs_nil, toDs_cons, ca1_d, ca2_d, plOf_loc, seqQ_nx, seqQ_rt, seqQ_ex, retQ_rt, retQ_ex, rtQ_rt, handR_d, handR_t, fInt_i, fInt_b, fAbs_i, fMax_i, fMin_i, Option.some.injEq, Prod.mk.injEq, exists_eq_left', exists_eq_left, exists_eq', exists_and_left, exists_and_right, and_true, true_and, List.set_cons_zero, List.set_cons_succ, Bool.true_eq_false, Bool.false_eq_true, forall_const, D.int.injEq, D.str.injEq, D.bl.injEq, D.lst.injEq, D.tup.injEq, Res.d.injEq, SV.d.injEq, Option.map_some, atI_0, atI_1, atI_2, atI_3, decide_eq_true_eq, decide_eq_false_iff_not, and_assoc, tyOk_str, mStr1_d, o_join, o_joinT, o_split, caLen_d, fLen_l, fLen_t, o_lenS, o_slS, o_slL, ixR_n, ixR_i, o_eqI, i_rng, i_rngB, i_val, i_valT, i_str, e_comp, wipeE, o_inC, Bool.not_true, Bool.not_false, Bool.not_eq_true', Bool.not_eq_false', if_true, if_false, Bool.if_true_left, decide_true, decide_false, asg_nm, asg_tp2, asg_tp3, kvSV_d, List.cons.injEq, eo]
    refine ⟨fun z => z.elim, ?_⟩
    apply s_nx
    apply s_ret
    simp only [List.map_cons, List.map_nil, List.length_cons, List.length_nil, List.replicate, List.nil_append, List.cons_append, Nat.reduceAdd, Nat.reduceSub, Nat.zero_add, List.append_nil, e_bin, e_c, e_un, e_if, e_eB, e_nil, e_cons, e_lst, e_tup, e_call, e_fn, e_fnK, e_meth, e_sl, e_pNo, e_eI, e_chain, e_var, eVar, List.getElem?_cons_zero, List.getElem?_cons_succ, o_ok, o_okD, o_none, o_guard, o_op2, o_opI, o_addI, o_addS, o_addL, o_addT, o_mulI, o_mulL, o_ixD, o_ixT, o_ixN, o_ixS, peek_d, peek_tl, peekV_d, asB_d, conv_d, conv_al, conv_nl, conv_vt, conv_at, conv_nt, toVal_d, toVal_t, convV_d, toDs_nil, toDs_cons, ca1_d, ca2_d, plOf_loc, seqQ_nx, seqQ_rt, seqQ_ex, retQ_rt, retQ_ex, rtQ_rt, handR_d, handR_t, fInt_i, fInt_b, fAbs_i, fMax_i, fMin_i, Option.some.injEq, Prod.mk.injEq, exists_eq_left', exists_eq_left, exists_eq', exists_and_left, exists_and_right, and_true, true_and, List.set_cons_zero, List.set_cons_succ, Bool.true_eq_false, Bool.false_eq_true, forall_const, D.int.injEq, D.str.injEq, D.bl.injEq, D.lst.injEq, D.tup.injEq, Res.d.injEq, SV.d.injEq, Option.map_some, atI_0, atI_1, atI_2, atI_3, decide_eq_true_eq, decide_eq_false_iff_not, and_assoc, tyOk_str, mStr1_d, o_join, o_joinT, o_split, caLen_d, fLen_l, fLen_t, o_lenS, o_slS, o_slL, ixR_n, ixR_i, o_eqI, i_rng, i_rngB, i_val, i_valT, i_str, e_comp, wipeE, o_inC, Bool.not_true, Bool.not_false, Bool.not_eq_true', Bool.not_eq_false', if_true, if_false, Bool.if_true_left, decide_true, decide_false, asg_nm, asg_tp2, asg_tp3, kvSV_d, List.cons.injEq]
    rw [cut_id (Nat.le_refl _)]
    exact q
  · rw [if_neg (by rw [h]; decide)] at q
    refine ⟨?_, fun z => z.elim⟩
    apply s_raise
    simp only [List.map_cons, List.map_nil, List.length_cons, List.length_nil, List.replicate, List.nil_append, List.cons_append, Nat.reduceAdd, Nat.reduceSub, Nat.zero_add, List.append_nil, e_bin, e_c, e_un, e_if, e_eB, e_nil, e_cons, e_lst, e_tup, e_call, e_fn, e_fnK, e_meth, e_sl, e_pNo, e_eI, e_chain, e_var, eVar, List.getElem?_cons_zero, List.getElem?_cons_succ, o_ok, o_okD, o_none, o_guard, o_op2, o_opI, o_addI, o_addS, o_addL, o_addT, o_mulI, o_mulL, o_ixD, o_ixT, o_ixN, o_ixS, peek_d, peek_tl, peekV_d, asB_d, conv_d, conv_al, conv_nl, conv_vt, conv_at, conv_nt, toVal_d, toVal_t, convV_d, toDs_nil, toDs_cons, ca1_d, ca2_d, plOf_loc, seqQ_nx, seqQ_rt, seqQ_ex, retQ_rt, retQ_ex, rtQ_rt, handR_d, handR_t, fInt_i, fInt_b, fAbs_i, fMax_i, fMin_i, Option.some.injEq, Prod.mk.injEq, exists_eq_left', exists_eq_left, exists_eq', exists_and_left, exists_and_right, and_true, true_and, List.set_cons_zero, List.set_cons_succ, Bool.true_eq_false, Bool.false_eq_true, forall_const, D.int.injEq, D.str.injEq, D.bl.injEq, D.lst.injEq, D.tup.injEq, Res.d.injEq, SV.d.injEq, Option.map_some, atI_0, atI_1, atI_2, atI_3, decide_eq_true_eq, decide_eq_false_iff_not, and_assoc, tyOk_str, mStr1_d, o_join, o_joinT, o_split, caLen_d, fLen_l, fLen_t, o_lenS, o_slS, o_slL, ixR_n, ixR_i, o_eqI, i_rng, i_rngB, i_val, i_valT, i_str, e_comp, wipeE, o_inC, Bool.not_true, Bool.not_false, Bool.not_eq_true', Bool.not_eq_false', if_true, if_false, Bool.if_true_left, decide_true, decide_false, asg_nm, asg_tp2, asg_tp3, kvSV_d, List.cons.injEq]
    rw [cut_id (Nat.le_refl _)]
    exact q

/-- the law's own reading -/
theorem deeds_in_ok (ht : Sx 170000 t) (q : if ((parts t).all isDeed) = true then Q (.tmp (.lst ((parts t).map dD))) μ else Q (.d .non) μ) : wpF f__law_deeds_in [.d (.str t)] μ (rtQ Q) := by
  have hp := parts_ok ht
  have hl := parts_len (t := t)
  have htl := ht.1
  apply f_def
  apply s_seq
  apply s_set
  simp only [List.map_cons, List.map_nil, List.length_cons, List.length_nil, List.replicate, List.nil_append, List.cons_append, Nat.reduceAdd, Nat.reduceSub, Nat.zero_add, List.append_nil, e_bin, e_c, e_un, e_if, e_eB, e_nil, e_cons, e_lst, e_tup, e_call, e_fn, e_fnK, e_meth, e_sl, e_pNo, e_eI, e_chain, e_var, eVar, List.getElem?_cons_zero, List.getElem?_cons_succ, o_ok, o_okD, o_none, o_guard, o_op2, o_opI, o_addI, o_addS, o_addL, o_addT, o_mulI, o_mulL, o_ixD, o_ixT, o_ixN, o_ixS, peek_d, peek_tl, peekV_d, asB_d, conv_d, conv_al, conv_nl, conv_vt, conv_at, conv_nt, toVal_d, toVal_t, convV_d, toDs_nil, toDs_cons, ca1_d, ca2_d, plOf_loc, seqQ_nx, seqQ_rt, seqQ_ex, retQ_rt, retQ_ex, rtQ_rt, handR_d, handR_t, fInt_i, fInt_b, fAbs_i, fMax_i, fMin_i, Option.some.injEq, Prod.mk.injEq, exists_eq_left', exists_eq_left, exists_eq', exists_and_left, exists_and_right, and_true, true_and, List.set_cons_zero, List.set_cons_succ, Bool.true_eq_false, Bool.false_eq_true, forall_const, D.int.injEq, D.str.injEq, D.bl.injEq, D.lst.injEq, D.tup.injEq, Res.d.injEq, SV.d.injEq, Option.map_some, atI_0, atI_1, atI_2, atI_3, decide_eq_true_eq, decide_eq_false_iff_not, and_assoc, tyOk_str, mStr1_d, o_join, o_joinT, o_split, caLen_d, fLen_l, fLen_t, o_lenS, o_slS, o_slL, ixR_n, ixR_i, o_eqI, i_rng, i_rngB, i_val, i_valT, i_str, e_comp, wipeE, o_inC, Bool.not_true, Bool.not_false, Bool.not_eq_true', Bool.not_eq_false', if_true, if_false, Bool.if_true_left, decide_true, decide_false, asg_nm, asg_tp2, asg_tp3, kvSV_d, List.cons.injEq]
  refine ⟨small_line (by decide), ?_⟩
  generalize hμ1 : μ.pushM (.lst []) = μ1
  have h1 : μ1 = ⟨μ.m ++ [.lst []], μ.k⟩ := hμ1.symm
  have eo : ∀ (ν : Sto) (R : Res → Sto → Prop), wpO (fEq true ν (.str t) (.str "")) R ↔ R (.d (.bl (!decide (t = "")))) ν := fun ν R => by
    rw [o_eq, D.eq_str]
    exact ⟨fun z => z.2, fun z => ⟨⟨rfl, rfl, by simp [dep]⟩, z⟩⟩
  have main : ∀ (ss : List Str), (ss.map fun p => Txt.split p " ") = parts t → (∀ p ∈ ss, Sx 170000 p) → ∃ o, forLoop (.nm 2) g__law_deeds_in_b2_1 μ1.m.length [2, 3, 4] (kvs (ss.map D.str)) [some (.d (.str t)), some (.loc μ.m.length), none, none, none] μ1 = some o ∧ seqQ g__law_deeds_in_3 (retQ μ.m.length (rtQ Q)) o := by
    intro ss hss hs
    have hsl : ss.length ≤ 170001 := by
      have := congrArg List.length hss
      rw [List.length_map] at this
      omega
    have hlen : μ1.m.length = μ.m.length + 1 := by rw [h1]; show (μ.m ++ [_]).length = _; rw [List.length_append]; rfl
    rw [hlen]
    refine for_inv (fun xs ρ μ' => ∃ (done rest : List Str), ss = done ++ rest ∧ xs = kvs (rest.map D.str) ∧ (done.map fun p => Txt.split p " ").all isDeed = true ∧ μ' = ⟨μ.m ++ [.lst ((done.map fun p => Txt.split p " ").map dD)], μ.k⟩ ∧
      ρ = [some (.d (.str t)), some (.loc μ.m.length), none, none, none]) ?_ ?_ _ _ _ ⟨[], ss, rfl, rfl, rfl, h1, rfl⟩
    · rintro x xs ρ μ2 ⟨done, rest, e, ex, hd, rfl, rfl⟩
      cases rest with
      | nil => cases ex
      | cons p rest =>
        cases ex
        refine ⟨_, asg_nm, ?_⟩
        have hpp := hs p (by rw [e]; exact List.mem_append_right _ List.mem_cons_self)
        have hpl := hpp.1
        have hdl : done.length ≤ 170001 := by
          have := congrArg List.length e
          rw [List.length_append] at this
          omega
        have hps := hpp.split (y := " ") (by rw [len_sep1]; decide)
        have hall : (parts t).all isDeed = ((done.map fun p => Txt.split p " ").all isDeed && (isDeed (Txt.split p " ") && (rest.map fun p => Txt.split p " ").all isDeed)) := by
          rw [← hss, e, List.map_append, List.all_append, List.map_cons, List.all_cons]
        have hat : (⟨μ.m ++ [.lst ((done.map fun p => Txt.split p " ").map dD)], μ.k⟩ : Sto).at (.m μ.m.length) = some (.lst ((done.map fun p => Txt.split p " ").map dD)) := by
          show (μ.m ++ [_])[μ.m.length]? = _
          rw [List.getElem?_append_right (Nat.le_refl _), Nat.sub_self]; rfl
        apply s_seq
        apply s_set
        generalize hI : loopQ _ _ _ _ = LQ
        simp only [List.map_cons, List.map_nil, List.length_cons, List.length_nil, List.replicate, List.nil_append, List.cons_append, Nat.reduceAdd, Nat.reduceSub, Nat.zero_add, List.append_nil, e_bin, e_c, e_un, e_if, e_eB, e_nil, e_cons, e_lst, e_tup, e_call, e_fn, e_fnK, e_meth, e_sl, e_pNo, e_eI, e_chain, e_var, eVar, List.getElem?_cons_zero, List.getElem?_cons_succ, o_ok, o_okD, o_none, o_guard, o_op2, o_opI, o_addI, o_addS, o_addL, o_addT, o_mulI, o_mulL, o_ixD, o_ixT, o_ixN, o_ixS, peek_d, peek_tl, peekV_d, asB_d, conv_d, conv_al, conv_nl, conv_vt, conv_at, conv_nt, toVal_d, toVal_t, convV_d, toDs_nil, toDs_cons, ca1_d, ca2_d, plOf_loc, seqQ_nx, seqQ_rt, seqQ_ex, retQ_rt, retQ_ex, rtQ_rt, handR_d, handR_t, fInt_i, fInt_b, fAbs_i, fMax_i, fMin_i, Option.some.injEq, Prod.mk.injEq, exists_eq_left', exists_eq_left, exists_eq', exists_and_left, exists_and_right, and_true, true_and, List.set_cons_zero, List.set_cons_succ, Bool.true_eq_false, Bool.false_eq_true, forall_const, D.int.injEq, D.str.injEq, D.bl.injEq, D.lst.injEq, D.tup.injEq, Res.d.injEq, SV.d.injEq, Option.map_some, atI_0, atI_1, atI_2, atI_3, decide_eq_true_eq, decide_eq_false_iff_not, and_assoc, tyOk_str, mStr1_d, o_join, o_joinT, o_split, caLen_d, fLen_l, fLen_t, o_lenS, o_slS, o_slL, ixR_n, ixR_i, o_eqI, i_rng, i_rngB, i_val, i_valT, i_str, e_comp, wipeE, o_inC, Bool.not_true, Bool.not_false, Bool.not_eq_true', Bool.not_eq_false', if_true, if_false, Bool.if_true_left, decide_true, decide_false, asg_nm, asg_tp2, asg_tp3, kvSV_d, List.cons.injEq]
        refine ⟨by decide +kernel, small_line (by omega), ?_⟩
        apply s_seq
        apply s_set
        simp only [List.map_cons, List.map_nil, List.length_cons, List.length_nil, List.replicate, List.nil_append, List.cons_append, Nat.reduceAdd, Nat.reduceSub, Nat.zero_add, List.append_nil, e_bin, e_c, e_un, e_if, e_eB, e_nil, e_cons, e_lst, e_tup, e_call, e_fn, e_fnK, e_meth, e_sl, e_pNo, e_eI, e_chain, e_var, eVar, List.getElem?_cons_zero, List.getElem?_cons_succ, o_ok, o_okD, o_none, o_guard, o_op2, o_opI, o_addI, o_addS, o_addL, o_addT, o_mulI, o_mulL, o_ixD, o_ixT, o_ixN, o_ixS, peek_d, peek_tl, peekV_d, asB_d, conv_d, conv_al, conv_nl, conv_vt, conv_at, conv_nt, toVal_d, toVal_t, convV_d, toDs_nil, toDs_cons, ca1_d, ca2_d, plOf_loc, seqQ_nx, seqQ_rt, seqQ_ex, retQ_rt, retQ_ex, rtQ_rt, handR_d, handR_t, fInt_i, fInt_b, fAbs_i, fMax_i, fMin_i, Option.some.injEq, Prod.mk.injEq, exists_eq_left', exists_eq_left, exists_eq', exists_and_left, exists_and_right, and_true, true_and, List.set_cons_zero, List.set_cons_succ, Bool.true_eq_false, Bool.false_eq_true, forall_const, D.int.injEq, D.str.injEq, D.bl.injEq, D.lst.injEq, D.tup.injEq, Res.d.injEq, SV.d.injEq, Option.map_some, atI_0, atI_1, atI_2, atI_3, decide_eq_true_eq, decide_eq_false_iff_not, and_assoc, tyOk_str, mStr1_d, o_join, o_joinT, o_split, caLen_d, fLen_l, fLen_t, o_lenS, o_slS, o_slL, ixR_n, ixR_i, o_eqI, i_rng, i_rngB, i_val, i_valT, i_str, e_comp, wipeE, o_inC, Bool.not_true, Bool.not_false, Bool.not_eq_true', Bool.not_eq_false', if_true, if_false, Bool.if_true_left, decide_true, decide_false, asg_nm, asg_tp2, asg_tp3, kvSV_d, List.cons.injEq, o_inPE]
        refine ⟨small_line (by decide), small_line (by decide), small_line (by decide), ?_⟩
        have ft : ∀ (ν : Sto) (b : Bool) (R : Res → Sto → Prop), wpO (fTru ν (.d (.bl b))) R ↔ R (.d (.bl b)) ν := fun ν b R => o_ok
        generalize hpsd : Txt.split p " " = ps at *
        have fin : ∀ (b : Bool) (hb : b = isDeed ps), wpS g__law_deeds_in_b2_4 [some (.d (.str t)), some (.loc μ.m.length), some (.d (.str p)), some (.d (.lst (ps.map D.str))), some (.d (.bl b))] ⟨μ.m ++ [.lst ((done.map fun p => Txt.split p " ").map dD)], μ.k⟩ LQ := by
          intro b hb
          apply s_seq
          apply s_if
          simp only [List.map_cons, List.map_nil, List.length_cons, List.length_nil, List.replicate, List.nil_append, List.cons_append, Nat.reduceAdd, Nat.reduceSub, Nat.zero_add, List.append_nil, e_bin, e_c, e_un, e_if, e_eB, e_nil, e_cons, e_lst, e_tup, e_call, e_fn, e_fnK, e_meth, e_sl, e_pNo, e_eI, e_chain, e_var, eVar, List.getElem?_cons_zero, List.getElem?_cons_succ, o_ok, o_okD, o_none, o_guard, o_op2, o_opI, o_addI, o_addS, o_addL, o_addT, o_mulI, o_mulL, o_ixD, o_ixT, o_ixN, o_ixS, peek_d, peek_tl, peekV_d, asB_d, conv_d, conv_al, conv_nl, conv_vt, conv_at, conv_nt, toVal_d, toVal_t, convV_d, toDs_nil, toDs_cons, ca1_d, ca2_d, plOf_loc, seqQ_nx, seqQ_rt, seqQ_ex, retQ_rt, retQ_ex, rtQ_rt, handR_d, handR_t, fInt_i, fInt_b, fAbs_i, fMax_i, fMin_i, Option.some.injEq, Prod.mk.injEq, exists_eq_left', exists_eq_left, exists_eq', exists_and_left, exists_and_right, and_true, true_and, List.set_cons_zero, List.set_cons_succ, Bool.true_eq_false, Bool.false_eq_true, forall_const, D.int.injEq, D.str.injEq, D.bl.injEq, D.lst.injEq, D.tup.injEq, Res.d.injEq, SV.d.injEq, Option.map_some, atI_0, atI_1, atI_2, atI_3, decide_eq_true_eq, decide_eq_false_iff_not, and_assoc, tyOk_str, mStr1_d, o_join, o_joinT, o_split, caLen_d, fLen_l, fLen_t, o_lenS, o_slS, o_slL, ixR_n, ixR_i, o_eqI, i_rng, i_rngB, i_val, i_valT, i_str, e_comp, wipeE, o_inC, Bool.not_true, Bool.not_false, Bool.not_eq_true', Bool.not_eq_false', if_true, if_false, Bool.if_true_left, decide_true, decide_false, asg_nm, asg_tp2, asg_tp3, kvSV_d, List.cons.injEq, ft]
          refine ⟨fun hb1 => ?_, fun hb1 => ?_⟩
          · refine ⟨fun z => z.elim, ?_⟩
            apply s_nx
            apply s_expr
            have et : ∀ ν : Sto, caTuple ν [.d (.lst (ps.map D.str))] = okD ν (.tup (ps.map D.str)) := fun ν => rfl
            simp only [List.map_cons, List.map_nil, List.length_cons, List.length_nil, List.replicate, List.nil_append, List.cons_append, Nat.reduceAdd, Nat.reduceSub, Nat.zero_add, List.append_nil, e_bin, e_c, e_un, e_if, e_eB, e_nil, e_cons, e_lst, e_tup, e_call, e_fn, e_fnK, e_meth, e_sl, e_pNo, e_eI, e_chain, e_var, eVar, List.getElem?_cons_zero, List.getElem?_cons_succ, o_ok, o_okD, o_none, o_guard, o_op2, o_opI, o_addI, o_addS, o_addL, o_addT, o_mulI, o_mulL, o_ixD, o_ixT, o_ixN, o_ixS, peek_d, peek_tl, peekV_d, asB_d, conv_d, conv_al, conv_nl, conv_vt, conv_at, conv_nt, toVal_d, toVal_t, convV_d, toDs_nil, toDs_cons, ca1_d, ca2_d, plOf_loc, seqQ_nx, seqQ_rt, seqQ_ex, retQ_rt, retQ_ex, rtQ_rt, handR_d, handR_t, fInt_i, fInt_b, fAbs_i, fMax_i, fMin_i, Option.some.injEq, Prod.mk.injEq, exists_eq_left', exists_eq_left, exists_eq', exists_and_left, exists_and_right, and_true, true_and, List.set_cons_zero, List.set_cons_succ, Bool.true_eq_false, Bool.false_eq_true, forall_const, D.int.injEq, D.str.injEq, D.bl.injEq, D.lst.injEq, D.tup.injEq, Res.d.injEq, SV.d.injEq, Option.map_some, atI_0, atI_1, atI_2, atI_3, decide_eq_true_eq, decide_eq_false_iff_not, and_assoc, tyOk_str, mStr1_d, o_join, o_joinT, o_split, caLen_d, fLen_l, fLen_t, o_lenS, o_slS, o_slL, ixR_n, ixR_i, o_eqI, i_rng, i_rngB, i_val, i_valT, i_str, e_comp, wipeE, o_inC, Bool.not_true, Bool.not_false, Bool.not_eq_true', Bool.not_eq_false', if_true, if_false, Bool.if_true_left, decide_true, decide_false, asg_nm, asg_tp2, asg_tp3, kvSV_d, List.cons.injEq, tyOk_at hat, et]
            rw [o_append hat (by rw [List.length_map, List.length_map]; exact Nat.lt_of_lt_of_le (by omega : done.length < 1000000) (small_line (by decide)))]
            rw [← hI]
            refine ⟨done ++ [p], rest, by rw [e, List.append_assoc]; rfl, rfl, ?_, ?_, ?_⟩
            · rw [List.map_append, List.all_append, hd, List.map_cons, List.all_cons, hpsd, ← hb, hb1]; rfl
            · show Sto.mk (((μ.m ++ [_]).set μ.m.length _).take (μ.m.length + 1)) μ.k = _
              rw [List.set_append_right _ _ (Nat.le_refl _), Nat.sub_self, List.take_of_length_le (by rw [List.length_append]; exact Nat.le_refl _), List.map_append, List.map_append, List.map_cons, List.map_cons, hpsd]
              rfl
            · rw [trim_eq]; simp (discharger := omega) only [List.map_cons, List.map_nil, tm_none, tm_d, tm_o, tm_loc, wipeE, List.set_cons_succ, List.set_cons_zero, List.length_cons, List.length_nil, Nat.zero_add, List.length_append]
          · refine ⟨?_, fun z => z.elim⟩
            apply s_ret
            simp only [List.map_cons, List.map_nil, List.length_cons, List.length_nil, List.replicate, List.nil_append, List.cons_append, Nat.reduceAdd, Nat.reduceSub, Nat.zero_add, List.append_nil, e_bin, e_c, e_un, e_if, e_eB, e_nil, e_cons, e_lst, e_tup, e_call, e_fn, e_fnK, e_meth, e_sl, e_pNo, e_eI, e_chain, e_var, eVar, List.getElem?_cons_zero, List.getElem?_cons_succ, o_ok, o_okD, o_none, o_guard, o_op2, o_opI, o_addI, o_addS, o_addL, o_addT, o_mulI, o_mulL, o_ixD, o_ixT, o_ixN, o_ixS, peek_d, peek_tl, peekV_d, asB_d, conv_d, conv_al, conv_nl, conv_vt, conv_at, conv_nt, toVal_d, toVal_t, convV_d, toDs_nil, toDs_cons, ca1_d, ca2_d, plOf_loc, seqQ_nx, seqQ_rt, seqQ_ex, retQ_rt, retQ_ex, rtQ_rt, handR_d, handR_t, fInt_i, fInt_b, fAbs_i, fMax_i, fMin_i, Option.some.injEq, Prod.mk.injEq, exists_eq_left', exists_eq_left, exists_eq', exists_and_left, exists_and_right, and_true, true_and, List.set_cons_zero, List.set_cons_succ, Bool.true_eq_false, Bool.false_eq_true, forall_const, D.int.injEq, D.str.injEq, D.bl.injEq, D.lst.injEq, D.tup.injEq, Res.d.injEq, SV.d.injEq, Option.map_some, atI_0, atI_1, atI_2, atI_3, decide_eq_true_eq, decide_eq_false_iff_not, and_assoc, tyOk_str, mStr1_d, o_join, o_joinT, o_split, caLen_d, fLen_l, fLen_t, o_lenS, o_slS, o_slL, ixR_n, ixR_i, o_eqI, i_rng, i_rngB, i_val, i_valT, i_str, e_comp, wipeE, o_inC, Bool.not_true, Bool.not_false, Bool.not_eq_true', Bool.not_eq_false', if_true, if_false, Bool.if_true_left, decide_true, decide_false, asg_nm, asg_tp2, asg_tp3, kvSV_d, List.cons.injEq]
            rw [← hI]
            have : (parts t).all isDeed = false := by rw [hall, ← hb, hb1]; simp
            rw [if_neg (by rw [this]; decide)] at q
            refine ⟨_, rfl, ?_⟩
            have : (⟨μ.m ++ [.lst ((done.map fun p => Txt.split p " ").map dD)], μ.k⟩ : Sto).cut μ.m.length = μ := by
              show Sto.mk ((μ.m ++ [_]).take μ.m.length) μ.k = μ
              rw [List.take_left']
              rfl
            rw [this]
            exact q
        apply s_seq
        apply s_if
        simp only [List.map_cons, List.map_nil, List.length_cons, List.length_nil, List.replicate, List.nil_append, List.cons_append, Nat.reduceAdd, Nat.reduceSub, Nat.zero_add, List.append_nil, e_bin, e_c, e_un, e_if, e_eB, e_nil, e_cons, e_lst, e_tup, e_call, e_fn, e_fnK, e_meth, e_sl, e_pNo, e_eI, e_chain, e_var, eVar, List.getElem?_cons_zero, List.getElem?_cons_succ, o_ok, o_okD, o_none, o_guard, o_op2, o_opI, o_addI, o_addS, o_addL, o_addT, o_mulI, o_mulL, o_ixD, o_ixT, o_ixN, o_ixS, peek_d, peek_tl, peekV_d, asB_d, conv_d, conv_al, conv_nl, conv_vt, conv_at, conv_nt, toVal_d, toVal_t, convV_d, toDs_nil, toDs_cons, ca1_d, ca2_d, plOf_loc, seqQ_nx, seqQ_rt, seqQ_ex, retQ_rt, retQ_ex, rtQ_rt, handR_d, handR_t, fInt_i, fInt_b, fAbs_i, fMax_i, fMin_i, Option.some.injEq, Prod.mk.injEq, exists_eq_left', exists_eq_left, exists_eq', exists_and_left, exists_and_right, and_true, true_and, List.set_cons_zero, List.set_cons_succ, Bool.true_eq_false, Bool.false_eq_true, forall_const, D.int.injEq, D.str.injEq, D.bl.injEq, D.lst.injEq, D.tup.injEq, Res.d.injEq, SV.d.injEq, Option.map_some, atI_0, atI_1, atI_2, atI_3, decide_eq_true_eq, decide_eq_false_iff_not, and_assoc, tyOk_str, mStr1_d, o_join, o_joinT, o_split, caLen_d, fLen_l, fLen_t, o_lenS, o_slS, o_slL, ixR_n, ixR_i, o_eqI, i_rng, i_rngB, i_val, i_valT, i_str, e_comp, wipeE, o_inC, Bool.not_true, Bool.not_false, Bool.not_eq_true', Bool.not_eq_false', if_true, if_false, Bool.if_true_left, decide_true, decide_false, asg_nm, asg_tp2, asg_tp3, kvSV_d, List.cons.injEq, o_inSR]
        refine ⟨fun h2 => ?_, fun h2 => ?_⟩
        · rw [List.length_map] at h2
          have h2 : ps.length = 2 := by omega
          have hps2 := at_two h2
          have e0 : atI (ps.map D.str) 0 = some (.str (ps.getD 0 "")) := by rw [hps2]; exact atI_0
          have e1 : atI (ps.map D.str) 1 = some (.str (ps.getD 1 "")) := by rw [hps2]; exact atI_1
          simp only [List.map_cons, List.map_nil, List.length_cons, List.length_nil, List.replicate, List.nil_append, List.cons_append, Nat.reduceAdd, Nat.reduceSub, Nat.zero_add, List.append_nil, e_bin, e_c, e_un, e_if, e_eB, e_nil, e_cons, e_lst, e_tup, e_call, e_fn, e_fnK, e_meth, e_sl, e_pNo, e_eI, e_chain, e_var, eVar, List.getElem?_cons_zero, List.getElem?_cons_succ, o_ok, o_okD, o_none, o_guard, o_op2, o_opI, o_addI, o_addS, o_addL, o_addT, o_mulI, o_mulL, o_ixD, o_ixT, o_ixN, o_ixS, peek_d, peek_tl, peekV_d, asB_d, conv_d, conv_al, conv_nl, conv_vt, conv_at, conv_nt, toVal_d, toVal_t, convV_d, toDs_nil, toDs_cons, ca1_d, ca2_d, plOf_loc, seqQ_nx, seqQ_rt, seqQ_ex, retQ_rt, retQ_ex, rtQ_rt, handR_d, handR_t, fInt_i, fInt_b, fAbs_i, fMax_i, fMin_i, Option.some.injEq, Prod.mk.injEq, exists_eq_left', exists_eq_left, exists_eq', exists_and_left, exists_and_right, and_true, true_and, List.set_cons_zero, List.set_cons_succ, Bool.true_eq_false, Bool.false_eq_true, forall_const, D.int.injEq, D.str.injEq, D.bl.injEq, D.lst.injEq, D.tup.injEq, Res.d.injEq, SV.d.injEq, Option.map_some, atI_0, atI_1, atI_2, atI_3, decide_eq_true_eq, decide_eq_false_iff_not, and_assoc, tyOk_str, mStr1_d, o_join, o_joinT, o_split, caLen_d, fLen_l, fLen_t, o_lenS, o_slS, o_slL, ixR_n, ixR_i, o_eqI, i_rng, i_rngB, i_val, i_valT, i_str, e_comp, wipeE, o_inC, Bool.not_true, Bool.not_false, Bool.not_eq_true', Bool.not_eq_false', if_true, if_false, Bool.if_true_left, decide_true, decide_false, asg_nm, asg_tp2, asg_tp3, kvSV_d, List.cons.injEq, o_inSR, e0, e1, ft]
          refine ⟨small_line (by decide), fun hs2 => ?_, fun hs2 => ?_⟩
          · refine title_ok (Nat.le_trans (hps _ (by rw [hps2]; simp)).1 (by decide)) ?_
            simp only [List.map_cons, List.map_nil, List.length_cons, List.length_nil, List.replicate, List.nil_append, List.cons_append, Nat.reduceAdd, Nat.reduceSub, Nat.zero_add, List.append_nil, e_bin, e_c, e_un, e_if, e_eB, e_nil, e_cons, e_lst, e_tup, e_call, e_fn, e_fnK, e_meth, e_sl, e_pNo, e_eI, e_chain, e_var, eVar, List.getElem?_cons_zero, List.getElem?_cons_succ, o_ok, o_okD, o_none, o_guard, o_op2, o_opI, o_addI, o_addS, o_addL, o_addT, o_mulI, o_mulL, o_ixD, o_ixT, o_ixN, o_ixS, peek_d, peek_tl, peekV_d, asB_d, conv_d, conv_al, conv_nl, conv_vt, conv_at, conv_nt, toVal_d, toVal_t, convV_d, toDs_nil, toDs_cons, ca1_d, ca2_d, plOf_loc, seqQ_nx, seqQ_rt, seqQ_ex, retQ_rt, retQ_ex, rtQ_rt, handR_d, handR_t, fInt_i, fInt_b, fAbs_i, fMax_i, fMin_i, Option.some.injEq, Prod.mk.injEq, exists_eq_left', exists_eq_left, exists_eq', exists_and_left, exists_and_right, and_true, true_and, List.set_cons_zero, List.set_cons_succ, Bool.true_eq_false, Bool.false_eq_true, forall_const, D.int.injEq, D.str.injEq, D.bl.injEq, D.lst.injEq, D.tup.injEq, Res.d.injEq, SV.d.injEq, Option.map_some, atI_0, atI_1, atI_2, atI_3, decide_eq_true_eq, decide_eq_false_iff_not, and_assoc, tyOk_str, mStr1_d, o_join, o_joinT, o_split, caLen_d, fLen_l, fLen_t, o_lenS, o_slS, o_slL, ixR_n, ixR_i, o_eqI, i_rng, i_rngB, i_val, i_valT, i_str, e_comp, wipeE, o_inC, Bool.not_true, Bool.not_false, Bool.not_eq_true', Bool.not_eq_false', if_true, if_false, Bool.if_true_left, decide_true, decide_false, asg_nm, asg_tp2, asg_tp3, kvSV_d, List.cons.injEq, ft]
            refine ⟨fun hn => ?_, fun hn => ?_⟩
            · apply s_set
              simp only [List.map_cons, List.map_nil, List.length_cons, List.length_nil, List.replicate, List.nil_append, List.cons_append, Nat.reduceAdd, Nat.reduceSub, Nat.zero_add, List.append_nil, e_bin, e_c, e_un, e_if, e_eB, e_nil, e_cons, e_lst, e_tup, e_call, e_fn, e_fnK, e_meth, e_sl, e_pNo, e_eI, e_chain, e_var, eVar, List.getElem?_cons_zero, List.getElem?_cons_succ, o_ok, o_okD, o_none, o_guard, o_op2, o_opI, o_addI, o_addS, o_addL, o_addT, o_mulI, o_mulL, o_ixD, o_ixT, o_ixN, o_ixS, peek_d, peek_tl, peekV_d, asB_d, conv_d, conv_al, conv_nl, conv_vt, conv_at, conv_nt, toVal_d, toVal_t, convV_d, toDs_nil, toDs_cons, ca1_d, ca2_d, plOf_loc, seqQ_nx, seqQ_rt, seqQ_ex, retQ_rt, retQ_ex, rtQ_rt, handR_d, handR_t, fInt_i, fInt_b, fAbs_i, fMax_i, fMin_i, Option.some.injEq, Prod.mk.injEq, exists_eq_left', exists_eq_left, exists_eq', exists_and_left, exists_and_right, and_true, true_and, List.set_cons_zero, List.set_cons_succ, Bool.true_eq_false, Bool.false_eq_true, forall_const, D.int.injEq, D.str.injEq, D.bl.injEq, D.lst.injEq, D.tup.injEq, Res.d.injEq, SV.d.injEq, Option.map_some, atI_0, atI_1, atI_2, atI_3, decide_eq_true_eq, decide_eq_false_iff_not, and_assoc, tyOk_str, mStr1_d, o_join, o_joinT, o_split, caLen_d, fLen_l, fLen_t, o_lenS, o_slS, o_slL, ixR_n, ixR_i, o_eqI, i_rng, i_rngB, i_val, i_valT, i_str, e_comp, wipeE, o_inC, Bool.not_true, Bool.not_false, Bool.not_eq_true', Bool.not_eq_false', if_true, if_false, Bool.if_true_left, decide_true, decide_false, asg_nm, asg_tp2, asg_tp3, kvSV_d, List.cons.injEq]
              exact fin true (by unfold isDeed; rw [h2, hs2, hn]; simp)
            · apply s_nx
              exact fin (inPE ps) (by unfold isDeed; rw [hn]; simp)
          · refine ⟨fun z => z.elim, ?_⟩
            apply s_nx
            exact fin (inPE ps) (by unfold isDeed; rw [hs2]; simp)
        · refine ⟨fun z => z.elim, ?_⟩
          rw [List.length_map] at h2
          apply s_nx
          exact fin (inPE ps) (by unfold isDeed; rw [decide_eq_false (show ¬ ps.length = 2 by omega)]; simp)
    · rintro ρ μ2 ⟨done, rest, e, ex, hd, rfl, rfl⟩
      have hr : rest = [] := by cases rest with
        | nil => rfl
        | cons _ _ => cases ex
      subst hr
      rw [List.append_nil] at e
      subst e
      rw [hss] at hd
      rw [if_pos hd] at q
      have hat : (⟨μ.m ++ [.lst ((ss.map fun p => Txt.split p " ").map dD)], μ.k⟩ : Sto).at (.m μ.m.length) = some (.lst ((ss.map fun p => Txt.split p " ").map dD)) := by
        show (μ.m ++ [_])[μ.m.length]? = _
        rw [List.getElem?_append_right (Nat.le_refl _), Nat.sub_self]; rfl
      show wpS g__law_deeds_in_3 _ _ _
      apply s_ret
      simp only [List.map_cons, List.map_nil, List.length_cons, List.length_nil, List.replicate, List.nil_append, List.cons_append, Nat.reduceAdd, Nat.reduceSub, Nat.zero_add, List.append_nil, e_bin, e_c, e_un, e_if, e_eB, e_nil, e_cons, e_lst, e_tup, e_call, e_fn, e_fnK, e_meth, e_sl, e_pNo, e_eI, e_chain, e_var, eVar, List.getElem?_cons_zero, List.getElem?_cons_succ, o_ok, o_okD, o_none, o_guard, o_op2, o_opI, o_addI, o_addS, o_addL, o_addT, o_mulI, o_mulL, o_ixD, o_ixT, o_ixN, o_ixS, peek_d, peek_tl, peekV_d, asB_d, conv_d, conv_al, conv_nl, conv_vt, conv_at, conv_nt, toVal_d, toVal_t, convV_d, toDs_nil, toDs_cons, ca1_d, ca2_d, plOf_loc, seqQ_nx, seqQ_rt, seqQ_ex, retQ_rt, retQ_ex, rtQ_rt, handR_d, handR_t, fInt_i, fInt_b, fAbs_i, fMax_i, fMin_i, Option.some.injEq, Prod.mk.injEq, exists_eq_left', exists_eq_left, exists_eq', exists_and_left, exists_and_right, and_true, true_and, List.set_cons_zero, List.set_cons_succ, Bool.true_eq_false, Bool.false_eq_true, forall_const, D.int.injEq, D.str.injEq, D.bl.injEq, D.lst.injEq, D.tup.injEq, Res.d.injEq, SV.d.injEq, Option.map_some, atI_0, atI_1, atI_2, atI_3, decide_eq_true_eq, decide_eq_false_iff_not, and_assoc, tyOk_str, mStr1_d, o_join, o_joinT, o_split, caLen_d, fLen_l, fLen_t, o_lenS, o_slS, o_slL, ixR_n, ixR_i, o_eqI, i_rng, i_rngB, i_val, i_valT, i_str, e_comp, wipeE, o_inC, Bool.not_true, Bool.not_false, Bool.not_eq_true', Bool.not_eq_false', if_true, if_false, Bool.if_true_left, decide_true, decide_false, asg_nm, asg_tp2, asg_tp3, kvSV_d, List.cons.injEq, handR_own (Nat.le_refl _) hat]
      have : (⟨μ.m ++ [.lst ((ss.map fun p => Txt.split p " ").map dD)], μ.k⟩ : Sto).cut μ.m.length = μ := by
        show Sto.mk ((μ.m ++ [_]).take μ.m.length) μ.k = μ
        rw [List.take_left']
        rfl
      rw [this, hss]
      exact q
  apply s_seq
  apply s_for
  generalize hI : (fun (xs : List KV) (μ1 : Sto) => ∃ o, forLoop (.nm 2) g__law_deeds_in_b2_1 μ1.m.length [2, 3, 4] xs (wipeE _ [2, 3, 4]) μ1 = some o ∧ seqQ g__law_deeds_in_3 (retQ μ.m.length (rtQ Q)) o) = FL
  simp only [List.map_cons, List.map_nil, List.length_cons, List.length_nil, List.replicate, List.nil_append, List.cons_append, Nat.reduceAdd, Nat.reduceSub, Nat.zero_add, List.append_nil, e_bin, e_c, e_un, e_if, e_eB, e_nil, e_cons, e_lst, e_tup, e_call, e_fn, e_fnK, e_meth, e_sl, e_pNo, e_eI, e_chain, e_var, eVar, List.getElem?_cons_zero, List.getElem?_cons_succ, o_ok, o_okD, o_none, o_guard, o_op2, o_opI, o_addI, o_addS, o_addL, o_addT, o_mulI, o_mulL, o_ixD, o_ixT, o_ixN, o_ixS, peek_d, peek_tl, peekV_d, asB_d, conv_d, conv_al, conv_nl, conv_vt, conv_at, conv_nt, toVal_d, toVal_t, convV_d, toDs_nil, toDs_cons, ca1_d, ca2_d, plOf_loc, seqQ_nx, seqQ_rt, seqQ_ex, retQ_rt, retQ_ex, rtQ_rt, handR_d, handR_t, fInt_i, fInt_b, fAbs_i, fMax_i, fMin_i, Option.some.injEq, Prod.mk.injEq, exists_eq_left', exists_eq_left, exists_eq', exists_and_left, exists_and_right, and_true, true_and, List.set_cons_zero, List.set_cons_succ, Bool.true_eq_false, Bool.false_eq_true, forall_const, D.int.injEq, D.str.injEq, D.bl.injEq, D.lst.injEq, D.tup.injEq, Res.d.injEq, SV.d.injEq, Option.map_some, atI_0, atI_1, atI_2, atI_3, decide_eq_true_eq, decide_eq_false_iff_not, and_assoc, tyOk_str, mStr1_d, o_join, o_joinT, o_split, caLen_d, fLen_l, fLen_t, o_lenS, o_slS, o_slL, ixR_n, ixR_i, o_eqI, i_rng, i_rngB, i_val, i_valT, i_str, e_comp, wipeE, o_inC, Bool.not_true, Bool.not_false, Bool.not_eq_true', Bool.not_eq_false', if_true, if_false, Bool.if_true_left, decide_true, decide_false, asg_nm, asg_tp2, asg_tp3, kvSV_d, List.cons.injEq, eo]
  refine ⟨fun h => ?_, fun h => ?_⟩
  · refine ⟨by decide +kernel, small_line (by omega), ?_⟩
    rw [← hI]
    exact main (Txt.split t ", ") (by unfold parts; rw [if_neg h]) (ht.split (by rw [len_sep2]; decide))
  · refine ⟨small_line (by decide), ?_⟩
    rw [← hI]
    exact main [] (by unfold parts; rw [if_pos h]; rfl) (by simp)
end
end DF
namespace DF
open PySem PySem.Spec PyProof.Rows L2
def owed (t : Str) : D := .lst (if (parts t).all isDeed = true then [.lst ((parts t).map dD)] else [])
section
variable {μ : Sto} {Q : Res → Sto → Prop} {t : Str} {way : Int}
theorem isErr_run {i c : Nat} {x : D} {h : Nat → Option Bool} {b : Bool} {ρ : En} {R : Res → Sto → Prop} (e : ρ[i]? = some (some (.err c x))) (hb : h c = some b) : wpE (eIsErr i h) ρ μ R ↔ R (.d (.bl b)) μ := by
  have : eIsErr i h ρ μ = okD μ (.bl b) := by
    unfold eIsErr
    rw [e]
    dsimp only
    rw [hb]
  show wpO (eIsErr i h ρ μ) R ↔ _
  rw [this, o_okD]
theorem errVal_run {i c : Nat} {x : D} {ρ : En} {R : Res → Sto → Prop} (e : ρ[i]? = some (some (.err c x))) : wpE (eErrVal i) ρ μ R ↔ R (.d x) μ := by
  have : eErrVal i ρ μ = okD μ x := by
    unfold eErrVal
    rw [e]
  show wpO (eErrVal i ρ μ) R ↔ _
  rw [this, o_okD]
theorem caught_ok (ht : Sx 3000 t) (q : Q (.d (owed t)) μ) : wpF f__law_caught_his [.d (.str t), .d (.int way)] μ (rtQ Q) := by
  have htl := ht.1
  have ht2 : Sx 170000 t := ht.le (by decide)
  have es : ∀ (b : Bool) (ν : Sto) (R : Res → Sto → Prop), wpO (fEq b ν (.str t) (.str t)) R ↔ R (.d (.bl (if b then !true else true))) ν := fun b ν R => by
    rw [o_eq, D.eq_str, decide_eq_true rfl]
    exact ⟨fun z => z.2, fun z => ⟨⟨rfl, rfl, by simp [dep]⟩, z⟩⟩
  apply f_def
  apply s_seq
  apply s_set
  simp only [List.map_cons, List.map_nil, List.length_cons, List.length_nil, List.replicate, List.nil_append, List.cons_append, Nat.reduceAdd, Nat.reduceSub, Nat.zero_add, List.append_nil, e_bin, e_c, e_un, e_if, e_eB, e_nil, e_cons, e_lst, e_tup, e_call, e_fn, e_fnK, e_meth, e_sl, e_pNo, e_eI, e_chain, e_var, eVar, List.getElem?_cons_zero, List.getElem?_cons_succ, o_ok, o_okD, o_none, o_guard, o_op2, o_opI, o_addI, o_addS, o_addL, o_addT, o_mulI, o_mulL, o_ixD, o_ixT, o_ixN, o_ixS, peek_d, peek_tl, peekV_d, asB_d, conv_d, conv_al, conv_nl, conv_vt, conv_at, conv_nt, toVal_d, toVal_t, convV_d, toDs_nil, toDs_cons, ca1_d, ca2_d, plOf_loc, seqQ_nx, seqQ_rt, seqQ_ex, retQ_rt, retQ_ex, rtQ_rt, handR_d, handR_t, fInt_i, fInt_b, fAbs_i, fMax_i, fMin_i, Option.some.injEq, Prod.mk.injEq, exists_eq_left', exists_eq_left, exists_eq', exists_and_left, exists_and_right, and_true, true_and, List.set_cons_zero, List.set_cons_succ, Bool.true_eq_false, Bool.false_eq_true, forall_const, D.int.injEq, D.str.injEq, D.bl.injEq, D.lst.injEq, D.tup.injEq, Res.d.injEq, SV.d.injEq, Option.map_some, atI_0, atI_1, atI_2, atI_3, decide_eq_true_eq, decide_eq_false_iff_not, and_assoc, tyOk_str, mStr1_d, o_join, o_joinT, o_split, caLen_d, fLen_l, fLen_t, o_lenS, o_slS, o_slL, ixR_n, ixR_i, o_eqI, i_rng, i_rngB, i_val, i_valT, i_str, e_comp, wipeE, o_inC, Bool.not_true, Bool.not_false, Bool.not_eq_true', Bool.not_eq_false', if_true, if_false, Bool.if_true_left, decide_true, decide_false, asg_nm, asg_tp2, asg_tp3, kvSV_d, List.cons.injEq]
  refine ⟨small_line (by decide), ?_⟩
  apply s_seq
  apply s_try
  by_cases ha : (parts t).all isDeed = true
  · have eq : owed t = .lst [.lst ((parts t).map dD)] := by unfold owed; rw [if_pos ha]
    rw [eq] at q
    apply s_seq
    apply s_set
    have fin : wpS g__law_caught_his_b2_2 [some (.d (.str t)), some (.d (.int way)), some (.d (.lst [])), none, some (.d (.lst ((parts t).map dD))), none] μ (tryQ 3 hm_WorthError g__law_caught_his_b3_1 (seqQ g__law_caught_his_3 (retQ μ.m.length (rtQ Q)))) := by
      apply s_set
      generalize hI : tryQ 3 hm_WorthError g__law_caught_his_b3_1 (seqQ g__law_caught_his_3 (retQ μ.m.length (rtQ Q))) = TQ
      simp only [List.map_cons, List.map_nil, List.length_cons, List.length_nil, List.replicate, List.nil_append, List.cons_append, Nat.reduceAdd, Nat.reduceSub, Nat.zero_add, List.append_nil, e_bin, e_c, e_un, e_if, e_eB, e_nil, e_cons, e_lst, e_tup, e_call, e_fn, e_fnK, e_meth, e_sl, e_pNo, e_eI, e_chain, e_var, eVar, List.getElem?_cons_zero, List.getElem?_cons_succ, o_ok, o_okD, o_none, o_guard, o_op2, o_opI, o_addI, o_addS, o_addL, o_addT, o_mulI, o_mulL, o_ixD, o_ixT, o_ixN, o_ixS, peek_d, peek_tl, peekV_d, asB_d, conv_d, conv_al, conv_nl, conv_vt, conv_at, conv_nt, toVal_d, toVal_t, convV_d, toDs_nil, toDs_cons, ca1_d, ca2_d, plOf_loc, seqQ_nx, seqQ_rt, seqQ_ex, retQ_rt, retQ_ex, rtQ_rt, handR_d, handR_t, fInt_i, fInt_b, fAbs_i, fMax_i, fMin_i, Option.some.injEq, Prod.mk.injEq, exists_eq_left', exists_eq_left, exists_eq', exists_and_left, exists_and_right, and_true, true_and, List.set_cons_zero, List.set_cons_succ, Bool.true_eq_false, Bool.false_eq_true, forall_const, D.int.injEq, D.str.injEq, D.bl.injEq, D.lst.injEq, D.tup.injEq, Res.d.injEq, SV.d.injEq, Option.map_some, atI_0, atI_1, atI_2, atI_3, decide_eq_true_eq, decide_eq_false_iff_not, and_assoc, tyOk_str, mStr1_d, o_join, o_joinT, o_split, caLen_d, fLen_l, fLen_t, o_lenS, o_slS, o_slL, ixR_n, ixR_i, o_eqI, i_rng, i_rngB, i_val, i_valT, i_str, e_comp, wipeE, o_inC, Bool.not_true, Bool.not_false, Bool.not_eq_true', Bool.not_eq_false', if_true, if_false, Bool.if_true_left, decide_true, decide_false, asg_nm, asg_tp2, asg_tp3, kvSV_d, List.cons.injEq]
      refine show_ok (ht.le (by decide)) ?_
      simp only [List.map_cons, List.map_nil, List.length_cons, List.length_nil, List.replicate, List.nil_append, List.cons_append, Nat.reduceAdd, Nat.reduceSub, Nat.zero_add, List.append_nil, e_bin, e_c, e_un, e_if, e_eB, e_nil, e_cons, e_lst, e_tup, e_call, e_fn, e_fnK, e_meth, e_sl, e_pNo, e_eI, e_chain, e_var, eVar, List.getElem?_cons_zero, List.getElem?_cons_succ, o_ok, o_okD, o_none, o_guard, o_op2, o_opI, o_addI, o_addS, o_addL, o_addT, o_mulI, o_mulL, o_ixD, o_ixT, o_ixN, o_ixS, peek_d, peek_tl, peekV_d, asB_d, conv_d, conv_al, conv_nl, conv_vt, conv_at, conv_nt, toVal_d, toVal_t, convV_d, toDs_nil, toDs_cons, ca1_d, ca2_d, plOf_loc, seqQ_nx, seqQ_rt, seqQ_ex, retQ_rt, retQ_ex, rtQ_rt, handR_d, handR_t, fInt_i, fInt_b, fAbs_i, fMax_i, fMin_i, Option.some.injEq, Prod.mk.injEq, exists_eq_left', exists_eq_left, exists_eq', exists_and_left, exists_and_right, and_true, true_and, List.set_cons_zero, List.set_cons_succ, Bool.true_eq_false, Bool.false_eq_true, forall_const, D.int.injEq, D.str.injEq, D.bl.injEq, D.lst.injEq, D.tup.injEq, Res.d.injEq, SV.d.injEq, Option.map_some, atI_0, atI_1, atI_2, atI_3, decide_eq_true_eq, decide_eq_false_iff_not, and_assoc, tyOk_str, mStr1_d, o_join, o_joinT, o_split, caLen_d, fLen_l, fLen_t, o_lenS, o_slS, o_slL, ixR_n, ixR_i, o_eqI, i_rng, i_rngB, i_val, i_valT, i_str, e_comp, wipeE, o_inC, Bool.not_true, Bool.not_false, Bool.not_eq_true', Bool.not_eq_false', if_true, if_false, Bool.if_true_left, decide_true, decide_false, asg_nm, asg_tp2, asg_tp3, kvSV_d, List.cons.injEq, es]
      refine ⟨small_line (by decide), ?_, fun z => z.elim⟩
      rw [← hI]
      show wpS g__law_caught_his_3 _ _ _
      apply s_ret
      simp only [List.map_cons, List.map_nil, List.length_cons, List.length_nil, List.replicate, List.nil_append, List.cons_append, Nat.reduceAdd, Nat.reduceSub, Nat.zero_add, List.append_nil, e_bin, e_c, e_un, e_if, e_eB, e_nil, e_cons, e_lst, e_tup, e_call, e_fn, e_fnK, e_meth, e_sl, e_pNo, e_eI, e_chain, e_var, eVar, List.getElem?_cons_zero, List.getElem?_cons_succ, o_ok, o_okD, o_none, o_guard, o_op2, o_opI, o_addI, o_addS, o_addL, o_addT, o_mulI, o_mulL, o_ixD, o_ixT, o_ixN, o_ixS, peek_d, peek_tl, peekV_d, asB_d, conv_d, conv_al, conv_nl, conv_vt, conv_at, conv_nt, toVal_d, toVal_t, convV_d, toDs_nil, toDs_cons, ca1_d, ca2_d, plOf_loc, seqQ_nx, seqQ_rt, seqQ_ex, retQ_rt, retQ_ex, rtQ_rt, handR_d, handR_t, fInt_i, fInt_b, fAbs_i, fMax_i, fMin_i, Option.some.injEq, Prod.mk.injEq, exists_eq_left', exists_eq_left, exists_eq', exists_and_left, exists_and_right, and_true, true_and, List.set_cons_zero, List.set_cons_succ, Bool.true_eq_false, Bool.false_eq_true, forall_const, D.int.injEq, D.str.injEq, D.bl.injEq, D.lst.injEq, D.tup.injEq, Res.d.injEq, SV.d.injEq, Option.map_some, atI_0, atI_1, atI_2, atI_3, decide_eq_true_eq, decide_eq_false_iff_not, and_assoc, tyOk_str, mStr1_d, o_join, o_joinT, o_split, caLen_d, fLen_l, fLen_t, o_lenS, o_slS, o_slL, ixR_n, ixR_i, o_eqI, i_rng, i_rngB, i_val, i_valT, i_str, e_comp, wipeE, o_inC, Bool.not_true, Bool.not_false, Bool.not_eq_true', Bool.not_eq_false', if_true, if_false, Bool.if_true_left, decide_true, decide_false, asg_nm, asg_tp2, asg_tp3, kvSV_d, List.cons.injEq]
      rw [cut_id (Nat.le_refl _)]
      exact q
    generalize hI : tryQ 3 hm_WorthError g__law_caught_his_b3_1 (seqQ g__law_caught_his_3 (retQ μ.m.length (rtQ Q))) = TQ at fin ⊢
    simp only [List.map_cons, List.map_nil, List.length_cons, List.length_nil, List.replicate, List.nil_append, List.cons_append, Nat.reduceAdd, Nat.reduceSub, Nat.zero_add, List.append_nil, e_bin, e_c, e_un, e_if, e_eB, e_nil, e_cons, e_lst, e_tup, e_call, e_fn, e_fnK, e_meth, e_sl, e_pNo, e_eI, e_chain, e_var, eVar, List.getElem?_cons_zero, List.getElem?_cons_succ, o_ok, o_okD, o_none, o_guard, o_op2, o_opI, o_addI, o_addS, o_addL, o_addT, o_mulI, o_mulL, o_ixD, o_ixT, o_ixN, o_ixS, peek_d, peek_tl, peekV_d, asB_d, conv_d, conv_al, conv_nl, conv_vt, conv_at, conv_nt, toVal_d, toVal_t, convV_d, toDs_nil, toDs_cons, ca1_d, ca2_d, plOf_loc, seqQ_nx, seqQ_rt, seqQ_ex, retQ_rt, retQ_ex, rtQ_rt, handR_d, handR_t, fInt_i, fInt_b, fAbs_i, fMax_i, fMin_i, Option.some.injEq, Prod.mk.injEq, exists_eq_left', exists_eq_left, exists_eq', exists_and_left, exists_and_right, and_true, true_and, List.set_cons_zero, List.set_cons_succ, Bool.true_eq_false, Bool.false_eq_true, forall_const, D.int.injEq, D.str.injEq, D.bl.injEq, D.lst.injEq, D.tup.injEq, Res.d.injEq, SV.d.injEq, Option.map_some, atI_0, atI_1, atI_2, atI_3, decide_eq_true_eq, decide_eq_false_iff_not, and_assoc, tyOk_str, mStr1_d, o_join, o_joinT, o_split, caLen_d, fLen_l, fLen_t, o_lenS, o_slS, o_slL, ixR_n, ixR_i, o_eqI, i_rng, i_rngB, i_val, i_valT, i_str, e_comp, wipeE, o_inC, Bool.not_true, Bool.not_false, Bool.not_eq_true', Bool.not_eq_false', if_true, if_false, Bool.if_true_left, decide_true, decide_false, asg_nm, asg_tp2, asg_tp3, kvSV_d, List.cons.injEq]
    refine ⟨fun _ => ?_, fun _ => ?_⟩
    · refine read_ok ht2 ?_
      rw [if_pos ha]
      simp only [List.map_cons, List.map_nil, List.length_cons, List.length_nil, List.replicate, List.nil_append, List.cons_append, Nat.reduceAdd, Nat.reduceSub, Nat.zero_add, List.append_nil, e_bin, e_c, e_un, e_if, e_eB, e_nil, e_cons, e_lst, e_tup, e_call, e_fn, e_fnK, e_meth, e_sl, e_pNo, e_eI, e_chain, e_var, eVar, List.getElem?_cons_zero, List.getElem?_cons_succ, o_ok, o_okD, o_none, o_guard, o_op2, o_opI, o_addI, o_addS, o_addL, o_addT, o_mulI, o_mulL, o_ixD, o_ixT, o_ixN, o_ixS, peek_d, peek_tl, peekV_d, asB_d, conv_d, conv_al, conv_nl, conv_vt, conv_at, conv_nt, toVal_d, toVal_t, convV_d, toDs_nil, toDs_cons, ca1_d, ca2_d, plOf_loc, seqQ_nx, seqQ_rt, seqQ_ex, retQ_rt, retQ_ex, rtQ_rt, handR_d, handR_t, fInt_i, fInt_b, fAbs_i, fMax_i, fMin_i, Option.some.injEq, Prod.mk.injEq, exists_eq_left', exists_eq_left, exists_eq', exists_and_left, exists_and_right, and_true, true_and, List.set_cons_zero, List.set_cons_succ, Bool.true_eq_false, Bool.false_eq_true, forall_const, D.int.injEq, D.str.injEq, D.bl.injEq, D.lst.injEq, D.tup.injEq, Res.d.injEq, SV.d.injEq, Option.map_some, atI_0, atI_1, atI_2, atI_3, decide_eq_true_eq, decide_eq_false_iff_not, and_assoc, tyOk_str, mStr1_d, o_join, o_joinT, o_split, caLen_d, fLen_l, fLen_t, o_lenS, o_slS, o_slL, ixR_n, ixR_i, o_eqI, i_rng, i_rngB, i_val, i_valT, i_str, e_comp, wipeE, o_inC, Bool.not_true, Bool.not_false, Bool.not_eq_true', Bool.not_eq_false', if_true, if_false, Bool.if_true_left, decide_true, decide_false, asg_nm, asg_tp2, asg_tp3, kvSV_d, List.cons.injEq]
      exact fin
    · refine read_ok ht2 ?_
      rw [if_pos ha]
      simp only [List.map_cons, List.map_nil, List.length_cons, List.length_nil, List.replicate, List.nil_append, List.cons_append, Nat.reduceAdd, Nat.reduceSub, Nat.zero_add, List.append_nil, e_bin, e_c, e_un, e_if, e_eB, e_nil, e_cons, e_lst, e_tup, e_call, e_fn, e_fnK, e_meth, e_sl, e_pNo, e_eI, e_chain, e_var, eVar, List.getElem?_cons_zero, List.getElem?_cons_succ, o_ok, o_okD, o_none, o_guard, o_op2, o_opI, o_addI, o_addS, o_addL, o_addT, o_mulI, o_mulL, o_ixD, o_ixT, o_ixN, o_ixS, peek_d, peek_tl, peekV_d, asB_d, conv_d, conv_al, conv_nl, conv_vt, conv_at, conv_nt, toVal_d, toVal_t, convV_d, toDs_nil, toDs_cons, ca1_d, ca2_d, plOf_loc, seqQ_nx, seqQ_rt, seqQ_ex, retQ_rt, retQ_ex, rtQ_rt, handR_d, handR_t, fInt_i, fInt_b, fAbs_i, fMax_i, fMin_i, Option.some.injEq, Prod.mk.injEq, exists_eq_left', exists_eq_left, exists_eq', exists_and_left, exists_and_right, and_true, true_and, List.set_cons_zero, List.set_cons_succ, Bool.true_eq_false, Bool.false_eq_true, forall_const, D.int.injEq, D.str.injEq, D.bl.injEq, D.lst.injEq, D.tup.injEq, Res.d.injEq, SV.d.injEq, Option.map_some, atI_0, atI_1, atI_2, atI_3, decide_eq_true_eq, decide_eq_false_iff_not, and_assoc, tyOk_str, mStr1_d, o_join, o_joinT, o_split, caLen_d, fLen_l, fLen_t, o_lenS, o_slS, o_slL, ixR_n, ixR_i, o_eqI, i_rng, i_rngB, i_val, i_valT, i_str, e_comp, wipeE, o_inC, Bool.not_true, Bool.not_false, Bool.not_eq_true', Bool.not_eq_false', if_true, if_false, Bool.if_true_left, decide_true, decide_false, asg_nm, asg_tp2, asg_tp3, kvSV_d, List.cons.injEq]
      exact fin
  · have eq : owed t = .lst [] := by unfold owed; rw [if_neg ha]
    rw [eq] at q
    obtain ⟨o, er, ho⟩ := read_ok (QF := fun o => o = .ex 0 (.str t) μ) ht2 (by rw [if_neg ha])
    subst ho
    -- the body raises
    have eb : (sSet 4 .v (eIf (eBin (opEq false) (eVar 1) (eC (.int 0))) (eFn f_read_history (aCons .a (eVar 0) (aNil))) (eFnK f_read_history aNil (aCons .a (eVar 0) (aNil))))) [some (.d (.str t)), some (.d (.int way)), some (.d (.lst [])), none, none, none] μ = some (.ex 0 (.str t) [some (.d (.str t)), some (.d (.int way)), some (.d (.lst [])), none, none, none] μ) := by
      have ec : wpE (eBin (opEq false) (eVar 1) (eC (.int 0))) [some (.d (.str t)), some (.d (.int way)), some (.d (.lst [])), none, none, none] μ fun r μ' => ∃ b, r = .d (.bl b) ∧ μ' = μ := by
        simp only [List.map_cons, List.map_nil, List.length_cons, List.length_nil, List.replicate, List.nil_append, List.cons_append, Nat.reduceAdd, Nat.reduceSub, Nat.zero_add, List.append_nil, e_bin, e_c, e_un, e_if, e_eB, e_nil, e_cons, e_lst, e_tup, e_call, e_fn, e_fnK, e_meth, e_sl, e_pNo, e_eI, e_chain, e_var, eVar, List.getElem?_cons_zero, List.getElem?_cons_succ, o_ok, o_okD, o_none, o_guard, o_op2, o_opI, o_addI, o_addS, o_addL, o_addT, o_mulI, o_mulL, o_ixD, o_ixT, o_ixN, o_ixS, peek_d, peek_tl, peekV_d, asB_d, conv_d, conv_al, conv_nl, conv_vt, conv_at, conv_nt, toVal_d, toVal_t, convV_d, toDs_nil, toDs_cons, ca1_d, ca2_d, plOf_loc, seqQ_nx, seqQ_rt, seqQ_ex, retQ_rt, retQ_ex, rtQ_rt, handR_d, handR_t, fInt_i, fInt_b, fAbs_i, fMax_i, fMin_i, Option.some.injEq, Prod.mk.injEq, exists_eq_left', exists_eq_left, exists_eq', exists_and_left, exists_and_right, and_true, true_and, List.set_cons_zero, List.set_cons_succ, Bool.true_eq_false, Bool.false_eq_true, forall_const, D.int.injEq, D.str.injEq, D.bl.injEq, D.lst.injEq, D.tup.injEq, Res.d.injEq, SV.d.injEq, Option.map_some, atI_0, atI_1, atI_2, atI_3, decide_eq_true_eq, decide_eq_false_iff_not, and_assoc, tyOk_str, mStr1_d, o_join, o_joinT, o_split, caLen_d, fLen_l, fLen_t, o_lenS, o_slS, o_slL, ixR_n, ixR_i, o_eqI, i_rng, i_rngB, i_val, i_valT, i_str, e_comp, wipeE, o_inC, Bool.not_true, Bool.not_false, Bool.not_eq_true', Bool.not_eq_false', if_true, if_false, Bool.if_true_left, decide_true, decide_false, asg_nm, asg_tp2, asg_tp3, kvSV_d, List.cons.injEq]
      obtain ⟨r, μ', ec, b, rfl, rfl⟩ := ec
      have e1 : eFn f_read_history (aCons .a (eVar 0) aNil) [some (.d (.str t)), some (.d (.int way)), some (.d (.lst [])), none, none, none] μ' = some (.ex 0 (.str t) μ') := by
        have ea : (aCons .a (eVar 0) aNil) [some (.d (.str t)), some (.d (.int way)), some (.d (.lst [])), none, none, none] μ' = some (.ok [.d (.str t)] μ') := rfl
        unfold eFn
        rw [ea]
        dsimp only
        rw [er]
      have e2 : eFnK f_read_history aNil (aCons .a (eVar 0) aNil) [some (.d (.str t)), some (.d (.int way)), some (.d (.lst [])), none, none, none] μ' = some (.ex 0 (.str t) μ') := by
        have ea : (aCons .a (eVar 0) aNil) [some (.d (.str t)), some (.d (.int way)), some (.d (.lst [])), none, none, none] μ' = some (.ok [.d (.str t)] μ') := rfl
        have en : ∀ ρ : En, aNil ρ μ' = some (.ok [] μ') := fun _ => rfl
        unfold eFnK
        rw [en]
        dsimp only
        rw [ea]
        dsimp only
        rw [show ([] : List SV) ++ [.d (.str t)] = [.d (.str t)] from rfl, er]
      unfold sSet sThen eIf
      rw [ec]
      cases b with
      | true => dsimp only [asB]; rw [e1]
      | false => dsimp only [asB]; rw [e2]
    apply s_seq
    refine ⟨_, eb, ?_⟩
    show tryQ 3 hm_WorthError g__law_caught_his_b3_1 _ (.ex 0 _ _ _)
    refine .inl ⟨rfl, ?_⟩
    have en : noErr [some (.d (.str t)), some (.d (.int way)), some (.d (.lst [])), none, none, none] = [some (.d (.str t)), some (.d (.int way)), some (.d (.lst [])), none, none, none] := rfl
    rw [en]
    apply s_seq
    apply s_set
    simp only [List.set_cons_succ, List.set_cons_zero]
    have i1 : ∀ R : Res → Sto → Prop, wpE (eIsErr 3 is_InvalidDeed_InvalidName) [some (.d (.str t)), some (.d (.int way)), some (.d (.lst [])), some (.err 0 (.str t)), none, none] μ R ↔ R (.d (.bl false)) μ := fun R => isErr_run rfl rfl
    have i2 : ∀ R : Res → Sto → Prop, wpE (eIsErr 3 is_Unreadable) [some (.d (.str t)), some (.d (.int way)), some (.d (.lst [])), some (.err 0 (.str t)), none, none] μ R ↔ R (.d (.bl true)) μ := fun R => isErr_run rfl rfl
    have i3 : ∀ R : Res → Sto → Prop, wpE (eErrVal 3) [some (.d (.str t)), some (.d (.int way)), some (.d (.lst [])), some (.err 0 (.str t)), none, some (.d (.bl false))] μ R ↔ R (.d (.str t)) μ := fun R => errVal_run rfl
    have ft : ∀ (ν : Sto) (b : Bool) (R : Res → Sto → Prop), wpO (fTru ν (.d (.bl b))) R ↔ R (.d (.bl b)) ν := fun ν b R => o_ok
    generalize hI : seqQ g__law_caught_his_3 (retQ μ.m.length (rtQ Q)) = QQ
    have hq : ∀ ρ μ, QQ (.nx ρ μ) = seqQ g__law_caught_his_3 (retQ μ.m.length (rtQ Q)) (.nx ρ μ) ∨ True := fun _ _ => .inr trivial
    simp only [List.map_cons, List.map_nil, List.length_cons, List.length_nil, List.replicate, List.nil_append, List.cons_append, Nat.reduceAdd, Nat.reduceSub, Nat.zero_add, List.append_nil, e_bin, e_c, e_un, e_if, e_eB, e_nil, e_cons, e_lst, e_tup, e_call, e_fn, e_fnK, e_meth, e_sl, e_pNo, e_eI, e_chain, e_var, eVar, List.getElem?_cons_zero, List.getElem?_cons_succ, o_ok, o_okD, o_none, o_guard, o_op2, o_opI, o_addI, o_addS, o_addL, o_addT, o_mulI, o_mulL, o_ixD, o_ixT, o_ixN, o_ixS, peek_d, peek_tl, peekV_d, asB_d, conv_d, conv_al, conv_nl, conv_vt, conv_at, conv_nt, toVal_d, toVal_t, convV_d, toDs_nil, toDs_cons, ca1_d, ca2_d, plOf_loc, seqQ_nx, seqQ_rt, seqQ_ex, retQ_rt, retQ_ex, rtQ_rt, handR_d, handR_t, fInt_i, fInt_b, fAbs_i, fMax_i, fMin_i, Option.some.injEq, Prod.mk.injEq, exists_eq_left', exists_eq_left, exists_eq', exists_and_left, exists_and_right, and_true, true_and, List.set_cons_zero, List.set_cons_succ, Bool.true_eq_false, Bool.false_eq_true, forall_const, D.int.injEq, D.str.injEq, D.bl.injEq, D.lst.injEq, D.tup.injEq, Res.d.injEq, SV.d.injEq, Option.map_some, atI_0, atI_1, atI_2, atI_3, decide_eq_true_eq, decide_eq_false_iff_not, and_assoc, tyOk_str, mStr1_d, o_join, o_joinT, o_split, caLen_d, fLen_l, fLen_t, o_lenS, o_slS, o_slL, ixR_n, ixR_i, o_eqI, i_rng, i_rngB, i_val, i_valT, i_str, e_comp, wipeE, o_inC, Bool.not_true, Bool.not_false, Bool.not_eq_true', Bool.not_eq_false', if_true, if_false, Bool.if_true_left, decide_true, decide_false, asg_nm, asg_tp2, asg_tp3, kvSV_d, List.cons.injEq, i1, i2]
    refine ⟨fun z => z.elim, ?_, fun z => z.elim⟩
    apply s_set
    simp only [List.map_cons, List.map_nil, List.length_cons, List.length_nil, List.replicate, List.nil_append, List.cons_append, Nat.reduceAdd, Nat.reduceSub, Nat.zero_add, List.append_nil, e_bin, e_c, e_un, e_if, e_eB, e_nil, e_cons, e_lst, e_tup, e_call, e_fn, e_fnK, e_meth, e_sl, e_pNo, e_eI, e_chain, e_var, eVar, List.getElem?_cons_zero, List.getElem?_cons_succ, o_ok, o_okD, o_none, o_guard, o_op2, o_opI, o_addI, o_addS, o_addL, o_addT, o_mulI, o_mulL, o_ixD, o_ixT, o_ixN, o_ixS, peek_d, peek_tl, peekV_d, asB_d, conv_d, conv_al, conv_nl, conv_vt, conv_at, conv_nt, toVal_d, toVal_t, convV_d, toDs_nil, toDs_cons, ca1_d, ca2_d, plOf_loc, seqQ_nx, seqQ_rt, seqQ_ex, retQ_rt, retQ_ex, rtQ_rt, handR_d, handR_t, fInt_i, fInt_b, fAbs_i, fMax_i, fMin_i, Option.some.injEq, Prod.mk.injEq, exists_eq_left', exists_eq_left, exists_eq', exists_and_left, exists_and_right, and_true, true_and, List.set_cons_zero, List.set_cons_succ, Bool.true_eq_false, Bool.false_eq_true, forall_const, D.int.injEq, D.str.injEq, D.bl.injEq, D.lst.injEq, D.tup.injEq, Res.d.injEq, SV.d.injEq, Option.map_some, atI_0, atI_1, atI_2, atI_3, decide_eq_true_eq, decide_eq_false_iff_not, and_assoc, tyOk_str, mStr1_d, o_join, o_joinT, o_split, caLen_d, fLen_l, fLen_t, o_lenS, o_slS, o_slL, ixR_n, ixR_i, o_eqI, i_rng, i_rngB, i_val, i_valT, i_str, e_comp, wipeE, o_inC, Bool.not_true, Bool.not_false, Bool.not_eq_true', Bool.not_eq_false', if_true, if_false, Bool.if_true_left, decide_true, decide_false, asg_nm, asg_tp2, asg_tp3, kvSV_d, List.cons.injEq, i3, ft, es]
    refine ⟨fun z => z.elim, fun z => z.elim, small_line (by decide), ?_⟩
    rw [← hI]
    show wpS g__law_caught_his_3 _ _ _
    apply s_ret
    have e2 : eVar 2 (List.set (noErr [some (.d (.str t)), some (.d (.int way)), some (.d (.lst [])), some (.err 0 (.str t)), none, some (.d (.bl false))]) 3 none) μ = some (.ok (.d (.lst [])) μ) := rfl
    refine ⟨_, _, e2, ?_⟩
    refine ⟨_, rfl, ?_⟩
    rw [cut_id (Nat.le_refl _)]
    exact q
end
end DF
namespace DF
open PySem PySem.Spec PyProof.Rows L2
theorem noObjs_dD : ∀ l : List (List Str), noObjs (l.map dD) = true
  | [] => rfl
  | d :: r => by rw [List.map_cons, noObjs, noObj_dD, noObjs_dD r]; rfl
theorem deps_dD : ∀ l : List (List Str), deps (l.map dD) ≤ 1
  | [] => by simp [deps]
  | d :: r => by
    rw [List.map_cons, deps, dep_dD]
    have := deps_dD r
    omega
theorem noObj_owed (t : Str) : noObj (owed t) = true := by
  unfold owed
  split
  · rw [noObj, noObjs, noObj, noObjs_dD]; rfl
  · rfl
theorem dep_owed (t : Str) : dep (owed t) ≤ 3 := by
  unfold owed
  split
  · have := deps_dD (parts t)
    simp only [dep, deps]
    omega
  · simp [dep, deps]
section
variable {n k : Nat} {μ : Sto} {Q : Res → Sto → Prop}
theorem right_ok (h : Pur n (k + 4000) μ) (q : ∀ μ', Pw n k μ μ' → Q (.d (.bl true)) μ') : wpF f__law_right [.loc n] μ (rtQ Q) := by
  have hn := h.lt
  have hS0 := Sta.start h
  apply f_def
  apply s_seq
  apply s_set
  simp only [List.map_cons, List.map_nil, List.length_cons, List.length_nil, List.replicate, List.nil_append, List.cons_append, Nat.reduceAdd, Nat.reduceSub, Nat.zero_add, List.append_nil, e_bin, e_c, e_un, e_if, e_eB, e_nil, e_cons, e_lst, e_tup, e_call, e_fn, e_fnK, e_meth, e_sl, e_pNo, e_eI, e_chain, e_var, eVar, List.getElem?_cons_zero, List.getElem?_cons_succ, o_ok, o_okD, o_none, o_guard, o_op2, o_opI, o_addI, o_addS, o_addL, o_addT, o_mulI, o_mulL, o_ixD, o_ixT, o_ixN, o_ixS, peek_d, peek_tl, peekV_d, asB_d, conv_d, conv_al, conv_nl, conv_vt, conv_at, conv_nt, toVal_d, toVal_t, convV_d, toDs_nil, toDs_cons, ca1_d, ca2_d, plOf_loc, seqQ_nx, seqQ_rt, seqQ_ex, retQ_rt, retQ_ex, rtQ_rt, handR_d, handR_t, fInt_i, fInt_b, fAbs_i, fMax_i, fMin_i, Option.some.injEq, Prod.mk.injEq, exists_eq_left', exists_eq_left, exists_eq', exists_and_left, exists_and_right, and_true, true_and, List.set_cons_zero, List.set_cons_succ, Bool.true_eq_false, Bool.false_eq_true, forall_const, D.int.injEq, D.str.injEq, D.bl.injEq, D.lst.injEq, D.tup.injEq, Res.d.injEq, SV.d.injEq, Option.map_some, atI_0, atI_1, atI_2, atI_3, decide_eq_true_eq, decide_eq_false_iff_not, and_assoc, tyOk_str, mStr1_d, o_join, o_joinT, o_split, caLen_d, fLen_l, fLen_t, o_lenS, o_slS, o_slL, ixR_n, ixR_i, o_eqI, i_rng, i_rngB, i_val, i_valT, i_str, e_comp, wipeE, o_inC, Bool.not_true, Bool.not_false, Bool.not_eq_true', Bool.not_eq_false', if_true, if_false, Bool.if_true_left, decide_true, decide_false, asg_nm, asg_tp2, asg_tp3, kvSV_d, List.cons.injEq]
  refine ⟨small_line (by decide), ?_⟩
  refine plan_ok (s0 := 3) (s1 := 4) (s2 := 3) (s3 := 2) (k := k + 3000) h (by decide) (by decide) (by decide) (by decide) (by decide) (by decide) fun ps eds μ1 hp w1 => ?_
  have hS1 := hS0.pw hn w1
  simp only [List.map_cons, List.map_nil, List.length_cons, List.length_nil, List.replicate, List.nil_append, List.cons_append, Nat.reduceAdd, Nat.reduceSub, Nat.zero_add, List.append_nil, e_bin, e_c, e_un, e_if, e_eB, e_nil, e_cons, e_lst, e_tup, e_call, e_fn, e_fnK, e_meth, e_sl, e_pNo, e_eI, e_chain, e_var, eVar, List.getElem?_cons_zero, List.getElem?_cons_succ, o_ok, o_okD, o_none, o_guard, o_op2, o_opI, o_addI, o_addS, o_addL, o_addT, o_mulI, o_mulL, o_ixD, o_ixT, o_ixN, o_ixS, peek_d, peek_tl, peekV_d, asB_d, conv_d, conv_al, conv_nl, conv_vt, conv_at, conv_nt, toVal_d, toVal_t, convV_d, toDs_nil, toDs_cons, ca1_d, ca2_d, plOf_loc, seqQ_nx, seqQ_rt, seqQ_ex, retQ_rt, retQ_ex, rtQ_rt, handR_d, handR_t, fInt_i, fInt_b, fAbs_i, fMax_i, fMin_i, Option.some.injEq, Prod.mk.injEq, exists_eq_left', exists_eq_left, exists_eq', exists_and_left, exists_and_right, and_true, true_and, List.set_cons_zero, List.set_cons_succ, Bool.true_eq_false, Bool.false_eq_true, forall_const, D.int.injEq, D.str.injEq, D.bl.injEq, D.lst.injEq, D.tup.injEq, Res.d.injEq, SV.d.injEq, Option.map_some, atI_0, atI_1, atI_2, atI_3, decide_eq_true_eq, decide_eq_false_iff_not, and_assoc, tyOk_str, mStr1_d, o_join, o_joinT, o_split, caLen_d, fLen_l, fLen_t, o_lenS, o_slS, o_slL, ixR_n, ixR_i, o_eqI, i_rng, i_rngB, i_val, i_valT, i_str, e_comp, wipeE, o_inC, Bool.not_true, Bool.not_false, Bool.not_eq_true', Bool.not_eq_false', if_true, if_false, Bool.if_true_left, decide_true, decide_false, asg_nm, asg_tp2, asg_tp3, kvSV_d, List.cons.injEq]
  apply s_seq
  apply s_set
  simp only [List.map_cons, List.map_nil, List.length_cons, List.length_nil, List.replicate, List.nil_append, List.cons_append, Nat.reduceAdd, Nat.reduceSub, Nat.zero_add, List.append_nil, e_bin, e_c, e_un, e_if, e_eB, e_nil, e_cons, e_lst, e_tup, e_call, e_fn, e_fnK, e_meth, e_sl, e_pNo, e_eI, e_chain, e_var, eVar, List.getElem?_cons_zero, List.getElem?_cons_succ, o_ok, o_okD, o_none, o_guard, o_op2, o_opI, o_addI, o_addS, o_addL, o_addT, o_mulI, o_mulL, o_ixD, o_ixT, o_ixN, o_ixS, peek_d, peek_tl, peekV_d, asB_d, conv_d, conv_al, conv_nl, conv_vt, conv_at, conv_nt, toVal_d, toVal_t, convV_d, toDs_nil, toDs_cons, ca1_d, ca2_d, plOf_loc, seqQ_nx, seqQ_rt, seqQ_ex, retQ_rt, retQ_ex, rtQ_rt, handR_d, handR_t, fInt_i, fInt_b, fAbs_i, fMax_i, fMin_i, Option.some.injEq, Prod.mk.injEq, exists_eq_left', exists_eq_left, exists_eq', exists_and_left, exists_and_right, and_true, true_and, List.set_cons_zero, List.set_cons_succ, Bool.true_eq_false, Bool.false_eq_true, forall_const, D.int.injEq, D.str.injEq, D.bl.injEq, D.lst.injEq, D.tup.injEq, Res.d.injEq, SV.d.injEq, Option.map_some, atI_0, atI_1, atI_2, atI_3, decide_eq_true_eq, decide_eq_false_iff_not, and_assoc, tyOk_str, mStr1_d, o_join, o_joinT, o_split, caLen_d, fLen_l, fLen_t, o_lenS, o_slS, o_slL, ixR_n, ixR_i, o_eqI, i_rng, i_rngB, i_val, i_valT, i_str, e_comp, wipeE, o_inC, Bool.not_true, Bool.not_false, Bool.not_eq_true', Bool.not_eq_false', if_true, if_false, Bool.if_true_left, decide_true, decide_false, asg_nm, asg_tp2, asg_tp3, kvSV_d, List.cons.injEq]
  refine history_ok (mo := 12) (k := k + 2987) (hS1.pur hn) hp (by decide) (by decide) (by decide) (by decide) fun hs μ2 hl0 hl hok w2 => ?_
  have hS2 := hS1.pw hn w2
  simp only [List.map_cons, List.map_nil, List.length_cons, List.length_nil, List.replicate, List.nil_append, List.cons_append, Nat.reduceAdd, Nat.reduceSub, Nat.zero_add, List.append_nil, e_bin, e_c, e_un, e_if, e_eB, e_nil, e_cons, e_lst, e_tup, e_call, e_fn, e_fnK, e_meth, e_sl, e_pNo, e_eI, e_chain, e_var, eVar, List.getElem?_cons_zero, List.getElem?_cons_succ, o_ok, o_okD, o_none, o_guard, o_op2, o_opI, o_addI, o_addS, o_addL, o_addT, o_mulI, o_mulL, o_ixD, o_ixT, o_ixN, o_ixS, peek_d, peek_tl, peekV_d, asB_d, conv_d, conv_al, conv_nl, conv_vt, conv_at, conv_nt, toVal_d, toVal_t, convV_d, toDs_nil, toDs_cons, ca1_d, ca2_d, plOf_loc, seqQ_nx, seqQ_rt, seqQ_ex, retQ_rt, retQ_ex, rtQ_rt, handR_d, handR_t, fInt_i, fInt_b, fAbs_i, fMax_i, fMin_i, Option.some.injEq, Prod.mk.injEq, exists_eq_left', exists_eq_left, exists_eq', exists_and_left, exists_and_right, and_true, true_and, List.set_cons_zero, List.set_cons_succ, Bool.true_eq_false, Bool.false_eq_true, forall_const, D.int.injEq, D.str.injEq, D.bl.injEq, D.lst.injEq, D.tup.injEq, Res.d.injEq, SV.d.injEq, Option.map_some, atI_0, atI_1, atI_2, atI_3, decide_eq_true_eq, decide_eq_false_iff_not, and_assoc, tyOk_str, mStr1_d, o_join, o_joinT, o_split, caLen_d, fLen_l, fLen_t, o_lenS, o_slS, o_slL, ixR_n, ixR_i, o_eqI, i_rng, i_rngB, i_val, i_valT, i_str, e_comp, wipeE, o_inC, Bool.not_true, Bool.not_false, Bool.not_eq_true', Bool.not_eq_false', if_true, if_false, Bool.if_true_left, decide_true, decide_false, asg_nm, asg_tp2, asg_tp3, kvSV_d, List.cons.injEq]
  apply s_seq
  apply s_set
  simp only [List.map_cons, List.map_nil, List.length_cons, List.length_nil, List.replicate, List.nil_append, List.cons_append, Nat.reduceAdd, Nat.reduceSub, Nat.zero_add, List.append_nil, e_bin, e_c, e_un, e_if, e_eB, e_nil, e_cons, e_lst, e_tup, e_call, e_fn, e_fnK, e_meth, e_sl, e_pNo, e_eI, e_chain, e_var, eVar, List.getElem?_cons_zero, List.getElem?_cons_succ, o_ok, o_okD, o_none, o_guard, o_op2, o_opI, o_addI, o_addS, o_addL, o_addT, o_mulI, o_mulL, o_ixD, o_ixT, o_ixN, o_ixS, peek_d, peek_tl, peekV_d, asB_d, conv_d, conv_al, conv_nl, conv_vt, conv_at, conv_nt, toVal_d, toVal_t, convV_d, toDs_nil, toDs_cons, ca1_d, ca2_d, plOf_loc, seqQ_nx, seqQ_rt, seqQ_ex, retQ_rt, retQ_ex, rtQ_rt, handR_d, handR_t, fInt_i, fInt_b, fAbs_i, fMax_i, fMin_i, Option.some.injEq, Prod.mk.injEq, exists_eq_left', exists_eq_left, exists_eq', exists_and_left, exists_and_right, and_true, true_and, List.set_cons_zero, List.set_cons_succ, Bool.true_eq_false, Bool.false_eq_true, forall_const, D.int.injEq, D.str.injEq, D.bl.injEq, D.lst.injEq, D.tup.injEq, Res.d.injEq, SV.d.injEq, Option.map_some, atI_0, atI_1, atI_2, atI_3, decide_eq_true_eq, decide_eq_false_iff_not, and_assoc, tyOk_str, mStr1_d, o_join, o_joinT, o_split, caLen_d, fLen_l, fLen_t, o_lenS, o_slS, o_slL, ixR_n, ixR_i, o_eqI, i_rng, i_rngB, i_val, i_valT, i_str, e_comp, wipeE, o_inC, Bool.not_true, Bool.not_false, Bool.not_eq_true', Bool.not_eq_false', if_true, if_false, Bool.if_true_left, decide_true, decide_false, asg_nm, asg_tp2, asg_tp3, kvSV_d, List.cons.injEq]
  refine map_comp _ (fun v => match v with | .d (.tup ds) => .str (Txt.join " " ((strsOf ds).getD [])) | _ => .non) (by rw [kvs_map, List.length_map]; omega) (fun v hv R r => ?_) ?_
  · rw [kvs_map] at hv
    obtain ⟨d, hd, rfl⟩ := List.mem_map.mp hv
    have hdd := hok d hd
    simp only [List.map_cons, List.map_nil, List.length_cons, List.length_nil, List.replicate, List.nil_append, List.cons_append, Nat.reduceAdd, Nat.reduceSub, Nat.zero_add, List.append_nil, e_bin, e_c, e_un, e_if, e_eB, e_nil, e_cons, e_lst, e_tup, e_call, e_fn, e_fnK, e_meth, e_sl, e_pNo, e_eI, e_chain, e_var, eVar, List.getElem?_cons_zero, List.getElem?_cons_succ, o_ok, o_okD, o_none, o_guard, o_op2, o_opI, o_addI, o_addS, o_addL, o_addT, o_mulI, o_mulL, o_ixD, o_ixT, o_ixN, o_ixS, peek_d, peek_tl, peekV_d, asB_d, conv_d, conv_al, conv_nl, conv_vt, conv_at, conv_nt, toVal_d, toVal_t, convV_d, toDs_nil, toDs_cons, ca1_d, ca2_d, plOf_loc, seqQ_nx, seqQ_rt, seqQ_ex, retQ_rt, retQ_ex, rtQ_rt, handR_d, handR_t, fInt_i, fInt_b, fAbs_i, fMax_i, fMin_i, Option.some.injEq, Prod.mk.injEq, exists_eq_left', exists_eq_left, exists_eq', exists_and_left, exists_and_right, and_true, true_and, List.set_cons_zero, List.set_cons_succ, Bool.true_eq_false, Bool.false_eq_true, forall_const, D.int.injEq, D.str.injEq, D.bl.injEq, D.lst.injEq, D.tup.injEq, Res.d.injEq, SV.d.injEq, Option.map_some, atI_0, atI_1, atI_2, atI_3, decide_eq_true_eq, decide_eq_false_iff_not, and_assoc, tyOk_str, mStr1_d, o_join, o_joinT, o_split, caLen_d, fLen_l, fLen_t, o_lenS, o_slS, o_slL, ixR_n, ixR_i, o_eqI, i_rng, i_rngB, i_val, i_valT, i_str, e_comp, wipeE, o_inC, Bool.not_true, Bool.not_false, Bool.not_eq_true', Bool.not_eq_false', if_true, if_false, Bool.if_true_left, decide_true, decide_false, asg_nm, asg_tp2, asg_tp3, kvSV_d, List.cons.injEq, dD]
    have := sum_le fun p hp => (hdd.ok p hp).1
    have := hdd.l1
    refine ⟨by rw [len_sep1]; omega, r _ ?_⟩
    show some (D.str (Txt.join " " d), μ2) = some (D.str (Txt.join " " ((strsOf (d.map D.str)).getD [])), μ2)
    rw [strsOf_map]
    rfl
  have e : (kvs (hs.map dD)).map (fun v : KV => match v with | .d (.tup ds) => D.str (Txt.join " " ((strsOf ds).getD [])) | _ => D.non) = (hs.map (Txt.join " ")).map D.str := by
    rw [kvs_map, List.map_map, List.map_map]
    apply List.map_congr_left
    intro d _
    show D.str (Txt.join " " ((strsOf (d.map D.str)).getD [])) = D.str (Txt.join " " d)
    rw [strsOf_map]; rfl
  rw [e]
  have c1 : Sx 1 " " := Sx.lit (by decide +kernel)
  have c2 : Sx 2 ", " := Sx.lit (by decide +kernel)
  have hd18 : ∀ p ∈ hs.map (Txt.join " "), Sx 18 p := fun p hp => by
    obtain ⟨d, hd, rfl⟩ := List.mem_map.mp hp
    have hdd := hok d hd
    refine (Sx.join c1 hdd.ok).le ?_
    have : d.length * (8 + 1) ≤ 2 * 9 := Nat.mul_le_mul_right _ hdd.l1
    omega
  have hw : Sx 400 (Txt.join ", " (hs.map (Txt.join " "))) := (Sx.join c2 hd18).le (by
    rw [List.length_map]
    have : hs.length * (18 + 2) ≤ 12 * 20 := Nat.mul_le_mul_right _ hl
    omega)
  simp only [List.map_cons, List.map_nil, List.length_cons, List.length_nil, List.replicate, List.nil_append, List.cons_append, Nat.reduceAdd, Nat.reduceSub, Nat.zero_add, List.append_nil, e_bin, e_c, e_un, e_if, e_eB, e_nil, e_cons, e_lst, e_tup, e_call, e_fn, e_fnK, e_meth, e_sl, e_pNo, e_eI, e_chain, e_var, eVar, List.getElem?_cons_zero, List.getElem?_cons_succ, o_ok, o_okD, o_none, o_guard, o_op2, o_opI, o_addI, o_addS, o_addL, o_addT, o_mulI, o_mulL, o_ixD, o_ixT, o_ixN, o_ixS, peek_d, peek_tl, peekV_d, asB_d, conv_d, conv_al, conv_nl, conv_vt, conv_at, conv_nt, toVal_d, toVal_t, convV_d, toDs_nil, toDs_cons, ca1_d, ca2_d, plOf_loc, seqQ_nx, seqQ_rt, seqQ_ex, retQ_rt, retQ_ex, rtQ_rt, handR_d, handR_t, fInt_i, fInt_b, fAbs_i, fMax_i, fMin_i, Option.some.injEq, Prod.mk.injEq, exists_eq_left', exists_eq_left, exists_eq', exists_and_left, exists_and_right, and_true, true_and, List.set_cons_zero, List.set_cons_succ, Bool.true_eq_false, Bool.false_eq_true, forall_const, D.int.injEq, D.str.injEq, D.bl.injEq, D.lst.injEq, D.tup.injEq, Res.d.injEq, SV.d.injEq, Option.map_some, atI_0, atI_1, atI_2, atI_3, decide_eq_true_eq, decide_eq_false_iff_not, and_assoc, tyOk_str, mStr1_d, o_join, o_joinT, o_split, caLen_d, fLen_l, fLen_t, o_lenS, o_slS, o_slL, ixR_n, ixR_i, o_eqI, i_rng, i_rngB, i_val, i_valT, i_str, e_comp, wipeE, o_inC, Bool.not_true, Bool.not_false, Bool.not_eq_true', Bool.not_eq_false', if_true, if_false, Bool.if_true_left, decide_true, decide_false, asg_nm, asg_tp2, asg_tp3, kvSV_d, List.cons.injEq]
  refine ⟨?_, ?_⟩
  · have := sum_le fun p hp => (hd18 p hp).1
    rw [len_sep2]
    rw [List.length_map] at this ⊢
    omega
  generalize Txt.join ", " (hs.map (Txt.join " ")) = wd at hw ⊢
  apply s_seq
  apply s_for
  simp only [List.map_cons, List.map_nil, List.length_cons, List.length_nil, List.replicate, List.nil_append, List.cons_append, Nat.reduceAdd, Nat.reduceSub, Nat.zero_add, List.append_nil, e_bin, e_c, e_un, e_if, e_eB, e_nil, e_cons, e_lst, e_tup, e_call, e_fn, e_fnK, e_meth, e_sl, e_pNo, e_eI, e_chain, e_var, eVar, List.getElem?_cons_zero, List.getElem?_cons_succ, o_ok, o_okD, o_none, o_guard, o_op2, o_opI, o_addI, o_addS, o_addL, o_addT, o_mulI, o_mulL, o_ixD, o_ixT, o_ixN, o_ixS, peek_d, peek_tl, peekV_d, asB_d, conv_d, conv_al, conv_nl, conv_vt, conv_at, conv_nt, toVal_d, toVal_t, convV_d, toDs_nil, toDs_cons, ca1_d, ca2_d, plOf_loc, seqQ_nx, seqQ_rt, seqQ_ex, retQ_rt, retQ_ex, rtQ_rt, handR_d, handR_t, fInt_i, fInt_b, fAbs_i, fMax_i, fMin_i, Option.some.injEq, Prod.mk.injEq, exists_eq_left', exists_eq_left, exists_eq', exists_and_left, exists_and_right, and_true, true_and, List.set_cons_zero, List.set_cons_succ, Bool.true_eq_false, Bool.false_eq_true, forall_const, D.int.injEq, D.str.injEq, D.bl.injEq, D.lst.injEq, D.tup.injEq, Res.d.injEq, SV.d.injEq, Option.map_some, atI_0, atI_1, atI_2, atI_3, decide_eq_true_eq, decide_eq_false_iff_not, and_assoc, tyOk_str, mStr1_d, o_join, o_joinT, o_split, caLen_d, fLen_l, fLen_t, o_lenS, o_slS, o_slL, ixR_n, ixR_i, o_eqI, i_rng, i_rngB, i_val, i_valT, i_str, e_comp, wipeE, o_inC, Bool.not_true, Bool.not_false, Bool.not_eq_true', Bool.not_eq_false', if_true, if_false, Bool.if_true_left, decide_true, decide_false, asg_nm, asg_tp2, asg_tp3, kvSV_d, List.cons.injEq]
  refine ⟨by decide, by decide, ?_⟩
  rw [hS2.len]
  refine for_inv (fun xs ρ μ' => ∃ (j : Nat) (lo : Int), xs = rngI lo j ∧ Sta n (k + j * 305) μ [] μ' ∧ ρ = [some (.loc n), some (.d (planD ps eds)), some (.d (.lst (hs.map dD))), some (.d (.str wd)), none, none, none, none, none]) ?_ ?_ _ _ _ ⟨8, 0, rfl, hS2.le (by omega), rfl⟩
  · rintro x xs ρ μ3 ⟨j, lo, e, hS3, rfl⟩
    obtain ⟨rfl, rfl⟩ := rngI_cons e.symm
    obtain ⟨j, rfl⟩ := rngI_pos e.symm
    refine ⟨_, asg_nm, ?_⟩
    have next : ∀ (μ' : Sto) (x5 x6 x7 : Option SV), Sta n (k + j * 305) μ [] μ' → loopQ (fun (ρ : En) (μ' : Sto) => ∃ (j' : Nat) (lo' : Int), rngI (lo + 1) (j + 1 - 1) = rngI lo' j' ∧ Sta n (k + j' * 305) μ [] μ' ∧ ρ = [some (.loc n), some (.d (planD ps eds)), some (.d (.lst (hs.map dD))), some (.d (.str wd)), none, none, none, none, none]) (μ.m.length + 0) [4, 5, 6, 7] (seqQ g__law_right_5 (retQ μ.m.length (rtQ Q))) (.nx [some (.loc n), some (.d (planD ps eds)), some (.d (.lst (hs.map dD))), some (.d (.str wd)), some (.d (.int lo)), x5, x6, x7, none] μ') := fun μ' x5 x6 x7 h' => ⟨j, lo + 1, rfl, h'.same (l := 0) (Nat.le_refl _), by rw [trim_eq]; simp (discharger := omega) only [List.map_cons, List.map_nil, tm_none, tm_d, tm_o, tm_loc, wipeE, List.set_cons_succ, List.set_cons_zero, List.length_cons, List.length_nil, Nat.zero_add, List.length_append]⟩
    generalize hI : loopQ _ _ _ _ = LQ at next
    apply s_seq
    apply s_set
    simp only [List.map_cons, List.map_nil, List.length_cons, List.length_nil, List.replicate, List.nil_append, List.cons_append, Nat.reduceAdd, Nat.reduceSub, Nat.zero_add, List.append_nil, e_bin, e_c, e_un, e_if, e_eB, e_nil, e_cons, e_lst, e_tup, e_call, e_fn, e_fnK, e_meth, e_sl, e_pNo, e_eI, e_chain, e_var, eVar, List.getElem?_cons_zero, List.getElem?_cons_succ, o_ok, o_okD, o_none, o_guard, o_op2, o_opI, o_addI, o_addS, o_addL, o_addT, o_mulI, o_mulL, o_ixD, o_ixT, o_ixN, o_ixS, peek_d, peek_tl, peekV_d, asB_d, conv_d, conv_al, conv_nl, conv_vt, conv_at, conv_nt, toVal_d, toVal_t, convV_d, toDs_nil, toDs_cons, ca1_d, ca2_d, plOf_loc, seqQ_nx, seqQ_rt, seqQ_ex, retQ_rt, retQ_ex, rtQ_rt, handR_d, handR_t, fInt_i, fInt_b, fAbs_i, fMax_i, fMin_i, Option.some.injEq, Prod.mk.injEq, exists_eq_left', exists_eq_left, exists_eq', exists_and_left, exists_and_right, and_true, true_and, List.set_cons_zero, List.set_cons_succ, Bool.true_eq_false, Bool.false_eq_true, forall_const, D.int.injEq, D.str.injEq, D.bl.injEq, D.lst.injEq, D.tup.injEq, Res.d.injEq, SV.d.injEq, Option.map_some, atI_0, atI_1, atI_2, atI_3, decide_eq_true_eq, decide_eq_false_iff_not, and_assoc, tyOk_str, mStr1_d, o_join, o_joinT, o_split, caLen_d, fLen_l, fLen_t, o_lenS, o_slS, o_slL, ixR_n, ixR_i, o_eqI, i_rng, i_rngB, i_val, i_valT, i_str, e_comp, wipeE, o_inC, Bool.not_true, Bool.not_false, Bool.not_eq_true', Bool.not_eq_false', if_true, if_false, Bool.if_true_left, decide_true, decide_false, asg_nm, asg_tp2, asg_tp3, kvSV_d, List.cons.injEq]
    refine marred_ok (k := k + j * 305 + 1) ((hS3.le (by omega)).pur hn) hw fun t μ4 ht w4 => ?_
    have hS4 := hS3.pw hn w4
    simp only [List.map_cons, List.map_nil, List.length_cons, List.length_nil, List.replicate, List.nil_append, List.cons_append, Nat.reduceAdd, Nat.reduceSub, Nat.zero_add, List.append_nil, e_bin, e_c, e_un, e_if, e_eB, e_nil, e_cons, e_lst, e_tup, e_call, e_fn, e_fnK, e_meth, e_sl, e_pNo, e_eI, e_chain, e_var, eVar, List.getElem?_cons_zero, List.getElem?_cons_succ, o_ok, o_okD, o_none, o_guard, o_op2, o_opI, o_addI, o_addS, o_addL, o_addT, o_mulI, o_mulL, o_ixD, o_ixT, o_ixN, o_ixS, peek_d, peek_tl, peekV_d, asB_d, conv_d, conv_al, conv_nl, conv_vt, conv_at, conv_nt, toVal_d, toVal_t, convV_d, toDs_nil, toDs_cons, ca1_d, ca2_d, plOf_loc, seqQ_nx, seqQ_rt, seqQ_ex, retQ_rt, retQ_ex, rtQ_rt, handR_d, handR_t, fInt_i, fInt_b, fAbs_i, fMax_i, fMin_i, Option.some.injEq, Prod.mk.injEq, exists_eq_left', exists_eq_left, exists_eq', exists_and_left, exists_and_right, and_true, true_and, List.set_cons_zero, List.set_cons_succ, Bool.true_eq_false, Bool.false_eq_true, forall_const, D.int.injEq, D.str.injEq, D.bl.injEq, D.lst.injEq, D.tup.injEq, Res.d.injEq, SV.d.injEq, Option.map_some, atI_0, atI_1, atI_2, atI_3, decide_eq_true_eq, decide_eq_false_iff_not, and_assoc, tyOk_str, mStr1_d, o_join, o_joinT, o_split, caLen_d, fLen_l, fLen_t, o_lenS, o_slS, o_slL, ixR_n, ixR_i, o_eqI, i_rng, i_rngB, i_val, i_valT, i_str, e_comp, wipeE, o_inC, Bool.not_true, Bool.not_false, Bool.not_eq_true', Bool.not_eq_false', if_true, if_false, Bool.if_true_left, decide_true, decide_false, asg_nm, asg_tp2, asg_tp3, kvSV_d, List.cons.injEq]
    have htl := ht.1
    apply s_seq
    apply s_set
    simp only [List.map_cons, List.map_nil, List.length_cons, List.length_nil, List.replicate, List.nil_append, List.cons_append, Nat.reduceAdd, Nat.reduceSub, Nat.zero_add, List.append_nil, e_bin, e_c, e_un, e_if, e_eB, e_nil, e_cons, e_lst, e_tup, e_call, e_fn, e_fnK, e_meth, e_sl, e_pNo, e_eI, e_chain, e_var, eVar, List.getElem?_cons_zero, List.getElem?_cons_succ, o_ok, o_okD, o_none, o_guard, o_op2, o_opI, o_addI, o_addS, o_addL, o_addT, o_mulI, o_mulL, o_ixD, o_ixT, o_ixN, o_ixS, peek_d, peek_tl, peekV_d, asB_d, conv_d, conv_al, conv_nl, conv_vt, conv_at, conv_nt, toVal_d, toVal_t, convV_d, toDs_nil, toDs_cons, ca1_d, ca2_d, plOf_loc, seqQ_nx, seqQ_rt, seqQ_ex, retQ_rt, retQ_ex, rtQ_rt, handR_d, handR_t, fInt_i, fInt_b, fAbs_i, fMax_i, fMin_i, Option.some.injEq, Prod.mk.injEq, exists_eq_left', exists_eq_left, exists_eq', exists_and_left, exists_and_right, and_true, true_and, List.set_cons_zero, List.set_cons_succ, Bool.true_eq_false, Bool.false_eq_true, forall_const, D.int.injEq, D.str.injEq, D.bl.injEq, D.lst.injEq, D.tup.injEq, Res.d.injEq, SV.d.injEq, Option.map_some, atI_0, atI_1, atI_2, atI_3, decide_eq_true_eq, decide_eq_false_iff_not, and_assoc, tyOk_str, mStr1_d, o_join, o_joinT, o_split, caLen_d, fLen_l, fLen_t, o_lenS, o_slS, o_slL, ixR_n, ixR_i, o_eqI, i_rng, i_rngB, i_val, i_valT, i_str, e_comp, wipeE, o_inC, Bool.not_true, Bool.not_false, Bool.not_eq_true', Bool.not_eq_false', if_true, if_false, Bool.if_true_left, decide_true, decide_false, asg_nm, asg_tp2, asg_tp3, kvSV_d, List.cons.injEq]
    have fin : ∀ td : D, (td = .non ∧ owed t = .lst [] ∨ (∃ l, td = .lst l) ∧ owed t = .lst [td]) → wpS g__law_right_b2_3 [some (.loc n), some (.d (planD ps eds)), some (.d (.lst (hs.map dD))), some (.d (.str wd)), some (.d (.int lo)), some (.d (.str t)), some (.d td), none, none] μ4 LQ := by
      intro td htd
      apply s_seq
      apply s_set
      have cmp : ∀ x7 : D, x7 = owed t → wpS g__law_right_b2_4 [some (.loc n), some (.d (planD ps eds)), some (.d (.lst (hs.map dD))), some (.d (.str wd)), some (.d (.int lo)), some (.d (.str t)), some (.d td), some (.d x7), none] μ4 LQ := by
        rintro x7 rfl
        apply s_if
        simp only [List.map_cons, List.map_nil, List.length_cons, List.length_nil, List.replicate, List.nil_append, List.cons_append, Nat.reduceAdd, Nat.reduceSub, Nat.zero_add, List.append_nil, e_bin, e_c, e_un, e_if, e_eB, e_nil, e_cons, e_lst, e_tup, e_call, e_fn, e_fnK, e_meth, e_sl, e_pNo, e_eI, e_chain, e_var, eVar, List.getElem?_cons_zero, List.getElem?_cons_succ, o_ok, o_okD, o_none, o_guard, o_op2, o_opI, o_addI, o_addS, o_addL, o_addT, o_mulI, o_mulL, o_ixD, o_ixT, o_ixN, o_ixS, peek_d, peek_tl, peekV_d, asB_d, conv_d, conv_al, conv_nl, conv_vt, conv_at, conv_nt, toVal_d, toVal_t, convV_d, toDs_nil, toDs_cons, ca1_d, ca2_d, plOf_loc, seqQ_nx, seqQ_rt, seqQ_ex, retQ_rt, retQ_ex, rtQ_rt, handR_d, handR_t, fInt_i, fInt_b, fAbs_i, fMax_i, fMin_i, Option.some.injEq, Prod.mk.injEq, exists_eq_left', exists_eq_left, exists_eq', exists_and_left, exists_and_right, and_true, true_and, List.set_cons_zero, List.set_cons_succ, Bool.true_eq_false, Bool.false_eq_true, forall_const, D.int.injEq, D.str.injEq, D.bl.injEq, D.lst.injEq, D.tup.injEq, Res.d.injEq, SV.d.injEq, Option.map_some, atI_0, atI_1, atI_2, atI_3, decide_eq_true_eq, decide_eq_false_iff_not, and_assoc, tyOk_str, mStr1_d, o_join, o_joinT, o_split, caLen_d, fLen_l, fLen_t, o_lenS, o_slS, o_slL, ixR_n, ixR_i, o_eqI, i_rng, i_rngB, i_val, i_valT, i_str, e_comp, wipeE, o_inC, Bool.not_true, Bool.not_false, Bool.not_eq_true', Bool.not_eq_false', if_true, if_false, Bool.if_true_left, decide_true, decide_false, asg_nm, asg_tp2, asg_tp3, kvSV_d, List.cons.injEq]
        refine ⟨small_line (by omega), fun h3 => ?_, fun h3 => ?_⟩
        · refine coinS (k := k + j * 305) hS4 hn (by decide) (by decide) fun way μ5 w0 w1 hS5 => ?_
          simp only [List.map_cons, List.map_nil, List.length_cons, List.length_nil, List.replicate, List.nil_append, List.cons_append, Nat.reduceAdd, Nat.reduceSub, Nat.zero_add, List.append_nil, e_bin, e_c, e_un, e_if, e_eB, e_nil, e_cons, e_lst, e_tup, e_call, e_fn, e_fnK, e_meth, e_sl, e_pNo, e_eI, e_chain, e_var, eVar, List.getElem?_cons_zero, List.getElem?_cons_succ, o_ok, o_okD, o_none, o_guard, o_op2, o_opI, o_addI, o_addS, o_addL, o_addT, o_mulI, o_mulL, o_ixD, o_ixT, o_ixN, o_ixS, peek_d, peek_tl, peekV_d, asB_d, conv_d, conv_al, conv_nl, conv_vt, conv_at, conv_nt, toVal_d, toVal_t, convV_d, toDs_nil, toDs_cons, ca1_d, ca2_d, plOf_loc, seqQ_nx, seqQ_rt, seqQ_ex, retQ_rt, retQ_ex, rtQ_rt, handR_d, handR_t, fInt_i, fInt_b, fAbs_i, fMax_i, fMin_i, Option.some.injEq, Prod.mk.injEq, exists_eq_left', exists_eq_left, exists_eq', exists_and_left, exists_and_right, and_true, true_and, List.set_cons_zero, List.set_cons_succ, Bool.true_eq_false, Bool.false_eq_true, forall_const, D.int.injEq, D.str.injEq, D.bl.injEq, D.lst.injEq, D.tup.injEq, Res.d.injEq, SV.d.injEq, Option.map_some, atI_0, atI_1, atI_2, atI_3, decide_eq_true_eq, decide_eq_false_iff_not, and_assoc, tyOk_str, mStr1_d, o_join, o_joinT, o_split, caLen_d, fLen_l, fLen_t, o_lenS, o_slS, o_slL, ixR_n, ixR_i, o_eqI, i_rng, i_rngB, i_val, i_valT, i_str, e_comp, wipeE, o_inC, Bool.not_true, Bool.not_false, Bool.not_eq_true', Bool.not_eq_false', if_true, if_false, Bool.if_true_left, decide_true, decide_false, asg_nm, asg_tp2, asg_tp3, kvSV_d, List.cons.injEq]
          refine caught_ok ⟨by omega, ht.2⟩ ?_
          have eo : ∀ (ν : Sto) (R : Res → Sto → Prop), wpO (fEq true ν (owed t) (owed t)) R ↔ R (.d (.bl false)) ν := fun ν R => by
            rw [o_eq, D.eq_refl _ (noObj_owed t)]
            exact ⟨fun z => z.2, fun z => ⟨⟨noObj_owed t, noObj_owed t, by have := dep_owed t; omega⟩, z⟩⟩
          simp only [List.map_cons, List.map_nil, List.length_cons, List.length_nil, List.replicate, List.nil_append, List.cons_append, Nat.reduceAdd, Nat.reduceSub, Nat.zero_add, List.append_nil, e_bin, e_c, e_un, e_if, e_eB, e_nil, e_cons, e_lst, e_tup, e_call, e_fn, e_fnK, e_meth, e_sl, e_pNo, e_eI, e_chain, e_var, eVar, List.getElem?_cons_zero, List.getElem?_cons_succ, o_ok, o_okD, o_none, o_guard, o_op2, o_opI, o_addI, o_addS, o_addL, o_addT, o_mulI, o_mulL, o_ixD, o_ixT, o_ixN, o_ixS, peek_d, peek_tl, peekV_d, asB_d, conv_d, conv_al, conv_nl, conv_vt, conv_at, conv_nt, toVal_d, toVal_t, convV_d, toDs_nil, toDs_cons, ca1_d, ca2_d, plOf_loc, seqQ_nx, seqQ_rt, seqQ_ex, retQ_rt, retQ_ex, rtQ_rt, handR_d, handR_t, fInt_i, fInt_b, fAbs_i, fMax_i, fMin_i, Option.some.injEq, Prod.mk.injEq, exists_eq_left', exists_eq_left, exists_eq', exists_and_left, exists_and_right, and_true, true_and, List.set_cons_zero, List.set_cons_succ, Bool.true_eq_false, Bool.false_eq_true, forall_const, D.int.injEq, D.str.injEq, D.bl.injEq, D.lst.injEq, D.tup.injEq, Res.d.injEq, SV.d.injEq, Option.map_some, atI_0, atI_1, atI_2, atI_3, decide_eq_true_eq, decide_eq_false_iff_not, and_assoc, tyOk_str, mStr1_d, o_join, o_joinT, o_split, caLen_d, fLen_l, fLen_t, o_lenS, o_slS, o_slL, ixR_n, ixR_i, o_eqI, i_rng, i_rngB, i_val, i_valT, i_str, e_comp, wipeE, o_inC, Bool.not_true, Bool.not_false, Bool.not_eq_true', Bool.not_eq_false', if_true, if_false, Bool.if_true_left, decide_true, decide_false, asg_nm, asg_tp2, asg_tp3, kvSV_d, List.cons.injEq, eo]
          refine ⟨fun z => z.elim, ?_⟩
          apply s_nx
          exact next μ5 _ _ _ hS5
        · refine ⟨fun z => z.elim, ?_⟩
          apply s_nx
          exact next μ4 _ _ _ (hS4.le (by omega))
      rcases htd with ⟨rfl, ho⟩ | ⟨⟨l, rfl⟩, ho⟩
      · have ei : ∀ ν R, wpO (opIs true ν (.d .non) (.d .non)) R ↔ R (.d (.bl false)) ν := fun ν R => o_okD
        simp only [List.map_cons, List.map_nil, List.length_cons, List.length_nil, List.replicate, List.nil_append, List.cons_append, Nat.reduceAdd, Nat.reduceSub, Nat.zero_add, List.append_nil, e_bin, e_c, e_un, e_if, e_eB, e_nil, e_cons, e_lst, e_tup, e_call, e_fn, e_fnK, e_meth, e_sl, e_pNo, e_eI, e_chain, e_var, eVar, List.getElem?_cons_zero, List.getElem?_cons_succ, o_ok, o_okD, o_none, o_guard, o_op2, o_opI, o_addI, o_addS, o_addL, o_addT, o_mulI, o_mulL, o_ixD, o_ixT, o_ixN, o_ixS, peek_d, peek_tl, peekV_d, asB_d, conv_d, conv_al, conv_nl, conv_vt, conv_at, conv_nt, toVal_d, toVal_t, convV_d, toDs_nil, toDs_cons, ca1_d, ca2_d, plOf_loc, seqQ_nx, seqQ_rt, seqQ_ex, retQ_rt, retQ_ex, rtQ_rt, handR_d, handR_t, fInt_i, fInt_b, fAbs_i, fMax_i, fMin_i, Option.some.injEq, Prod.mk.injEq, exists_eq_left', exists_eq_left, exists_eq', exists_and_left, exists_and_right, and_true, true_and, List.set_cons_zero, List.set_cons_succ, Bool.true_eq_false, Bool.false_eq_true, forall_const, D.int.injEq, D.str.injEq, D.bl.injEq, D.lst.injEq, D.tup.injEq, Res.d.injEq, SV.d.injEq, Option.map_some, atI_0, atI_1, atI_2, atI_3, decide_eq_true_eq, decide_eq_false_iff_not, and_assoc, tyOk_str, mStr1_d, o_join, o_joinT, o_split, caLen_d, fLen_l, fLen_t, o_lenS, o_slS, o_slL, ixR_n, ixR_i, o_eqI, i_rng, i_rngB, i_val, i_valT, i_str, e_comp, wipeE, o_inC, Bool.not_true, Bool.not_false, Bool.not_eq_true', Bool.not_eq_false', if_true, if_false, Bool.if_true_left, decide_true, decide_false, asg_nm, asg_tp2, asg_tp3, kvSV_d, List.cons.injEq, ei]
        refine ⟨fun z => z.elim, small_line (by decide), ?_⟩
        exact cmp _ ho.symm
      · have ei : ∀ ν R, wpO (opIs true ν (.d (.lst l)) (.d .non)) R ↔ R (.d (.bl true)) ν := fun ν R => o_okD
        simp only [List.map_cons, List.map_nil, List.length_cons, List.length_nil, List.replicate, List.nil_append, List.cons_append, Nat.reduceAdd, Nat.reduceSub, Nat.zero_add, List.append_nil, e_bin, e_c, e_un, e_if, e_eB, e_nil, e_cons, e_lst, e_tup, e_call, e_fn, e_fnK, e_meth, e_sl, e_pNo, e_eI, e_chain, e_var, eVar, List.getElem?_cons_zero, List.getElem?_cons_succ, o_ok, o_okD, o_none, o_guard, o_op2, o_opI, o_addI, o_addS, o_addL, o_addT, o_mulI, o_mulL, o_ixD, o_ixT, o_ixN, o_ixS, peek_d, peek_tl, peekV_d, asB_d, conv_d, conv_al, conv_nl, conv_vt, conv_at, conv_nt, toVal_d, toVal_t, convV_d, toDs_nil, toDs_cons, ca1_d, ca2_d, plOf_loc, seqQ_nx, seqQ_rt, seqQ_ex, retQ_rt, retQ_ex, rtQ_rt, handR_d, handR_t, fInt_i, fInt_b, fAbs_i, fMax_i, fMin_i, Option.some.injEq, Prod.mk.injEq, exists_eq_left', exists_eq_left, exists_eq', exists_and_left, exists_and_right, and_true, true_and, List.set_cons_zero, List.set_cons_succ, Bool.true_eq_false, Bool.false_eq_true, forall_const, D.int.injEq, D.str.injEq, D.bl.injEq, D.lst.injEq, D.tup.injEq, Res.d.injEq, SV.d.injEq, Option.map_some, atI_0, atI_1, atI_2, atI_3, decide_eq_true_eq, decide_eq_false_iff_not, and_assoc, tyOk_str, mStr1_d, o_join, o_joinT, o_split, caLen_d, fLen_l, fLen_t, o_lenS, o_slS, o_slL, ixR_n, ixR_i, o_eqI, i_rng, i_rngB, i_val, i_valT, i_str, e_comp, wipeE, o_inC, Bool.not_true, Bool.not_false, Bool.not_eq_true', Bool.not_eq_false', if_true, if_false, Bool.if_true_left, decide_true, decide_false, asg_nm, asg_tp2, asg_tp3, kvSV_d, List.cons.injEq, ei]
        refine ⟨small_line (by decide), ?_, fun z => z.elim⟩
        exact cmp _ ho.symm
    refine deeds_in_ok ht ?_
    by_cases ha : (parts t).all isDeed = true
    · rw [if_pos ha]
      simp only [List.map_cons, List.map_nil, List.length_cons, List.length_nil, List.replicate, List.nil_append, List.cons_append, Nat.reduceAdd, Nat.reduceSub, Nat.zero_add, List.append_nil, e_bin, e_c, e_un, e_if, e_eB, e_nil, e_cons, e_lst, e_tup, e_call, e_fn, e_fnK, e_meth, e_sl, e_pNo, e_eI, e_chain, e_var, eVar, List.getElem?_cons_zero, List.getElem?_cons_succ, o_ok, o_okD, o_none, o_guard, o_op2, o_opI, o_addI, o_addS, o_addL, o_addT, o_mulI, o_mulL, o_ixD, o_ixT, o_ixN, o_ixS, peek_d, peek_tl, peekV_d, asB_d, conv_d, conv_al, conv_nl, conv_vt, conv_at, conv_nt, toVal_d, toVal_t, convV_d, toDs_nil, toDs_cons, ca1_d, ca2_d, plOf_loc, seqQ_nx, seqQ_rt, seqQ_ex, retQ_rt, retQ_ex, rtQ_rt, handR_d, handR_t, fInt_i, fInt_b, fAbs_i, fMax_i, fMin_i, Option.some.injEq, Prod.mk.injEq, exists_eq_left', exists_eq_left, exists_eq', exists_and_left, exists_and_right, and_true, true_and, List.set_cons_zero, List.set_cons_succ, Bool.true_eq_false, Bool.false_eq_true, forall_const, D.int.injEq, D.str.injEq, D.bl.injEq, D.lst.injEq, D.tup.injEq, Res.d.injEq, SV.d.injEq, Option.map_some, atI_0, atI_1, atI_2, atI_3, decide_eq_true_eq, decide_eq_false_iff_not, and_assoc, tyOk_str, mStr1_d, o_join, o_joinT, o_split, caLen_d, fLen_l, fLen_t, o_lenS, o_slS, o_slL, ixR_n, ixR_i, o_eqI, i_rng, i_rngB, i_val, i_valT, i_str, e_comp, wipeE, o_inC, Bool.not_true, Bool.not_false, Bool.not_eq_true', Bool.not_eq_false', if_true, if_false, Bool.if_true_left, decide_true, decide_false, asg_nm, asg_tp2, asg_tp3, kvSV_d, List.cons.injEq]
      exact fin _ (.inr ⟨⟨_, rfl⟩, by unfold owed; rw [if_pos ha]⟩)
    · rw [if_neg ha]
      simp only [List.map_cons, List.map_nil, List.length_cons, List.length_nil, List.replicate, List.nil_append, List.cons_append, Nat.reduceAdd, Nat.reduceSub, Nat.zero_add, List.append_nil, e_bin, e_c, e_un, e_if, e_eB, e_nil, e_cons, e_lst, e_tup, e_call, e_fn, e_fnK, e_meth, e_sl, e_pNo, e_eI, e_chain, e_var, eVar, List.getElem?_cons_zero, List.getElem?_cons_succ, o_ok, o_okD, o_none, o_guard, o_op2, o_opI, o_addI, o_addS, o_addL, o_addT, o_mulI, o_mulL, o_ixD, o_ixT, o_ixN, o_ixS, peek_d, peek_tl, peekV_d, asB_d, conv_d, conv_al, conv_nl, conv_vt, conv_at, conv_nt, toVal_d, toVal_t, convV_d, toDs_nil, toDs_cons, ca1_d, ca2_d, plOf_loc, seqQ_nx, seqQ_rt, seqQ_ex, retQ_rt, retQ_ex, rtQ_rt, handR_d, handR_t, fInt_i, fInt_b, fAbs_i, fMax_i, fMin_i, Option.some.injEq, Prod.mk.injEq, exists_eq_left', exists_eq_left, exists_eq', exists_and_left, exists_and_right, and_true, true_and, List.set_cons_zero, List.set_cons_succ, Bool.true_eq_false, Bool.false_eq_true, forall_const, D.int.injEq, D.str.injEq, D.bl.injEq, D.lst.injEq, D.tup.injEq, Res.d.injEq, SV.d.injEq, Option.map_some, atI_0, atI_1, atI_2, atI_3, decide_eq_true_eq, decide_eq_false_iff_not, and_assoc, tyOk_str, mStr1_d, o_join, o_joinT, o_split, caLen_d, fLen_l, fLen_t, o_lenS, o_slS, o_slL, ixR_n, ixR_i, o_eqI, i_rng, i_rngB, i_val, i_valT, i_str, e_comp, wipeE, o_inC, Bool.not_true, Bool.not_false, Bool.not_eq_true', Bool.not_eq_false', if_true, if_false, Bool.if_true_left, decide_true, decide_false, asg_nm, asg_tp2, asg_tp3, kvSV_d, List.cons.injEq]
      exact fin _ (.inl ⟨rfl, by unfold owed; rw [if_neg ha]⟩)
  · rintro ρ μ3 ⟨j, lo, e, hS3, rfl⟩
    cases rngI_nil e.symm
    show wpS g__law_right_5 _ _ _
    apply s_ret
    simp only [List.map_cons, List.map_nil, List.length_cons, List.length_nil, List.replicate, List.nil_append, List.cons_append, Nat.reduceAdd, Nat.reduceSub, Nat.zero_add, List.append_nil, e_bin, e_c, e_un, e_if, e_eB, e_nil, e_cons, e_lst, e_tup, e_call, e_fn, e_fnK, e_meth, e_sl, e_pNo, e_eI, e_chain, e_var, eVar, List.getElem?_cons_zero, List.getElem?_cons_succ, o_ok, o_okD, o_none, o_guard, o_op2, o_opI, o_addI, o_addS, o_addL, o_addT, o_mulI, o_mulL, o_ixD, o_ixT, o_ixN, o_ixS, peek_d, peek_tl, peekV_d, asB_d, conv_d, conv_al, conv_nl, conv_vt, conv_at, conv_nt, toVal_d, toVal_t, convV_d, toDs_nil, toDs_cons, ca1_d, ca2_d, plOf_loc, seqQ_nx, seqQ_rt, seqQ_ex, retQ_rt, retQ_ex, rtQ_rt, handR_d, handR_t, fInt_i, fInt_b, fAbs_i, fMax_i, fMin_i, Option.some.injEq, Prod.mk.injEq, exists_eq_left', exists_eq_left, exists_eq', exists_and_left, exists_and_right, and_true, true_and, List.set_cons_zero, List.set_cons_succ, Bool.true_eq_false, Bool.false_eq_true, forall_const, D.int.injEq, D.str.injEq, D.bl.injEq, D.lst.injEq, D.tup.injEq, Res.d.injEq, SV.d.injEq, Option.map_some, atI_0, atI_1, atI_2, atI_3, decide_eq_true_eq, decide_eq_false_iff_not, and_assoc, tyOk_str, mStr1_d, o_join, o_joinT, o_split, caLen_d, fLen_l, fLen_t, o_lenS, o_slS, o_slL, ixR_n, ixR_i, o_eqI, i_rng, i_rngB, i_val, i_valT, i_str, e_comp, wipeE, o_inC, Bool.not_true, Bool.not_false, Bool.not_eq_true', Bool.not_eq_false', if_true, if_false, Bool.if_true_left, decide_true, decide_false, asg_nm, asg_tp2, asg_tp3, kvSV_d, List.cons.injEq]
    exact q _ (hS3.le (by omega)).out
end
end DF
namespace DF
open PySem PySem.Spec PyProof.Rows L2
section
variable {μ : Sto} {Q : Res → Sto → Prop} {ns : List Int}
theorem purse_ok {place : Nat} (hr : μ.at (.m 0) = some (.ro (ns.map D.int))) (hp : place ≤ 1000) (q : ∀ a b : Int, Good a b 0 1000000 → Q (.tmp (pc a b 0)) μ) : wpF f__law_purse [.loc 0, .d (.int place)] μ (rtQ Q) := by
  apply f_def
  apply s_seq
  apply s_set
  have main : ∀ cell : Int, wpS g__law_purse_2 [some (.loc 0), some (.d (.int place)), some (.d (.int cell))] μ (retQ μ.m.length (rtQ Q)) := fun cell => by
    apply s_ret
    simp only [List.map_cons, List.map_nil, List.length_cons, List.length_nil, List.replicate, List.nil_append, List.cons_append, Nat.reduceAdd, Nat.reduceSub, Nat.zero_add, List.append_nil, e_bin, e_c, e_un, e_if, e_eB, e_nil, e_cons, e_lst, e_tup, e_call, e_fn, e_fnK, e_meth, e_sl, e_pNo, e_eI, e_chain, e_var, eVar, List.getElem?_cons_zero, List.getElem?_cons_succ, o_ok, o_okD, o_none, o_guard, o_op2, o_opI, o_addI, o_addS, o_addL, o_addT, o_mulI, o_mulL, o_ixD, o_ixT, o_ixN, o_ixS, peek_d, peek_tl, peekV_d, asB_d, conv_d, conv_al, conv_nl, conv_vt, conv_at, conv_nt, toVal_d, toVal_t, convV_d, toDs_nil, toDs_cons, ca1_d, ca2_d, plOf_loc, seqQ_nx, seqQ_rt, seqQ_ex, retQ_rt, retQ_ex, rtQ_rt, handR_d, handR_t, fInt_i, fInt_b, fAbs_i, fMax_i, fMin_i, Option.some.injEq, Prod.mk.injEq, exists_eq_left', exists_eq_left, exists_eq', exists_and_left, exists_and_right, and_true, true_and, List.set_cons_zero, List.set_cons_succ, Bool.true_eq_false, Bool.false_eq_true, forall_const, D.int.injEq, D.str.injEq, D.bl.injEq, D.lst.injEq, D.tup.injEq, Res.d.injEq, SV.d.injEq, Option.map_some, atI_0, atI_1, atI_2, atI_3, decide_eq_true_eq, decide_eq_false_iff_not, and_assoc, tyOk_str, mStr1_d, o_join, o_joinT, o_split, caLen_d, fLen_l, fLen_t, o_lenS, o_slS, o_slL, ixR_n, ixR_i, o_eqI, i_rng, i_rngB, i_val, i_valT, i_str, e_comp, wipeE, o_inC, Bool.not_true, Bool.not_false, Bool.not_eq_true', Bool.not_eq_false', if_true, if_false, Bool.if_true_left, decide_true, decide_false, asg_nm, asg_tp2, asg_tp3, kvSV_d, List.cons.injEq]
    refine ⟨by decide, pMul_r (by decide) (by decide), pMul_r (by decide) (by decide), by decide, by decide, small_line (by decide), ?_⟩
    rw [cut_id (Nat.le_refl _)]
    refine q _ _ ⟨?_, Int.emod_nonneg _ (by decide), Int.lt_of_lt_of_le (Int.emod_lt_of_pos _ (by decide)) (by decide), Int.le_refl _, by decide⟩
    split <;> omega
  simp only [List.map_cons, List.map_nil, List.length_cons, List.length_nil, List.replicate, List.nil_append, List.cons_append, Nat.reduceAdd, Nat.reduceSub, Nat.zero_add, List.append_nil, e_bin, e_c, e_un, e_if, e_eB, e_nil, e_cons, e_lst, e_tup, e_call, e_fn, e_fnK, e_meth, e_sl, e_pNo, e_eI, e_chain, e_var, eVar, List.getElem?_cons_zero, List.getElem?_cons_succ, o_ok, o_okD, o_none, o_guard, o_op2, o_opI, o_addI, o_addS, o_addL, o_addT, o_mulI, o_mulL, o_ixD, o_ixT, o_ixN, o_ixS, peek_d, peek_tl, peekV_d, asB_d, conv_d, conv_al, conv_nl, conv_vt, conv_at, conv_nt, toVal_d, toVal_t, convV_d, toDs_nil, toDs_cons, ca1_d, ca2_d, plOf_loc, seqQ_nx, seqQ_rt, seqQ_ex, retQ_rt, retQ_ex, rtQ_rt, handR_d, handR_t, fInt_i, fInt_b, fAbs_i, fMax_i, fMin_i, Option.some.injEq, Prod.mk.injEq, exists_eq_left', exists_eq_left, exists_eq', exists_and_left, exists_and_right, and_true, true_and, List.set_cons_zero, List.set_cons_succ, Bool.true_eq_false, Bool.false_eq_true, forall_const, D.int.injEq, D.str.injEq, D.bl.injEq, D.lst.injEq, D.tup.injEq, Res.d.injEq, SV.d.injEq, Option.map_some, atI_0, atI_1, atI_2, atI_3, decide_eq_true_eq, decide_eq_false_iff_not, and_assoc, tyOk_str, mStr1_d, o_join, o_joinT, o_split, caLen_d, fLen_l, fLen_t, o_lenS, o_slS, o_slL, ixR_n, ixR_i, o_eqI, i_rng, i_rngB, i_val, i_valT, i_str, e_comp, wipeE, o_inC, Bool.not_true, Bool.not_false, Bool.not_eq_true', Bool.not_eq_false', if_true, if_false, Bool.if_true_left, decide_true, decide_false, asg_nm, asg_tp2, asg_tp3, kvSV_d, List.cons.injEq, caLen_ro hr, o_ixL (items_ro hr)]
  refine ⟨fun h => ?_, fun _ => main 0⟩
  obtain ⟨d, hd, hm⟩ := atI_of (l := ns.map D.int) (i := (place : Int)) (by omega) h
  obtain ⟨c, _, rfl⟩ := List.mem_map.mp hm
  exact ⟨_, hd, main c⟩
theorem law_runs (ns : List Int) (hl : ns.length ≤ 63) : ∃ μ', f_law [.loc 0] ⟨[.ro (ns.map D.int)], []⟩ = some (.rt (.d (.bl true)) μ') := by
  have key : wpF f_law [.loc 0] ⟨[.ro (ns.map D.int)], []⟩ (rtQ fun r _ => r = .d (.bl true)) := by
    have hr : (⟨[.ro (ns.map D.int)], []⟩ : Sto).at (.m 0) = some (.ro (ns.map D.int)) := rfl
    apply f_def
    apply s_seq
    apply s_for
    simp only [List.map_cons, List.map_nil, List.length_cons, List.length_nil, List.replicate, List.nil_append, List.cons_append, Nat.reduceAdd, Nat.reduceSub, Nat.zero_add, List.append_nil, e_bin, e_c, e_un, e_if, e_eB, e_nil, e_cons, e_lst, e_tup, e_call, e_fn, e_fnK, e_meth, e_sl, e_pNo, e_eI, e_chain, e_var, eVar, List.getElem?_cons_zero, List.getElem?_cons_succ, o_ok, o_okD, o_none, o_guard, o_op2, o_opI, o_addI, o_addS, o_addL, o_addT, o_mulI, o_mulL, o_ixD, o_ixT, o_ixN, o_ixS, peek_d, peek_tl, peekV_d, asB_d, conv_d, conv_al, conv_nl, conv_vt, conv_at, conv_nt, toVal_d, toVal_t, convV_d, toDs_nil, toDs_cons, ca1_d, ca2_d, plOf_loc, seqQ_nx, seqQ_rt, seqQ_ex, retQ_rt, retQ_ex, rtQ_rt, handR_d, handR_t, fInt_i, fInt_b, fAbs_i, fMax_i, fMin_i, Option.some.injEq, Prod.mk.injEq, exists_eq_left', exists_eq_left, exists_eq', exists_and_left, exists_and_right, and_true, true_and, List.set_cons_zero, List.set_cons_succ, Bool.true_eq_false, Bool.false_eq_true, forall_const, D.int.injEq, D.str.injEq, D.bl.injEq, D.lst.injEq, D.tup.injEq, Res.d.injEq, SV.d.injEq, Option.map_some, atI_0, atI_1, atI_2, atI_3, decide_eq_true_eq, decide_eq_false_iff_not, and_assoc, tyOk_str, mStr1_d, o_join, o_joinT, o_split, caLen_d, fLen_l, fLen_t, o_lenS, o_slS, o_slL, ixR_n, ixR_i, o_eqI, i_rng, i_rngB, i_val, i_valT, i_str, e_comp, wipeE, o_inC, Bool.not_true, Bool.not_false, Bool.not_eq_true', Bool.not_eq_false', if_true, if_false, Bool.if_true_left, decide_true, decide_false, asg_nm, asg_tp2, asg_tp3, kvSV_d, List.cons.injEq, caLen_ro hr, List.length_map]
    generalize hm : (if (if (ns.length : Int) < 6 then (ns.length : Int) else 6) > 1 then (if (ns.length : Int) < 6 then (ns.length : Int) else 6) else 1) = m
    have hm1 : 1 ≤ m ∧ m ≤ 6 := by rw [← hm]; split <;> split <;> omega
    refine ⟨by omega, by omega, ?_⟩
    refine for_inv (fun xs ρ μ' => ∃ (j : Nat) (lo : Nat), xs = rngI lo j ∧ lo + j ≤ 6 ∧ μ' = ⟨[.ro (ns.map D.int)], []⟩ ∧ ρ = [some (.loc 0), none, none, none]) ?_ ?_ _ _ _ ⟨m.toNat, 0, rfl, by omega, rfl, rfl⟩
    · rintro x xs ρ μ ⟨j, lo, e, hj, rfl, rfl⟩
      obtain ⟨rfl, rfl⟩ := rngI_cons e.symm
      obtain ⟨j, rfl⟩ := rngI_pos e.symm
      refine ⟨_, asg_nm, ?_⟩
      have next : ∀ (μ' : Sto) (x2 x3 : Option SV), μ'.cut 1 = ⟨[.ro (ns.map D.int)], []⟩ → loopQ (fun (ρ : En) (μ' : Sto) => ∃ (j' : Nat) (lo' : Nat), rngI ((lo : Int) + 1) (j + 1 - 1) = rngI lo' j' ∧ lo' + j' ≤ 6 ∧ μ' = ⟨[.ro (ns.map D.int)], []⟩ ∧ ρ = [some (.loc 0), none, none, none]) 1 [1, 2, 3] (seqQ g_law_2 (retQ 1 (rtQ fun r _ => r = .d (.bl true)))) (.nx [some (.loc 0), some (.d (.int lo)), x2, x3] μ') := fun μ' x2 x3 h' =>
        ⟨j, lo + 1, by push_cast; rfl, by omega, h', by rw [trim_eq]; simp (discharger := omega) only [List.map_cons, List.map_nil, tm_none, tm_d, tm_o, tm_loc, wipeE, List.set_cons_succ, List.set_cons_zero, List.length_cons, List.length_nil, Nat.zero_add, List.length_append]⟩
      generalize hI : loopQ _ _ _ _ = LQ at next
      show wpS g_law_b2_1 _ _ LQ
      apply s_seq
      apply s_set
      simp only [List.map_cons, List.map_nil, List.length_cons, List.length_nil, List.replicate, List.nil_append, List.cons_append, Nat.reduceAdd, Nat.reduceSub, Nat.zero_add, List.append_nil, e_bin, e_c, e_un, e_if, e_eB, e_nil, e_cons, e_lst, e_tup, e_call, e_fn, e_fnK, e_meth, e_sl, e_pNo, e_eI, e_chain, e_var, eVar, List.getElem?_cons_zero, List.getElem?_cons_succ, o_ok, o_okD, o_none, o_guard, o_op2, o_opI, o_addI, o_addS, o_addL, o_addT, o_mulI, o_mulL, o_ixD, o_ixT, o_ixN, o_ixS, peek_d, peek_tl, peekV_d, asB_d, conv_d, conv_al, conv_nl, conv_vt, conv_at, conv_nt, toVal_d, toVal_t, convV_d, toDs_nil, toDs_cons, ca1_d, ca2_d, plOf_loc, seqQ_nx, seqQ_rt, seqQ_ex, retQ_rt, retQ_ex, rtQ_rt, handR_d, handR_t, fInt_i, fInt_b, fAbs_i, fMax_i, fMin_i, Option.some.injEq, Prod.mk.injEq, exists_eq_left', exists_eq_left, exists_eq', exists_and_left, exists_and_right, and_true, true_and, List.set_cons_zero, List.set_cons_succ, Bool.true_eq_false, Bool.false_eq_true, forall_const, D.int.injEq, D.str.injEq, D.bl.injEq, D.lst.injEq, D.tup.injEq, Res.d.injEq, SV.d.injEq, Option.map_some, atI_0, atI_1, atI_2, atI_3, decide_eq_true_eq, decide_eq_false_iff_not, and_assoc, tyOk_str, mStr1_d, o_join, o_joinT, o_split, caLen_d, fLen_l, fLen_t, o_lenS, o_slS, o_slL, ixR_n, ixR_i, o_eqI, i_rng, i_rngB, i_val, i_valT, i_str, e_comp, wipeE, o_inC, Bool.not_true, Bool.not_false, Bool.not_eq_true', Bool.not_eq_false', if_true, if_false, Bool.if_true_left, decide_true, decide_false, asg_nm, asg_tp2, asg_tp3, kvSV_d, List.cons.injEq]
      refine purse_ok hr (by omega) fun a b hg => ?_
      simp only [List.map_cons, List.map_nil, List.length_cons, List.length_nil, List.replicate, List.nil_append, List.cons_append, Nat.reduceAdd, Nat.reduceSub, Nat.zero_add, List.append_nil, e_bin, e_c, e_un, e_if, e_eB, e_nil, e_cons, e_lst, e_tup, e_call, e_fn, e_fnK, e_meth, e_sl, e_pNo, e_eI, e_chain, e_var, eVar, List.getElem?_cons_zero, List.getElem?_cons_succ, o_ok, o_okD, o_none, o_guard, o_op2, o_opI, o_addI, o_addS, o_addL, o_addT, o_mulI, o_mulL, o_ixD, o_ixT, o_ixN, o_ixS, peek_d, peek_tl, peekV_d, asB_d, conv_d, conv_al, conv_nl, conv_vt, conv_at, conv_nt, toVal_d, toVal_t, convV_d, toDs_nil, toDs_cons, ca1_d, ca2_d, plOf_loc, seqQ_nx, seqQ_rt, seqQ_ex, retQ_rt, retQ_ex, rtQ_rt, handR_d, handR_t, fInt_i, fInt_b, fAbs_i, fMax_i, fMin_i, Option.some.injEq, Prod.mk.injEq, exists_eq_left', exists_eq_left, exists_eq', exists_and_left, exists_and_right, and_true, true_and, List.set_cons_zero, List.set_cons_succ, Bool.true_eq_false, Bool.false_eq_true, forall_const, D.int.injEq, D.str.injEq, D.bl.injEq, D.lst.injEq, D.tup.injEq, Res.d.injEq, SV.d.injEq, Option.map_some, atI_0, atI_1, atI_2, atI_3, decide_eq_true_eq, decide_eq_false_iff_not, and_assoc, tyOk_str, mStr1_d, o_join, o_joinT, o_split, caLen_d, fLen_l, fLen_t, o_lenS, o_slS, o_slL, ixR_n, ixR_i, o_eqI, i_rng, i_rngB, i_val, i_valT, i_str, e_comp, wipeE, o_inC, Bool.not_true, Bool.not_false, Bool.not_eq_true', Bool.not_eq_false', if_true, if_false, Bool.if_true_left, decide_true, decide_false, asg_nm, asg_tp2, asg_tp3, kvSV_d, List.cons.injEq]
      show wpS g_law_b2_2 [some (.loc 0), some (.d (.int lo)), some (.loc 1), none] ⟨[.ro (ns.map D.int), pc a b 0], []⟩ LQ
      apply s_for
      simp only [List.map_cons, List.map_nil, List.length_cons, List.length_nil, List.replicate, List.nil_append, List.cons_append, Nat.reduceAdd, Nat.reduceSub, Nat.zero_add, List.append_nil, e_bin, e_c, e_un, e_if, e_eB, e_nil, e_cons, e_lst, e_tup, e_call, e_fn, e_fnK, e_meth, e_sl, e_pNo, e_eI, e_chain, e_var, eVar, List.getElem?_cons_zero, List.getElem?_cons_succ, o_ok, o_okD, o_none, o_guard, o_op2, o_opI, o_addI, o_addS, o_addL, o_addT, o_mulI, o_mulL, o_ixD, o_ixT, o_ixN, o_ixS, peek_d, peek_tl, peekV_d, asB_d, conv_d, conv_al, conv_nl, conv_vt, conv_at, conv_nt, toVal_d, toVal_t, convV_d, toDs_nil, toDs_cons, ca1_d, ca2_d, plOf_loc, seqQ_nx, seqQ_rt, seqQ_ex, retQ_rt, retQ_ex, rtQ_rt, handR_d, handR_t, fInt_i, fInt_b, fAbs_i, fMax_i, fMin_i, Option.some.injEq, Prod.mk.injEq, exists_eq_left', exists_eq_left, exists_eq', exists_and_left, exists_and_right, and_true, true_and, List.set_cons_zero, List.set_cons_succ, Bool.true_eq_false, Bool.false_eq_true, forall_const, D.int.injEq, D.str.injEq, D.bl.injEq, D.lst.injEq, D.tup.injEq, Res.d.injEq, SV.d.injEq, Option.map_some, atI_0, atI_1, atI_2, atI_3, decide_eq_true_eq, decide_eq_false_iff_not, and_assoc, tyOk_str, mStr1_d, o_join, o_joinT, o_split, caLen_d, fLen_l, fLen_t, o_lenS, o_slS, o_slL, ixR_n, ixR_i, o_eqI, i_rng, i_rngB, i_val, i_valT, i_str, e_comp, wipeE, o_inC, Bool.not_true, Bool.not_false, Bool.not_eq_true', Bool.not_eq_false', if_true, if_false, Bool.if_true_left, decide_true, decide_false, asg_nm, asg_tp2, asg_tp3, kvSV_d, List.cons.injEq]
      refine ⟨by decide, by decide, ?_⟩
      have base : ∀ μ', Pur 1 0 μ' → True := fun _ _ => trivial
      refine for_inv (fun xs ρ μ' => ∃ (d : Nat) (l2 : Int) (a b c : Int), xs = rngI l2 d ∧ Good a b c (d * 5000) ∧ μ' = ⟨[.ro (ns.map D.int), pc a b c], []⟩ ∧ ρ = [some (.loc 0), some (.d (.int lo)), some (.loc 1), none]) ?_ ?_ _ _ _ ⟨2, 0, a, b, 0, rfl, hg.le (by decide), rfl, rfl⟩
      · rintro x xs ρ μ ⟨d, l2, a, b, c, e2, hg, rfl, rfl⟩
        obtain ⟨rfl, rfl⟩ := rngI_cons e2.symm
        obtain ⟨d, rfl⟩ := rngI_pos e2.symm
        refine ⟨_, asg_nm, ?_⟩
        have next2 : ∀ (μ' : Sto), Pw 1 (d * 5000) ⟨[.ro (ns.map D.int), pc a b c], []⟩ μ' → loopQ (fun (ρ : En) (μ' : Sto) => ∃ (d' : Nat) (l3 : Int) (a b c : Int), rngI (l2 + 1) (d + 1 - 1) = rngI l3 d' ∧ Good a b c (d' * 5000) ∧ μ' = ⟨[.ro (ns.map D.int), pc a b c], []⟩ ∧ ρ = [some (.loc 0), some (.d (.int lo)), some (.loc 1), none]) 2 [3] LQ (.nx [some (.loc 0), some (.d (.int lo)), some (.loc 1), some (.d (.int l2))] μ') := fun μ' ⟨a', b', c', em, hg'⟩ =>
          ⟨d, l2 + 1, a', b', c', rfl, hg', by rw [em]; rfl, by rw [trim_eq]; simp (discharger := omega) only [List.map_cons, List.map_nil, tm_none, tm_d, tm_o, tm_loc, wipeE, List.set_cons_succ, List.set_cons_zero, List.length_cons, List.length_nil, Nat.zero_add, List.length_append]⟩
        generalize hI2 : loopQ _ _ _ _ = LQ2 at next2
        show wpS g_law_b3_1 _ _ LQ2
        apply s_if
        have ft : ∀ (ν : Sto) (b : Bool) (R : Res → Sto → Prop), wpO (fTru ν (.d (.bl b))) R ↔ R (.d (.bl b)) ν := fun ν b R => o_ok
        simp only [List.map_cons, List.map_nil, List.length_cons, List.length_nil, List.replicate, List.nil_append, List.cons_append, Nat.reduceAdd, Nat.reduceSub, Nat.zero_add, List.append_nil, e_bin, e_c, e_un, e_if, e_eB, e_nil, e_cons, e_lst, e_tup, e_call, e_fn, e_fnK, e_meth, e_sl, e_pNo, e_eI, e_chain, e_var, eVar, List.getElem?_cons_zero, List.getElem?_cons_succ, o_ok, o_okD, o_none, o_guard, o_op2, o_opI, o_addI, o_addS, o_addL, o_addT, o_mulI, o_mulL, o_ixD, o_ixT, o_ixN, o_ixS, peek_d, peek_tl, peekV_d, asB_d, conv_d, conv_al, conv_nl, conv_vt, conv_at, conv_nt, toVal_d, toVal_t, convV_d, toDs_nil, toDs_cons, ca1_d, ca2_d, plOf_loc, seqQ_nx, seqQ_rt, seqQ_ex, retQ_rt, retQ_ex, rtQ_rt, handR_d, handR_t, fInt_i, fInt_b, fAbs_i, fMax_i, fMin_i, Option.some.injEq, Prod.mk.injEq, exists_eq_left', exists_eq_left, exists_eq', exists_and_left, exists_and_right, and_true, true_and, List.set_cons_zero, List.set_cons_succ, Bool.true_eq_false, Bool.false_eq_true, forall_const, D.int.injEq, D.str.injEq, D.bl.injEq, D.lst.injEq, D.tup.injEq, Res.d.injEq, SV.d.injEq, Option.map_some, atI_0, atI_1, atI_2, atI_3, decide_eq_true_eq, decide_eq_false_iff_not, and_assoc, tyOk_str, mStr1_d, o_join, o_joinT, o_split, caLen_d, fLen_l, fLen_t, o_lenS, o_slS, o_slL, ixR_n, ixR_i, o_eqI, i_rng, i_rngB, i_val, i_valT, i_str, e_comp, wipeE, o_inC, Bool.not_true, Bool.not_false, Bool.not_eq_true', Bool.not_eq_false', if_true, if_false, Bool.if_true_left, decide_true, decide_false, asg_nm, asg_tp2, asg_tp3, kvSV_d, List.cons.injEq]
        refine right_ok (k := d * 5000) ⟨a, b, c, rfl, hg.le (by omega)⟩ fun μ' w => ?_
        simp only [List.map_cons, List.map_nil, List.length_cons, List.length_nil, List.replicate, List.nil_append, List.cons_append, Nat.reduceAdd, Nat.reduceSub, Nat.zero_add, List.append_nil, e_bin, e_c, e_un, e_if, e_eB, e_nil, e_cons, e_lst, e_tup, e_call, e_fn, e_fnK, e_meth, e_sl, e_pNo, e_eI, e_chain, e_var, eVar, List.getElem?_cons_zero, List.getElem?_cons_succ, o_ok, o_okD, o_none, o_guard, o_op2, o_opI, o_addI, o_addS, o_addL, o_addT, o_mulI, o_mulL, o_ixD, o_ixT, o_ixN, o_ixS, peek_d, peek_tl, peekV_d, asB_d, conv_d, conv_al, conv_nl, conv_vt, conv_at, conv_nt, toVal_d, toVal_t, convV_d, toDs_nil, toDs_cons, ca1_d, ca2_d, plOf_loc, seqQ_nx, seqQ_rt, seqQ_ex, retQ_rt, retQ_ex, rtQ_rt, handR_d, handR_t, fInt_i, fInt_b, fAbs_i, fMax_i, fMin_i, Option.some.injEq, Prod.mk.injEq, exists_eq_left', exists_eq_left, exists_eq', exists_and_left, exists_and_right, and_true, true_and, List.set_cons_zero, List.set_cons_succ, Bool.true_eq_false, Bool.false_eq_true, forall_const, D.int.injEq, D.str.injEq, D.bl.injEq, D.lst.injEq, D.tup.injEq, Res.d.injEq, SV.d.injEq, Option.map_some, atI_0, atI_1, atI_2, atI_3, decide_eq_true_eq, decide_eq_false_iff_not, and_assoc, tyOk_str, mStr1_d, o_join, o_joinT, o_split, caLen_d, fLen_l, fLen_t, o_lenS, o_slS, o_slL, ixR_n, ixR_i, o_eqI, i_rng, i_rngB, i_val, i_valT, i_str, e_comp, wipeE, o_inC, Bool.not_true, Bool.not_false, Bool.not_eq_true', Bool.not_eq_false', if_true, if_false, Bool.if_true_left, decide_true, decide_false, asg_nm, asg_tp2, asg_tp3, kvSV_d, List.cons.injEq, ft]
        refine ⟨fun z => z.elim, ?_, fun z => z.elim⟩
        apply s_nx
        exact next2 μ' w
      · rintro ρ μ ⟨d, l2, a, b, c, e2, hg, rfl, rfl⟩
        exact next _ _ _ rfl
    · rintro ρ μ ⟨j, lo, e, hj, rfl, rfl⟩
      show wpS g_law_2 _ _ _
      apply s_ret
      simp only [List.map_cons, List.map_nil, List.length_cons, List.length_nil, List.replicate, List.nil_append, List.cons_append, Nat.reduceAdd, Nat.reduceSub, Nat.zero_add, List.append_nil, e_bin, e_c, e_un, e_if, e_eB, e_nil, e_cons, e_lst, e_tup, e_call, e_fn, e_fnK, e_meth, e_sl, e_pNo, e_eI, e_chain, e_var, eVar, List.getElem?_cons_zero, List.getElem?_cons_succ, o_ok, o_okD, o_none, o_guard, o_op2, o_opI, o_addI, o_addS, o_addL, o_addT, o_mulI, o_mulL, o_ixD, o_ixT, o_ixN, o_ixS, peek_d, peek_tl, peekV_d, asB_d, conv_d, conv_al, conv_nl, conv_vt, conv_at, conv_nt, toVal_d, toVal_t, convV_d, toDs_nil, toDs_cons, ca1_d, ca2_d, plOf_loc, seqQ_nx, seqQ_rt, seqQ_ex, retQ_rt, retQ_ex, rtQ_rt, handR_d, handR_t, fInt_i, fInt_b, fAbs_i, fMax_i, fMin_i, Option.some.injEq, Prod.mk.injEq, exists_eq_left', exists_eq_left, exists_eq', exists_and_left, exists_and_right, and_true, true_and, List.set_cons_zero, List.set_cons_succ, Bool.true_eq_false, Bool.false_eq_true, forall_const, D.int.injEq, D.str.injEq, D.bl.injEq, D.lst.injEq, D.tup.injEq, Res.d.injEq, SV.d.injEq, Option.map_some, atI_0, atI_1, atI_2, atI_3, decide_eq_true_eq, decide_eq_false_iff_not, and_assoc, tyOk_str, mStr1_d, o_join, o_joinT, o_split, caLen_d, fLen_l, fLen_t, o_lenS, o_slS, o_slL, ixR_n, ixR_i, o_eqI, i_rng, i_rngB, i_val, i_valT, i_str, e_comp, wipeE, o_inC, Bool.not_true, Bool.not_false, Bool.not_eq_true', Bool.not_eq_false', if_true, if_false, Bool.if_true_left, decide_true, decide_false, asg_nm, asg_tp2, asg_tp3, kvSV_d, List.cons.injEq]
  obtain ⟨o, e, q⟩ := key
  cases o with
  | ex _ _ _ => exact q.elim
  | rt r μ' =>
    cases (show r = .d (.bl true) from q)
    exact ⟨μ', e⟩
end
end DF
namespace DF
open PySem PySem.Spec PyProof.Rows L2
/-! ### the text -/
def topS (i : Nat) : Stmt := PySem.Challenge.pw_keptworths_k55_histories_that_are_none.main.body.getD i (.Pass ⟨0, 0, 0, 0⟩)
abbrev s__law_purse : Stmt := topS 14
abbrev n__law_purse : List Str := ["script", "place", "cell"]
theorem sc__law_purse : FnScope n__law_purse ["script", "place"] (defScope s__law_purse) := ⟨rfl, rfl, rfl, by decide +kernel, rfl, by decide +kernel, by decide +kernel⟩
abbrev s__law_coin : Stmt := topS 15
abbrev n__law_coin : List Str := ["purse", "many", "stirred", "drawn"]
theorem sc__law_coin : FnScope n__law_coin ["purse", "many"] (defScope s__law_coin) := ⟨rfl, rfl, rfl, by decide +kernel, rfl, by decide +kernel, by decide +kernel⟩
abbrev s__law_words : Stmt := topS 16
abbrev n__law_words : List Str := ["purse", "many", "menu", "stem", "found", "rank", "letters", "sort_here", "start", "base", "word", "tail", "at", "size", "turn"]
theorem sc__law_words : FnScope n__law_words ["purse", "many"] (defScope s__law_words) := ⟨rfl, rfl, rfl, by decide +kernel, rfl, by decide +kernel, by decide +kernel⟩
abbrev s__law_drawn_plan : Stmt := topS 17
abbrev n__law_drawn_plan : List Str := ["purse", "sizes", "turn", "titles", "letters", "count", "many", "kinds", "found", "edition_here", "rank", "some", "place", "held", "name", "at", "elder", "source", "one"]
theorem sc__law_drawn_plan : FnScope n__law_drawn_plan ["purse", "sizes"] (defScope s__law_drawn_plan) := ⟨rfl, rfl, rfl, by decide +kernel, rfl, by decide +kernel, by decide +kernel⟩
abbrev s__law_deeds_of : Stmt := topS 18
abbrev n__law_deeds_of : List Str := ["plan", "found", "title", "column"]
theorem sc__law_deeds_of : FnScope n__law_deeds_of ["plan"] (defScope s__law_deeds_of) := ⟨rfl, rfl, rfl, by decide +kernel, rfl, by decide +kernel, by decide +kernel⟩
abbrev s__law_drawn_history : Stmt := topS 19
abbrev n__law_drawn_history : List Str := ["purse", "plan", "most", "turn", "found", "every", "left", "deed"]
theorem sc__law_drawn_history : FnScope n__law_drawn_history ["purse", "plan", "most"] (defScope s__law_drawn_history) := ⟨rfl, rfl, rfl, by decide +kernel, rfl, by decide +kernel, by decide +kernel⟩
abbrev s__law_odd_his : Stmt := topS 23
abbrev n__law_odd_his : List Str := ["purse", "wording", "menu", "mixed", "many", "turn"]
theorem sc__law_odd_his : FnScope n__law_odd_his ["purse", "wording"] (defScope s__law_odd_his) := ⟨rfl, rfl, rfl, by decide +kernel, rfl, by decide +kernel, by decide +kernel⟩
abbrev s__law_marred_his : Stmt := topS 24
abbrev n__law_marred_his : List Str := ["purse", "wording", "wide", "signs", "sign", "spot", "way", "between", "pieces", "piece", "left", "right"]
theorem sc__law_marred_his : FnScope n__law_marred_his ["purse", "wording"] (defScope s__law_marred_his) := ⟨rfl, rfl, rfl, by decide +kernel, rfl, by decide +kernel, by decide +kernel⟩
abbrev s__law_is_title : Stmt := topS 20
abbrev n__law_is_title : List Str := ["wording", "letters", "sign"]
theorem sc__law_is_title : FnScope n__law_is_title ["wording"] (defScope s__law_is_title) := ⟨rfl, rfl, rfl, by decide +kernel, rfl, by decide +kernel, by decide +kernel⟩
abbrev s__law_deeds_in : Stmt := topS 21
abbrev n__law_deeds_in : List Str := ["wording", "found", "part", "pieces", "is_right"]
theorem sc__law_deeds_in : FnScope n__law_deeds_in ["wording"] (defScope s__law_deeds_in) := ⟨rfl, rfl, rfl, by decide +kernel, rfl, by decide +kernel, by decide +kernel⟩
abbrev s_show_history : Stmt := topS 9
abbrev n_show_history : List Str := ["deeds", "deed"]
theorem sc_show_history : FnScope n_show_history ["deeds"] (defScope s_show_history) := ⟨rfl, rfl, rfl, by decide +kernel, rfl, by decide +kernel, by decide +kernel⟩
abbrev s_is_name : Stmt := topS 7
abbrev n_is_name : List Str := ["text", "letter"]
theorem sc_is_name : FnScope n_is_name ["text"] (defScope s_is_name) := ⟨rfl, rfl, rfl, by decide +kernel, rfl, by decide +kernel, by decide +kernel⟩
abbrev s_is_deed : Stmt := topS 11
abbrev n_is_deed : List Str := ["pieces"]
theorem sc_is_deed : FnScope n_is_deed ["pieces"] (defScope s_is_deed) := ⟨rfl, rfl, rfl, by decide +kernel, rfl, by decide +kernel, by decide +kernel⟩
abbrev s_read_history : Stmt := topS 12
abbrev n_read_history : List Str := ["text", "found", "deeds", "pieces", "part"]
theorem sc_read_history : FnScope n_read_history ["text"] (defScope s_read_history) := ⟨rfl, rfl, rfl, by decide +kernel, rfl, by decide +kernel, by decide +kernel⟩
abbrev s__law_caught_his : Stmt := topS 22
abbrev n__law_caught_his : List Str := ["wording", "way", "found", "e", "told", "odd"]
theorem sc__law_caught_his : FnScope n__law_caught_his ["wording", "way"] (defScope s__law_caught_his) := ⟨rfl, rfl, rfl, by decide +kernel, rfl, by decide +kernel, by decide +kernel⟩
abbrev s__law_right : Stmt := topS 25
abbrev n__law_right : List Str := ["purse", "plan", "history_here", "wording", "turn", "bent", "told", "owed", "deed"]
theorem sc__law_right : FnScope n__law_right ["purse"] (defScope s__law_right) := ⟨rfl, rfl, rfl, by decide +kernel, rfl, by decide +kernel, by decide +kernel⟩
abbrev s_law : Stmt := topS 26
abbrev n_law : List Str := ["script", "spot", "purse", "turn"]
theorem sc_law : FnScope n_law ["script"] (defScope s_law) := ⟨rfl, rfl, rfl, by decide +kernel, rfl, by decide +kernel, by decide +kernel⟩
structure Tx (K : PySem.W.Frag) (mg : Str → Option Value) : Type where
  f__law_purse : Addr
  d__law_purse : FuncData
  F__law_purse : Fun K "_law_purse" "_law_purse" s__law_purse f__law_purse d__law_purse
  m__law_purse : mg "_law_purse" = some (.ref f__law_purse)
  b__law_purse : Binds K d__law_purse ["script", "place"] []
  f__law_coin : Addr
  d__law_coin : FuncData
  F__law_coin : Fun K "_law_coin" "_law_coin" s__law_coin f__law_coin d__law_coin
  m__law_coin : mg "_law_coin" = some (.ref f__law_coin)
  b__law_coin : Binds K d__law_coin ["purse", "many"] []
  f__law_words : Addr
  d__law_words : FuncData
  F__law_words : Fun K "_law_words" "_law_words" s__law_words f__law_words d__law_words
  m__law_words : mg "_law_words" = some (.ref f__law_words)
  b__law_words : Binds K d__law_words ["purse", "many"] []
  f__law_drawn_plan : Addr
  d__law_drawn_plan : FuncData
  F__law_drawn_plan : Fun K "_law_drawn_plan" "_law_drawn_plan" s__law_drawn_plan f__law_drawn_plan d__law_drawn_plan
  m__law_drawn_plan : mg "_law_drawn_plan" = some (.ref f__law_drawn_plan)
  b__law_drawn_plan : Binds K d__law_drawn_plan ["purse", "sizes"] []
  f__law_deeds_of : Addr
  d__law_deeds_of : FuncData
  F__law_deeds_of : Fun K "_law_deeds_of" "_law_deeds_of" s__law_deeds_of f__law_deeds_of d__law_deeds_of
  m__law_deeds_of : mg "_law_deeds_of" = some (.ref f__law_deeds_of)
  b__law_deeds_of : Binds K d__law_deeds_of ["plan"] []
  f__law_drawn_history : Addr
  d__law_drawn_history : FuncData
  F__law_drawn_history : Fun K "_law_drawn_history" "_law_drawn_history" s__law_drawn_history f__law_drawn_history d__law_drawn_history
  m__law_drawn_history : mg "_law_drawn_history" = some (.ref f__law_drawn_history)
  b__law_drawn_history : Binds K d__law_drawn_history ["purse", "plan", "most"] []
  f__law_odd_his : Addr
  d__law_odd_his : FuncData
  F__law_odd_his : Fun K "_law_odd_his" "_law_odd_his" s__law_odd_his f__law_odd_his d__law_odd_his
  m__law_odd_his : mg "_law_odd_his" = some (.ref f__law_odd_his)
  b__law_odd_his : Binds K d__law_odd_his ["purse", "wording"] []
  f__law_marred_his : Addr
  d__law_marred_his : FuncData
  F__law_marred_his : Fun K "_law_marred_his" "_law_marred_his" s__law_marred_his f__law_marred_his d__law_marred_his
  m__law_marred_his : mg "_law_marred_his" = some (.ref f__law_marred_his)
  b__law_marred_his : Binds K d__law_marred_his ["purse", "wording"] []
  f__law_is_title : Addr
  d__law_is_title : FuncData
  F__law_is_title : Fun K "_law_is_title" "_law_is_title" s__law_is_title f__law_is_title d__law_is_title
  m__law_is_title : mg "_law_is_title" = some (.ref f__law_is_title)
  b__law_is_title : Binds K d__law_is_title ["wording"] []
  f__law_deeds_in : Addr
  d__law_deeds_in : FuncData
  F__law_deeds_in : Fun K "_law_deeds_in" "_law_deeds_in" s__law_deeds_in f__law_deeds_in d__law_deeds_in
  m__law_deeds_in : mg "_law_deeds_in" = some (.ref f__law_deeds_in)
  b__law_deeds_in : Binds K d__law_deeds_in ["wording"] []
  f_show_history : Addr
  d_show_history : FuncData
  F_show_history : Fun K "show_history" "show_history" s_show_history f_show_history d_show_history
  m_show_history : mg "show_history" = some (.ref f_show_history)
  b_show_history : Binds K d_show_history ["deeds"] []
  f_is_name : Addr
  d_is_name : FuncData
  F_is_name : Fun K "is_name" "is_name" s_is_name f_is_name d_is_name
  m_is_name : mg "is_name" = some (.ref f_is_name)
  b_is_name : Binds K d_is_name ["text"] []
  f_is_deed : Addr
  d_is_deed : FuncData
  F_is_deed : Fun K "is_deed" "is_deed" s_is_deed f_is_deed d_is_deed
  m_is_deed : mg "is_deed" = some (.ref f_is_deed)
  b_is_deed : Binds K d_is_deed ["pieces"] []
  f_read_history : Addr
  d_read_history : FuncData
  F_read_history : Fun K "read_history" "read_history" s_read_history f_read_history d_read_history
  m_read_history : mg "read_history" = some (.ref f_read_history)
  b_read_history : Binds K d_read_history ["text"] []
  kb_read_history_0 : KwB K d_read_history ["text"] ["text"] 0
  f__law_caught_his : Addr
  d__law_caught_his : FuncData
  F__law_caught_his : Fun K "_law_caught_his" "_law_caught_his" s__law_caught_his f__law_caught_his d__law_caught_his
  m__law_caught_his : mg "_law_caught_his" = some (.ref f__law_caught_his)
  b__law_caught_his : Binds K d__law_caught_his ["wording", "way"] []
  f__law_right : Addr
  d__law_right : FuncData
  F__law_right : Fun K "_law_right" "_law_right" s__law_right f__law_right d__law_right
  m__law_right : mg "_law_right" = some (.ref f__law_right)
  b__law_right : Binds K d__law_right ["purse"] []
  f_law : Addr
  d_law : FuncData
  F_law : Fun K "law" "law" s_law f_law d_law
  m_law : mg "law" = some (.ref f_law)
  b_law : Binds K d_law ["script"] []
  z_abs : mg "abs" = none
  z_all : mg "all" = none
  z_int : mg "int" = none
  z_isinstance : mg "isinstance" = none
  z_len : mg "len" = none
  z_list : mg "list" = none
  z_max : mg "max" = none
  z_min : mg "min" = none
  z_range : mg "range" = none
  z_set : mg "set" = none
  z_tuple : mg "tuple" = none
  u_LETTERS : Tok
  m_LETTERS : mg "LETTERS" = some (.str "abcdefghijklmnopqrstuvwxyz" u_LETTERS)
  c_InvalidDeed : Addr
  m_InvalidDeed : mg "InvalidDeed" = some (.ref c_InvalidDeed)
  c_InvalidName : Addr
  m_InvalidName : mg "InvalidName" = some (.ref c_InvalidName)
  c_Unreadable : Addr
  m_Unreadable : mg "Unreadable" = some (.ref c_Unreadable)
  c_WorthError : Addr
  m_WorthError : mg "WorthError" = some (.ref c_WorthError)
  fI : Addr
  i_fI : PySem.ErrX.InitTxt K fI
  t_Unreadable : PySem.ErrX.ErrTxt K mg "Unreadable" c_Unreadable fI
  x_Unreadable : IsTxt K c_Unreadable
  hm_WorthError_Unreadable : PySem.W.exmOne K (.ref c_Unreadable) (.ref c_WorthError) = some true
  is_InvalidDeed_InvalidName_Unreadable : PySem.W.kitAny K (.ref c_Unreadable) [.ref c_InvalidDeed, .ref c_InvalidName] = some false
  is_Unreadable_Unreadable : PySem.W.kitOne K (.ref c_Unreadable) (.ref c_Unreadable) = some true
section
variable {P : Program} {w : World} {K : PySem.W.Frag} {mg : Str → Option Value} {base : Heap}
def Tx.cls (T : Tx K mg) : Nat → Addr := fun c =>  T.c_Unreadable
def gm (T : Tx K mg) : Gm := ⟨K, T.cls, fun _ _ _ => False⟩
theorem Tx.hm_WorthError (T : Tx K mg) {c : Nat} {b : Bool} (q : DF.hm_WorthError c = some b) : PySem.W.exmOne K (.ref (T.cls c)) (.ref T.c_WorthError) = some b := by
  by_cases h0 : c = 0
  · subst h0
    cases q; exact T.hm_WorthError_Unreadable
  unfold DF.hm_WorthError at q
  simp [h0] at q
theorem Tx.tx_val (T : Tx K mg) {cls : Value} {c : Nat} (_ : cls = .ref (T.cls c)) : PySem.W.findIn K (.ref (T.cls c)) "__getattribute__" = some (some (.builtin "BaseException.__getattribute__")) ∧ PySem.W.findIn K (.ref (T.cls c)) "__getattr__" = some none ∧
    PySem.W.findIn K (.ref (T.cls c)) "value" = some none ∧ PySem.W.subIn K (.ref (T.cls c)) (.type "BaseException") = some true ∧ PySem.W.hasDictIn K (T.cls c) = true := by
  unfold Tx.cls
  exact ⟨T.t_Unreadable.ga, T.t_Unreadable.gg, T.t_Unreadable.noN, T.t_Unreadable.exC, T.t_Unreadable.hdC⟩
theorem Tx.tx_is_InvalidDeed_InvalidName (T : Tx K mg) {c : Nat} {b : Bool} (q : DF.is_InvalidDeed_InvalidName c = some b) : IsTxt K (T.cls c) ∧ PySem.W.kitAny K (.ref (T.cls c)) ([T.c_InvalidDeed, T.c_InvalidName].map Value.ref) = some b := by
  by_cases h0 : c = 0
  · subst h0
    cases q; exact ⟨T.x_Unreadable, T.is_InvalidDeed_InvalidName_Unreadable⟩
  unfold DF.is_InvalidDeed_InvalidName at q
  simp [h0] at q
theorem Tx.tx_is_Unreadable (T : Tx K mg) {c : Nat} {b : Bool} (q : DF.is_Unreadable c = some b) : IsTxt K (T.cls c) ∧ PySem.W.kitOne K (.ref (T.cls c)) (.ref T.c_Unreadable) = some b := by
  by_cases h0 : c = 0
  · subst h0
    cases q; exact ⟨T.x_Unreadable, T.is_Unreadable_Unreadable⟩
  unfold DF.is_Unreadable at q
  simp [h0] at q
theorem de_glob_LETTERS (T : Tx K mg) {X : Cx} {W : WX} {pos : Pos} (hm : X.mg = mg := by rfl) (hg : Gl X "LETTERS" := by rfl) : DE (gm T) W X (.Name "LETTERS" pos) c_LETTERS := de_c (v := .str "abcdefghijklmnopqrstuvwxyz") (pe_glob hg (by rw [hm]; exact T.m_LETTERS) ⟨_, rfl⟩) fun _ => .str (strOk_of (by decide +kernel))
theorem ok__law_purse (T : Tx K mg) : FnOk P w K mg base (L2.CX P w) 1 T.f__law_purse T.d__law_purse ["script", "place"] (spF (gm T) 2 f__law_purse) :=
  dfn T.F__law_purse sc__law_purse rfl fun cdv A outer s H E hr =>
    (dss_cons (ds_set (i := 2) sc__law_purse.nd rfl (by first | exact .inl rfl | exact .inr rfl) (de_if (dt_lt (de_var (pv 1)) (de_callB call_len lenR_ok rfl T.z_len (by first | exact PySem.boot_len | exact PyProof.Rows.boot_len) (da_cons (de_var (pv 0)) da_nil))) (de_sub' rfl (de_var (pv 0)) (de_var (pv 1)) (fun _ _ => rfl)) de_int))
    (dss_one (ds_ret (de_lst (da_cons (de_callB (call_max2 rfl) max_ok rfl T.z_max (by first | exact PySem.boot_max | exact PyProof.Rows.boot_max) (da_cons de_int (da_cons (de_sub (de_callB call_abs abs_ok rfl T.z_abs (by first | exact PySem.boot_abs | exact PyProof.Rows.boot_abs) (da_cons (de_var (pv 2)) da_nil)) (de_pow de_int de_int)) da_nil))) (da_cons (de_mod (de_callTy call_int1 int_ok rfl T.z_int (by first | exact PySem.boot_int | exact PyProof.Rows.boot_int) (da_cons (de_add rfl (de_add rfl (de_mul (de_var (pv 2)) de_int) (de_mul (de_var (pv 1)) de_int)) de_int) da_nil)) (de_add rfl (de_pow de_int de_int) de_int)) (da_cons de_int da_nil)))))))
theorem ok__law_coin (T : Tx K mg) : FnOk P w K mg base (L2.CX P w) 1 T.f__law_coin T.d__law_coin ["purse", "many"] (spF (gm T) 2 f__law_coin) :=
  dfn T.F__law_coin sc__law_coin rfl fun cdv A outer s H E hr =>
    (dss_cons (ds_if (dt_gt (de_sub' rfl (de_var (pv 0)) de_int (fun _ _ => rfl)) de_int) (dss_cons (ds_set (i := 3) sc__law_coin.nd rfl (by first | exact .inl rfl | exact .inr rfl) (de_mod (de_callTy call_int1 int_ok rfl T.z_int (by first | exact PySem.boot_int | exact PyProof.Rows.boot_int) (da_cons (de_sub' rfl (de_var (pv 0)) de_int (fun _ _ => rfl)) da_nil)) (de_var (pv 1))))
    (dss_cons (ds_sub (de_fdiv (de_sub' rfl (de_var (pv 0)) de_int (fun _ _ => rfl)) (de_var (pv 1))) (de_var (pv 0)) de_int)
    (dss_one (ds_ret (de_var (pv 3)))))) dss_nil)
    (dss_cons (ds_sub (de_add rfl (de_sub' rfl (de_var (pv 0)) de_int (fun _ _ => rfl)) de_int) (de_var (pv 0)) de_int)
    (dss_cons (ds_set (i := 2) sc__law_coin.nd rfl (by first | exact .inl rfl | exact .inr rfl) (de_mod (de_pow (de_callTy call_int1 int_ok rfl T.z_int (by first | exact PySem.boot_int | exact PyProof.Rows.boot_int) (da_cons (de_add rfl (de_sub' rfl (de_var (pv 0)) de_int (fun _ _ => rfl)) (de_mul de_int (de_sub' rfl (de_var (pv 0)) de_int (fun _ _ => rfl)))) da_nil)) de_int) (de_add rfl (de_pow de_int de_int) de_int)))
    (dss_cons (ds_set (i := 2) sc__law_coin.nd rfl (by first | exact .inl rfl | exact .inr rfl) (de_mod (de_pow (de_callTy call_int1 int_ok rfl T.z_int (by first | exact PySem.boot_int | exact PyProof.Rows.boot_int) (da_cons (de_add rfl (de_var (pv 2)) (de_mul de_int (de_sub' rfl (de_var (pv 0)) de_int (fun _ _ => rfl)))) da_nil)) de_int) (de_add rfl (de_pow de_int de_int) de_int)))
    (dss_one (ds_ret (de_mod (de_callTy call_int1 int_ok rfl T.z_int (by first | exact PySem.boot_int | exact PyProof.Rows.boot_int) (da_cons (de_fdiv (de_var (pv 2)) de_int) da_nil)) (de_var (pv 1)))))))))
theorem ok__law_words (T : Tx K mg) : FnOk P w K mg base (L2.CX P w) 2 T.f__law_words T.d__law_words ["purse", "many"] (spF (gm T) 2 f__law_words) :=
  dfn T.F__law_words sc__law_words rfl fun cdv A outer s H E hr =>
    (dss_cons (ds_asg (de_tup (da_cons (de_str (by decide +kernel)) (da_cons (de_call (ok__law_coin T) (hr.mono (by decide)) T.m__law_coin T.F__law_coin.kp T.b__law_coin (takes_of rfl rfl rfl rfl) (da_cons (de_var (pv 0)) (da_cons de_int da_nil)) (lenA_cons (lenA_cons lenA_nil))) da_nil))) (dg_tup rfl rfl (dgs_cons (dg_name sc__law_words.nd rfl (by first | exact .inl rfl | exact .inr rfl)) (dgs_cons (dg_name sc__law_words.nd rfl (by first | exact .inl rfl | exact .inr rfl)) dgs_nil))))
    (dss_cons (ds_set (i := 2) sc__law_words.nd rfl (by first | exact .inl rfl | exact .inr rfl) (de_lst (da_cons (de_str (by decide +kernel)) (da_cons (de_str (by decide +kernel)) (da_cons (de_str (by decide +kernel)) (da_cons (de_str (by decide +kernel)) (da_cons (de_str (by decide +kernel)) (da_cons (de_str (by decide +kernel)) (da_cons (de_str (by decide +kernel)) da_nil)))))))))
    (dss_cons (ds_set (i := 2) sc__law_words.nd rfl (by first | exact .inl rfl | exact .inr rfl) (de_add rfl (de_var (pv 2)) (de_lst (da_cons (de_str (by decide +kernel)) (da_cons (de_str (by decide +kernel)) (da_cons (de_str (by decide +kernel)) (da_cons (de_str (by decide +kernel)) (da_cons (de_str (by decide +kernel)) (da_cons (de_str (by decide +kernel)) (da_cons (de_str (by decide +kernel)) da_nil))))))))))
    (dss_cons (ds_set (i := 3) sc__law_words.nd rfl (by first | exact .inl rfl | exact .inr rfl) (de_meth rfl PySem.F.plainAttrs_str PySem.F.slot_str_join PySem.F.type_str_join mt_join join_ok (de_str (by decide +kernel)) (da_cons (de_comp [("turn", 14)] rfl sc__law_words.nd (di_range rfl T.z_range (da_cons de_int da_nil)) (blkOk_by (N := n__law_words) (sc := defScope s__law_words) (by decide +kernel)) (fun _ _ _ _ _ => (dg_name sc__law_words.nd rfl (by first | exact .inl rfl | exact .inr rfl))) (fun _ _ _ _ _ => dts_nil) (fun _ _ _ _ _ => (de_sub' rfl (de_var (pv 6)) (de_call (ok__law_coin T) (hr.mono (by decide)) T.m__law_coin T.F__law_coin.kp T.b__law_coin takes0 (da_cons (de_var (pv 0)) (da_cons de_int da_nil)) (lenA_cons (lenA_cons lenA_nil))) (fun _ _ => rfl)))) da_nil)))
    (dss_cons (ds_if (dt_w (dw_and (dt_eq rfl (hu_64 hr) (de_var (pv 7)) de_int) (dw_and1 (dt_lt (de_var (pv 1)) de_int)))) (dss_cons (ds_set (i := 8) sc__law_words.nd rfl (by first | exact .inl rfl | exact .inr rfl) (de_call (ok__law_coin T) (hr.mono (by decide)) T.m__law_coin T.F__law_coin.kp T.b__law_coin (takes_of rfl rfl rfl rfl) (da_cons (de_var (pv 0)) (da_cons de_int da_nil)) (lenA_cons (lenA_cons lenA_nil))))
    (dss_one (ds_ret (de_comp [("rank", 5)] rfl sc__law_words.nd (di_range rfl T.z_range (da_cons (de_var (pv 1)) da_nil)) (blkOk_by (N := n__law_words) (sc := defScope s__law_words) (by decide +kernel)) (fun _ _ _ _ _ => (dg_name sc__law_words.nd rfl (by first | exact .inl rfl | exact .inr rfl))) (fun _ _ _ _ _ => dts_nil) (fun _ _ _ _ _ => (de_sub' rfl (de_var (pv 2)) (de_mod (de_callTy call_int1 int_ok rfl T.z_int (by first | exact PySem.boot_int | exact PyProof.Rows.boot_int) (da_cons (de_add rfl (de_var (pv 8)) (de_mul de_int (de_var (pv 5)))) da_nil)) de_int) (fun _ _ => rfl))))))) dss_nil)
    (dss_cons (ds_if (dt_w (dw_and (dt_eq rfl (hu_64 hr) (de_var (pv 7)) de_int) (dw_and1 (dt_lt (de_var (pv 1)) de_int)))) (dss_cons (ds_set (i := 8) sc__law_words.nd rfl (by first | exact .inl rfl | exact .inr rfl) (de_call (ok__law_coin T) (hr.mono (by decide)) T.m__law_coin T.F__law_coin.kp T.b__law_coin (takes_of rfl rfl rfl rfl) (da_cons (de_var (pv 0)) (da_cons (de_sub de_int (de_var (pv 1))) da_nil)) (lenA_cons (lenA_cons lenA_nil))))
    (dss_one (ds_ret (de_comp [("rank", 5)] rfl sc__law_words.nd (di_range rfl T.z_range (da_cons (de_var (pv 1)) da_nil)) (blkOk_by (N := n__law_words) (sc := defScope s__law_words) (by decide +kernel)) (fun _ _ _ _ _ => (dg_name sc__law_words.nd rfl (by first | exact .inl rfl | exact .inr rfl))) (fun _ _ _ _ _ => dts_nil) (fun _ _ _ _ _ => (de_slice rfl (de_var (pv 3)) do_none (do_some (de_add rfl (de_add rfl (de_var (pv 8)) (de_var (pv 5))) de_int)))))))) dss_nil)
    (dss_cons (ds_set (i := 4) sc__law_words.nd rfl (by first | exact .inl rfl | exact .inr rfl) (de_lst da_nil))
    (dss_cons (ds_if (dt_eq rfl (hu_64 hr) (de_var (pv 7)) de_int) (dss_one (ds_for [5, 13] (passes_of rfl) rfl (di_range rfl T.z_range (da_cons (de_var (pv 1)) da_nil)) (dg_name sc__law_words.nd rfl (by first | exact .inl rfl | exact .inr rfl)) (dss_cons (ds_set (i := 13) sc__law_words.nd rfl (by first | exact .inl rfl | exact .inr rfl) (de_add rfl de_int (de_call (ok__law_coin T) (hr.mono (by decide)) T.m__law_coin T.F__law_coin.kp T.b__law_coin (takes_of rfl rfl rfl rfl) (da_cons (de_var (pv 0)) (da_cons de_int da_nil)) (lenA_cons (lenA_cons lenA_nil)))))
    (dss_one (ds_expr (de_append rfl (de_var (pv 4)) (da_cons (de_meth rfl PySem.F.plainAttrs_str PySem.F.slot_str_join PySem.F.type_str_join mt_join join_ok (de_str (by decide +kernel)) (da_cons (de_comp [("turn", 14)] rfl sc__law_words.nd (di_range rfl T.z_range (da_cons (de_var (pv 13)) da_nil)) (blkOk_by (N := n__law_words) (sc := defScope s__law_words) (by decide +kernel)) (fun _ _ _ _ _ => (dg_name sc__law_words.nd rfl (by first | exact .inl rfl | exact .inr rfl))) (fun _ _ _ _ _ => dts_nil) (fun _ _ _ _ _ => (de_sub' rfl (de_var (pv 6)) (de_call (ok__law_coin T) (hr.mono (by decide)) T.m__law_coin T.F__law_coin.kp T.b__law_coin takes0 (da_cons (de_var (pv 0)) (da_cons de_int da_nil)) (lenA_cons (lenA_cons lenA_nil))) (fun _ _ => rfl)))) da_nil)) da_nil))))))) dss_nil)
    (dss_cons (ds_if (dt_eq rfl (hu_64 hr) (de_var (pv 7)) de_int) (dss_cons (ds_set (i := 9) sc__law_words.nd rfl (by first | exact .inl rfl | exact .inr rfl) (de_slice rfl (de_var (pv 3)) do_none (do_some (de_add rfl de_int (de_call (ok__law_coin T) (hr.mono (by decide)) T.m__law_coin T.F__law_coin.kp T.b__law_coin (takes_of rfl rfl rfl rfl) (da_cons (de_var (pv 0)) (da_cons de_int da_nil)) (lenA_cons (lenA_cons lenA_nil)))))))
    (dss_cons (ds_set (i := 4) sc__law_words.nd rfl (by first | exact .inl rfl | exact .inr rfl) (de_lst (da_cons (de_var (pv 9)) da_nil)))
    (dss_cons (ds_for [10] (passes_of rfl) rfl (di_list rfl (de_var (pv 2))) (dg_name sc__law_words.nd rfl (by first | exact .inl rfl | exact .inr rfl)) (dss_one (ds_expr (de_append rfl (de_var (pv 4)) (da_cons (de_sub' rfl (de_lst (da_cons (de_add rfl (de_slice rfl (de_var (pv 10)) do_none (do_some de_int)) (de_var (pv 9))) (da_cons (de_add rfl (de_var (pv 9)) (de_slice rfl (de_var (pv 10)) do_none (do_some de_int))) da_nil))) (de_call (ok__law_coin T) (hr.mono (by decide)) T.m__law_coin T.F__law_coin.kp T.b__law_coin (takes_of rfl rfl rfl rfl) (da_cons (de_var (pv 0)) (da_cons de_int da_nil)) (lenA_cons (lenA_cons lenA_nil))) (fun _ _ => rfl)) da_nil)))))
    (dss_one (ds_set (i := 4) sc__law_words.nd rfl (by first | exact .inl rfl | exact .inr rfl) (de_slice rfl (de_var (pv 4)) do_none (do_some (de_var (pv 1))))))))) dss_nil)
    (dss_cons (ds_if (dt_eq rfl (hu_64 hr) (de_lenSet rfl rfl rfl T.z_len rfl T.z_set (de_var (pv 4))) (de_var (pv 1))) (dss_one (ds_ret (de_var (pv 4)))) dss_nil)
    (dss_cons (ds_asg (de_tup (da_cons (de_call (ok__law_coin T) (hr.mono (by decide)) T.m__law_coin T.F__law_coin.kp T.b__law_coin (takes_of rfl rfl rfl rfl) (da_cons (de_var (pv 0)) (da_cons de_int da_nil)) (lenA_cons (lenA_cons lenA_nil))) (da_cons (de_slice rfl (de_var (pv 3)) do_none (do_some (de_call (ok__law_coin T) (hr.mono (by decide)) T.m__law_coin T.F__law_coin.kp T.b__law_coin (takes_of rfl rfl rfl rfl) (da_cons (de_var (pv 0)) (da_cons de_int da_nil)) (lenA_cons (lenA_cons lenA_nil))))) da_nil))) (dg_tup rfl rfl (dgs_cons (dg_name sc__law_words.nd rfl (by first | exact .inl rfl | exact .inr rfl)) (dgs_cons (dg_name sc__law_words.nd rfl (by first | exact .inl rfl | exact .inr rfl)) dgs_nil))))
    (dss_cons (ds_par (i := 12) (j := 4) rfl sc__law_words.nd rfl rfl (by decide) rfl rfl (da_cons (de_call (ok__law_coin T) (hr.mono (by decide)) T.m__law_coin T.F__law_coin.kp T.b__law_coin (takes_of rfl rfl rfl rfl) (da_cons (de_var (pv 0)) (da_cons (de_add rfl (de_callB call_len lenR_ok rfl T.z_len (by first | exact PySem.boot_len | exact PyProof.Rows.boot_len) (da_cons (de_var (pv 11)) da_nil)) de_int) da_nil)) (lenA_cons (lenA_cons lenA_nil))) (da_cons (de_lst da_nil) da_nil)) rfl)
    (dss_cons (ds_for [5] (passes_of rfl) rfl (di_range rfl T.z_range (da_cons (de_var (pv 1)) da_nil)) (dg_name sc__law_words.nd rfl (by first | exact .inl rfl | exact .inr rfl)) (dss_one (ds_expr (de_append rfl (de_var (pv 4)) (da_cons (de_add rfl (de_add rfl (de_slice rfl (de_var (pv 11)) do_none (do_some (de_var (pv 12)))) (de_sub' rfl (de_var (pv 6)) (de_mod (de_callTy call_int1 int_ok rfl T.z_int (by first | exact PySem.boot_int | exact PyProof.Rows.boot_int) (da_cons (de_add rfl (de_var (pv 8)) (de_var (pv 5))) da_nil)) de_int) (fun _ _ => rfl))) (de_slice rfl (de_var (pv 11)) (do_some (de_var (pv 12))) do_none)) da_nil)))))
    (dss_one (ds_ret (de_var (pv 4)))))))))))))))))
theorem ok__law_drawn_plan (T : Tx K mg) : FnOk P w K mg base (L2.CX P w) 3 T.f__law_drawn_plan T.d__law_drawn_plan ["purse", "sizes"] (spF (gm T) 2 f__law_drawn_plan) :=
  dfn T.F__law_drawn_plan sc__law_drawn_plan rfl fun cdv A outer s H E hr =>
    (dss_cons (ds_par (i := 5) (j := 6) rfl sc__law_drawn_plan.nd rfl rfl (by decide) rfl rfl (da_cons (de_add rfl de_int (de_call (ok__law_coin T) (hr.mono (by decide)) T.m__law_coin T.F__law_coin.kp T.b__law_coin (takes_of rfl rfl rfl rfl) (da_cons (de_var (pv 0)) (da_cons (de_sub' rfl (de_var (pv 1)) de_int (fun _ _ => rfl)) da_nil)) (lenA_cons (lenA_cons lenA_nil)))) (da_cons de_int da_nil)) rfl)
    (dss_cons (ds_for [2] (passes_of rfl) rfl (di_range rfl T.z_range (da_cons de_int da_nil)) (dg_name sc__law_drawn_plan.nd rfl (by first | exact .inl rfl | exact .inr rfl)) (dss_one (ds_set (i := 6) sc__law_drawn_plan.nd rfl (by first | exact .inl rfl | exact .inr rfl) (de_callB (call_max2 rfl) max_ok rfl T.z_max (by first | exact PySem.boot_max | exact PyProof.Rows.boot_max) (da_cons (de_var (pv 6)) (da_cons (de_call (ok__law_coin T) (hr.mono (by decide)) T.m__law_coin T.F__law_coin.kp T.b__law_coin (takes_of rfl rfl rfl rfl) (da_cons (de_var (pv 0)) (da_cons (de_add rfl (de_sub' rfl (de_var (pv 1)) de_int (fun _ _ => rfl)) de_int) da_nil)) (lenA_cons (lenA_cons lenA_nil))) da_nil))))))
    (dss_cons (ds_set (i := 3) sc__law_drawn_plan.nd rfl (by first | exact .inl rfl | exact .inr rfl) (de_call (ok__law_words T) (hr.mono (by decide)) T.m__law_words T.F__law_words.kp T.b__law_words (takes_of rfl rfl rfl rfl) (da_cons (de_var (pv 0)) (da_cons (de_add rfl (de_var (pv 5)) (de_var (pv 6))) da_nil)) (lenA_cons (lenA_cons lenA_nil))))
    (dss_cons (ds_par (i := 7) (j := 8) rfl sc__law_drawn_plan.nd rfl rfl (by decide) rfl rfl (da_cons (de_add rfl de_int (de_call (ok__law_coin T) (hr.mono (by decide)) T.m__law_coin T.F__law_coin.kp T.b__law_coin (takes_of rfl rfl rfl rfl) (da_cons (de_var (pv 0)) (da_cons de_int da_nil)) (lenA_cons (lenA_cons lenA_nil)))) (da_cons (de_lst da_nil) da_nil)) rfl)
    (dss_cons (ds_set (i := 4) sc__law_drawn_plan.nd rfl (by first | exact .inl rfl | exact .inr rfl) (de_call (ok__law_words T) (hr.mono (by decide)) T.m__law_words T.F__law_words.kp T.b__law_words (takes_of rfl rfl rfl rfl) (da_cons (de_var (pv 0)) (da_cons (de_var (pv 7)) da_nil)) (lenA_cons (lenA_cons lenA_nil))))
    (dss_cons (ds_for [2, 9, 10, 11, 12, 13, 14, 15, 16, 17] (passes_of rfl) rfl (di_range rfl T.z_range (da_cons (de_add rfl de_int (de_call (ok__law_coin T) (hr.mono (by decide)) T.m__law_coin T.F__law_coin.kp T.b__law_coin (takes_of rfl rfl rfl rfl) (da_cons (de_var (pv 0)) (da_cons (de_sub' rfl (de_var (pv 1)) de_int (fun _ _ => rfl)) da_nil)) (lenA_cons (lenA_cons lenA_nil)))) da_nil)) (dg_name sc__law_drawn_plan.nd rfl (by first | exact .inl rfl | exact .inr rfl)) (dss_cons (ds_set (i := 9) sc__law_drawn_plan.nd rfl (by first | exact .inl rfl | exact .inr rfl) (de_lst da_nil))
    (dss_cons (ds_for [10, 11, 12, 13, 14, 17] (passes_of rfl) rfl (di_range2 rfl T.z_range (da_cons (de_var (pv 5)) (da_cons (de_add rfl (de_var (pv 5)) (de_var (pv 6))) da_nil))) (dg_name sc__law_drawn_plan.nd rfl (by first | exact .inl rfl | exact .inr rfl)) (dss_cons (ds_set (i := 11) sc__law_drawn_plan.nd rfl (by first | exact .inl rfl | exact .inr rfl) (de_lst da_nil))
    (dss_cons (ds_for [12, 17] (passes_of rfl) rfl (di_range rfl T.z_range (da_cons (de_call (ok__law_coin T) (hr.mono (by decide)) T.m__law_coin T.F__law_coin.kp T.b__law_coin (takes_of rfl rfl rfl rfl) (da_cons (de_var (pv 0)) (da_cons (de_add rfl (de_sub' rfl (de_var (pv 1)) de_int (fun _ _ => rfl)) de_int) da_nil)) (lenA_cons (lenA_cons lenA_nil))) da_nil)) (dg_name sc__law_drawn_plan.nd rfl (by first | exact .inl rfl | exact .inr rfl)) (dss_cons (ds_set (i := 17) sc__law_drawn_plan.nd rfl (by first | exact .inl rfl | exact .inr rfl) (de_sub' rfl (de_var (pv 3)) (de_call (ok__law_coin T) (hr.mono (by decide)) T.m__law_coin T.F__law_coin.kp T.b__law_coin (takes_of rfl rfl rfl rfl) (da_cons (de_var (pv 0)) (da_cons (de_var (pv 10)) da_nil)) (lenA_cons (lenA_cons lenA_nil))) (fun _ _ => rfl)))
    (dss_one (ds_if (dt_notIn rfl (hu_65 hr) (de_var (pv 17)) (de_var (pv 11))) (dss_one (ds_expr (de_append rfl (de_var (pv 11)) (da_cons (de_var (pv 17)) da_nil)))) dss_nil))))
    (dss_cons (ds_set (i := 13) sc__law_drawn_plan.nd rfl (by first | exact .inl rfl | exact .inr rfl) (de_sub' rfl (de_lst (da_cons (de_str (by decide +kernel)) (da_cons (de_str (by decide +kernel)) (da_cons (de_str (by decide +kernel)) (da_cons (de_str (by decide +kernel)) da_nil))))) (de_call (ok__law_coin T) (hr.mono (by decide)) T.m__law_coin T.F__law_coin.kp T.b__law_coin (takes_of rfl rfl rfl rfl) (da_cons (de_var (pv 0)) (da_cons de_int da_nil)) (lenA_cons (lenA_cons lenA_nil))) (fun _ _ => rfl)))
    (dss_cons (ds_set (i := 14) sc__law_drawn_plan.nd rfl (by first | exact .inl rfl | exact .inr rfl) (de_sub' rfl (de_var (pv 4)) (de_call (ok__law_coin T) (hr.mono (by decide)) T.m__law_coin T.F__law_coin.kp T.b__law_coin (takes_of rfl rfl rfl rfl) (da_cons (de_var (pv 0)) (da_cons (de_var (pv 7)) da_nil)) (lenA_cons (lenA_cons lenA_nil))) (fun _ _ => rfl)))
    (dss_one (ds_expr (de_append rfl (de_var (pv 9)) (da_cons (de_tup (da_cons (de_sub' rfl (de_var (pv 3)) (de_var (pv 10)) (fun _ _ => rfl)) (da_cons (de_var (pv 14)) (da_cons (de_var (pv 11)) (da_cons (de_var (pv 13)) da_nil))))) da_nil)))))))))
    (dss_cons (ds_if (dt_w (dw_and (dt_ne rfl (hu_64 hr) (de_var (pv 8)) (de_lst da_nil)) (dw_and1 (dt_eq rfl (hu_64 hr) (de_call (ok__law_coin T) (hr.mono (by decide)) T.m__law_coin T.F__law_coin.kp T.b__law_coin (takes_of rfl rfl rfl rfl) (da_cons (de_var (pv 0)) (da_cons de_int da_nil)) (lenA_cons (lenA_cons lenA_nil))) de_int)))) (dss_cons (ds_set (i := 15) sc__law_drawn_plan.nd rfl (by first | exact .inl rfl | exact .inr rfl) (de_if (dt_gt (de_var (pv 6)) de_int) (de_call (ok__law_coin T) (hr.mono (by decide)) T.m__law_coin T.F__law_coin.kp T.b__law_coin (takes_of rfl rfl rfl rfl) (da_cons (de_var (pv 0)) (da_cons (de_var (pv 6)) da_nil)) (lenA_cons (lenA_cons lenA_nil))) de_int))
    (dss_cons (ds_set (i := 16) sc__law_drawn_plan.nd rfl (by first | exact .inl rfl | exact .inr rfl) (de_sub' rfl (de_var (pv 8)) (de_neg de_int) (fun _ _ => rfl)))
    (dss_one (ds_set (i := 9) sc__law_drawn_plan.nd rfl (by first | exact .inl rfl | exact .inr rfl) (de_add rfl (de_add rfl (de_slice rfl (de_var (pv 16)) do_none (do_some (de_var (pv 15)))) (de_slice rfl (de_var (pv 9)) (do_some (de_var (pv 15))) (do_some (de_add rfl (de_var (pv 15)) de_int)))) (de_slice rfl (de_var (pv 16)) (do_some (de_add rfl (de_var (pv 15)) de_int)) do_none)))))) dss_nil)
    (dss_one (ds_expr (de_append rfl (de_var (pv 8)) (da_cons (de_comp [("one", 18)] rfl sc__law_drawn_plan.nd (di_list rfl (de_var (pv 9))) (blkOk_by (N := n__law_drawn_plan) (sc := defScope s__law_drawn_plan) (by decide +kernel)) (fun _ _ _ _ _ => (dg_name sc__law_drawn_plan.nd rfl (by first | exact .inl rfl | exact .inr rfl))) (fun _ _ _ _ _ => dts_nil) (fun _ _ _ _ _ => (de_add rfl (de_slice rfl (de_var (pv 18)) do_none (do_some de_int)) (de_tup (da_cons (de_callTy call_list_of list_ok rfl T.z_list (by first | exact PySem.boot_list | exact PyProof.Rows.boot_list) (da_cons (de_sub' rfl (de_var (pv 18)) de_int (fun _ _ => rfl)) da_nil)) (da_cons (de_sub' rfl (de_var (pv 18)) de_int (fun _ _ => rfl)) da_nil)))))) da_nil))))))))
    (dss_one (ds_ret (de_tup (da_cons (de_slice rfl (de_var (pv 3)) do_none (do_some (de_var (pv 5)))) (da_cons (de_var (pv 8)) da_nil)))))))))))
theorem ok__law_deeds_of (T : Tx K mg) : FnOk P w K mg base (L2.CX P w) 1 T.f__law_deeds_of T.d__law_deeds_of ["plan"] (spF (gm T) 1 f__law_deeds_of) :=
  dfn T.F__law_deeds_of sc__law_deeds_of rfl fun cdv A outer s H E hr =>
    (dss_cons (ds_set (i := 1) sc__law_deeds_of.nd rfl (by first | exact .inl rfl | exact .inr rfl) (de_add rfl (de_lst (da_cons (de_tup (da_cons (de_str (by decide +kernel)) da_nil)) da_nil)) (de_comp [("title", 2)] rfl sc__law_deeds_of.nd (di_list rfl (de_sub' rfl (de_var (pv 0)) de_int (fun _ _ => rfl))) (blkOk_by (N := n__law_deeds_of) (sc := defScope s__law_deeds_of) (by decide +kernel)) (fun _ _ _ _ _ => (dg_name sc__law_deeds_of.nd rfl (by first | exact .inl rfl | exact .inr rfl))) (fun _ _ _ _ _ => dts_nil) (fun _ _ _ _ _ => (de_tup (da_cons (de_str (by decide +kernel)) (da_cons (de_var (pv 2)) da_nil)))))))
    (dss_one (ds_ret (de_add rfl (de_add rfl (de_var (pv 1)) (de_comp [("column", 3)] rfl sc__law_deeds_of.nd (di_list rfl (de_sub' rfl (de_sub' rfl (de_var (pv 0)) de_int (fun _ _ => rfl)) de_int (fun _ _ => rfl))) (blkOk_by (N := n__law_deeds_of) (sc := defScope s__law_deeds_of) (by decide +kernel)) (fun _ _ _ _ _ => (dg_name sc__law_deeds_of.nd rfl (by first | exact .inl rfl | exact .inr rfl))) (fun _ _ _ _ _ => dts_nil) (fun _ _ _ _ _ => (de_tup (da_cons (de_str (by decide +kernel)) (da_cons (de_sub' rfl (de_var (pv 3)) de_int (fun _ _ => rfl)) da_nil)))))) (de_lst (da_cons (de_tup (da_cons (de_str (by decide +kernel)) da_nil)) da_nil))))))
theorem ok__law_drawn_history (T : Tx K mg) : FnOk P w K mg base (L2.CX P w) 2 T.f__law_drawn_history T.d__law_drawn_history ["purse", "plan", "most"] (spF (gm T) 3 f__law_drawn_history) :=
  dfn T.F__law_drawn_history sc__law_drawn_history rfl fun cdv A outer s H E hr =>
    (dss_cons (ds_par3 (i := 4) (j := 5) (l := 6) rfl sc__law_drawn_history.nd rfl rfl rfl (by decide) (by decide) (by decide) rfl rfl rfl (da_cons (de_lst (da_cons (de_tup (da_cons (de_str (by decide +kernel)) da_nil)) da_nil)) (da_cons (de_call (ok__law_deeds_of T) (hr.mono (by decide)) T.m__law_deeds_of T.F__law_deeds_of.kp T.b__law_deeds_of (takes_of rfl rfl rfl rfl) (da_cons (de_var (pv 1)) da_nil) (lenA_cons lenA_nil)) (da_cons (de_sub (de_callB call_len lenR_ok rfl T.z_len (by first | exact PySem.boot_len | exact PyProof.Rows.boot_len) (da_cons (de_sub' rfl (de_var (pv 1)) de_int (fun _ _ => rfl)) da_nil)) de_int) da_nil))) rfl)
    (dss_cons (ds_for [3, 7] (passes_of rfl) rfl (di_range rfl T.z_range (da_cons (de_call (ok__law_coin T) (hr.mono (by decide)) T.m__law_coin T.F__law_coin.kp T.b__law_coin (takes_of rfl rfl rfl rfl) (da_cons (de_var (pv 0)) (da_cons (de_var (pv 2)) da_nil)) (lenA_cons (lenA_cons lenA_nil))) da_nil)) (dg_name sc__law_drawn_history.nd rfl (by first | exact .inl rfl | exact .inr rfl)) (dss_cons (ds_set (i := 7) sc__law_drawn_history.nd rfl (by first | exact .inl rfl | exact .inr rfl) (de_sub' rfl (de_var (pv 5)) (de_call (ok__law_coin T) (hr.mono (by decide)) T.m__law_coin T.F__law_coin.kp T.b__law_coin (takes_of rfl rfl rfl rfl) (da_cons (de_var (pv 0)) (da_cons (de_callB call_len lenR_ok rfl T.z_len (by first | exact PySem.boot_len | exact PyProof.Rows.boot_len) (da_cons (de_var (pv 5)) da_nil)) da_nil)) (lenA_cons (lenA_cons lenA_nil))) (fun _ _ => rfl)))
    (dss_one (ds_if (dt_w (dw_or (dt_ne rfl (hu_64 hr) (de_var (pv 7)) (de_tup (da_cons (de_str (by decide +kernel)) da_nil))) (dw_or1 (dt_gt (de_var (pv 6)) de_int)))) (dss_cons (ds_set (i := 6) sc__law_drawn_history.nd rfl (by first | exact .inl rfl | exact .inr rfl) (de_sub (de_var (pv 6)) (de_callTy call_int1 int_ok rfl T.z_int (by first | exact PySem.boot_int | exact PyProof.Rows.boot_int) (da_cons (de_eq rfl (hu_64 hr) (de_var (pv 7)) (de_tup (da_cons (de_str (by decide +kernel)) da_nil))) da_nil))))
    (dss_one (ds_expr (de_append rfl (de_var (pv 4)) (da_cons (de_var (pv 7)) da_nil))))) dss_nil))))
    (dss_one (ds_ret (de_var (pv 4))))))
theorem ok__law_odd_his (T : Tx K mg) : FnOk P w K mg base (L2.CX P w) 2 T.f__law_odd_his T.d__law_odd_his ["purse", "wording"] (spF (gm T) 2 f__law_odd_his) :=
  dfn T.F__law_odd_his sc__law_odd_his rfl fun cdv A outer s H E hr =>
    (dss_cons (ds_set (i := 2) sc__law_odd_his.nd rfl (by first | exact .inl rfl | exact .inr rfl) (de_lst (da_cons (de_str (by decide +kernel)) (da_cons (de_str (by decide +kernel)) (da_cons (de_str (by decide +kernel)) (da_cons (de_str (by decide +kernel)) (da_cons (de_str (by decide +kernel)) (da_cons (de_str (by decide +kernel)) (da_cons (de_str (by decide +kernel)) (da_cons (de_str (by decide +kernel)) (da_cons (de_str (by decide +kernel)) da_nil)))))))))))
    (dss_cons (ds_set (i := 2) sc__law_odd_his.nd rfl (by first | exact .inl rfl | exact .inr rfl) (de_add rfl (de_var (pv 2)) (de_lst (da_cons (de_str (by decide +kernel)) (da_cons (de_str (by decide +kernel)) (da_cons (de_str (by decide +kernel)) (da_cons (de_str (by decide +kernel)) (da_cons (de_str (by decide +kernel)) (da_cons (de_str (by decide +kernel)) da_nil)))))))))
    (dss_cons (ds_set (i := 2) sc__law_odd_his.nd rfl (by first | exact .inl rfl | exact .inr rfl) (de_add rfl (de_var (pv 2)) (de_lst (da_cons (de_str (by decide +kernel)) (da_cons (de_str (by decide +kernel)) (da_cons (de_str (by decide +kernel)) (da_cons (de_str (by decide +kernel)) (da_cons (de_str (by decide +kernel)) da_nil))))))))
    (dss_cons (ds_set (i := 2) sc__law_odd_his.nd rfl (by first | exact .inl rfl | exact .inr rfl) (de_add rfl (de_var (pv 2)) (de_lst (da_cons (de_str (by decide +kernel)) (da_cons (de_str (by decide +kernel)) (da_cons (de_str (by decide +kernel)) (da_cons (de_str (by decide +kernel)) da_nil)))))))
    (dss_cons (ds_set (i := 2) sc__law_odd_his.nd rfl (by first | exact .inl rfl | exact .inr rfl) (de_add rfl (de_var (pv 2)) (de_lst (da_cons (de_str (by decide +kernel)) (da_cons (de_str (by decide +kernel)) (da_cons (de_str (by decide +kernel)) (da_cons (de_str (by decide +kernel)) (da_cons (de_str (by decide +kernel)) da_nil))))))))
    (dss_cons (ds_set (i := 2) sc__law_odd_his.nd rfl (by first | exact .inl rfl | exact .inr rfl) (de_add rfl (de_var (pv 2)) (de_lst (da_cons (de_str (by decide +kernel)) (da_cons (de_str (by decide +kernel)) (da_cons (de_str (by decide +kernel)) (da_cons (de_str (by decide +kernel)) (da_cons (de_str (by decide +kernel)) da_nil))))))))
    (dss_cons (ds_set (i := 2) sc__law_odd_his.nd rfl (by first | exact .inl rfl | exact .inr rfl) (de_add rfl (de_var (pv 2)) (de_lst (da_cons (de_str (by decide +kernel)) (da_cons (de_str (by decide +kernel)) (da_cons (de_str (by decide +kernel)) da_nil))))))
    (dss_cons (ds_set (i := 3) sc__law_odd_his.nd rfl (by first | exact .inl rfl | exact .inr rfl) (de_lst (da_cons (de_str (by decide +kernel)) (da_cons (de_str (by decide +kernel)) (da_cons (de_str (by decide +kernel)) (da_cons (de_str (by decide +kernel)) (da_cons (de_str (by decide +kernel)) da_nil)))))))
    (dss_cons (ds_expr (de_append rfl (de_var (pv 2)) (da_cons (de_meth rfl PySem.F.plainAttrs_str PySem.F.slot_str_join PySem.F.type_str_join mt_join join_ok (de_str (by decide +kernel)) (da_cons (de_comp [("turn", 5)] rfl sc__law_odd_his.nd (di_range rfl T.z_range (da_cons (de_add rfl de_int (de_call (ok__law_coin T) (hr.mono (by decide)) T.m__law_coin T.F__law_coin.kp T.b__law_coin (takes_of rfl rfl rfl rfl) (da_cons (de_var (pv 0)) (da_cons de_int da_nil)) (lenA_cons (lenA_cons lenA_nil)))) da_nil)) (blkOk_by (N := n__law_odd_his) (sc := defScope s__law_odd_his) (by decide +kernel)) (fun _ _ _ _ _ => (dg_name sc__law_odd_his.nd rfl (by first | exact .inl rfl | exact .inr rfl))) (fun _ _ _ _ _ => dts_nil) (fun _ _ _ _ _ => (de_sub' rfl (de_var (pv 3)) (de_call (ok__law_coin T) (hr.mono (by decide)) T.m__law_coin T.F__law_coin.kp T.b__law_coin takes0 (da_cons (de_var (pv 0)) (da_cons de_int da_nil)) (lenA_cons (lenA_cons lenA_nil))) (fun _ _ => rfl)))) da_nil)) da_nil)))
    (dss_cons (ds_set (i := 4) sc__law_odd_his.nd rfl (by first | exact .inl rfl | exact .inr rfl) (de_add rfl de_int (de_call (ok__law_coin T) (hr.mono (by decide)) T.m__law_coin T.F__law_coin.kp T.b__law_coin (takes_of rfl rfl rfl rfl) (da_cons (de_var (pv 0)) (da_cons de_int da_nil)) (lenA_cons (lenA_cons lenA_nil)))))
    (dss_cons (ds_set (i := 2) sc__law_odd_his.nd rfl (by first | exact .inl rfl | exact .inr rfl) (de_add rfl (de_var (pv 2)) (de_lst (da_cons (de_meth rfl PySem.F.plainAttrs_str PySem.F.slot_str_join PySem.F.type_str_join mt_join join_ok (de_str (by decide +kernel)) (da_cons (de_mul (de_lst (da_cons (de_str (by decide +kernel)) da_nil)) (de_var (pv 4))) da_nil)) (da_cons (de_meth rfl PySem.F.plainAttrs_str PySem.F.slot_str_join PySem.F.type_str_join mt_join join_ok (de_str (by decide +kernel)) (da_cons (de_mul (de_lst (da_cons (de_str (by decide +kernel)) da_nil)) (de_var (pv 4))) da_nil)) da_nil)))))
    (dss_cons (ds_set (i := 2) sc__law_odd_his.nd rfl (by first | exact .inl rfl | exact .inr rfl) (de_add rfl (de_var (pv 2)) (de_lst (da_cons (de_meth rfl PySem.F.plainAttrs_str PySem.F.slot_str_join PySem.F.type_str_join mt_join join_ok (de_str (by decide +kernel)) (da_cons (de_add rfl (de_mul (de_lst (da_cons (de_str (by decide +kernel)) da_nil)) (de_var (pv 4))) (de_lst (da_cons (de_str (by decide +kernel)) da_nil))) da_nil)) (da_cons (de_meth rfl PySem.F.plainAttrs_str PySem.F.slot_str_join PySem.F.type_str_join mt_join join_ok (de_str (by decide +kernel)) (da_cons (de_mul (de_lst (da_cons (de_str (by decide +kernel)) da_nil)) (de_var (pv 4))) da_nil)) da_nil)))))
    (dss_cons (ds_set (i := 2) sc__law_odd_his.nd rfl (by first | exact .inl rfl | exact .inr rfl) (de_add rfl (de_var (pv 2)) (de_lst (da_cons1 (de1_addR rfl (de_var (pv 1)) (de1_str (by decide +kernel))) (dat_cons (det_of (de_add rfl (de_var (pv 1)) (de_str (by decide +kernel)))) (dat_cons (det_repl (de_var (pv 1))) (dat_cons (det_of (de_add rfl (de_var (pv 1)) (de_str (by decide +kernel)))) dat_nil)))))))
    (dss_cons (ds_set (i := 2) sc__law_odd_his.nd rfl (by first | exact .inl rfl | exact .inr rfl) (de_add rfl (de_var (pv 2)) (de_lst (da_cons1 (de1_addL rfl (de1_str (by decide +kernel)) (de_var (pv 1))) (dat_cons (det_repl (de_var (pv 1))) dat_nil)))))
    (dss_one (ds_ret (de_sub' rfl (de_var (pv 2)) (de_call (ok__law_coin T) (hr.mono (by decide)) T.m__law_coin T.F__law_coin.kp T.b__law_coin (takes_of rfl rfl rfl rfl) (da_cons (de_var (pv 0)) (da_cons (de_callB call_len lenR_ok rfl T.z_len (by first | exact PySem.boot_len | exact PyProof.Rows.boot_len) (da_cons (de_var (pv 2)) da_nil)) da_nil)) (lenA_cons (lenA_cons lenA_nil))) (fun _ _ => rfl))))))))))))))))))
theorem ok__law_marred_his (T : Tx K mg) : FnOk P w K mg base (L2.CX P w) 3 T.f__law_marred_his T.d__law_marred_his ["purse", "wording"] (spF (gm T) 2 f__law_marred_his) :=
  dfn T.F__law_marred_his sc__law_marred_his rfl fun cdv A outer s H E hr =>
    (dss_cons (ds_par (i := 5) (j := 6) rfl sc__law_marred_his.nd rfl rfl (by decide) rfl rfl (da_cons (de_call (ok__law_coin T) (hr.mono (by decide)) T.m__law_coin T.F__law_coin.kp T.b__law_coin (takes_of rfl rfl rfl rfl) (da_cons (de_var (pv 0)) (da_cons (de_add rfl (de_callB call_len lenR_ok rfl T.z_len (by first | exact PySem.boot_len | exact PyProof.Rows.boot_len) (da_cons (de_var (pv 1)) da_nil)) de_int) da_nil)) (lenA_cons (lenA_cons lenA_nil))) (da_cons (de_call (ok__law_coin T) (hr.mono (by decide)) T.m__law_coin T.F__law_coin.kp T.b__law_coin (takes_of rfl rfl rfl rfl) (da_cons (de_var (pv 0)) (da_cons de_int da_nil)) (lenA_cons (lenA_cons lenA_nil))) da_nil)) rfl)
    (dss_cons (ds_set (i := 2) sc__law_marred_his.nd rfl (by first | exact .inl rfl | exact .inr rfl) (de_str (by decide +kernel)))
    (dss_cons (ds_set (i := 3) sc__law_marred_his.nd rfl (by first | exact .inl rfl | exact .inr rfl) (de_sub' rfl (de_lst (da_cons (de_str (by decide +kernel)) (da_cons (de_var (pv 2)) da_nil))) (de_call (ok__law_coin T) (hr.mono (by decide)) T.m__law_coin T.F__law_coin.kp T.b__law_coin (takes_of rfl rfl rfl rfl) (da_cons (de_var (pv 0)) (da_cons de_int da_nil)) (lenA_cons (lenA_cons lenA_nil))) (fun _ _ => rfl)))
    (dss_cons (ds_set (i := 4) sc__law_marred_his.nd rfl (by first | exact .inl rfl | exact .inr rfl) (de_sub' rfl (de_var (pv 3)) (de_call (ok__law_coin T) (hr.mono (by decide)) T.m__law_coin T.F__law_coin.kp T.b__law_coin (takes_of rfl rfl rfl rfl) (da_cons (de_var (pv 0)) (da_cons (de_callB call_len lenR_ok rfl T.z_len (by first | exact PySem.boot_len | exact PyProof.Rows.boot_len) (da_cons (de_var (pv 3)) da_nil)) da_nil)) (lenA_cons (lenA_cons lenA_nil))) (fun _ _ => rfl)))
    (dss_cons (ds_if (dt_eq rfl (hu_64 hr) (de_var (pv 6)) de_int) (dss_one (ds_ret (de_add rfl (de_add rfl (de_slice rfl (de_var (pv 1)) do_none (do_some (de_var (pv 5)))) (de_var (pv 4))) (de_slice rfl (de_var (pv 1)) (do_some (de_var (pv 5))) do_none)))) dss_nil)
    (dss_cons (ds_if (dt_eq rfl (hu_64 hr) (de_var (pv 6)) de_int) (dss_one (ds_ret (de_add rfl (de_slice rfl (de_var (pv 1)) do_none (do_some (de_var (pv 5)))) (de_slice rfl (de_var (pv 1)) (do_some (de_add rfl (de_var (pv 5)) de_int)) do_none)))) dss_nil)
    (dss_cons (ds_if (dt_eq rfl (hu_64 hr) (de_var (pv 6)) de_int) (dss_one (ds_ret (de_add rfl (de_add rfl (de_slice rfl (de_var (pv 1)) do_none (do_some (de_var (pv 5)))) (de_var (pv 4))) (de_slice rfl (de_var (pv 1)) (do_some (de_add rfl (de_var (pv 5)) de_int)) do_none)))) dss_nil)
    (dss_cons (ds_if (dt_eq rfl (hu_64 hr) (de_var (pv 6)) de_int) (dss_one (ds_ret (de_call (ok__law_odd_his T) (hr.mono (by decide)) T.m__law_odd_his T.F__law_odd_his.kp T.b__law_odd_his (takes_of rfl rfl rfl rfl) (da_cons (de_var (pv 0)) (da_cons (de_var (pv 1)) da_nil)) (lenA_cons (lenA_cons lenA_nil))))) dss_nil)
    (dss_cons (ds_if (dt_in rfl (hu_65 hr) (de_var (pv 6)) (de_tup (da_cons de_int (da_cons de_int da_nil)))) (dss_cons (ds_set (i := 7) sc__law_marred_his.nd rfl (by first | exact .inl rfl | exact .inr rfl) (de_sub' rfl (de_lst (da_cons (de_str (by decide +kernel)) (da_cons (de_str (by decide +kernel)) da_nil))) (de_sub (de_var (pv 6)) de_int) (fun _ _ => rfl)))
    (dss_cons (ds_set (i := 8) sc__law_marred_his.nd rfl (by first | exact .inl rfl | exact .inr rfl) (de_meth rfl PySem.F.plainAttrs_str PySem.F.slot_str_split PySem.F.type_str_split mt_split split_ok (de_var (pv 1)) (da_cons (de_var (pv 7)) da_nil)))
    (dss_cons (ds_par (i := 10) (j := 11) rfl sc__law_marred_his.nd rfl rfl (by decide) rfl rfl (da_cons (de_call (ok__law_coin T) (hr.mono (by decide)) T.m__law_coin T.F__law_coin.kp T.b__law_coin (takes_of rfl rfl rfl rfl) (da_cons (de_var (pv 0)) (da_cons (de_callB call_len lenR_ok rfl T.z_len (by first | exact PySem.boot_len | exact PyProof.Rows.boot_len) (da_cons (de_var (pv 8)) da_nil)) da_nil)) (lenA_cons (lenA_cons lenA_nil))) (da_cons (de_call (ok__law_coin T) (hr.mono (by decide)) T.m__law_coin T.F__law_coin.kp T.b__law_coin (takes_of rfl rfl rfl rfl) (da_cons (de_var (pv 0)) (da_cons (de_callB call_len lenR_ok rfl T.z_len (by first | exact PySem.boot_len | exact PyProof.Rows.boot_len) (da_cons (de_var (pv 8)) da_nil)) da_nil)) (lenA_cons (lenA_cons lenA_nil))) da_nil)) rfl)
    (dss_cons (ds_set (i := 9) sc__law_marred_his.nd rfl (by first | exact .inl rfl | exact .inr rfl) (de_sub' rfl (de_var (pv 8)) (de_var (pv 10)) (fun _ _ => rfl)))
    (dss_cons (ds_sub (de_sub' rfl (de_var (pv 8)) (de_var (pv 11)) (fun _ _ => rfl)) (de_var (pv 8)) (de_var (pv 10)))
    (dss_cons (ds_sub (de_var (pv 9)) (de_var (pv 8)) (de_var (pv 11)))
    (dss_one (ds_ret (de_meth rfl PySem.F.plainAttrs_str PySem.F.slot_str_join PySem.F.type_str_join mt_join join_ok (de_var (pv 7)) (da_cons (de_var (pv 8)) da_nil)))))))))) dss_nil)
    (dss_one (ds_ret (de_var (pv 1)))))))))))))
theorem ok__law_is_title (T : Tx K mg) : FnOk P w K mg base (L2.CX P w) 1 T.f__law_is_title T.d__law_is_title ["wording"] (spF (gm T) 1 f__law_is_title) :=
  dfn T.F__law_is_title sc__law_is_title rfl fun cdv A outer s H E hr =>
    (dss_cons (ds_set (i := 1) sc__law_is_title.nd rfl (by first | exact .inl rfl | exact .inr rfl) (de_str (by decide +kernel)))
    (dss_one (ds_ret (de_and (de_chain op_lt op_lt lt_ok lt_ok de_int (de_callB call_len lenR_ok rfl T.z_len (by first | exact PySem.boot_len | exact PyProof.Rows.boot_len) (da_cons (de_var (pv 0)) da_nil)) de_int) (de_one (de_eq rfl (hu_64 hr) (de_comp [("sign", 2)] rfl sc__law_is_title.nd (di_str (de_var (pv 0))) (blkOk_by (N := n__law_is_title) (sc := defScope s__law_is_title) (by decide +kernel)) (fun _ _ _ _ _ => (dg_name sc__law_is_title.nd rfl (by first | exact .inl rfl | exact .inr rfl))) (fun _ _ _ _ _ => (dts_one (dt_notIn rfl (hu_65 hr) (de_var (pv 2)) (de_var (pv 1))))) (fun _ _ _ _ _ => (de_var (pv 2)))) (de_lst da_nil)))))))
theorem ok__law_deeds_in (T : Tx K mg) : FnOk P w K mg base (L2.CX P w) 2 T.f__law_deeds_in T.d__law_deeds_in ["wording"] (spF (gm T) 1 f__law_deeds_in) :=
  dfn T.F__law_deeds_in sc__law_deeds_in rfl fun cdv A outer s H E hr =>
    (dss_cons (ds_set (i := 1) sc__law_deeds_in.nd rfl (by first | exact .inl rfl | exact .inr rfl) (de_lst da_nil))
    (dss_cons (ds_for [2, 3, 4] (passes_of rfl) rfl (di_list rfl (de_if (dt_ne rfl (hu_64 hr) (de_var (pv 0)) (de_str (by decide +kernel))) (de_meth rfl PySem.F.plainAttrs_str PySem.F.slot_str_split PySem.F.type_str_split mt_split split_ok (de_var (pv 0)) (da_cons (de_str (by decide +kernel)) da_nil)) (de_lst da_nil))) (dg_name sc__law_deeds_in.nd rfl (by first | exact .inl rfl | exact .inr rfl)) (dss_cons (ds_set (i := 3) sc__law_deeds_in.nd rfl (by first | exact .inl rfl | exact .inr rfl) (de_meth rfl PySem.F.plainAttrs_str PySem.F.slot_str_split PySem.F.type_str_split mt_split split_ok (de_var (pv 2)) (da_cons (de_str (by decide +kernel)) da_nil)))
    (dss_cons (ds_set (i := 4) sc__law_deeds_in.nd rfl (by first | exact .inl rfl | exact .inr rfl) (de_in rfl (hu_65 hr) (de_var (pv 3)) (de_tup (da_cons (de_lst (da_cons (de_str (by decide +kernel)) da_nil)) (da_cons (de_lst (da_cons (de_str (by decide +kernel)) da_nil)) da_nil)))))
    (dss_cons (ds_if (dt_w (dw_and (dt_eq rfl (hu_64 hr) (de_callB call_len lenR_ok rfl T.z_len (by first | exact PySem.boot_len | exact PyProof.Rows.boot_len) (da_cons (de_var (pv 3)) da_nil)) de_int) (dw_and (dt_in rfl (hu_65 hr) (de_sub' rfl (de_var (pv 3)) de_int (fun _ _ => rfl)) (de_tup (da_cons (de_str (by decide +kernel)) (da_cons (de_str (by decide +kernel)) da_nil)))) (dw_and1 (dt_tru rfl (de_call (ok__law_is_title T) (hr.mono (by decide)) T.m__law_is_title T.F__law_is_title.kp T.b__law_is_title (takes_of rfl rfl rfl rfl) (da_cons (de_sub' rfl (de_var (pv 3)) de_int (fun _ _ => rfl)) da_nil) (lenA_cons lenA_nil))))))) (dss_one (ds_set (i := 4) sc__law_deeds_in.nd rfl (by first | exact .inl rfl | exact .inr rfl) de_bl)) dss_nil)
    (dss_cons (ds_if (dt_not (dt_tru rfl (de_var (pv 4)))) (dss_one (ds_ret de_non)) dss_nil)
    (dss_one (ds_expr (de_append rfl (de_var (pv 1)) (da_cons (de_callTy call_tuple_of tuple_ok rfl T.z_tuple (by first | exact PySem.boot_tuple | exact PyProof.Rows.boot_tuple) (da_cons (de_var (pv 3)) da_nil)) da_nil)))))))))
    (dss_one (ds_ret (de_var (pv 1))))))
theorem ok_show_history (T : Tx K mg) : FnOk P w K mg base (L2.CX P w) 1 T.f_show_history T.d_show_history ["deeds"] (spF (gm T) 1 f_show_history) :=
  dfn T.F_show_history sc_show_history rfl fun cdv A outer s H E hr =>
    (dss_one (ds_ret (de_meth rfl PySem.F.plainAttrs_str PySem.F.slot_str_join PySem.F.type_str_join mt_join join_ok (de_str (by decide +kernel)) (da_cons (de_comp [("deed", 1)] rfl sc_show_history.nd (di_list rfl (de_var (pv 0))) (blkOk_by (N := n_show_history) (sc := defScope s_show_history) (by decide +kernel)) (fun _ _ _ _ _ => (dg_name sc_show_history.nd rfl (by first | exact .inl rfl | exact .inr rfl))) (fun _ _ _ _ _ => dts_nil) (fun _ _ _ _ _ => (de_meth rfl PySem.F.plainAttrs_str PySem.F.slot_str_join PySem.F.type_str_join mt_join join_ok (de_str (by decide +kernel)) (da_cons (de_var (pv 1)) da_nil)))) da_nil))))
theorem ok_is_name (T : Tx K mg) : FnOk P w K mg base (L2.CX P w) 1 T.f_is_name T.d_is_name ["text"] (spF (gm T) 1 f_is_name) :=
  dfn T.F_is_name sc_is_name rfl fun cdv A outer s H E hr =>
    (dss_one (ds_ret (de_and (de_chain op_le op_le le_ok le_ok de_int (de_callB call_len lenR_ok rfl T.z_len (by first | exact PySem.boot_len | exact PyProof.Rows.boot_len) (da_cons (de_var (pv 0)) da_nil)) de_int) (de_one (de_callB (cr_all rfl) all_ok rfl T.z_all (by first | exact PySem.boot_all | exact PyProof.Rows.boot_all) (da_cons (de_comp [("letter", 1)] rfl sc_is_name.nd (di_str (de_var (pv 0))) (blkOk_by (N := n_is_name) (sc := defScope s_is_name) (by decide +kernel)) (fun _ _ _ _ _ => (dg_name sc_is_name.nd rfl (by first | exact .inl rfl | exact .inr rfl))) (fun _ _ _ _ _ => dts_nil) (fun _ _ _ _ _ => (de_in rfl (hu_65 hr) (de_var (pv 1)) (de_glob_LETTERS T)))) da_nil))))))
theorem ok_is_deed (T : Tx K mg) : FnOk P w K mg base (L2.CX P w) 2 T.f_is_deed T.d_is_deed ["pieces"] (spF (gm T) 1 f_is_deed) :=
  dfn T.F_is_deed sc_is_deed rfl fun cdv A outer s H E hr =>
    (dss_cons (ds_if (dt_in rfl (hu_65 hr) (de_var (pv 0)) (de_tup (da_cons (de_lst (da_cons (de_str (by decide +kernel)) da_nil)) (da_cons (de_lst (da_cons (de_str (by decide +kernel)) da_nil)) da_nil)))) (dss_one (ds_ret de_bl)) dss_nil)
    (dss_one (ds_ret (de_and (de_eq rfl (hu_64 hr) (de_callB call_len lenR_ok rfl T.z_len (by first | exact PySem.boot_len | exact PyProof.Rows.boot_len) (da_cons (de_var (pv 0)) da_nil)) de_int) (de_and (de_in rfl (hu_65 hr) (de_sub' rfl (de_var (pv 0)) de_int (fun _ _ => rfl)) (de_tup (da_cons (de_str (by decide +kernel)) (da_cons (de_str (by decide +kernel)) da_nil)))) (de_one (de_call (ok_is_name T) (hr.mono (by decide)) T.m_is_name T.F_is_name.kp T.b_is_name (takes_of rfl rfl rfl rfl) (da_cons (de_sub' rfl (de_var (pv 0)) de_int (fun _ _ => rfl)) da_nil) (lenA_cons lenA_nil))))))))
theorem ok_read_history (T : Tx K mg) : FnOk P w K mg base (L2.CX P w) 3 T.f_read_history T.d_read_history ["text"] (spF (gm T) 1 f_read_history) :=
  dfn T.F_read_history sc_read_history rfl fun cdv A outer s H E hr =>
    (dss_cons (ds_set (i := 1) sc_read_history.nd rfl (by first | exact .inl rfl | exact .inr rfl) (de_if (dt_ne rfl (hu_64 hr) (de_var (pv 0)) (de_str (by decide +kernel))) (de_comp [("part", 4)] rfl sc_read_history.nd (di_list rfl (de_meth rfl PySem.F.plainAttrs_str PySem.F.slot_str_split PySem.F.type_str_split mt_split split_ok (de_var (pv 0)) (da_cons (de_str (by decide +kernel)) da_nil))) (blkOk_by (N := n_read_history) (sc := defScope s_read_history) (by decide +kernel)) (fun _ _ _ _ _ => (dg_name sc_read_history.nd rfl (by first | exact .inl rfl | exact .inr rfl))) (fun _ _ _ _ _ => dts_nil) (fun _ _ _ _ _ => (de_meth rfl PySem.F.plainAttrs_str PySem.F.slot_str_split PySem.F.type_str_split mt_split split_ok (de_var (pv 4)) (da_cons (de_str (by decide +kernel)) da_nil)))) (de_lst da_nil)))
    (dss_cons (ds_if (dt_not (dt_tru rfl (de_callB (cr_all rfl) all_ok rfl T.z_all (by first | exact PySem.boot_all | exact PyProof.Rows.boot_all) (da_cons (de_comp [("pieces", 3)] rfl sc_read_history.nd (di_list rfl (de_var (pv 1))) (blkOk_by (N := n_read_history) (sc := defScope s_read_history) (by decide +kernel)) (fun _ _ _ _ _ => (dg_name sc_read_history.nd rfl (by first | exact .inl rfl | exact .inr rfl))) (fun _ _ _ _ _ => dts_nil) (fun _ _ _ _ _ => (de_call (ok_is_deed T) (hr.mono (by decide)) T.m_is_deed T.F_is_deed.kp T.b_is_deed takes0 (da_cons (de_var (pv 3)) da_nil) (lenA_cons lenA_nil)))) da_nil)))) (dss_one (ds_raise rfl T.t_Unreadable hr (takes_of rfl rfl rfl rfl) (da_cons (de_var (pv 0)) da_nil))) dss_nil)
    (dss_cons (ds_setLc (i := 2) [("pieces", 3)] rfl sc_read_history.nd rfl rfl (sw_true rfl rfl rfl (by decide +kernel)) (di_list rfl (de_var (pv 1))) (blkOk_by (N := n_read_history) (sc := defScope s_read_history) (by decide +kernel)) (fun _ _ _ _ _ => (dg_name sc_read_history.nd rfl (by first | exact .inl rfl | exact .inr rfl))) (fun _ _ _ _ _ => dts_nil) (fun _ _ _ _ _ => (de_callTy call_tuple_of tuple_ok rfl T.z_tuple (by first | exact PySem.boot_tuple | exact PyProof.Rows.boot_tuple) (da_cons (de_var (pv 3)) da_nil))))
    (dss_cons (ds_if (dt_ne rfl (hu_64 hr) (de_call (ok_show_history T) (hr.mono (by decide)) T.m_show_history T.F_show_history.kp T.b_show_history (takes_of rfl rfl rfl rfl) (da_cons (de_var (pv 2)) da_nil) (lenA_cons lenA_nil)) (de_var (pv 0))) (dss_one (ds_raise rfl T.t_Unreadable hr (takes_of rfl rfl rfl rfl) (da_cons (de_var (pv 0)) da_nil))) dss_nil)
    (dss_one (ds_ret (de_var (pv 2))))))))
theorem ok__law_caught_his (T : Tx K mg) : FnOk P w K mg base (L2.CX P w) 4 T.f__law_caught_his T.d__law_caught_his ["wording", "way"] (spF (gm T) 2 f__law_caught_his) :=
  dfn T.F__law_caught_his sc__law_caught_his rfl fun cdv A outer s H E hr =>
    (dss_cons (ds_set (i := 2) sc__law_caught_his.nd rfl (by first | exact .inl rfl | exact .inr rfl) (de_lst da_nil))
    (dss_cons (ds_try (i := 3) (hm := hm_WorthError) rfl rfl sc__law_caught_his.nd rfl rfl ⟨rfl, by decide, .inl T.m_WorthError⟩ (takes_of rfl rfl rfl rfl) rfl (fun c b q => T.hm_WorthError q) (fun W pn xe tk po => (dss_cons (ds_set (i := 4) sc__law_caught_his.nd rfl (by first | exact .inl rfl | exact .inr rfl) (de_if (dt_eq rfl (hu_64 hr) (de_var (pv 1)) de_int) (de_call (ok_read_history T) (hr.mono (by decide)) T.m_read_history T.F_read_history.kp T.b_read_history tk (da_cons (de_var (pv 0)) da_nil) (lenA_cons lenA_nil)) (de_callK0 (ok_read_history T) (hr.mono (by decide)) T.m_read_history T.F_read_history.kp T.kb_read_history_0 tk (dk_cons (de_var (pv 0)) dk_nil) (lenA_cons lenA_nil) rfl)))
    (dss_one (ds_set (i := 2) sc__law_caught_his.nd rfl (by first | exact .inl rfl | exact .inr rfl) (de_if (dt_eq rfl (hu_64 hr) (de_call (ok_show_history T) (hr.mono (by decide)) T.m_show_history T.F_show_history.kp T.b_show_history tk (da_cons (de_var (pv 4)) da_nil) (lenA_cons lenA_nil)) (de_var (pv 0))) (de_lst (da_cons (de_var (pv 4)) da_nil)) (de_lst (da_cons (de_str (by decide +kernel)) da_nil))))))) (fun a oe cls d pn hz hf => (dss_cons (ds_set (i := 5) sc__law_caught_his.nd rfl (by first | exact .inl rfl | exact .inr rfl) (de_or (de_isErrT (cs := [T.c_InvalidDeed, T.c_InvalidName]) rfl T.z_isinstance (pv 3) (pe_tup (pa_cons (pe_glob (v := .ref T.c_InvalidDeed) rfl T.m_InvalidDeed rfl) (pa_cons (pe_glob (v := .ref T.c_InvalidName) rfl T.m_InvalidName rfl) pa_nil))) (fun σ H Q q => ⟨by show 2 ≤ sizeLine; rw [sizeLine_eq]; decide, q⟩) hz hf (fun _ _ _ q => q) (fun c b q => T.tx_is_InvalidDeed_InvalidName q)) (de_one (de_not (de_isErr1 rfl T.z_isinstance (pv 3) (pe_glob (v := .ref T.c_Unreadable) rfl T.m_Unreadable rfl) hz hf (fun _ _ _ q => q) (fun c b q => T.tx_is_Unreadable q))))))
    (dss_one (ds_set (i := 2) sc__law_caught_his.nd rfl (by first | exact .inl rfl | exact .inr rfl) (de_if (dt_w (dw_or (dt_tru rfl (de_var (pv 5))) (dw_or1 (dt_ne rfl (by have h := hu_64 hr; exact h) (de_errVal rfl (pv 3) hz hf (fun _ _ _ q => q) (fun c q => T.tx_val (c := c) q)) (de_var (pv 0)))))) (de_lst (da_cons (de_str (by decide +kernel)) da_nil)) (de_lst da_nil)))))))
    (dss_one (ds_ret (de_var (pv 2))))))
theorem ok__law_right (T : Tx K mg) : FnOk P w K mg base (L2.CX P w) 5 T.f__law_right T.d__law_right ["purse"] (spF (gm T) 1 f__law_right) :=
  dfn T.F__law_right sc__law_right rfl fun cdv A outer s H E hr =>
    (dss_cons (ds_set (i := 1) sc__law_right.nd rfl (by first | exact .inl rfl | exact .inr rfl) (de_call (ok__law_drawn_plan T) (hr.mono (by decide)) T.m__law_drawn_plan T.F__law_drawn_plan.kp T.b__law_drawn_plan (takes_of rfl rfl rfl rfl) (da_cons (de_var (pv 0)) (da_cons (de_tup (da_cons de_int (da_cons de_int (da_cons de_int (da_cons de_int da_nil))))) da_nil)) (lenA_cons (lenA_cons lenA_nil))))
    (dss_cons (ds_set (i := 2) sc__law_right.nd rfl (by first | exact .inl rfl | exact .inr rfl) (de_call (ok__law_drawn_history T) (hr.mono (by decide)) T.m__law_drawn_history T.F__law_drawn_history.kp T.b__law_drawn_history (takes_of rfl rfl rfl rfl) (da_cons (de_var (pv 0)) (da_cons (de_var (pv 1)) (da_cons de_int da_nil))) (lenA_cons (lenA_cons (lenA_cons lenA_nil)))))
    (dss_cons (ds_set (i := 3) sc__law_right.nd rfl (by first | exact .inl rfl | exact .inr rfl) (de_meth rfl PySem.F.plainAttrs_str PySem.F.slot_str_join PySem.F.type_str_join mt_join join_ok (de_str (by decide +kernel)) (da_cons (de_comp [("deed", 8)] rfl sc__law_right.nd (di_list rfl (de_var (pv 2))) (blkOk_by (N := n__law_right) (sc := defScope s__law_right) (by decide +kernel)) (fun _ _ _ _ _ => (dg_name sc__law_right.nd rfl (by first | exact .inl rfl | exact .inr rfl))) (fun _ _ _ _ _ => dts_nil) (fun _ _ _ _ _ => (de_meth rfl PySem.F.plainAttrs_str PySem.F.slot_str_join PySem.F.type_str_join mt_join join_ok (de_str (by decide +kernel)) (da_cons (de_var (pv 8)) da_nil)))) da_nil)))
    (dss_cons (ds_for [4, 5, 6, 7] (passes_of rfl) rfl (di_range rfl T.z_range (da_cons de_int da_nil)) (dg_name sc__law_right.nd rfl (by first | exact .inl rfl | exact .inr rfl)) (dss_cons (ds_set (i := 5) sc__law_right.nd rfl (by first | exact .inl rfl | exact .inr rfl) (de_call (ok__law_marred_his T) (hr.mono (by decide)) T.m__law_marred_his T.F__law_marred_his.kp T.b__law_marred_his (takes_of rfl rfl rfl rfl) (da_cons (de_var (pv 0)) (da_cons (de_var (pv 3)) da_nil)) (lenA_cons (lenA_cons lenA_nil))))
    (dss_cons (ds_set (i := 6) sc__law_right.nd rfl (by first | exact .inl rfl | exact .inr rfl) (de_call (ok__law_deeds_in T) (hr.mono (by decide)) T.m__law_deeds_in T.F__law_deeds_in.kp T.b__law_deeds_in (takes_of rfl rfl rfl rfl) (da_cons (de_var (pv 5)) da_nil) (lenA_cons lenA_nil)))
    (dss_cons (ds_set (i := 7) sc__law_right.nd rfl (by first | exact .inl rfl | exact .inr rfl) (de_if (dt_isNot (de_var (pv 6)) de_non) (de_lst (da_cons (de_var (pv 6)) da_nil)) (de_lst da_nil)))
    (dss_one (ds_if (dt_w (dw_and (dt_le (de_callB call_len lenR_ok rfl T.z_len (by first | exact PySem.boot_len | exact PyProof.Rows.boot_len) (da_cons (de_var (pv 5)) da_nil)) de_int) (dw_and1 (dt_ne rfl (hu_64 hr) (de_call (ok__law_caught_his T) (hr.mono (by decide)) T.m__law_caught_his T.F__law_caught_his.kp T.b__law_caught_his (takes_of rfl rfl rfl rfl) (da_cons (de_var (pv 5)) (da_cons (de_call (ok__law_coin T) (hr.mono (by decide)) T.m__law_coin T.F__law_coin.kp T.b__law_coin (takes_of rfl rfl rfl rfl) (da_cons (de_var (pv 0)) (da_cons de_int da_nil)) (lenA_cons (lenA_cons lenA_nil))) da_nil)) (lenA_cons (lenA_cons lenA_nil))) (de_var (pv 7)))))) (dss_one (ds_ret de_bl)) dss_nil))))))
    (dss_one (ds_ret de_bl))))))
theorem ok_law (T : Tx K mg) : FnOk P w K mg base (L2.CX P w) 6 T.f_law T.d_law ["script"] (spF (gm T) 1 f_law) :=
  dfn T.F_law sc_law rfl fun cdv A outer s H E hr =>
    (dss_cons (ds_for [1, 2, 3] (passes_of rfl) rfl (di_range rfl T.z_range (da_cons (de_callB (call_max2 rfl) max_ok rfl T.z_max (by first | exact PySem.boot_max | exact PyProof.Rows.boot_max) (da_cons de_int (da_cons (de_callB (call_min2 rfl) min_ok rfl T.z_min (by first | exact PySem.boot_min | exact PyProof.Rows.boot_min) (da_cons de_int (da_cons (de_callB call_len lenR_ok rfl T.z_len (by first | exact PySem.boot_len | exact PyProof.Rows.boot_len) (da_cons (de_var (pv 0)) da_nil)) da_nil))) da_nil))) da_nil)) (dg_name sc_law.nd rfl (by first | exact .inl rfl | exact .inr rfl)) (dss_cons (ds_set (i := 2) sc_law.nd rfl (by first | exact .inl rfl | exact .inr rfl) (de_call (ok__law_purse T) (hr.mono (by decide)) T.m__law_purse T.F__law_purse.kp T.b__law_purse (takes_of rfl rfl rfl rfl) (da_cons (de_var (pv 0)) (da_cons (de_var (pv 1)) da_nil)) (lenA_cons (lenA_cons lenA_nil))))
    (dss_one (ds_for [3] (passes_of rfl) rfl (di_range rfl T.z_range (da_cons de_int da_nil)) (dg_name sc_law.nd rfl (by first | exact .inl rfl | exact .inr rfl)) (dss_one (ds_if (dt_not (dt_tru rfl (de_call (ok__law_right T) (hr.mono (by decide)) T.m__law_right T.F__law_right.kp T.b__law_right (takes_of rfl rfl rfl rfl) (da_cons (de_var (pv 2)) da_nil) (lenA_cons lenA_nil)))) (dss_one (ds_ret de_bl)) dss_nil))))))
    (dss_one (ds_ret de_bl)))
end
def tx_mk {K : PySem.W.Frag} {h : Heap} {mg : Str → Option Value} (X : K.In h) (G : h.Ns mainGlobals mg)
    {f0 : Addr} {od0 an0 : Option Addr} {sl0 : Array (Option Value)} {oc0 kV0 dc0 pm0 cd0 ct0 : Value}
    {f1 : Addr} {od1 an1 : Option Addr} {sl1 : Array (Option Value)} {oc1 kV1 dc1 pm1 cd1 ct1 : Value}
    {f2 : Addr} {od2 an2 : Option Addr} {sl2 : Array (Option Value)} {oc2 kV2 dc2 pm2 cd2 ct2 : Value}
    {f3 : Addr} {od3 an3 : Option Addr} {sl3 : Array (Option Value)} {oc3 kV3 dc3 pm3 cd3 ct3 : Value}
    {f4 : Addr} {od4 an4 : Option Addr} {sl4 : Array (Option Value)} {oc4 kV4 dc4 pm4 cd4 ct4 : Value}
    {f5 : Addr} {od5 an5 : Option Addr} {sl5 : Array (Option Value)} {oc5 kV5 dc5 pm5 cd5 ct5 : Value}
    {f6 : Addr} {od6 an6 : Option Addr} {sl6 : Array (Option Value)} {oc6 kV6 dc6 pm6 cd6 ct6 : Value}
    {f7 : Addr} {od7 an7 : Option Addr} {sl7 : Array (Option Value)} {oc7 kV7 dc7 pm7 cd7 ct7 : Value}
    {f8 : Addr} {od8 an8 : Option Addr} {sl8 : Array (Option Value)} {oc8 kV8 dc8 pm8 cd8 ct8 : Value}
    {f9 : Addr} {od9 an9 : Option Addr} {sl9 : Array (Option Value)} {oc9 kV9 dc9 pm9 cd9 ct9 : Value}
    {f10 : Addr} {od10 an10 : Option Addr} {sl10 : Array (Option Value)} {oc10 kV10 dc10 pm10 cd10 ct10 : Value}
    {f11 : Addr} {od11 an11 : Option Addr} {sl11 : Array (Option Value)} {oc11 kV11 dc11 pm11 cd11 ct11 : Value}
    {f12 : Addr} {od12 an12 : Option Addr} {sl12 : Array (Option Value)} {oc12 kV12 dc12 pm12 cd12 ct12 : Value}
    {f13 : Addr} {od13 an13 : Option Addr} {sl13 : Array (Option Value)} {oc13 kV13 dc13 pm13 cd13 ct13 : Value}
    {f14 : Addr} {od14 an14 : Option Addr} {sl14 : Array (Option Value)} {oc14 kV14 dc14 pm14 cd14 ct14 : Value}
    {f15 : Addr} {od15 an15 : Option Addr} {sl15 : Array (Option Value)} {oc15 kV15 dc15 pm15 cd15 ct15 : Value}
    {f16 : Addr} {od16 an16 : Option Addr} {sl16 : Array (Option Value)} {oc16 kV16 dc16 pm16 cd16 ct16 : Value}
    {u_LETTERS : Tok}
    {C_WorthError : Addr}
    {C_InvalidDeed : Addr}
    {C_InvalidName : Addr}
    {C_Unreadable : Addr}
    {fI : Addr} {odI anI : Option Addr} {slI : Array (Option Value)} {ocI dcI pmI cdI ctI : Value}
    {nm_Unreadable q_Unreadable : Str} {N_Unreadable : Addr} {bs_Unreadable : List Value} {sn_Unreadable : List Str} {sub_Unreadable : List Value} {ab_Unreadable : Bool} {col_Unreadable : Option Bool} {dd_Unreadable : Option Addr} {k0_Unreadable k1_Unreadable k2_Unreadable k3_Unreadable k5_Unreadable : Option Value}
    (a0 : PySem.W.nsIn K mainGlobals "_law_purse" = some (some (.ref f0)))
    (l0 : K.lookup f0 = some ⟨oc0, od0, .func (PySem.W.fnOf "_law_purse" "_law_purse" (defArgs s__law_purse) (defBody s__law_purse) (defScope s__law_purse) .none kV0 dc0 pm0 an0 cd0 ct0), sl0⟩)
    (c0 : PySem.W.codeIn K cd0 "_law_purse" = true)
    (k0 : PySem.W.keepIn K (.ref f0) = true)
    (a1 : PySem.W.nsIn K mainGlobals "_law_coin" = some (some (.ref f1)))
    (l1 : K.lookup f1 = some ⟨oc1, od1, .func (PySem.W.fnOf "_law_coin" "_law_coin" (defArgs s__law_coin) (defBody s__law_coin) (defScope s__law_coin) .none kV1 dc1 pm1 an1 cd1 ct1), sl1⟩)
    (c1 : PySem.W.codeIn K cd1 "_law_coin" = true)
    (k1 : PySem.W.keepIn K (.ref f1) = true)
    (a2 : PySem.W.nsIn K mainGlobals "_law_words" = some (some (.ref f2)))
    (l2 : K.lookup f2 = some ⟨oc2, od2, .func (PySem.W.fnOf "_law_words" "_law_words" (defArgs s__law_words) (defBody s__law_words) (defScope s__law_words) .none kV2 dc2 pm2 an2 cd2 ct2), sl2⟩)
    (c2 : PySem.W.codeIn K cd2 "_law_words" = true)
    (k2 : PySem.W.keepIn K (.ref f2) = true)
    (a3 : PySem.W.nsIn K mainGlobals "_law_drawn_plan" = some (some (.ref f3)))
    (l3 : K.lookup f3 = some ⟨oc3, od3, .func (PySem.W.fnOf "_law_drawn_plan" "_law_drawn_plan" (defArgs s__law_drawn_plan) (defBody s__law_drawn_plan) (defScope s__law_drawn_plan) .none kV3 dc3 pm3 an3 cd3 ct3), sl3⟩)
    (c3 : PySem.W.codeIn K cd3 "_law_drawn_plan" = true)
    (k3 : PySem.W.keepIn K (.ref f3) = true)
    (a4 : PySem.W.nsIn K mainGlobals "_law_deeds_of" = some (some (.ref f4)))
    (l4 : K.lookup f4 = some ⟨oc4, od4, .func (PySem.W.fnOf "_law_deeds_of" "_law_deeds_of" (defArgs s__law_deeds_of) (defBody s__law_deeds_of) (defScope s__law_deeds_of) .none kV4 dc4 pm4 an4 cd4 ct4), sl4⟩)
    (c4 : PySem.W.codeIn K cd4 "_law_deeds_of" = true)
    (k4 : PySem.W.keepIn K (.ref f4) = true)
    (a5 : PySem.W.nsIn K mainGlobals "_law_drawn_history" = some (some (.ref f5)))
    (l5 : K.lookup f5 = some ⟨oc5, od5, .func (PySem.W.fnOf "_law_drawn_history" "_law_drawn_history" (defArgs s__law_drawn_history) (defBody s__law_drawn_history) (defScope s__law_drawn_history) .none kV5 dc5 pm5 an5 cd5 ct5), sl5⟩)
    (c5 : PySem.W.codeIn K cd5 "_law_drawn_history" = true)
    (k5 : PySem.W.keepIn K (.ref f5) = true)
    (a6 : PySem.W.nsIn K mainGlobals "_law_odd_his" = some (some (.ref f6)))
    (l6 : K.lookup f6 = some ⟨oc6, od6, .func (PySem.W.fnOf "_law_odd_his" "_law_odd_his" (defArgs s__law_odd_his) (defBody s__law_odd_his) (defScope s__law_odd_his) .none kV6 dc6 pm6 an6 cd6 ct6), sl6⟩)
    (c6 : PySem.W.codeIn K cd6 "_law_odd_his" = true)
    (k6 : PySem.W.keepIn K (.ref f6) = true)
    (a7 : PySem.W.nsIn K mainGlobals "_law_marred_his" = some (some (.ref f7)))
    (l7 : K.lookup f7 = some ⟨oc7, od7, .func (PySem.W.fnOf "_law_marred_his" "_law_marred_his" (defArgs s__law_marred_his) (defBody s__law_marred_his) (defScope s__law_marred_his) .none kV7 dc7 pm7 an7 cd7 ct7), sl7⟩)
    (c7 : PySem.W.codeIn K cd7 "_law_marred_his" = true)
    (k7 : PySem.W.keepIn K (.ref f7) = true)
    (a8 : PySem.W.nsIn K mainGlobals "_law_is_title" = some (some (.ref f8)))
    (l8 : K.lookup f8 = some ⟨oc8, od8, .func (PySem.W.fnOf "_law_is_title" "_law_is_title" (defArgs s__law_is_title) (defBody s__law_is_title) (defScope s__law_is_title) .none kV8 dc8 pm8 an8 cd8 ct8), sl8⟩)
    (c8 : PySem.W.codeIn K cd8 "_law_is_title" = true)
    (k8 : PySem.W.keepIn K (.ref f8) = true)
    (a9 : PySem.W.nsIn K mainGlobals "_law_deeds_in" = some (some (.ref f9)))
    (l9 : K.lookup f9 = some ⟨oc9, od9, .func (PySem.W.fnOf "_law_deeds_in" "_law_deeds_in" (defArgs s__law_deeds_in) (defBody s__law_deeds_in) (defScope s__law_deeds_in) .none kV9 dc9 pm9 an9 cd9 ct9), sl9⟩)
    (c9 : PySem.W.codeIn K cd9 "_law_deeds_in" = true)
    (k9 : PySem.W.keepIn K (.ref f9) = true)
    (a10 : PySem.W.nsIn K mainGlobals "show_history" = some (some (.ref f10)))
    (l10 : K.lookup f10 = some ⟨oc10, od10, .func (PySem.W.fnOf "show_history" "show_history" (defArgs s_show_history) (defBody s_show_history) (defScope s_show_history) .none kV10 dc10 pm10 an10 cd10 ct10), sl10⟩)
    (c10 : PySem.W.codeIn K cd10 "show_history" = true)
    (k10 : PySem.W.keepIn K (.ref f10) = true)
    (a11 : PySem.W.nsIn K mainGlobals "is_name" = some (some (.ref f11)))
    (l11 : K.lookup f11 = some ⟨oc11, od11, .func (PySem.W.fnOf "is_name" "is_name" (defArgs s_is_name) (defBody s_is_name) (defScope s_is_name) .none kV11 dc11 pm11 an11 cd11 ct11), sl11⟩)
    (c11 : PySem.W.codeIn K cd11 "is_name" = true)
    (k11 : PySem.W.keepIn K (.ref f11) = true)
    (a12 : PySem.W.nsIn K mainGlobals "is_deed" = some (some (.ref f12)))
    (l12 : K.lookup f12 = some ⟨oc12, od12, .func (PySem.W.fnOf "is_deed" "is_deed" (defArgs s_is_deed) (defBody s_is_deed) (defScope s_is_deed) .none kV12 dc12 pm12 an12 cd12 ct12), sl12⟩)
    (c12 : PySem.W.codeIn K cd12 "is_deed" = true)
    (k12 : PySem.W.keepIn K (.ref f12) = true)
    (a13 : PySem.W.nsIn K mainGlobals "read_history" = some (some (.ref f13)))
    (l13 : K.lookup f13 = some ⟨oc13, od13, .func (PySem.W.fnOf "read_history" "read_history" (defArgs s_read_history) (defBody s_read_history) (defScope s_read_history) .none kV13 dc13 pm13 an13 cd13 ct13), sl13⟩)
    (c13 : PySem.W.codeIn K cd13 "read_history" = true)
    (k13 : PySem.W.keepIn K (.ref f13) = true)
    (a14 : PySem.W.nsIn K mainGlobals "_law_caught_his" = some (some (.ref f14)))
    (l14 : K.lookup f14 = some ⟨oc14, od14, .func (PySem.W.fnOf "_law_caught_his" "_law_caught_his" (defArgs s__law_caught_his) (defBody s__law_caught_his) (defScope s__law_caught_his) .none kV14 dc14 pm14 an14 cd14 ct14), sl14⟩)
    (c14 : PySem.W.codeIn K cd14 "_law_caught_his" = true)
    (k14 : PySem.W.keepIn K (.ref f14) = true)
    (a15 : PySem.W.nsIn K mainGlobals "_law_right" = some (some (.ref f15)))
    (l15 : K.lookup f15 = some ⟨oc15, od15, .func (PySem.W.fnOf "_law_right" "_law_right" (defArgs s__law_right) (defBody s__law_right) (defScope s__law_right) .none kV15 dc15 pm15 an15 cd15 ct15), sl15⟩)
    (c15 : PySem.W.codeIn K cd15 "_law_right" = true)
    (k15 : PySem.W.keepIn K (.ref f15) = true)
    (a16 : PySem.W.nsIn K mainGlobals "law" = some (some (.ref f16)))
    (l16 : K.lookup f16 = some ⟨oc16, od16, .func (PySem.W.fnOf "law" "law" (defArgs s_law) (defBody s_law) (defScope s_law) .none kV16 dc16 pm16 an16 cd16 ct16), sl16⟩)
    (c16 : PySem.W.codeIn K cd16 "law" = true)
    (k16 : PySem.W.keepIn K (.ref f16) = true)
    (z_abs : PySem.W.nsIn K mainGlobals "abs" = some none)
    (z_all : PySem.W.nsIn K mainGlobals "all" = some none)
    (z_int : PySem.W.nsIn K mainGlobals "int" = some none)
    (z_isinstance : PySem.W.nsIn K mainGlobals "isinstance" = some none)
    (z_len : PySem.W.nsIn K mainGlobals "len" = some none)
    (z_list : PySem.W.nsIn K mainGlobals "list" = some none)
    (z_max : PySem.W.nsIn K mainGlobals "max" = some none)
    (z_min : PySem.W.nsIn K mainGlobals "min" = some none)
    (z_range : PySem.W.nsIn K mainGlobals "range" = some none)
    (z_set : PySem.W.nsIn K mainGlobals "set" = some none)
    (z_tuple : PySem.W.nsIn K mainGlobals "tuple" = some none)
    (q_LETTERS : PySem.W.nsIn K mainGlobals "LETTERS" = some (some (.str "abcdefghijklmnopqrstuvwxyz" u_LETTERS)))
    (ca_WorthError : PySem.W.nsIn K mainGlobals "WorthError" = some (some (.ref C_WorthError)))
    (ca_InvalidDeed : PySem.W.nsIn K mainGlobals "InvalidDeed" = some (some (.ref C_InvalidDeed)))
    (ca_InvalidName : PySem.W.nsIn K mainGlobals "InvalidName" = some (some (.ref C_InvalidName)))
    (ca_Unreadable : PySem.W.nsIn K mainGlobals "Unreadable" = some (some (.ref C_Unreadable)))
    (x_Unreadable : K.lookup C_Unreadable = some (excClassObj nm_Unreadable q_Unreadable C_Unreadable N_Unreadable bs_Unreadable [.ref C_WorthError, .type "ValueError", .type "Exception", .type "BaseException", .type "object"] true sn_Unreadable sub_Unreadable ab_Unreadable col_Unreadable dd_Unreadable k0_Unreadable k1_Unreadable k2_Unreadable k3_Unreadable k5_Unreadable "ValueError.__new__"))
    (sa_Unreadable : PySem.W.findIn K (.ref C_Unreadable) "__setattr__" = some (some (.builtin "object.__setattr__")))
    (ga_Unreadable : PySem.W.findIn K (.ref C_Unreadable) "__getattribute__" = some (some (.builtin "BaseException.__getattribute__")))
    (gg_Unreadable : PySem.W.findIn K (.ref C_Unreadable) "__getattr__" = some none)
    (nv_Unreadable : PySem.W.findIn K (.ref C_Unreadable) "value" = some none)
    (in_Unreadable : PySem.W.findIn K (.ref C_Unreadable) "__init__" = some (some (.ref fI)))
    (kc_Unreadable : PySem.W.keepIn K (.ref C_Unreadable) = true)
    (eb_Unreadable : PySem.W.subIn K (.ref C_Unreadable) (.type "BaseException") = some true)
    (ty_Unreadable : PySem.W.typeIn K (.ref C_Unreadable) = some (.type "type"))
    (hd_Unreadable : PySem.W.hasDictIn K C_Unreadable = true)
    (ic_Unreadable : PySem.W.isClsIn K C_Unreadable = true)
    (tI : PySem.W.typeIn K (.ref fI) = some (.type "function"))
    (lI : K.lookup fI = some ⟨ocI, odI, .func (PySem.W.fnOf "__init__" "WorthError.__init__" (PySem.ErrX.iA ⟨4, 17, 4, 21⟩ ⟨4, 23, 4, 28⟩) (PySem.ErrX.iB ⟨5, 8, 5, 12⟩ ⟨5, 8, 5, 18⟩ ⟨5, 21, 5, 26⟩ ⟨5, 8, 5, 26⟩) PySem.ErrX.iS .none .none dcI pmI anI cdI ctI), slI⟩)
    (cI : PySem.W.codeIn K cdI "WorthError.__init__" = true)
    (cc_Unreadable : PySem.W.findIn K (.ref C_Unreadable) "__class__" = some (some (.builtin "object.__class__")))
    (ge_Unreadable : PySem.W.specialIn K (.builtin "object.__class__") "__get__" = some (some (.builtin "getset_descriptor.__get__")))
    (tk_Unreadable : PySem.W.takesIn K (.builtin "object.__class__") = some true)
    (mo_Unreadable : PySem.W.mroIn K C_Unreadable (.type "object") = some true)
    (ic_InvalidDeed : PySem.W.isClsIn K C_InvalidDeed = true)
    (ty_InvalidDeed : PySem.W.typeIn K (.ref C_InvalidDeed) = some (.type "type"))
    (ic_InvalidName : PySem.W.isClsIn K C_InvalidName = true)
    (ty_InvalidName : PySem.W.typeIn K (.ref C_InvalidName) = some (.type "type"))
    (ic_WorthError : PySem.W.isClsIn K C_WorthError = true)
    (ty_WorthError : PySem.W.typeIn K (.ref C_WorthError) = some (.type "type"))
    (eb_WorthError : PySem.W.subIn K (.ref C_WorthError) (.type "BaseException") = some true)
    (su_Unreadable_InvalidDeed : PySem.W.subIn K (.ref C_Unreadable) (.ref C_InvalidDeed) = some false)
    (ne_Unreadable_InvalidDeed : (Value.ref C_Unreadable == Value.ref C_InvalidDeed) = false)
    (su_Unreadable_InvalidName : PySem.W.subIn K (.ref C_Unreadable) (.ref C_InvalidName) = some false)
    (ne_Unreadable_InvalidName : (Value.ref C_Unreadable == Value.ref C_InvalidName) = false)
    (su_Unreadable_Unreadable : PySem.W.subIn K (.ref C_Unreadable) (.ref C_Unreadable) = some true)
    (su_Unreadable_WorthError : PySem.W.subIn K (.ref C_Unreadable) (.ref C_WorthError) = some true)
    (ne_Unreadable_WorthError : (Value.ref C_Unreadable == Value.ref C_WorthError) = false)
    : Tx K mg := {
  f__law_purse := f0, d__law_purse := _, F__law_purse := fun_mk (st := s__law_purse) l0 c0 k0, m__law_purse := PySem.W.mg_of X G a0,
  b__law_purse := (fun_mk (st := s__law_purse) l0 c0 k0).binds (ps := ["script", "place"]) fun _ _ _ _ _ _ us hl => match us, hl with | [_, _], _ => rfl,
  f__law_coin := f1, d__law_coin := _, F__law_coin := fun_mk (st := s__law_coin) l1 c1 k1, m__law_coin := PySem.W.mg_of X G a1,
  b__law_coin := (fun_mk (st := s__law_coin) l1 c1 k1).binds (ps := ["purse", "many"]) fun _ _ _ _ _ _ us hl => match us, hl with | [_, _], _ => rfl,
  f__law_words := f2, d__law_words := _, F__law_words := fun_mk (st := s__law_words) l2 c2 k2, m__law_words := PySem.W.mg_of X G a2,
  b__law_words := (fun_mk (st := s__law_words) l2 c2 k2).binds (ps := ["purse", "many"]) fun _ _ _ _ _ _ us hl => match us, hl with | [_, _], _ => rfl,
  f__law_drawn_plan := f3, d__law_drawn_plan := _, F__law_drawn_plan := fun_mk (st := s__law_drawn_plan) l3 c3 k3, m__law_drawn_plan := PySem.W.mg_of X G a3,
  b__law_drawn_plan := (fun_mk (st := s__law_drawn_plan) l3 c3 k3).binds (ps := ["purse", "sizes"]) fun _ _ _ _ _ _ us hl => match us, hl with | [_, _], _ => rfl,
  f__law_deeds_of := f4, d__law_deeds_of := _, F__law_deeds_of := fun_mk (st := s__law_deeds_of) l4 c4 k4, m__law_deeds_of := PySem.W.mg_of X G a4,
  b__law_deeds_of := (fun_mk (st := s__law_deeds_of) l4 c4 k4).binds (ps := ["plan"]) fun _ _ _ _ _ _ us hl => match us, hl with | [_], _ => rfl,
  f__law_drawn_history := f5, d__law_drawn_history := _, F__law_drawn_history := fun_mk (st := s__law_drawn_history) l5 c5 k5, m__law_drawn_history := PySem.W.mg_of X G a5,
  b__law_drawn_history := (fun_mk (st := s__law_drawn_history) l5 c5 k5).binds (ps := ["purse", "plan", "most"]) fun _ _ _ _ _ _ us hl => match us, hl with | [_, _, _], _ => rfl,
  f__law_odd_his := f6, d__law_odd_his := _, F__law_odd_his := fun_mk (st := s__law_odd_his) l6 c6 k6, m__law_odd_his := PySem.W.mg_of X G a6,
  b__law_odd_his := (fun_mk (st := s__law_odd_his) l6 c6 k6).binds (ps := ["purse", "wording"]) fun _ _ _ _ _ _ us hl => match us, hl with | [_, _], _ => rfl,
  f__law_marred_his := f7, d__law_marred_his := _, F__law_marred_his := fun_mk (st := s__law_marred_his) l7 c7 k7, m__law_marred_his := PySem.W.mg_of X G a7,
  b__law_marred_his := (fun_mk (st := s__law_marred_his) l7 c7 k7).binds (ps := ["purse", "wording"]) fun _ _ _ _ _ _ us hl => match us, hl with | [_, _], _ => rfl,
  f__law_is_title := f8, d__law_is_title := _, F__law_is_title := fun_mk (st := s__law_is_title) l8 c8 k8, m__law_is_title := PySem.W.mg_of X G a8,
  b__law_is_title := (fun_mk (st := s__law_is_title) l8 c8 k8).binds (ps := ["wording"]) fun _ _ _ _ _ _ us hl => match us, hl with | [_], _ => rfl,
  f__law_deeds_in := f9, d__law_deeds_in := _, F__law_deeds_in := fun_mk (st := s__law_deeds_in) l9 c9 k9, m__law_deeds_in := PySem.W.mg_of X G a9,
  b__law_deeds_in := (fun_mk (st := s__law_deeds_in) l9 c9 k9).binds (ps := ["wording"]) fun _ _ _ _ _ _ us hl => match us, hl with | [_], _ => rfl,
  f_show_history := f10, d_show_history := _, F_show_history := fun_mk (st := s_show_history) l10 c10 k10, m_show_history := PySem.W.mg_of X G a10,
  b_show_history := (fun_mk (st := s_show_history) l10 c10 k10).binds (ps := ["deeds"]) fun _ _ _ _ _ _ us hl => match us, hl with | [_], _ => rfl,
  f_is_name := f11, d_is_name := _, F_is_name := fun_mk (st := s_is_name) l11 c11 k11, m_is_name := PySem.W.mg_of X G a11,
  b_is_name := (fun_mk (st := s_is_name) l11 c11 k11).binds (ps := ["text"]) fun _ _ _ _ _ _ us hl => match us, hl with | [_], _ => rfl,
  f_is_deed := f12, d_is_deed := _, F_is_deed := fun_mk (st := s_is_deed) l12 c12 k12, m_is_deed := PySem.W.mg_of X G a12,
  b_is_deed := (fun_mk (st := s_is_deed) l12 c12 k12).binds (ps := ["pieces"]) fun _ _ _ _ _ _ us hl => match us, hl with | [_], _ => rfl,
  f_read_history := f13, d_read_history := _, F_read_history := fun_mk (st := s_read_history) l13 c13 k13, m_read_history := PySem.W.mg_of X G a13,
  b_read_history := (fun_mk (st := s_read_history) l13 c13 k13).binds (ps := ["text"]) fun _ _ _ _ _ _ us hl => match us, hl with | [_], _ => rfl,
  kb_read_history_0 := kw_mk (fun_mk (st := s_read_history) l13 c13 k13) rfl fun _ _ _ _ _ _ us ws h1 h2 => match us, ws, h1, h2 with | [], [_], _, _ => rfl,
  f__law_caught_his := f14, d__law_caught_his := _, F__law_caught_his := fun_mk (st := s__law_caught_his) l14 c14 k14, m__law_caught_his := PySem.W.mg_of X G a14,
  b__law_caught_his := (fun_mk (st := s__law_caught_his) l14 c14 k14).binds (ps := ["wording", "way"]) fun _ _ _ _ _ _ us hl => match us, hl with | [_, _], _ => rfl,
  f__law_right := f15, d__law_right := _, F__law_right := fun_mk (st := s__law_right) l15 c15 k15, m__law_right := PySem.W.mg_of X G a15,
  b__law_right := (fun_mk (st := s__law_right) l15 c15 k15).binds (ps := ["purse"]) fun _ _ _ _ _ _ us hl => match us, hl with | [_], _ => rfl,
  f_law := f16, d_law := _, F_law := fun_mk (st := s_law) l16 c16 k16, m_law := PySem.W.mg_of X G a16,
  b_law := (fun_mk (st := s_law) l16 c16 k16).binds (ps := ["script"]) fun _ _ _ _ _ _ us hl => match us, hl with | [_], _ => rfl,
  z_abs := PySem.W.mg_none_of X G z_abs,
  z_all := PySem.W.mg_none_of X G z_all,
  z_int := PySem.W.mg_none_of X G z_int,
  z_isinstance := PySem.W.mg_none_of X G z_isinstance,
  z_len := PySem.W.mg_none_of X G z_len,
  z_list := PySem.W.mg_none_of X G z_list,
  z_max := PySem.W.mg_none_of X G z_max,
  z_min := PySem.W.mg_none_of X G z_min,
  z_range := PySem.W.mg_none_of X G z_range,
  z_set := PySem.W.mg_none_of X G z_set,
  z_tuple := PySem.W.mg_none_of X G z_tuple,
  u_LETTERS := u_LETTERS, m_LETTERS := PySem.W.mg_of X G q_LETTERS,
  c_WorthError := C_WorthError, m_WorthError := PySem.W.mg_of X G ca_WorthError,
  c_InvalidDeed := C_InvalidDeed, m_InvalidDeed := PySem.W.mg_of X G ca_InvalidDeed,
  c_InvalidName := C_InvalidName, m_InvalidName := PySem.W.mg_of X G ca_InvalidName,
  c_Unreadable := C_Unreadable, m_Unreadable := PySem.W.mg_of X G ca_Unreadable,
  fI := fI, i_fI := ⟨tI, ⟨_, _, _, _, _, _, _, _, _, _, _, _, _, _, lI, cI⟩⟩,
  t_Unreadable := { ini := ⟨tI, ⟨_, _, _, _, _, _, _, _, _, _, _, _, _, _, lI, cI⟩⟩, gC := PySem.W.mg_of X G ca_Unreadable, cls := ⟨nm_Unreadable, q_Unreadable, N_Unreadable, bs_Unreadable, _, sn_Unreadable, sub_Unreadable, ab_Unreadable, col_Unreadable, dd_Unreadable, k0_Unreadable, k1_Unreadable, k2_Unreadable, k3_Unreadable, k5_Unreadable, x_Unreadable, rfl⟩, sa := sa_Unreadable, ga := ga_Unreadable, gg := gg_Unreadable, noN := nv_Unreadable, iC := in_Unreadable, kC := kc_Unreadable, exC := eb_Unreadable, tyC := ty_Unreadable, hdC := hd_Unreadable },
  x_Unreadable := { cl := ic_Unreadable, ga := ga_Unreadable, gg := gg_Unreadable, ex := eb_Unreadable, ca := cc_Unreadable, ge := ge_Unreadable, tk := tk_Unreadable, mo := mo_Unreadable, no := nv_Unreadable, hd := hd_Unreadable },
  hm_WorthError_Unreadable := exm_to eb_WorthError ic_WorthError ty_WorthError su_Unreadable_WorthError,
  is_InvalidDeed_InvalidName_Unreadable := (kitAny_no (kitOne_no ne_Unreadable_InvalidDeed ic_InvalidDeed ty_InvalidDeed su_Unreadable_InvalidDeed) (kitAny_no (kitOne_no ne_Unreadable_InvalidName ic_InvalidName ty_InvalidName su_Unreadable_InvalidName) kitAny_nil)),
  is_Unreadable_Unreadable := kitOne_self }
theorem all_mk {P : Program} {w : World} {K : PySem.W.Frag} {h : Heap} {mg : Str → Option Value} {fa : Addr} (X : K.In h) (G : h.Ns mainGlobals mg) (hfa : mg "law" = some (.ref fa))
    {f0 : Addr} {od0 an0 : Option Addr} {sl0 : Array (Option Value)} {oc0 kV0 dc0 pm0 cd0 ct0 : Value}
    {f1 : Addr} {od1 an1 : Option Addr} {sl1 : Array (Option Value)} {oc1 kV1 dc1 pm1 cd1 ct1 : Value}
    {f2 : Addr} {od2 an2 : Option Addr} {sl2 : Array (Option Value)} {oc2 kV2 dc2 pm2 cd2 ct2 : Value}
    {f3 : Addr} {od3 an3 : Option Addr} {sl3 : Array (Option Value)} {oc3 kV3 dc3 pm3 cd3 ct3 : Value}
    {f4 : Addr} {od4 an4 : Option Addr} {sl4 : Array (Option Value)} {oc4 kV4 dc4 pm4 cd4 ct4 : Value}
    {f5 : Addr} {od5 an5 : Option Addr} {sl5 : Array (Option Value)} {oc5 kV5 dc5 pm5 cd5 ct5 : Value}
    {f6 : Addr} {od6 an6 : Option Addr} {sl6 : Array (Option Value)} {oc6 kV6 dc6 pm6 cd6 ct6 : Value}
    {f7 : Addr} {od7 an7 : Option Addr} {sl7 : Array (Option Value)} {oc7 kV7 dc7 pm7 cd7 ct7 : Value}
    {f8 : Addr} {od8 an8 : Option Addr} {sl8 : Array (Option Value)} {oc8 kV8 dc8 pm8 cd8 ct8 : Value}
    {f9 : Addr} {od9 an9 : Option Addr} {sl9 : Array (Option Value)} {oc9 kV9 dc9 pm9 cd9 ct9 : Value}
    {f10 : Addr} {od10 an10 : Option Addr} {sl10 : Array (Option Value)} {oc10 kV10 dc10 pm10 cd10 ct10 : Value}
    {f11 : Addr} {od11 an11 : Option Addr} {sl11 : Array (Option Value)} {oc11 kV11 dc11 pm11 cd11 ct11 : Value}
    {f12 : Addr} {od12 an12 : Option Addr} {sl12 : Array (Option Value)} {oc12 kV12 dc12 pm12 cd12 ct12 : Value}
    {f13 : Addr} {od13 an13 : Option Addr} {sl13 : Array (Option Value)} {oc13 kV13 dc13 pm13 cd13 ct13 : Value}
    {f14 : Addr} {od14 an14 : Option Addr} {sl14 : Array (Option Value)} {oc14 kV14 dc14 pm14 cd14 ct14 : Value}
    {f15 : Addr} {od15 an15 : Option Addr} {sl15 : Array (Option Value)} {oc15 kV15 dc15 pm15 cd15 ct15 : Value}
    {f16 : Addr} {od16 an16 : Option Addr} {sl16 : Array (Option Value)} {oc16 kV16 dc16 pm16 cd16 ct16 : Value}
    {u_LETTERS : Tok}
    {C_WorthError : Addr}
    {C_InvalidDeed : Addr}
    {C_InvalidName : Addr}
    {C_Unreadable : Addr}
    {fI : Addr} {odI anI : Option Addr} {slI : Array (Option Value)} {ocI dcI pmI cdI ctI : Value}
    {nm_Unreadable q_Unreadable : Str} {N_Unreadable : Addr} {bs_Unreadable : List Value} {sn_Unreadable : List Str} {sub_Unreadable : List Value} {ab_Unreadable : Bool} {col_Unreadable : Option Bool} {dd_Unreadable : Option Addr} {k0_Unreadable k1_Unreadable k2_Unreadable k3_Unreadable k5_Unreadable : Option Value}
    (a0 : PySem.W.nsIn K mainGlobals "_law_purse" = some (some (.ref f0)))
    (l0 : K.lookup f0 = some ⟨oc0, od0, .func (PySem.W.fnOf "_law_purse" "_law_purse" (defArgs s__law_purse) (defBody s__law_purse) (defScope s__law_purse) .none kV0 dc0 pm0 an0 cd0 ct0), sl0⟩)
    (c0 : PySem.W.codeIn K cd0 "_law_purse" = true)
    (k0 : PySem.W.keepIn K (.ref f0) = true)
    (a1 : PySem.W.nsIn K mainGlobals "_law_coin" = some (some (.ref f1)))
    (l1 : K.lookup f1 = some ⟨oc1, od1, .func (PySem.W.fnOf "_law_coin" "_law_coin" (defArgs s__law_coin) (defBody s__law_coin) (defScope s__law_coin) .none kV1 dc1 pm1 an1 cd1 ct1), sl1⟩)
    (c1 : PySem.W.codeIn K cd1 "_law_coin" = true)
    (k1 : PySem.W.keepIn K (.ref f1) = true)
    (a2 : PySem.W.nsIn K mainGlobals "_law_words" = some (some (.ref f2)))
    (l2 : K.lookup f2 = some ⟨oc2, od2, .func (PySem.W.fnOf "_law_words" "_law_words" (defArgs s__law_words) (defBody s__law_words) (defScope s__law_words) .none kV2 dc2 pm2 an2 cd2 ct2), sl2⟩)
    (c2 : PySem.W.codeIn K cd2 "_law_words" = true)
    (k2 : PySem.W.keepIn K (.ref f2) = true)
    (a3 : PySem.W.nsIn K mainGlobals "_law_drawn_plan" = some (some (.ref f3)))
    (l3 : K.lookup f3 = some ⟨oc3, od3, .func (PySem.W.fnOf "_law_drawn_plan" "_law_drawn_plan" (defArgs s__law_drawn_plan) (defBody s__law_drawn_plan) (defScope s__law_drawn_plan) .none kV3 dc3 pm3 an3 cd3 ct3), sl3⟩)
    (c3 : PySem.W.codeIn K cd3 "_law_drawn_plan" = true)
    (k3 : PySem.W.keepIn K (.ref f3) = true)
    (a4 : PySem.W.nsIn K mainGlobals "_law_deeds_of" = some (some (.ref f4)))
    (l4 : K.lookup f4 = some ⟨oc4, od4, .func (PySem.W.fnOf "_law_deeds_of" "_law_deeds_of" (defArgs s__law_deeds_of) (defBody s__law_deeds_of) (defScope s__law_deeds_of) .none kV4 dc4 pm4 an4 cd4 ct4), sl4⟩)
    (c4 : PySem.W.codeIn K cd4 "_law_deeds_of" = true)
    (k4 : PySem.W.keepIn K (.ref f4) = true)
    (a5 : PySem.W.nsIn K mainGlobals "_law_drawn_history" = some (some (.ref f5)))
    (l5 : K.lookup f5 = some ⟨oc5, od5, .func (PySem.W.fnOf "_law_drawn_history" "_law_drawn_history" (defArgs s__law_drawn_history) (defBody s__law_drawn_history) (defScope s__law_drawn_history) .none kV5 dc5 pm5 an5 cd5 ct5), sl5⟩)
    (c5 : PySem.W.codeIn K cd5 "_law_drawn_history" = true)
    (k5 : PySem.W.keepIn K (.ref f5) = true)
    (a6 : PySem.W.nsIn K mainGlobals "_law_odd_his" = some (some (.ref f6)))
    (l6 : K.lookup f6 = some ⟨oc6, od6, .func (PySem.W.fnOf "_law_odd_his" "_law_odd_his" (defArgs s__law_odd_his) (defBody s__law_odd_his) (defScope s__law_odd_his) .none kV6 dc6 pm6 an6 cd6 ct6), sl6⟩)
    (c6 : PySem.W.codeIn K cd6 "_law_odd_his" = true)
    (k6 : PySem.W.keepIn K (.ref f6) = true)
    (a7 : PySem.W.nsIn K mainGlobals "_law_marred_his" = some (some (.ref f7)))
    (l7 : K.lookup f7 = some ⟨oc7, od7, .func (PySem.W.fnOf "_law_marred_his" "_law_marred_his" (defArgs s__law_marred_his) (defBody s__law_marred_his) (defScope s__law_marred_his) .none kV7 dc7 pm7 an7 cd7 ct7), sl7⟩)
    (c7 : PySem.W.codeIn K cd7 "_law_marred_his" = true)
    (k7 : PySem.W.keepIn K (.ref f7) = true)
    (a8 : PySem.W.nsIn K mainGlobals "_law_is_title" = some (some (.ref f8)))
    (l8 : K.lookup f8 = some ⟨oc8, od8, .func (PySem.W.fnOf "_law_is_title" "_law_is_title" (defArgs s__law_is_title) (defBody s__law_is_title) (defScope s__law_is_title) .none kV8 dc8 pm8 an8 cd8 ct8), sl8⟩)
    (c8 : PySem.W.codeIn K cd8 "_law_is_title" = true)
    (k8 : PySem.W.keepIn K (.ref f8) = true)
    (a9 : PySem.W.nsIn K mainGlobals "_law_deeds_in" = some (some (.ref f9)))
    (l9 : K.lookup f9 = some ⟨oc9, od9, .func (PySem.W.fnOf "_law_deeds_in" "_law_deeds_in" (defArgs s__law_deeds_in) (defBody s__law_deeds_in) (defScope s__law_deeds_in) .none kV9 dc9 pm9 an9 cd9 ct9), sl9⟩)
    (c9 : PySem.W.codeIn K cd9 "_law_deeds_in" = true)
    (k9 : PySem.W.keepIn K (.ref f9) = true)
    (a10 : PySem.W.nsIn K mainGlobals "show_history" = some (some (.ref f10)))
    (l10 : K.lookup f10 = some ⟨oc10, od10, .func (PySem.W.fnOf "show_history" "show_history" (defArgs s_show_history) (defBody s_show_history) (defScope s_show_history) .none kV10 dc10 pm10 an10 cd10 ct10), sl10⟩)
    (c10 : PySem.W.codeIn K cd10 "show_history" = true)
    (k10 : PySem.W.keepIn K (.ref f10) = true)
    (a11 : PySem.W.nsIn K mainGlobals "is_name" = some (some (.ref f11)))
    (l11 : K.lookup f11 = some ⟨oc11, od11, .func (PySem.W.fnOf "is_name" "is_name" (defArgs s_is_name) (defBody s_is_name) (defScope s_is_name) .none kV11 dc11 pm11 an11 cd11 ct11), sl11⟩)
    (c11 : PySem.W.codeIn K cd11 "is_name" = true)
    (k11 : PySem.W.keepIn K (.ref f11) = true)
    (a12 : PySem.W.nsIn K mainGlobals "is_deed" = some (some (.ref f12)))
    (l12 : K.lookup f12 = some ⟨oc12, od12, .func (PySem.W.fnOf "is_deed" "is_deed" (defArgs s_is_deed) (defBody s_is_deed) (defScope s_is_deed) .none kV12 dc12 pm12 an12 cd12 ct12), sl12⟩)
    (c12 : PySem.W.codeIn K cd12 "is_deed" = true)
    (k12 : PySem.W.keepIn K (.ref f12) = true)
    (a13 : PySem.W.nsIn K mainGlobals "read_history" = some (some (.ref f13)))
    (l13 : K.lookup f13 = some ⟨oc13, od13, .func (PySem.W.fnOf "read_history" "read_history" (defArgs s_read_history) (defBody s_read_history) (defScope s_read_history) .none kV13 dc13 pm13 an13 cd13 ct13), sl13⟩)
    (c13 : PySem.W.codeIn K cd13 "read_history" = true)
    (k13 : PySem.W.keepIn K (.ref f13) = true)
    (a14 : PySem.W.nsIn K mainGlobals "_law_caught_his" = some (some (.ref f14)))
    (l14 : K.lookup f14 = some ⟨oc14, od14, .func (PySem.W.fnOf "_law_caught_his" "_law_caught_his" (defArgs s__law_caught_his) (defBody s__law_caught_his) (defScope s__law_caught_his) .none kV14 dc14 pm14 an14 cd14 ct14), sl14⟩)
    (c14 : PySem.W.codeIn K cd14 "_law_caught_his" = true)
    (k14 : PySem.W.keepIn K (.ref f14) = true)
    (a15 : PySem.W.nsIn K mainGlobals "_law_right" = some (some (.ref f15)))
    (l15 : K.lookup f15 = some ⟨oc15, od15, .func (PySem.W.fnOf "_law_right" "_law_right" (defArgs s__law_right) (defBody s__law_right) (defScope s__law_right) .none kV15 dc15 pm15 an15 cd15 ct15), sl15⟩)
    (c15 : PySem.W.codeIn K cd15 "_law_right" = true)
    (k15 : PySem.W.keepIn K (.ref f15) = true)
    (a16 : PySem.W.nsIn K mainGlobals "law" = some (some (.ref f16)))
    (l16 : K.lookup f16 = some ⟨oc16, od16, .func (PySem.W.fnOf "law" "law" (defArgs s_law) (defBody s_law) (defScope s_law) .none kV16 dc16 pm16 an16 cd16 ct16), sl16⟩)
    (c16 : PySem.W.codeIn K cd16 "law" = true)
    (k16 : PySem.W.keepIn K (.ref f16) = true)
    (z_abs : PySem.W.nsIn K mainGlobals "abs" = some none)
    (z_all : PySem.W.nsIn K mainGlobals "all" = some none)
    (z_int : PySem.W.nsIn K mainGlobals "int" = some none)
    (z_isinstance : PySem.W.nsIn K mainGlobals "isinstance" = some none)
    (z_len : PySem.W.nsIn K mainGlobals "len" = some none)
    (z_list : PySem.W.nsIn K mainGlobals "list" = some none)
    (z_max : PySem.W.nsIn K mainGlobals "max" = some none)
    (z_min : PySem.W.nsIn K mainGlobals "min" = some none)
    (z_range : PySem.W.nsIn K mainGlobals "range" = some none)
    (z_set : PySem.W.nsIn K mainGlobals "set" = some none)
    (z_tuple : PySem.W.nsIn K mainGlobals "tuple" = some none)
    (q_LETTERS : PySem.W.nsIn K mainGlobals "LETTERS" = some (some (.str "abcdefghijklmnopqrstuvwxyz" u_LETTERS)))
    (ca_WorthError : PySem.W.nsIn K mainGlobals "WorthError" = some (some (.ref C_WorthError)))
    (ca_InvalidDeed : PySem.W.nsIn K mainGlobals "InvalidDeed" = some (some (.ref C_InvalidDeed)))
    (ca_InvalidName : PySem.W.nsIn K mainGlobals "InvalidName" = some (some (.ref C_InvalidName)))
    (ca_Unreadable : PySem.W.nsIn K mainGlobals "Unreadable" = some (some (.ref C_Unreadable)))
    (x_Unreadable : K.lookup C_Unreadable = some (excClassObj nm_Unreadable q_Unreadable C_Unreadable N_Unreadable bs_Unreadable [.ref C_WorthError, .type "ValueError", .type "Exception", .type "BaseException", .type "object"] true sn_Unreadable sub_Unreadable ab_Unreadable col_Unreadable dd_Unreadable k0_Unreadable k1_Unreadable k2_Unreadable k3_Unreadable k5_Unreadable "ValueError.__new__"))
    (sa_Unreadable : PySem.W.findIn K (.ref C_Unreadable) "__setattr__" = some (some (.builtin "object.__setattr__")))
    (ga_Unreadable : PySem.W.findIn K (.ref C_Unreadable) "__getattribute__" = some (some (.builtin "BaseException.__getattribute__")))
    (gg_Unreadable : PySem.W.findIn K (.ref C_Unreadable) "__getattr__" = some none)
    (nv_Unreadable : PySem.W.findIn K (.ref C_Unreadable) "value" = some none)
    (in_Unreadable : PySem.W.findIn K (.ref C_Unreadable) "__init__" = some (some (.ref fI)))
    (kc_Unreadable : PySem.W.keepIn K (.ref C_Unreadable) = true)
    (eb_Unreadable : PySem.W.subIn K (.ref C_Unreadable) (.type "BaseException") = some true)
    (ty_Unreadable : PySem.W.typeIn K (.ref C_Unreadable) = some (.type "type"))
    (hd_Unreadable : PySem.W.hasDictIn K C_Unreadable = true)
    (ic_Unreadable : PySem.W.isClsIn K C_Unreadable = true)
    (tI : PySem.W.typeIn K (.ref fI) = some (.type "function"))
    (lI : K.lookup fI = some ⟨ocI, odI, .func (PySem.W.fnOf "__init__" "WorthError.__init__" (PySem.ErrX.iA ⟨4, 17, 4, 21⟩ ⟨4, 23, 4, 28⟩) (PySem.ErrX.iB ⟨5, 8, 5, 12⟩ ⟨5, 8, 5, 18⟩ ⟨5, 21, 5, 26⟩ ⟨5, 8, 5, 26⟩) PySem.ErrX.iS .none .none dcI pmI anI cdI ctI), slI⟩)
    (cI : PySem.W.codeIn K cdI "WorthError.__init__" = true)
    (cc_Unreadable : PySem.W.findIn K (.ref C_Unreadable) "__class__" = some (some (.builtin "object.__class__")))
    (ge_Unreadable : PySem.W.specialIn K (.builtin "object.__class__") "__get__" = some (some (.builtin "getset_descriptor.__get__")))
    (tk_Unreadable : PySem.W.takesIn K (.builtin "object.__class__") = some true)
    (mo_Unreadable : PySem.W.mroIn K C_Unreadable (.type "object") = some true)
    (ic_InvalidDeed : PySem.W.isClsIn K C_InvalidDeed = true)
    (ty_InvalidDeed : PySem.W.typeIn K (.ref C_InvalidDeed) = some (.type "type"))
    (ic_InvalidName : PySem.W.isClsIn K C_InvalidName = true)
    (ty_InvalidName : PySem.W.typeIn K (.ref C_InvalidName) = some (.type "type"))
    (ic_WorthError : PySem.W.isClsIn K C_WorthError = true)
    (ty_WorthError : PySem.W.typeIn K (.ref C_WorthError) = some (.type "type"))
    (eb_WorthError : PySem.W.subIn K (.ref C_WorthError) (.type "BaseException") = some true)
    (su_Unreadable_InvalidDeed : PySem.W.subIn K (.ref C_Unreadable) (.ref C_InvalidDeed) = some false)
    (ne_Unreadable_InvalidDeed : (Value.ref C_Unreadable == Value.ref C_InvalidDeed) = false)
    (su_Unreadable_InvalidName : PySem.W.subIn K (.ref C_Unreadable) (.ref C_InvalidName) = some false)
    (ne_Unreadable_InvalidName : (Value.ref C_Unreadable == Value.ref C_InvalidName) = false)
    (su_Unreadable_Unreadable : PySem.W.subIn K (.ref C_Unreadable) (.ref C_Unreadable) = some true)
    (su_Unreadable_WorthError : PySem.W.subIn K (.ref C_Unreadable) (.ref C_WorthError) = some true)
    (ne_Unreadable_WorthError : (Value.ref C_Unreadable == Value.ref C_WorthError) = false)
    : ∃ fd : FuncData, (∀ (s : Shared) (v : Value), BindsTo s fd ⟨[v], []⟩ [("script", v)]) ∧ ∀ base : Heap, K.In base → base.Ns mainGlobals mg → FnOk P w K mg base (L2.CX P w) 6 fa fd ["script"] (spTop K f_law) := by
  have e := hfa.symm.trans (PySem.W.mg_of X G a16)
  cases e
  let T : Tx K mg := tx_mk X G a0 l0 c0 k0 a1 l1 c1 k1 a2 l2 c2 k2 a3 l3 c3 k3 a4 l4 c4 k4 a5 l5 c5 k5 a6 l6 c6 k6 a7 l7 c7 k7 a8 l8 c8 k8 a9 l9 c9 k9 a10 l10 c10 k10 a11 l11 c11 k11 a12 l12 c12 k12 a13 l13 c13 k13 a14 l14 c14 k14 a15 l15 c15 k15 a16 l16 c16 k16 z_abs z_all z_int z_isinstance z_len z_list z_max z_min z_range z_set z_tuple q_LETTERS ca_WorthError ca_InvalidDeed ca_InvalidName ca_Unreadable x_Unreadable sa_Unreadable ga_Unreadable gg_Unreadable nv_Unreadable in_Unreadable kc_Unreadable eb_Unreadable ty_Unreadable hd_Unreadable ic_Unreadable tI lI cI cc_Unreadable ge_Unreadable tk_Unreadable mo_Unreadable ic_InvalidDeed ty_InvalidDeed ic_InvalidName ty_InvalidName ic_WorthError ty_WorthError eb_WorthError su_Unreadable_InvalidDeed ne_Unreadable_InvalidDeed su_Unreadable_InvalidName ne_Unreadable_InvalidName su_Unreadable_Unreadable su_Unreadable_WorthError ne_Unreadable_WorthError
  exact ⟨_, fun s v => .of_eq rfl, fun base _ _ => (ok_law T).imp fun vs H Q E q => q (gm T) rfl⟩
end DF
open PySem PySem.W PyProof.Rows
set_option maxHeartbeats 0 in
theorem PySem.Challenge.cw_keptworths_k55_histories_that_are_none_holds : PySem.Challenge.rw_keptworths_k55_histories_that_are_none.Holds := by
  w_on; o_law; k_head; (case hw => w_witness2)
  k_fill
  refine L2.walk_of (l := PySem.Challenge.rw_keptworths_k55_histories_that_are_none) (n := 63) (k := 6) (x := "script") (CX := fun w => L2.CX PySem.Challenge.rw_keptworths_k55_histories_that_are_none.prog w) (sp := fun _ => DF.spTop _ DF.f_law) rfl (by decide) rfl ⟨rfl, by decide, by decide⟩ (fun w h Y => PySem.W.kIn_of Y) ?F (fun _ _ a ns hl _ hS => DF.top_run DF.law_runs hl hS) (fun _ _ _ _ _ h => DF.cx_none h)
  case F =>
    intro w mg fa h KX G hmg
    refine' DF.all_mk KX G hmg ?a0 ?l0 ?c0 ?k0 ?a1 ?l1 ?c1 ?k1 ?a2 ?l2 ?c2 ?k2 ?a3 ?l3 ?c3 ?k3 ?a4 ?l4 ?c4 ?k4 ?a5 ?l5 ?c5 ?k5 ?a6 ?l6 ?c6 ?k6 ?a7 ?l7 ?c7 ?k7 ?a8 ?l8 ?c8 ?k8 ?a9 ?l9 ?c9 ?k9 ?a10 ?l10 ?c10 ?k10 ?a11 ?l11 ?c11 ?k11 ?a12 ?l12 ?c12 ?k12 ?a13 ?l13 ?c13 ?k13 ?a14 ?l14 ?c14 ?k14 ?a15 ?l15 ?c15 ?k15 ?a16 ?l16 ?c16 ?k16 ?z_abs ?z_all ?z_int ?z_isinstance ?z_len ?z_list ?z_max ?z_min ?z_range ?z_set ?z_tuple ?q_LETTERS ?ca_WorthError ?ca_InvalidDeed ?ca_InvalidName ?ca_Unreadable ?x_Unreadable ?sa_Unreadable ?ga_Unreadable ?gg_Unreadable ?nv_Unreadable ?in_Unreadable ?kc_Unreadable ?eb_Unreadable ?ty_Unreadable ?hd_Unreadable ?ic_Unreadable ?tI ?lI ?cI ?cc_Unreadable ?ge_Unreadable ?tk_Unreadable ?mo_Unreadable ?ic_InvalidDeed ?ty_InvalidDeed ?ic_InvalidName ?ty_InvalidName ?ic_WorthError ?ty_WorthError ?eb_WorthError ?su_Unreadable_InvalidDeed ?ne_Unreadable_InvalidDeed ?su_Unreadable_InvalidName ?ne_Unreadable_InvalidName ?su_Unreadable_Unreadable ?su_Unreadable_WorthError ?ne_Unreadable_WorthError
    (case a0 => first | k_is | rfl)
    (case l0 => first | k_is | rfl)
    (case c0 => first | k_is | rfl)
    (case k0 => first | k_is | rfl)
    (case a1 => first | k_is | rfl)
    (case l1 => first | k_is | rfl)
    (case c1 => first | k_is | rfl)
    (case k1 => first | k_is | rfl)
    (case a2 => first | k_is | rfl)
    (case l2 => first | k_is | rfl)
    (case c2 => first | k_is | rfl)
    (case k2 => first | k_is | rfl)
    (case a3 => first | k_is | rfl)
    (case l3 => first | k_is | rfl)
    (case c3 => first | k_is | rfl)
    (case k3 => first | k_is | rfl)
    (case a4 => first | k_is | rfl)
    (case l4 => first | k_is | rfl)
    (case c4 => first | k_is | rfl)
    (case k4 => first | k_is | rfl)
    (case a5 => first | k_is | rfl)
    (case l5 => first | k_is | rfl)
    (case c5 => first | k_is | rfl)
    (case k5 => first | k_is | rfl)
    (case a6 => first | k_is | rfl)
    (case l6 => first | k_is | rfl)
    (case c6 => first | k_is | rfl)
    (case k6 => first | k_is | rfl)
    (case a7 => first | k_is | rfl)
    (case l7 => first | k_is | rfl)
    (case c7 => first | k_is | rfl)
    (case k7 => first | k_is | rfl)
    (case a8 => first | k_is | rfl)
    (case l8 => first | k_is | rfl)
    (case c8 => first | k_is | rfl)
    (case k8 => first | k_is | rfl)
    (case a9 => first | k_is | rfl)
    (case l9 => first | k_is | rfl)
    (case c9 => first | k_is | rfl)
    (case k9 => first | k_is | rfl)
    (case a10 => first | k_is | rfl)
    (case l10 => first | k_is | rfl)
    (case c10 => first | k_is | rfl)
    (case k10 => first | k_is | rfl)
    (case a11 => first | k_is | rfl)
    (case l11 => first | k_is | rfl)
    (case c11 => first | k_is | rfl)
    (case k11 => first | k_is | rfl)
    (case a12 => first | k_is | rfl)
    (case l12 => first | k_is | rfl)
    (case c12 => first | k_is | rfl)
    (case k12 => first | k_is | rfl)
    (case a13 => first | k_is | rfl)
    (case l13 => first | k_is | rfl)
    (case c13 => first | k_is | rfl)
    (case k13 => first | k_is | rfl)
    (case a14 => first | k_is | rfl)
    (case l14 => first | k_is | rfl)
    (case c14 => first | k_is | rfl)
    (case k14 => first | k_is | rfl)
    (case a15 => first | k_is | rfl)
    (case l15 => first | k_is | rfl)
    (case c15 => first | k_is | rfl)
    (case k15 => first | k_is | rfl)
    (case a16 => first | k_is | rfl)
    (case l16 => first | k_is | rfl)
    (case c16 => first | k_is | rfl)
    (case k16 => first | k_is | rfl)
    (case z_abs => first | k_is | rfl)
    (case z_all => first | k_is | rfl)
    (case z_int => first | k_is | rfl)
    (case z_isinstance => first | k_is | rfl)
    (case z_len => first | k_is | rfl)
    (case z_list => first | k_is | rfl)
    (case z_max => first | k_is | rfl)
    (case z_min => first | k_is | rfl)
    (case z_range => first | k_is | rfl)
    (case z_set => first | k_is | rfl)
    (case z_tuple => first | k_is | rfl)
    (case q_LETTERS => first | k_is | rfl)
    (case ca_WorthError => first | k_is | rfl)
    (case ca_InvalidDeed => first | k_is | rfl)
    (case ca_InvalidName => first | k_is | rfl)
    (case ca_Unreadable => first | k_is | rfl)
    (case x_Unreadable => first | k_is | rfl)
    (case sa_Unreadable => first | k_is | rfl)
    (case ga_Unreadable => first | k_is | rfl)
    (case gg_Unreadable => first | k_is | rfl)
    (case nv_Unreadable => first | k_is | rfl)
    (case in_Unreadable => first | k_is | rfl)
    (case kc_Unreadable => first | k_is | rfl)
    (case eb_Unreadable => first | k_is | rfl)
    (case ty_Unreadable => first | k_is | rfl)
    (case hd_Unreadable => first | k_is | rfl)
    (case ic_Unreadable => first | k_is | rfl)
    (case tI => first | k_is | rfl)
    (case lI => first | k_is | rfl)
    (case cI => first | k_is | rfl)
    (case cc_Unreadable => first | k_is | rfl)
    (case ge_Unreadable => first | k_is | rfl)
    (case tk_Unreadable => first | k_is | rfl)
    (case mo_Unreadable => first | k_is | rfl)
    (case ic_InvalidDeed => first | k_is | rfl)
    (case ty_InvalidDeed => first | k_is | rfl)
    (case ic_InvalidName => first | k_is | rfl)
    (case ty_InvalidName => first | k_is | rfl)
    (case ic_WorthError => first | k_is | rfl)
    (case ty_WorthError => first | k_is | rfl)
    (case eb_WorthError => first | k_is | rfl)
    (case su_Unreadable_InvalidDeed => first | k_is | rfl)
    (case ne_Unreadable_InvalidDeed => first | rfl | decide | k_is)
    (case su_Unreadable_InvalidName => first | k_is | rfl)
    (case ne_Unreadable_InvalidName => first | rfl | decide | k_is)
    (case su_Unreadable_Unreadable => first | k_is | rfl)
    (case su_Unreadable_WorthError => first | k_is | rfl)
    (case ne_Unreadable_WorthError => first | rfl | decide | k_is)
