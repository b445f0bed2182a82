import PyProof.Rows.All
import Wide.All
import OpenK.AllK
import Wide.FinOn
import HandS.ForMost
import HandS.ForExc
import HandS.Deep
import HandS.Walk
import HandS.Wide
import HandS.TupAny
import HandS.TupMul
import HandS.TupLen
import HandS.TupLe
import HandS.Style
import HandS.Small
import HandS.Conv
import HandS.More
import HandS.RaiseMore
import KE.SortData
import HandS.Flt
import HandS.EndBits
import HandS.ExcOwn
import HandS.Rev
import HandS.Zip
import KE.GoesEnum
import HandS.TryOnly
import HandS.IsInst
import PySem.Challenge.RW_wrongcoats_k75_whole_by_when_it_is_too_l
set_option Elab.async false
set_option linter.all false
set_option maxRecDepth 100000
set_option maxHeartbeats 4000000
/-! Pw, part A: data read off the abstract heap, slots with owners, the state predicate Good. -/
namespace Pw
open PySem PySem.Spec PyProof.Rows L2

abbrev D := PyData
def sOk (x : Str) : Bool := PyData.strOk x && decide (x.length ≤ sizeLine)
theorem sOk.st {x : Str} (h : sOk x = true) : PyData.strOk x = true := ((Bool.and_eq_true _ _).mp h).1
theorem sOk.ln {x : Str} (h : sOk x = true) : x.length ≤ sizeLine := of_decide_eq_true ((Bool.and_eq_true _ _).mp h).2
theorem sOk.mk {x : Str} (h : PyData.strOk x = true) (l : x.length ≤ sizeLine) : sOk x = true := (Bool.and_eq_true _ _).mpr ⟨h, decide_eq_true l⟩
def kD : Key → D
  | .inl i => .int i
  | .inr x => .str x
def kOk : Key → Bool
  | .inl _ => true
  | .inr x => sOk x

mutual
inductive Rp (K : PySem.W.Frag) (H : Hp) : V → D → Prop
  | non : Rp K H .non .none
  | bl (b : Bool) : Rp K H (.bl b) (.bool b)
  | int (i : Int) : Rp K H (.int i) (.int i)
  | str (x : Str) : sOk x = true → Rp K H (.str x) (.str x)
  | lst {a : Addr} {xs : List V} {ds : List D} : H a = some (.lst xs) → ds.length ≤ sizeLine → RpA K H xs ds → Rp K H (.ref a) (.list ds)
  | tup {a : Addr} {xs : List V} {ds : List D} : SqT K H a xs → ds.length ≤ sizeLine → RpA K H xs ds → Rp K H (.ref a) (.tuple ds)
  | dK {a : Addr} {kvs : List (Key × V)} {ds : List (D × D)} : H a = some (.dK kvs) → ds.length ≤ sizeLine → RpK K H kvs ds → Rp K H (.ref a) (.dict ds)
  | dT {a : Addr} {kvs : List (List Key × V)} {ds : List (D × D)} : H a = some (.dT kvs) → ds.length ≤ sizeLine → RpT K H kvs ds → Rp K H (.ref a) (.dict ds)
inductive RpA (K : PySem.W.Frag) (H : Hp) : List V → List D → Prop
  | nil : RpA K H [] []
  | cons {v : V} {vs : List V} {d : D} {ds : List D} : Rp K H v d → RpA K H vs ds → RpA K H (v :: vs) (d :: ds)
inductive RpK (K : PySem.W.Frag) (H : Hp) : List (Key × V) → List (D × D) → Prop
  | nil : RpK K H [] []
  | cons {k : Key} {v : V} {vs : List (Key × V)} {d : D} {ds : List (D × D)} : kOk k = true → Rp K H v d → RpK K H vs ds → RpK K H ((k, v) :: vs) ((kD k, d) :: ds)
inductive RpT (K : PySem.W.Frag) (H : Hp) : List (List Key × V) → List (D × D) → Prop
  | nil : RpT K H [] []
  | cons {k : List Key} {v : V} {vs : List (List Key × V)} {d : D} {ds : List (D × D)} : k.all kOk = true → Rp K H v d → RpT K H vs ds → RpT K H ((k, v) :: vs) ((.tuple (k.map kD), d) :: ds)
end

/-- one heap within another -/
def Le (H H' : Hp) : Prop := ∀ a o, H a = some o → H' a = some o
theorem Le.refl {H : Hp} : Le H H := fun _ _ e => e
theorem Le.trans {A B C : Hp} (h : Le A B) (h' : Le B C) : Le A C := fun a o e => h' a o (h a o e)
theorem Le.rd {A B : Hp} (h : Le A B) {a : Addr} {u : HO} (r : Rd A a u) : Rd B a u := by
  rcases r with r | ⟨o, r⟩
  · exact .inl (h _ _ r)
  · exact .inr ⟨o, h _ _ r⟩
theorem Le.sqL {K : PySem.W.Frag} {A B : Hp} (h : Le A B) {a : Addr} {xs : List V} (r : SqL K A a xs) : SqL K B a xs := by
  rcases r with r | r
  · exact .inl (h.rd r)
  · exact .inr r
theorem Le.sqT {K : PySem.W.Frag} {A B : Hp} (h : Le A B) {a : Addr} {xs : List V} (r : SqT K A a xs) : SqT K B a xs := by
  rcases r with r | r
  · exact .inl (h.rd r)
  · exact .inr r
theorem Le.upd {A B : Hp} (h : Le A B) {p : Addr} {o : HO} (n : A p = none) : Le A (upd B p o) := fun a u e => by
  rw [upd_ne (ne_of_none e n)]; exact h a u e
theorem Le.upd2 {A B : Hp} (h : Le A B) {p : Addr} {o : HO} : Le (L2.upd A p o) (L2.upd B p o) := fun a u e => by
  by_cases q : a = p
  · subst q; rw [upd_same] at e ⊢; exact e
  · rw [upd_ne q] at e ⊢; exact h a u e
theorem Le.to_upd {A : Hp} {p : Addr} {o : HO} (n : A p = none) : Le A (L2.upd A p o) := Le.refl.upd n

mutual
theorem Rp.mono {K : PySem.W.Frag} {A B : Hp} (h : Le A B) : ∀ (d : D) (v : V), Rp K A v d → Rp K B v d
  | .none, _, r => by cases r; exact .non
  | .bool b, _, r => by cases r; exact .bl b
  | .int i, _, r => by cases r; exact .int i
  | .str x, _, r => by cases r with | str _ q => exact .str x q
  | .list ds, _, r => by cases r with | lst a b c => exact .lst (h _ _ a) b (RpA.mono h _ _ c)
  | .tuple ds, _, r => by cases r with | tup a b c => exact .tup (h.sqT a) b (RpA.mono h _ _ c)
  | .dict ds, _, r => by
    cases r with
    | dK a b c => exact .dK (h _ _ a) b (RpK.mono h _ _ c)
    | dT a b c => exact .dT (h _ _ a) b (RpT.mono h _ _ c)
theorem RpA.mono {K : PySem.W.Frag} {A B : Hp} (h : Le A B) : ∀ (ds : List D) (vs : List V), RpA K A vs ds → RpA K B vs ds
  | [], _, r => by cases r; exact .nil
  | d :: ds, _, r => by cases r with | cons a b => exact .cons (Rp.mono h _ _ a) (RpA.mono h _ _ b)
theorem RpK.mono {K : PySem.W.Frag} {A B : Hp} (h : Le A B) : ∀ (ds : List (D × D)) (vs : List (Key × V)), RpK K A vs ds → RpK K B vs ds
  | [], _, r => by cases r; exact .nil
  | d :: ds, _, r => by cases r with | cons k a b => exact .cons k (Rp.mono h _ _ a) (RpK.mono h _ _ b)
theorem RpT.mono {K : PySem.W.Frag} {A B : Hp} (h : Le A B) : ∀ (ds : List (D × D)) (vs : List (List Key × V)), RpT K A vs ds → RpT K B vs ds
  | [], _, r => by cases r; exact .nil
  | d :: ds, _, r => by cases r with | cons k a b => exact .cons k (Rp.mono h _ _ a) (RpT.mono h _ _ b)
end
section
variable {K : PySem.W.Frag} {H : Hp}
theorem RpA.length : ∀ {vs : List V} {ds : List D}, RpA K H vs ds → vs.length = ds.length
  | _, _, .nil => rfl
  | _, _, .cons _ t => by simp only [List.length_cons, RpA.length t]
theorem RpK.length : ∀ {vs : List (Key × V)} {ds : List (D × D)}, RpK K H vs ds → vs.length = ds.length
  | _, _, .nil => rfl
  | _, _, .cons _ _ t => by simp only [List.length_cons, RpK.length t]
theorem RpA.app : ∀ {vs ws : List V} {ds es : List D}, RpA K H vs ds → RpA K H ws es → RpA K H (vs ++ ws) (ds ++ es)
  | _, _, _, _, .nil, s => s
  | _, _, _, _, .cons a t, s => .cons a (RpA.app t s)
theorem RpA.get : ∀ {vs : List V} {ds : List D} {i : Nat} {d : D}, RpA K H vs ds → ds[i]? = some d → ∃ v, vs[i]? = some v ∧ Rp K H v d
  | _, _, i, d, .nil, e => by simp at e
  | _, _, 0, d, .cons a t, e => by simp at e; subst e; exact ⟨_, rfl, a⟩
  | _, _, i + 1, d, .cons a t, e => by
    obtain ⟨v, h1, h2⟩ := RpA.get (i := i) t (by simpa using e)
    exact ⟨v, by simpa using h1, h2⟩
theorem RpA.getV : ∀ {vs : List V} {ds : List D} {i : Nat} {v : V}, RpA K H vs ds → vs[i]? = some v → ∃ d, ds[i]? = some d ∧ Rp K H v d
  | _, _, i, d, .nil, e => by simp at e
  | _, _, 0, d, .cons a t, e => by simp at e; subst e; exact ⟨_, rfl, a⟩
  | _, _, i + 1, d, .cons a t, e => by
    obtain ⟨v, h1, h2⟩ := RpA.getV (i := i) t (by simpa using e)
    exact ⟨v, by simpa using h1, h2⟩
theorem RpA.take (n : Nat) : ∀ {vs : List V} {ds : List D}, RpA K H vs ds → RpA K H (vs.take n) (ds.take n) := by
  induction n with
  | zero => intro _ _ _; simpa using RpA.nil
  | succ n ih =>
    intro vs ds r
    cases r with
    | nil => simpa using RpA.nil
    | cons a t => simpa using RpA.cons a (ih t)
theorem RpA.drop (n : Nat) : ∀ {vs : List V} {ds : List D}, RpA K H vs ds → RpA K H (vs.drop n) (ds.drop n) := by
  induction n with
  | zero => intro _ _ r; simpa using r
  | succ n ih =>
    intro vs ds r
    cases r with
    | nil => simpa using RpA.nil
    | cons a t => simpa using ih t
theorem RpA.rev : ∀ {vs : List V} {ds : List D}, RpA K H vs ds → RpA K H vs.reverse ds.reverse
  | _, _, .nil => .nil
  | _, _, .cons a t => by rw [List.reverse_cons, List.reverse_cons]; exact RpA.app (RpA.rev t) (.cons a .nil)
theorem RpA.set {v : V} {d : D} (q : Rp K H v d) : ∀ {vs : List V} {ds : List D} (n : Nat), RpA K H vs ds → RpA K H (vs.set n v) (ds.set n d)
  | _, _, n, .nil => .nil
  | _, _, 0, .cons a t => .cons q t
  | _, _, n + 1, .cons a t => .cons a (RpA.set q n t)
end
/-- the values are determined by the data, but for places -/
def noDict : D → Bool
  | .dict _ => false
  | .list xs => xs.attach.all fun ⟨x, _⟩ => noDict x
  | .tuple xs => xs.attach.all fun ⟨x, _⟩ => noDict x
  | _ => true
end Pw
/-! Pw, part B: slots with owners, the state predicate Good. -/
namespace Pw
open PySem PySem.Spec PyProof.Rows L2

inductive Fl
  | d (x : D)
  | ol (xs : List D)
  | od (t : Bool) (kvs : List (D × D))
inductive Sl
  | d (x : D)
  | ol (z : Option Nat) (xs : List D)
  | od (z : Option Nat) (t : Bool) (kvs : List (D × D))
  | oi (z : Option Nat) (C : Str) (fs : List (Str × Fl))
  | raw (v : V)
  | scr (ns : List Int)
  | ali (i : Nat)
abbrev Envr := List (Option Sl)
inductive Root
  | s (i : Nat)
  | t (n : Nat)
  deriving DecidableEq
structure Own where
  root : Root
  fld : Str
  deriving DecidableEq
/-- fixed through a body: the written part, the classes' places, the heap and what is shared at the entry, what may change -/
structure Zx where
  K : PySem.W.Frag
  cls : Str → Addr
  H0 : Hp
  S0 : Hp
  io : Addr → Prop
  top : Nat → Option Addr
abbrev OM := Addr → Option Own
def OM.cut (O : OM) (p : Addr) : OM := fun b => if b = p then none else O b
def OM.put (O : OM) (p : Addr) (o : Own) : OM := fun b => if b = p then some o else O b
theorem OM.cut_same {O : OM} {p : Addr} : O.cut p p = none := if_pos rfl
theorem OM.cut_ne {O : OM} {p b : Addr} (h : b ≠ p) : O.cut p b = O b := if_neg h
theorem OM.put_same {O : OM} {p : Addr} {o : Own} : O.put p o p = some o := if_pos rfl
theorem OM.put_ne {O : OM} {p b : Addr} {o : Own} (h : b ≠ p) : O.put p o b = O b := if_neg h

def DicR (K : PySem.W.Frag) (S H : Hp) (p : Addr) (t : Bool) (kvs : List (D × D)) : Prop :=
  kvs.length ≤ sizeLine ∧ if t = true then ∃ k, H p = some (.dT k) ∧ RpT K S k kvs else ∃ k, H p = some (.dK k) ∧ RpK K S k kvs
def LstR (K : PySem.W.Frag) (S H : Hp) (p : Addr) (xs : List D) : Prop := xs.length ≤ sizeLine ∧ ∃ vs, H p = some (.lst vs) ∧ RpA K S vs xs
def FlR (K : PySem.W.Frag) (S H : Hp) (O : OM) (r : Root) (f : Str) (v : V) : Fl → Prop
  | .d x => Rp K S v x
  | .ol xs => ∃ p, v = .ref p ∧ O p = some ⟨r, f⟩ ∧ LstR K S H p xs
  | .od t kvs => ∃ p, v = .ref p ∧ O p = some ⟨r, f⟩ ∧ DicR K S H p t kvs
inductive FlsR (K : PySem.W.Frag) (S H : Hp) (O : OM) (r : Root) : List (Str × V) → List (Str × Fl) → Prop
  | nil : FlsR K S H O r [] []
  | cons {f : Str} {v : V} {x : Fl} {vs : List (Str × V)} {fs : List (Str × Fl)} : f ≠ Str.empty → FlR K S H O r f v x → FlsR K S H O r vs fs → FlsR K S H O r ((f, v) :: vs) ((f, x) :: fs)
def zOk (Z : Zx) (z : Option Nat) (p : Addr) : Prop :=
  match z with
  | none => Z.H0 p = none
  | some k => Z.top k = some p ∧ Z.io p
def SlR (Z : Zx) (S H : Hp) (O : OM) (r : Root) (v : V) : Sl → Prop
  | .d x => Rp Z.K S v x
  | .ol z xs => ∃ p, v = .ref p ∧ O p = some ⟨r, Str.empty⟩ ∧ LstR Z.K S H p xs ∧ zOk Z z p
  | .od z t kvs => ∃ p, v = .ref p ∧ O p = some ⟨r, Str.empty⟩ ∧ DicR Z.K S H p t kvs ∧ zOk Z z p
  | .oi z C fs => ∃ p dx fvs, v = .ref p ∧ O p = some ⟨r, Str.empty⟩ ∧ H p = some (.ins (Z.cls C) dx fvs) ∧ FlsR Z.K S H O r fvs fs ∧ (fs.map (·.1)).Nodup ∧ zOk Z z p
  | .raw w => v = w
  | .scr ns => ∃ a, v = .ref a ∧ SqL Z.K S a (ns.map V.int) ∧ ns.length ≤ 63
  | .ali _ => False
section
variable {K : PySem.W.Frag} {S S' H H' : Hp} {O O' : OM} {r r' : Root} {v : V} {p : Addr}
theorem DicR.mv {t : Bool} {kvs : List (D × D)} (hS : Le S S') (hp : ∀ o, H p = some o → H' p = some o) (h : DicR K S H p t kvs) : DicR K S' H' p t kvs := by
  obtain ⟨l, h⟩ := h
  refine ⟨l, ?_⟩
  cases t with
  | true =>
    rw [if_pos rfl] at h ⊢
    obtain ⟨k, a, b⟩ := h
    exact ⟨k, hp _ a, RpT.mono hS _ _ b⟩
  | false =>
    rw [if_neg (by decide)] at h ⊢
    obtain ⟨k, a, b⟩ := h
    exact ⟨k, hp _ a, RpK.mono hS _ _ b⟩
theorem LstR.mv {xs : List D} (hS : Le S S') (hp : ∀ o, H p = some o → H' p = some o) (h : LstR K S H p xs) : LstR K S' H' p xs := by
  obtain ⟨l, vs, a, b⟩ := h
  exact ⟨l, vs, hp _ a, RpA.mono hS _ _ b⟩
theorem FlR.mv {f : Str} {x : Fl} (hS : Le S S') (hO : ∀ q f o, O q = some ⟨r, f⟩ → H q = some o → O' q = some ⟨r', f⟩ ∧ H' q = some o) (h : FlR K S H O r f v x) : FlR K S' H' O' r' f v x := by
  cases x with
  | d x => exact Rp.mono hS _ _ h
  | ol xs =>
    obtain ⟨p, e, o, l, vs, hp, ra⟩ := h
    exact ⟨p, e, (hO p f _ o hp).1, l, vs, (hO p f _ o hp).2, RpA.mono hS _ _ ra⟩
  | od t kvs =>
    obtain ⟨p, e, o, dr⟩ := h
    have hx : ∃ u, H p = some u := by
      obtain ⟨_, h⟩ := id dr
      cases t with
      | true => rw [if_pos rfl] at h; obtain ⟨k, a, _⟩ := h; exact ⟨_, a⟩
      | false => rw [if_neg (by decide)] at h; obtain ⟨k, a, _⟩ := h; exact ⟨_, a⟩
    obtain ⟨u, hu⟩ := hx
    exact ⟨p, e, (hO p f _ o hu).1, dr.mv hS fun w hw => (hO p f _ o hw).2⟩
theorem FlsR.mv (hS : Le S S') (hO : ∀ q f o, O q = some ⟨r, f⟩ → H q = some o → O' q = some ⟨r', f⟩ ∧ H' q = some o) : ∀ {vs : List (Str × V)} {fs : List (Str × Fl)}, FlsR K S H O r vs fs → FlsR K S' H' O' r' vs fs
  | _, _, .nil => .nil
  | _, _, .cons n a t => .cons n (FlR.mv hS hO a) (FlsR.mv hS hO t)
theorem DicR.there {t : Bool} {kvs : List (D × D)} (dr : DicR K S H p t kvs) : ∃ u, H p = some u := by
  obtain ⟨_, h⟩ := dr
  cases t with
  | true => rw [if_pos rfl] at h; obtain ⟨k, a, _⟩ := h; exact ⟨_, a⟩
  | false => rw [if_neg (by decide)] at h; obtain ⟨k, a, _⟩ := h; exact ⟨_, a⟩
end
theorem SlR.mv {Z : Zx} {S S' H H' : Hp} {O O' : OM} {r r' : Root} {v : V} {sl : Sl} (hS : Le S S') (hO : ∀ q f o, O q = some ⟨r, f⟩ → H q = some o → O' q = some ⟨r', f⟩ ∧ H' q = some o) (h : SlR Z S H O r v sl) : SlR Z S' H' O' r' v sl := by
  cases sl with
  | d x => exact Rp.mono hS _ _ h
  | ol z xs =>
    obtain ⟨p, e, o, ⟨l, vs, hp, ra⟩, z⟩ := h
    exact ⟨p, e, (hO p _ _ o hp).1, ⟨l, vs, (hO p _ _ o hp).2, RpA.mono hS _ _ ra⟩, z⟩
  | od z t kvs =>
    obtain ⟨p, e, o, dr, z⟩ := h
    obtain ⟨u, hu⟩ := dr.there
    exact ⟨p, e, (hO p _ _ o hu).1, dr.mv hS fun w hw => (hO p _ _ o hw).2, z⟩
  | oi z C fs =>
    obtain ⟨p, dx, fvs, e, o, hp, fr, nd, z⟩ := h
    exact ⟨p, dx, fvs, e, (hO p _ _ o hp).1, (hO p _ _ o hp).2, fr.mv hS hO, nd, z⟩
  | raw w => exact h
  | scr ns => obtain ⟨a, e, q, l⟩ := h; exact ⟨a, e, hS.sqL q, l⟩
  | ali i => exact h

/-- the temporaries: each with its place from below; an alias has its slot's value -/
def TmpR (Z : Zx) (S H : Hp) (O : OM) (σ : L2.St) (n : Nat) (v : V) : Sl → Prop
  | .ali i => σ[i]? = some (some v)
  | sl => SlR Z S H O (.t n) v sl
def TmpsR (Z : Zx) (S H : Hp) (O : OM) (σ : L2.St) : List V → List Sl → Prop
  | [], [] => True
  | v :: vs, sl :: ts => TmpR Z S H O σ ts.length v sl ∧ TmpsR Z S H O σ vs ts
  | _, _ => False
theorem TmpR.mv {Z : Zx} {S S' H H' : Hp} {O O' : OM} {σ σ' : L2.St} {n n' : Nat} {v : V} {sl : Sl} (hS : Le S S') (hσ : ∀ i, sl = .ali i → σ[i]? = some (some v) → σ'[i]? = some (some v))
    (hO : ∀ q f o, O q = some ⟨.t n, f⟩ → H q = some o → O' q = some ⟨.t n', f⟩ ∧ H' q = some o) (h : TmpR Z S H O σ n v sl) : TmpR Z S' H' O' σ' n' v sl := by
  cases sl with
  | ali i => exact hσ i rfl h
  | d x => exact SlR.mv (sl := .d x) hS hO h
  | ol z xs => exact SlR.mv (sl := .ol z xs) hS hO h
  | od z t kvs => exact SlR.mv (sl := .od z t kvs) hS hO h
  | oi z C fs => exact SlR.mv (sl := .oi z C fs) hS hO h
  | raw w => exact h
  | scr ns => exact SlR.mv (sl := .scr ns) (r := .t n) (r' := .t n') hS hO h
theorem TmpsR.mv {Z : Zx} {S S' H H' : Hp} {O O' : OM} {σ σ' : L2.St} (hS : Le S S') : ∀ {vs : List V} {ts : List Sl}, (∀ i v, .ali i ∈ ts → σ[i]? = some (some v) → σ'[i]? = some (some v)) →
    (∀ n, n < ts.length → ∀ q f o, O q = some ⟨.t n, f⟩ → H q = some o → O' q = some ⟨.t n, f⟩ ∧ H' q = some o) → TmpsR Z S H O σ vs ts → TmpsR Z S' H' O' σ' vs ts
  | [], [], _, _, h => trivial
  | v :: vs, sl :: ts, hσ, hO, h => ⟨TmpR.mv hS (fun i e => by subst e; exact hσ i v List.mem_cons_self) (hO ts.length (Nat.lt_succ_self _)) h.1,
      TmpsR.mv hS (fun i v hm => hσ i v (List.mem_cons_of_mem _ hm)) (fun n hn => hO n (Nat.lt_succ_of_lt hn)) h.2⟩
  | [], _ :: _, _, _, h => h.elim
  | _ :: _, [], _, _, h => h.elim
theorem TmpsR.length {Z : Zx} {S H : Hp} {O : OM} {σ : L2.St} : ∀ {vs : List V} {ts : List Sl}, TmpsR Z S H O σ vs ts → vs.length = ts.length
  | [], [], _ => rfl
  | v :: vs, sl :: ts, h => by simp only [List.length_cons, TmpsR.length h.2]
  | [], _ :: _, h => h.elim
  | _ :: _, [], h => h.elim

structure GoodX (Z : Zx) (S : Hp) (O : OM) (vs : List V) (ts : List Sl) (σ : L2.St) (ρ : Envr) (H : Hp) : Prop where
  le : Le S H
  own : ∀ p o, O p = some o → S p = none ∧ (Z.H0 p = none ∨ Z.io p)
  liv : ∀ p o, O p = some o → ∃ u, H p = some u
  env : ∀ (i : Nat) sl, ρ[i]? = some (some sl) → ∃ v, σ[i]? = some (some v) ∧ SlR Z S H O (.s i) v sl
  tmp : TmpsR Z S H O σ vs ts
  keep : ∀ b o, Z.H0 b = some o → ¬ Z.io b → H b = some o
  sh0 : Le Z.S0 S
  shf : ∀ b, S b ≠ none → Z.S0 b ≠ none ∨ Z.H0 b = none
  iol : ∀ b, Z.io b → ∃ o, H b = some o
  len : ρ.length = σ.length
def Good (Z : Zx) (vs : List V) (ts : List Sl) (σ : L2.St) (ρ : Envr) (H : Hp) : Prop := ∃ S O, GoodX Z S O vs ts σ ρ H

section
variable {Z : Zx} {S S' H H' : Hp} {O O' : OM} {vs ws : List V} {ts us : List Sl} {σ σ' : L2.St} {ρ ρ' : Envr} {v w : V} {sl : Sl} {p : Addr} {o : HO} {x : D}
/-- the general step: what is owned by any live place stays -/
theorem GoodX.mv (G : GoodX Z S O vs ts σ ρ H) (hS : Le S S') (hle : Le S' H') (hown : ∀ p o, O' p = some o → S' p = none ∧ (Z.H0 p = none ∨ Z.io p))
    (hO : ∀ q w o, O q = some w → H q = some o → O' q = some w ∧ H' q = some o) (hk : ∀ b o, Z.H0 b = some o → ¬ Z.io b → H' b = some o) (hf : ∀ b, S' b ≠ none → Z.S0 b ≠ none ∨ Z.H0 b = none) (hi : ∀ b, Z.io b → ∃ o, H' b = some o) (hl : ∀ p o, O' p = some o → ∃ u, H' p = some u) : GoodX Z S' O' vs ts σ ρ H' :=
  ⟨hle, hown, hl, fun i sl e => let ⟨v, h1, h2⟩ := G.env i sl e; ⟨v, h1, h2.mv hS fun q f o a b => hO q _ o a b⟩, G.tmp.mv hS (fun _ _ _ h => h) (fun n _ q f o a b => hO q _ o a b), hk, G.sh0.trans hS, hf, hi, G.len⟩
/-- a new object, tracked -/
theorem GoodX.grow (G : GoodX Z S O vs ts σ ρ H) (n : H p = none) : GoodX Z S (O.cut p) vs ts σ ρ (upd H p o) := by
  have nS : S p = none := by
    cases e : S p with
    | none => rfl
    | some u => have := G.le _ _ e; rw [n] at this; cases this
  refine G.mv Le.refl (G.le.upd nS) (fun q w e => ?_) (fun q w u e h => ?_) (fun b u e h => ?_) G.shf (fun b hb => ?_) fun q w e => ?_
  · by_cases z : q = p
    · subst z; rw [OM.cut_same] at e; cases e
    · rw [OM.cut_ne z] at e; exact G.own q w e
  · have z : q ≠ p := ne_of_none h n
    exact ⟨by rw [OM.cut_ne z]; exact e, by rw [upd_ne z]; exact h⟩
  · have q := G.keep b u e h
    rw [upd_ne (ne_of_none q n)]; exact q
  · obtain ⟨u, e⟩ := G.iol b hb
    exact ⟨u, by rw [upd_ne (ne_of_none e n)]; exact e⟩
  · by_cases z : q = p
    · subst z; exact ⟨_, upd_same⟩
    · rw [OM.cut_ne z] at e; rw [upd_ne z]; exact G.liv q w e
/-- an object nobody owns becomes shared -/
theorem GoodX.share (G : GoodX Z S O vs ts σ ρ H) (hp : H p = some o) (h0 : Z.H0 p = none) (ho : O p = none) : GoodX Z (upd S p o) O vs ts σ ρ H := by
  have l : Le S (upd S p o) := fun b u e => by
    by_cases z : b = p
    · subst z
      have := G.le _ _ e
      rw [hp] at this; cases this
      exact upd_same
    · rw [upd_ne z]; exact e
  refine G.mv l (fun b u e => ?_) (fun q w e => ?_) (fun q w u e h => ⟨e, h⟩) G.keep (fun b h => ?_) G.iol G.liv
  · by_cases z : b = p
    · subst z; rw [upd_same] at e; rw [hp]; exact e
    · rw [upd_ne z] at e; exact G.le _ _ e
  · have z : q ≠ p := fun z => by subst z; rw [ho] at e; cases e
    rw [upd_ne z]; exact G.own q w e
  · by_cases z : b = p
    · subst z; exact .inr h0
    · rw [upd_ne z] at h; exact G.shf b h
theorem GoodX.noio (G : GoodX Z S O vs ts σ ρ H) (n : H p = none) : ¬ Z.io p := fun h => by
  obtain ⟨u, e⟩ := G.iol p h
  rw [n] at e; cases e
theorem GoodX.fresh0 (G : GoodX Z S O vs ts σ ρ H) (n : H p = none) : Z.H0 p = none := by
  cases e : Z.H0 p with
  | none => rfl
  | some u => have := G.keep p u e (G.noio n); rw [n] at this; cases this
theorem GoodX.pop (G : GoodX Z S O (v :: vs) (sl :: ts) σ ρ H) : GoodX Z S O vs ts σ ρ H := ⟨G.le, G.own, G.liv, G.env, G.tmp.2, G.keep, G.sh0, G.shf, G.iol, G.len⟩
theorem GoodX.push (G : GoodX Z S O vs ts σ ρ H) (h : TmpR Z S H O σ ts.length v sl) : GoodX Z S O (v :: vs) (sl :: ts) σ ρ H := ⟨G.le, G.own, G.liv, G.env, ⟨h, G.tmp⟩, G.keep, G.sh0, G.shf, G.iol, G.len⟩
theorem GoodX.pushD (G : GoodX Z S O vs ts σ ρ H) (h : Rp Z.K S v x) : GoodX Z S O (v :: vs) (.d x :: ts) σ ρ H := G.push h
theorem Good.pop (G : Good Z (v :: vs) (sl :: ts) σ ρ H) : Good Z vs ts σ ρ H := let ⟨S, O, G⟩ := G; ⟨S, O, G.pop⟩
theorem GoodX.popN : ∀ {ws : List V} {us : List Sl}, ws.length = us.length → GoodX Z S O (ws ++ vs) (us ++ ts) σ ρ H → GoodX Z S O vs ts σ ρ H
  | [], [], _, G => G
  | _ :: _, _ :: _, e, G => GoodX.popN (by simpa using e) G.pop
  | [], _ :: _, e, _ => by simp at e
  | _ :: _, [], e, _ => by simp at e
end
end Pw
/-! Pw, part C: the steps of the state. -/
namespace Pw
open PySem PySem.Spec PyProof.Rows L2

def OM.drop (O : OM) (r : Root) : OM := fun b => match O b with
  | some w => if w.root = r then none else some w
  | none => none
theorem OM.drop_some {O : OM} {r : Root} {b : Addr} {w : Own} (h : O.drop r b = some w) : O b = some w ∧ w.root ≠ r := by
  unfold OM.drop at h
  split at h
  · rename_i u e
    split at h
    · cases h
    · rename_i n; cases h; exact ⟨e, n⟩
  · cases h
theorem OM.drop_of {O : OM} {r : Root} {b : Addr} {w : Own} (h : O b = some w) (n : w.root ≠ r) : O.drop r b = some w := by
  unfold OM.drop; rw [h]; exact if_neg n
theorem OM.drop_none {O : OM} {r : Root} {b : Addr} {f : Str} (h : O b = some ⟨r, f⟩) : O.drop r b = none := by
  unfold OM.drop; rw [h]; exact if_pos rfl
/-- r becomes r', what r' had is dropped -/
def OM.ren (O : OM) (r r' : Root) : OM := fun b => match O b with
  | some w => if w.root = r then some ⟨r', w.fld⟩ else if w.root = r' then none else some w
  | none => none
theorem OM.ren_at {O : OM} {r r' : Root} {b : Addr} {f : Str} (h : O b = some ⟨r, f⟩) : O.ren r r' b = some ⟨r', f⟩ := by
  unfold OM.ren; rw [h]; exact if_pos rfl
theorem OM.ren_ne {O : OM} {r r' : Root} {b : Addr} {w : Own} (h : O b = some w) (n : w.root ≠ r) (n' : w.root ≠ r') : O.ren r r' b = some w := by
  unfold OM.ren; rw [h]; simp only [if_neg n, if_neg n']
theorem OM.ren_some {O : OM} {r r' : Root} {b : Addr} {w : Own} (h : O.ren r r' b = some w) : ∃ u, O b = some u := by
  unfold OM.ren at h
  split at h
  · rename_i u e; exact ⟨u, e⟩
  · cases h

def noAli : List Sl → Prop := fun ts => ∀ i, Sl.ali i ∉ ts
section
variable {Z : Zx} {S S' H H' : Hp} {O O' : OM} {vs ws : List V} {ts us : List Sl} {σ σ' : L2.St} {ρ ρ' : Envr} {v w : V} {sl : Sl} {p : Addr} {o : HO} {x : D} {i : Nat}

theorem TmpsR.lt {n : Nat} : ∀ {vs : List V} {ts : List Sl}, TmpsR Z S H O σ vs ts → True := fun _ => trivial

/-- forget a slot -/
theorem GoodX.forget (G : GoodX Z S O vs ts σ ρ H) (i : Nat) : GoodX Z S (O.drop (.s i)) vs ts σ (ρ.set i none) H := by
  refine ⟨G.le, fun p w e => G.own p w (OM.drop_some e).1, fun p w e => G.liv p w (OM.drop_some e).1, fun j sl e => ?_, G.tmp.mv Le.refl (fun _ _ _ h => h) fun n _ q f u a b => ⟨OM.drop_of a (by intro z; cases z), b⟩, G.keep, G.sh0, G.shf, G.iol, by rw [List.length_set]; exact G.len⟩
  by_cases h : i = j
  · subst h
    rw [List.getElem?_set_self' ] at e
    cases hq : ρ[i]? with
    | none => rw [hq] at e; cases e
    | some u => rw [hq] at e; cases e
  · rw [List.getElem?_set_ne h] at e
    obtain ⟨v, h1, h2⟩ := G.env j sl e
    exact ⟨v, h1, h2.mv Le.refl fun q f u a b => ⟨OM.drop_of a (by intro z; exact h (Root.s.inj z).symm), b⟩⟩
/-- a slot's word is set anew -/
theorem GoodX.setEnv (G : GoodX Z S O vs ts σ ρ H) (hv : σ[i]? = some (some v)) (h : SlR Z S H O (.s i) v sl) : GoodX Z S O vs ts σ (ρ.set i (some sl)) H := by
  refine ⟨G.le, G.own, G.liv, fun j sl' e => ?_, G.tmp, G.keep, G.sh0, G.shf, G.iol, by rw [List.length_set]; exact G.len⟩
  by_cases q : i = j
  · subst q
    rw [List.getElem?_set_self'] at e
    cases hq : ρ[i]? with
    | none => rw [hq] at e; cases e
    | some u => rw [hq] at e; cases e; exact ⟨v, hv, h⟩
  · rw [List.getElem?_set_ne q] at e
    exact G.env j sl' e
/-- drop what a root owns -/
theorem GoodX.dropT (G : GoodX Z S O vs ts σ ρ H) : GoodX Z S (O.drop (.t ts.length)) vs ts σ ρ H := by
  refine ⟨G.le, fun p w e => G.own p w (OM.drop_some e).1, fun p w e => G.liv p w (OM.drop_some e).1, fun j sl e => ?_, G.tmp.mv Le.refl (fun _ _ _ h => h) fun n hn q f u a b => ⟨OM.drop_of a (by intro z; exact absurd (Root.t.inj z) (Nat.ne_of_lt hn)), b⟩, G.keep, G.sh0, G.shf, G.iol, G.len⟩
  obtain ⟨v, h1, h2⟩ := G.env j sl e
  exact ⟨v, h1, h2.mv Le.refl fun q f u a b => ⟨OM.drop_of a (by intro z; cases z), b⟩⟩
/-- a slot is bound to the last temporary -/
theorem GoodX.bind (G : GoodX Z S O (v :: vs) (sl :: ts) σ ρ H) (hi : i < σ.length) (hs0 : ∀ j, sl ≠ .ali j) (ha : Sl.ali i ∉ ts) : GoodX Z S (O.ren (.t ts.length) (.s i)) vs ts (σ.set i (some v)) (ρ.set i (some sl)) H := by
  have ht : TmpR Z S H O σ ts.length v sl := G.tmp.1
  have hs : SlR Z S H O (.t ts.length) v sl := by
    cases sl with
    | ali j => exact absurd rfl (hs0 j)
    | d x => exact ht
    | ol z xs => exact ht
    | od z t kvs => exact ht
    | oi z C fs => exact ht
    | raw u => exact ht
    | scr u => exact ht
  refine ⟨G.le, fun p w e => ?_, fun p w e => ?_, fun j sl' e => ?_, G.tmp.2.mv Le.refl (fun k u hk e => by rw [List.getElem?_set_ne (fun z => by subst z; exact ha hk)]; exact e) fun n hn q f u a b => ⟨OM.ren_ne a (by intro z; exact absurd (Root.t.inj z) (Nat.ne_of_lt hn)) (by intro z; cases z), b⟩, G.keep, G.sh0, G.shf, G.iol, by rw [List.length_set, List.length_set]; exact G.len⟩
  · obtain ⟨u, hu⟩ := OM.ren_some e
    exact G.own p u hu
  · obtain ⟨u, hu⟩ := OM.ren_some e
    exact G.liv p u hu
  · by_cases q : i = j
    · subst q
      rw [List.getElem?_set_self (by rw [G.len]; exact hi)] at e
      cases e
      exact ⟨v, by rw [List.getElem?_set_self hi], hs.mv Le.refl fun q f u a b => ⟨OM.ren_at a, b⟩⟩
    · rw [List.getElem?_set_ne q] at e
      obtain ⟨u, h1, h2⟩ := G.env j sl' e
      exact ⟨u, by rw [List.getElem?_set_ne q]; exact h1, h2.mv Le.refl fun q' f u a b => ⟨OM.ren_ne a (by intro z; cases z) (by intro z; exact q (Root.s.inj z).symm), b⟩⟩

/-- what a word is worth as data -/
def viewS : Sl → Option D
  | .d x => some x
  | .ol _ xs => some (.list xs)
  | .od _ _ kvs => some (.dict kvs)
  | _ => none
def view (ρ : Envr) : Sl → Option D
  | .ali i => match ρ[i]? with
    | some (some sl) => viewS sl
    | _ => none
  | sl => viewS sl
theorem LstR.rp {K : PySem.W.Frag} {xs : List D} (hS : Le S H) (h : LstR K S H p xs) : Rp K H (.ref p) (.list xs) := by
  obtain ⟨l, vs, hp, ra⟩ := h
  exact .lst hp l (RpA.mono hS _ _ ra)
theorem DicR.rp {K : PySem.W.Frag} {t : Bool} {kvs : List (D × D)} (hS : Le S H) (h : DicR K S H p t kvs) : Rp K H (.ref p) (.dict kvs) := by
  obtain ⟨l, h⟩ := h
  cases t with
  | true => rw [if_pos rfl] at h; obtain ⟨k, a, b⟩ := h; exact .dT a l (RpT.mono hS _ _ b)
  | false => rw [if_neg (by decide)] at h; obtain ⟨k, a, b⟩ := h; exact .dK a l (RpK.mono hS _ _ b)
theorem SlR.view {r : Root} (hS : Le S H) (h : SlR Z S H O r v sl) (e : viewS sl = some x) : Rp Z.K H v x := by
  cases sl with
  | d y => cases e; exact Rp.mono hS _ _ h
  | ol z xs => cases e; obtain ⟨p, rfl, _, l, _⟩ := h; exact l.rp hS
  | od z t kvs => cases e; obtain ⟨p, rfl, _, l, _⟩ := h; exact l.rp hS
  | oi z C fs => cases e
  | raw u => cases e
  | scr u => cases e
  | ali i => cases e
theorem GoodX.viewT {n : Nat} (G : GoodX Z S O vs ts σ ρ H) (h : TmpR Z S H O σ n v sl) (e : view ρ sl = some x) : Rp Z.K H v x := by
  cases sl with
  | ali i =>
    have h : σ[i]? = some (some v) := h
    dsimp only [Pw.view] at e
    cases q : ρ[i]? with
    | none => rw [q] at e; cases e
    | some u =>
      cases u with
      | none => rw [q] at e; cases e
      | some sl =>
        rw [q] at e
        obtain ⟨w, h1, h2⟩ := G.env i sl q
        rw [h] at h1; cases h1
        exact h2.view G.le e
  | d y => exact SlR.view (sl := .d y) (r := .t n) (O := O) G.le h e
  | ol z xs => exact SlR.view (sl := .ol z xs) G.le h e
  | od z t kvs => exact SlR.view (sl := .od z t kvs) G.le h e
  | oi z C fs => exact SlR.view (sl := .oi z C fs) G.le h e
  | raw u => exact SlR.view (sl := .raw u) (r := .t n) (O := O) G.le h e
  | scr u => exact SlR.view (sl := .scr u) (r := .t n) (O := O) G.le h e

/-- what is owned becomes shared data -/
def fz (ρ : Envr) : Sl → Option (D × Envr)
  | .d x => some (x, ρ)
  | .ol none xs => some (.list xs, ρ)
  | .od none _ kvs => some (.dict kvs, ρ)
  | .ali i => match ρ[i]? with
    | some (some (.d x)) => some (x, ρ)
    | some (some (.ol none xs)) => some (.list xs, ρ.set i (some (.d (.list xs))))
    | some (some (.od none _ kvs)) => some (.dict kvs, ρ.set i (some (.d (.dict kvs))))
    | _ => none
  | _ => none
/-- an owned list or dict, told by its object -/
theorem LstR.cut {K : PySem.W.Frag} {xs : List D} (n : S p = none) (h : LstR K S H p xs) : ∃ o, H p = some o ∧ Rp K (upd S p o) (.ref p) (.list xs) := by
  obtain ⟨l, vs, hp, ra⟩ := h
  exact ⟨_, hp, .lst upd_same l (RpA.mono (Le.to_upd n) _ _ ra)⟩
theorem DicR.cut {K : PySem.W.Frag} {t : Bool} {kvs : List (D × D)} (n : S p = none) (h : DicR K S H p t kvs) : ∃ o, H p = some o ∧ Rp K (upd S p o) (.ref p) (.dict kvs) := by
  obtain ⟨l, h⟩ := h
  cases t with
  | true => rw [if_pos rfl] at h; obtain ⟨k, a, b⟩ := h; exact ⟨_, a, .dT upd_same l (RpT.mono (Le.to_upd n) _ _ b)⟩
  | false => rw [if_neg (by decide)] at h; obtain ⟨k, a, b⟩ := h; exact ⟨_, a, .dK upd_same l (RpK.mono (Le.to_upd n) _ _ b)⟩
theorem GoodX.fzT (G : GoodX Z S O (.ref p :: vs) (sl :: ts) σ ρ H) (ho : O p = some ⟨.t ts.length, Str.empty⟩) (hz : Z.H0 p = none) (hc : S p = none → ∃ o, H p = some o ∧ Rp Z.K (upd S p o) (.ref p) x) :
    Good Z (.ref p :: vs) (.d x :: ts) σ ρ H := by
  obtain ⟨o, hp, r⟩ := hc (G.own p _ ho).1
  have G2 := G.pop.dropT
  exact ⟨_, _, (G2.share hp hz (OM.drop_none ho)).pushD r⟩
theorem GoodX.fzS (G : GoodX Z S O (v :: vs) (.ali i :: ts) σ ρ H) (hv : σ[i]? = some (some (.ref p))) (ho : O p = some ⟨.s i, Str.empty⟩) (hz : Z.H0 p = none) (hc : S p = none → ∃ o, H p = some o ∧ Rp Z.K (upd S p o) (.ref p) x) :
    Good Z (v :: vs) (.d x :: ts) σ (ρ.set i (some (.d x))) H := by
  have ev : v = .ref p := by
    have h : σ[i]? = some (some v) := G.tmp.1
    rw [hv] at h; cases h; rfl
  subst ev
  obtain ⟨o, hp, r⟩ := hc (G.own p _ ho).1
  have G2 := G.pop.forget i
  have G3 := (G2.share hp hz (OM.drop_none ho)).setEnv (i := i) (sl := .d x) hv r
  rw [List.set_set] at G3
  exact ⟨_, _, G3.pushD r⟩
theorem Good.fz (G : Good Z (v :: vs) (sl :: ts) σ ρ H) (e : Pw.fz ρ sl = some (x, ρ')) : Good Z (v :: vs) (.d x :: ts) σ ρ' H := by
  obtain ⟨S, O, G⟩ := G
  have ht := G.tmp.1
  cases sl with
  | d y => cases e; exact ⟨S, O, G⟩
  | ol z xs =>
    cases z with
    | none => cases e; obtain ⟨p, rfl, ho, l, hz⟩ := id ht; exact G.fzT ho hz fun n => l.cut n
    | some k => cases e
  | od z t kvs =>
    cases z with
    | none => cases e; obtain ⟨p, rfl, ho, l, hz⟩ := id ht; exact G.fzT ho hz fun n => l.cut n
    | some k => cases e
  | oi z C fs => cases e
  | raw u => cases e
  | scr u => cases e
  | ali i =>
    dsimp only [Pw.fz] at e
    have h : σ[i]? = some (some v) := ht
    cases q : ρ[i]? with
    | none => rw [q] at e; cases e
    | some u =>
      cases u with
      | none => rw [q] at e; cases e
      | some sl =>
        obtain ⟨w, h1, h2⟩ := G.env i sl q
        rw [h] at h1; cases h1
        rw [q] at e
        cases sl with
        | d y => cases e; exact ⟨S, O, G.pop.pushD h2⟩
        | ol z xs =>
          cases z with
          | none => cases e; obtain ⟨p, rfl, ho, l, hz⟩ := h2; exact G.fzS h ho hz fun n => l.cut n
          | some k => cases e
        | od z t kvs =>
          cases z with
          | none => cases e; obtain ⟨p, rfl, ho, l, hz⟩ := h2; exact G.fzS h ho hz fun n => l.cut n
          | some k => cases e
        | oi z C fs => cases e
        | raw u => cases e
        | scr u => cases e
        | ali j => cases e

/-! ### new objects -/
theorem Good.newD (G : GoodX Z S O vs ts σ ρ H) (n : H p = none) (r : Rp Z.K (upd S p o) (.ref p) x) : Good Z (.ref p :: vs) (.d x :: ts) σ ρ (upd H p o) :=
  ⟨_, _, ((G.grow (o := o) n).share upd_same (G.fresh0 n) OM.cut_same).pushD r⟩
theorem GoodX.newS (G : GoodX Z S O vs ts σ ρ H) (n : H p = none) : S p = none := by
  cases e : S p with
  | none => rfl
  | some u => have := G.le _ _ e; rw [n] at this; cases this
theorem GoodX.putO (G : GoodX Z S O vs ts σ ρ H) (hx : ∃ u, H p = some u) (n : S p = none) (h0 : Z.H0 p = none) (hO : O p = none) (r : Root) (f : Str) : GoodX Z S (O.put p ⟨r, f⟩) vs ts σ ρ H := by
  refine G.mv Le.refl G.le (fun q w e => ?_) (fun q w u e h => ⟨by rw [OM.put_ne (fun z => by subst z; rw [hO] at e; cases e)]; exact e, h⟩) G.keep G.shf G.iol fun q w e => ?_
  · by_cases z : q = p
    · subst z; exact ⟨n, .inl h0⟩
    · rw [OM.put_ne z] at e; exact G.own q w e
  · by_cases z : q = p
    · subst z; exact hx
    · rw [OM.put_ne z] at e; exact G.liv q w e
theorem Good.newL {ds : List D} {ws : List V} (G : GoodX Z S O vs ts σ ρ H) (n : H p = none) (r : RpA Z.K S ws ds) (l : ds.length ≤ sizeLine) : Good Z (.ref p :: vs) (.ol none ds :: ts) σ ρ (upd H p (.lst ws)) :=
  ⟨_, _, ((G.grow (o := .lst ws) n).putO ⟨_, upd_same⟩ (G.newS n) (G.fresh0 n) OM.cut_same (.t ts.length) Str.empty).push (sl := .ol none ds) ⟨p, rfl, OM.put_same, ⟨l, ws, upd_same, r⟩, G.fresh0 n⟩⟩
theorem Good.newTup {ds : List D} {ws : List V} (G : GoodX Z S O vs ts σ ρ H) (n : H p = none) (r : RpA Z.K S ws ds) (l : ds.length ≤ sizeLine) : Good Z (.ref p :: vs) (.d (.tuple ds) :: ts) σ ρ (upd H p (.tup ws)) :=
  Good.newD G n (.tup (SqT.of upd_same) l (RpA.mono (Le.to_upd (G.newS n)) _ _ r))
/-- an owned object of a slot is written -/
theorem GoodX.wr (G : GoodX Z S O vs ts σ ρ H) (hv : σ[i]? = some (some (.ref p))) (ho : O p = some ⟨.s i, Str.empty⟩) (hx : ∃ u, H p = some u) {o : HO} (h : SlR Z S (upd H p o) O (.s i) (.ref p) sl)  : GoodX Z S O vs ts σ (ρ.set i (some sl)) (upd H p o) := by
  have hS := (G.own p _ ho).1
  have G1 := G.forget i
  refine ⟨G.le.upd hS, G.own, fun q w e => ?_, fun j sl' e => ?_, G.tmp.mv Le.refl (fun _ _ _ h => h) fun n hn q f u a b => ⟨a, ?_⟩, fun b u e hb => ?_, G.sh0, G.shf, fun b hb => ?_, by rw [List.length_set]; exact G.len⟩
  · by_cases z : q = p
    · subst z; exact ⟨_, upd_same⟩
    · rw [upd_ne z]; exact G.liv q w e
  · by_cases q : i = j
    · subst q
      rw [List.getElem?_set_self'] at e
      cases hq : ρ[i]? with
      | none => rw [hq] at e; cases e
      | some u => rw [hq] at e; cases e; exact ⟨_, hv, h⟩
    · rw [List.getElem?_set_ne q] at e
      obtain ⟨u, h1, h2⟩ := G.env j sl' e
      refine ⟨u, h1, h2.mv Le.refl fun q' f u a b => ⟨a, ?_⟩⟩
      rw [upd_ne fun z => by subst z; rw [ho] at a; cases a; exact q rfl]
      exact b
  · rw [upd_ne fun z => by subst z; rw [ho] at a; cases a]
    exact b
  · by_cases z : b = p
    · subst z
      rcases (G.own b _ ho).2 with h0 | h0
      · rw [h0] at e; cases e
      · exact absurd h0 hb
    · rw [upd_ne z]; exact G.keep b u e hb
  · by_cases z : b = p
    · subst z; exact ⟨_, upd_same⟩
    · rw [upd_ne z]; exact G.iol b hb
/-- a slot's word becomes the last temporary -/
theorem GoodX.save (G : GoodX Z S O vs ts σ ρ H) (hv : σ[i]? = some (some v)) (hr : ρ[i]? = some (some sl)) (ha : Sl.ali i ∉ ts) : GoodX Z S (O.ren (.s i) (.t ts.length)) (v :: vs) (sl :: ts) (σ.set i none) (ρ.set i none) H := by
  obtain ⟨w, h1, hs⟩ := G.env i sl hr
  rw [hv] at h1; cases h1
  have tm : TmpsR Z S H (O.ren (.s i) (.t ts.length)) (σ.set i none) vs ts := G.tmp.mv Le.refl (fun k u hk e => by rw [List.getElem?_set_ne (fun z => by subst z; exact ha hk)]; exact e) fun n hn q f u a b => ⟨OM.ren_ne a (by intro z; cases z) (by intro z; exact absurd (Root.t.inj z) (Nat.ne_of_lt hn)), b⟩
  have hs' : SlR Z S H (O.ren (.s i) (.t ts.length)) (.t ts.length) v sl := hs.mv Le.refl fun q f u a b => ⟨OM.ren_at a, b⟩
  have ht : TmpR Z S H (O.ren (.s i) (.t ts.length)) (σ.set i none) ts.length v sl := by
    cases sl with
    | ali j => exact hs.elim
    | d x => exact hs'
    | ol z xs => exact hs'
    | od z t kvs => exact hs'
    | oi z C fs => exact hs'
    | raw u => exact hs'
    | scr u => exact hs'
  refine ⟨G.le, fun p w e => ?_, fun p w e => ?_, fun j sl' e => ?_, ⟨ht, tm⟩, G.keep, G.sh0, G.shf, G.iol, by rw [List.length_set, List.length_set]; exact G.len⟩
  · obtain ⟨u, hu⟩ := OM.ren_some e
    exact G.own p u hu
  · obtain ⟨u, hu⟩ := OM.ren_some e
    exact G.liv p u hu
  · by_cases q : i = j
    · subst q
      rw [List.getElem?_set_self'] at e
      rw [hr] at e; cases e
    · rw [List.getElem?_set_ne q] at e
      obtain ⟨u, h1, h2⟩ := G.env j sl' e
      exact ⟨u, by rw [List.getElem?_set_ne q]; exact h1, h2.mv Le.refl fun q' f u a b => ⟨OM.ren_ne a (by intro z; exact q (Root.s.inj z).symm) (by intro z; cases z), b⟩⟩
/-- a slot without a word: its value is anything -/
theorem GoodX.unset (G : GoodX Z S O vs ts σ ρ H) (ov : Option V) (ha : Sl.ali i ∉ ts) : GoodX Z S (O.drop (.s i)) vs ts (σ.set i ov) (ρ.set i none) H := by
  have G2 := G.forget i
  refine ⟨G2.le, G2.own, G2.liv, fun j sl' e => ?_, G2.tmp.mv Le.refl (fun k u hk e => by rw [List.getElem?_set_ne (fun z => by subst z; exact ha hk)]; exact e) (fun n hn q f u a b => ⟨a, b⟩), G2.keep, G2.sh0, G2.shf, G2.iol, by rw [List.length_set, List.length_set]; exact G.len⟩
  by_cases q : i = j
  · subst q
    rw [List.getElem?_set_self'] at e
    cases hq : ρ[i]? with
    | none => rw [hq] at e; cases e
    | some u => rw [hq] at e; cases e
  · obtain ⟨u, h1, h2⟩ := G2.env j sl' e
    exact ⟨u, by rw [List.getElem?_set_ne q]; exact h1, h2⟩
/-- the last temporary's own object is written -/
theorem GoodX.wrT (G : GoodX Z S O (.ref p :: vs) (sl :: ts) σ ρ H) (ho : O p = some ⟨.t ts.length, Str.empty⟩) (hz : Z.H0 p = none) {o : HO} {sl' : Sl} (h : TmpR Z S (upd H p o) O σ ts.length (.ref p) sl') : GoodX Z S O (.ref p :: vs) (sl' :: ts) σ ρ (upd H p o) := by
  have hS := (G.own p _ ho).1
  refine ⟨G.le.upd hS, G.own, fun q w e => ?_, fun j s' e => ?_, ⟨h, G.tmp.2.mv Le.refl (fun _ _ _ h => h) fun n hn q f u a b => ⟨a, ?_⟩⟩, fun b u e hb => ?_, G.sh0, G.shf, fun b hb => ?_, G.len⟩
  · by_cases z : q = p
    · subst z; exact ⟨_, upd_same⟩
    · rw [upd_ne z]; exact G.liv q w e
  · obtain ⟨u, h1, h2⟩ := G.env j s' e
    refine ⟨u, h1, h2.mv Le.refl fun q' f u a b => ⟨a, ?_⟩⟩
    rw [upd_ne fun z => by subst z; rw [ho] at a; cases a]
    exact b
  · rw [upd_ne fun z => by subst z; rw [ho] at a; cases a; exact Nat.lt_irrefl _ hn]
    exact b
  · by_cases z : b = p
    · subst z; rw [hz] at e; cases e
    · rw [upd_ne z]; exact G.keep b u e hb
  · by_cases z : b = p
    · subst z; exact ⟨_, upd_same⟩
    · rw [upd_ne z]; exact G.iol b hb
/-- the last temporary but one is dropped -/
theorem GoodX.drop2 {v2 : V} {sl2 : Sl} (G : GoodX Z S O (v :: v2 :: vs) (sl :: sl2 :: ts) σ ρ H) : GoodX Z S (O.ren (.t (ts.length + 1)) (.t ts.length)) (v :: vs) (sl :: ts) σ ρ H := by
  refine ⟨G.le, fun p w e => ?_, fun p w e => ?_, fun j sl' e => ?_, ⟨G.tmp.1.mv Le.refl (fun _ _ h => h) fun q f u a b => ⟨OM.ren_at a, b⟩, G.tmp.2.2.mv Le.refl (fun _ _ _ h => h) fun n hn q f u a b => ⟨OM.ren_ne a (by intro z; have := Root.t.inj z; omega) (by intro z; have := Root.t.inj z; omega), b⟩⟩, G.keep, G.sh0, G.shf, G.iol, G.len⟩
  · obtain ⟨u, hu⟩ := OM.ren_some e
    exact G.own p u hu
  · obtain ⟨u, hu⟩ := OM.ren_some e
    exact G.liv p u hu
  · obtain ⟨u, h1, h2⟩ := G.env j sl' e
    exact ⟨u, h1, h2.mv Le.refl fun q' f u a b => ⟨OM.ren_ne a (by intro z; cases z) (by intro z; cases z), b⟩⟩
theorem Good.drop2 {v2 : V} {sl2 : Sl} (G : Good Z (v :: v2 :: vs) (sl :: sl2 :: ts) σ ρ H) : Good Z (v :: vs) (sl :: ts) σ ρ H := let ⟨_, _, G⟩ := G; ⟨_, _, G.drop2⟩
end
end Pw
/-! Pw, part D: operators by data. -/
namespace Pw
open PySem PySem.Spec PyProof.Rows L2

mutual
def nod : D → Bool
  | .dict _ => false
  | .list xs => nodA xs
  | .tuple xs => nodA xs
  | _ => true
def nodA : List D → Bool
  | [] => true
  | x :: xs => nod x && nodA xs
end
def eqOk (d : D) : Bool := nod d && decide (d.depth ≤ 60)
mutual
theorem Rp.lay {K : PySem.W.Frag} {H : Hp} : ∀ (d : D) (v : V), Rp K H v d → nod d = true → d.canLay0 = true
  | .none, _, _, _ => by simp [PyData.canLay0]
  | .bool _, _, _, _ => by simp [PyData.canLay0]
  | .int _, _, _, _ => by simp [PyData.canLay0]
  | .str x, _, r, _ => by cases r with | str _ h => simpa [PyData.canLay0] using sOk.st h
  | .list xs, _, r, n => by
    cases r with
    | lst a b c => simp only [PyData.canLay0]; exact RpA.lay xs _ c (by simpa [nod] using n)
  | .tuple xs, _, r, n => by
    cases r with
    | tup a b c => simp only [PyData.canLay0]; exact RpA.lay xs _ c (by simpa [nod] using n)
  | .dict _, _, _, n => by simp [nod] at n
theorem RpA.lay {K : PySem.W.Frag} {H : Hp} : ∀ (ds : List D) (vs : List V), RpA K H vs ds → nodA ds = true → PyData.canLayAll0 ds = true
  | [], _, _, _ => by simp [PyData.canLayAll0]
  | d :: ds, _, r, n => by
    have n' : nod d = true ∧ nodA ds = true := by simpa [nodA] using n
    cases r with
    | cons a b => simp [PyData.canLayAll0, Rp.lay d _ a n'.1, RpA.lay ds _ b n'.2]
end
mutual
theorem Rp.dp {K : PySem.W.Frag} {H : Hp} : ∀ (d : D) (v : V), Rp K H v d → nod d = true → Dp K H v d
  | .none, _, r, _ => by cases r; exact .non
  | .bool _, _, r, _ => by cases r; exact .bl _
  | .int _, _, r, _ => by cases r; exact .int _
  | .str x, _, r, _ => by cases r; exact .str _
  | .list xs, _, r, n => by
    cases r with
    | lst a b c => exact .lst (SqL.of a) (RpA.dp xs _ c (by simpa [nod] using n))
  | .tuple xs, _, r, n => by
    cases r with
    | tup a b c => exact .tup a (RpA.dp xs _ c (by simpa [nod] using n))
  | .dict _, _, _, n => by simp [nod] at n
theorem RpA.dp {K : PySem.W.Frag} {H : Hp} : ∀ (ds : List D) (vs : List V), RpA K H vs ds → nodA ds = true → DpAll K H vs ds
  | [], _, r, _ => by cases r; exact .nil
  | d :: ds, _, r, n => by
    have n' : nod d = true ∧ nodA ds = true := by simpa [nodA] using n
    cases r with
    | cons a b => exact .cons (Rp.dp d _ a n'.1) (RpA.dp ds _ b n'.2)
end
theorem Rp.shaped {K : PySem.W.Frag} {H : Hp} {d : D} {v : V} (r : Rp K H v d) (n : eqOk d = true) : SeqAt.shaped d = true := by
  have n' : nod d = true ∧ d.depth ≤ 60 := by simpa [eqOk] using n
  show (d.canLay0 && decide (d.depth ≤ 64)) = true
  rw [Rp.lay d v r n'.1]
  simp only [Bool.true_and, decide_eq_true_eq]
  omega
theorem eqOk.nod {d : D} (n : eqOk d = true) : nod d = true := by
  have n' : Pw.nod d = true ∧ d.depth ≤ 60 := by simpa [eqOk] using n
  exact n'.1

/-! ### what an operation hands on -/
inductive Rs
  | d (x : D)
  | l (xs : List D)
  | k (t : Bool) (kvs : List (D × D))
def slOf : Rs → Sl
  | .d x => .d x
  | .l xs => .ol none xs
  | .k t kvs => .od none t kvs
def Rv (K : PySem.W.Frag) (S H : Hp) (v : V) (x : D) : Prop :=
  Rp K S v x ∨ (∃ p xs, v = .ref p ∧ x = .list xs ∧ LstR K S H p xs) ∨ ∃ p t kvs, v = .ref p ∧ x = .dict kvs ∧ DicR K S H p t kvs
def OutK (K : PySem.W.Frag) (S H : Hp) (Q : VK) : Rs → Prop
  | .d x => (∀ v, Rp K S v x → Q v H) ∧ ∀ p o, H p = none → Rp K (upd S p o) (.ref p) x → Q (.ref p) (upd H p o)
  | .l xs => ∀ p ws, H p = none → RpA K S ws xs → xs.length ≤ sizeLine → Q (.ref p) (upd H p (.lst ws))
  | .k t kvs => ∀ p o, H p = none → DicR K S (upd H p o) p t kvs → Q (.ref p) (upd H p o)
section
variable {K : PySem.W.Frag} {S H : Hp} {v : V} {x : D}
theorem Rv.rp (h : Rv K S H v x) (l : Le S H) : Rp K H v x := by
  rcases h with h | ⟨p, xs, rfl, rfl, h⟩ | ⟨p, t, kvs, rfl, rfl, h⟩
  · exact Rp.mono l _ _ h
  · exact h.rp l
  · exact h.rp l
theorem Rv.int {i : Int} (h : Rv K S H v (.int i)) : v = .int i := by
  rcases h with h | ⟨p, xs, rfl, e, h⟩ | ⟨p, t, kvs, rfl, e, h⟩
  · cases h; rfl
  · cases e
  · cases e
theorem Rv.bl {i : Bool} (h : Rv K S H v (.bool i)) : v = .bl i := by
  rcases h with h | ⟨p, xs, rfl, e, h⟩ | ⟨p, t, kvs, rfl, e, h⟩
  · cases h; rfl
  · cases e
  · cases e
theorem Rv.non (h : Rv K S H v .none) : v = .non := by
  rcases h with h | ⟨p, xs, rfl, e, h⟩ | ⟨p, t, kvs, rfl, e, h⟩
  · cases h; rfl
  · cases e
  · cases e
theorem Rv.str {i : Str} (h : Rv K S H v (.str i)) : v = .str i ∧ sOk i = true := by
  rcases h with h | ⟨p, xs, rfl, e, h⟩ | ⟨p, t, kvs, rfl, e, h⟩
  · cases h with | str _ q => exact ⟨rfl, q⟩
  · cases e
  · cases e
theorem Rv.list {xs : List D} (h : Rv K S H v (.list xs)) (l : Le S H) : ∃ p vs, v = .ref p ∧ H p = some (.lst vs) ∧ RpA K S vs xs ∧ xs.length ≤ sizeLine := by
  rcases h with h | ⟨p, ys, rfl, e, h⟩ | ⟨p, t, kvs, rfl, e, h⟩
  · cases h with | lst a b c => exact ⟨_, _, rfl, l _ _ a, c, b⟩
  · cases e; obtain ⟨b, vs, a, c⟩ := h; exact ⟨_, _, rfl, a, c, b⟩
  · cases e
theorem Rv.tup {xs : List D} (h : Rv K S H v (.tuple xs)) (l : Le S H) : ∃ p vs, v = .ref p ∧ SqT K H p vs ∧ RpA K S vs xs ∧ xs.length ≤ sizeLine ∧ Rp K S v (.tuple xs) := by
  rcases h with h | ⟨p, ys, rfl, e, h⟩ | ⟨p, t, kvs, rfl, e, h⟩
  · cases h with | tup a b c => exact ⟨_, _, rfl, l.sqT a, c, b, .tup a b c⟩
  · cases e
  · cases e
theorem Rv.dict {kvs : List (D × D)} (h : Rv K S H v (.dict kvs)) (l : Le S H) : ∃ p t, v = .ref p ∧ DicR K S H p t kvs := by
  rcases h with h | ⟨p, ys, rfl, e, h⟩ | ⟨p, t, kvs, rfl, e, h⟩
  · cases h with
    | dK a b c => exact ⟨_, false, rfl, b, by rw [if_neg (by decide)]; exact ⟨_, l _ _ a, c⟩⟩
    | dT a b c => exact ⟨_, true, rfl, b, by rw [if_pos rfl]; exact ⟨_, l _ _ a, c⟩⟩
  · cases e
  · cases e; exact ⟨p, t, rfl, h⟩
end
theorem GoodX.rvS {Z : Zx} {S H : Hp} {O : OM} {r : Root} {v : V} {sl : Sl} {x : D} (h : SlR Z S H O r v sl) (e : viewS sl = some x) : Rv Z.K S H v x := by
  cases sl with
  | d y => cases e; exact .inl h
  | ol z xs => cases e; obtain ⟨p, rfl, _, l, _⟩ := h; exact .inr (.inl ⟨_, _, rfl, rfl, l⟩)
  | od z t kvs => cases e; obtain ⟨p, rfl, _, l, _⟩ := h; exact .inr (.inr ⟨_, _, _, rfl, rfl, l⟩)
  | oi z C fs => cases e
  | raw u => cases e
  | scr u => cases e
  | ali i => cases e
theorem GoodX.rv {Z : Zx} {S H : Hp} {O : OM} {vs : List V} {ts : List Sl} {σ : L2.St} {ρ : Envr} {n : Nat} {v : V} {sl : Sl} {x : D} (G : GoodX Z S O vs ts σ ρ H) (h : TmpR Z S H O σ n v sl) (e : view ρ sl = some x) : Rv Z.K S H v x := by
  cases sl with
  | ali i =>
    have h : σ[i]? = some (some v) := h
    dsimp only [view] at e
    cases q : ρ[i]? with
    | none => rw [q] at e; cases e
    | some u =>
      cases u with
      | none => rw [q] at e; cases e
      | some sl =>
        rw [q] at e
        obtain ⟨w, h1, h2⟩ := G.env i sl q
        rw [h] at h1; cases h1
        exact GoodX.rvS h2 e
  | d y => exact GoodX.rvS (sl := .d y) (r := .t n) (O := O) h e
  | ol z xs => exact GoodX.rvS (sl := .ol z xs) h e
  | od z t kvs => exact GoodX.rvS (sl := .od z t kvs) h e
  | oi z C fs => exact GoodX.rvS (sl := .oi z C fs) h e
  | raw u => exact GoodX.rvS (sl := .raw u) (r := .t n) (O := O) h e
  | scr u => exact GoodX.rvS (sl := .scr u) (r := .t n) (O := O) h e
theorem GoodX.out {Z : Zx} {S H : Hp} {O : OM} {vs : List V} {ts : List Sl} {σ : L2.St} {ρ : Envr} {rs : Rs} {Q : VK} (G : GoodX Z S O vs ts σ ρ H) (h : ∀ v H', Good Z (v :: vs) (slOf rs :: ts) σ ρ H' → Q v H') : OutK Z.K S H Q rs := by
  cases rs with
  | d x => exact ⟨fun v r => h v H ⟨S, O, G.pushD r⟩, fun p o n r => h _ _ (Good.newD G n r)⟩
  | l xs => exact fun p ws n r l => h _ _ (Good.newL G n r l)
  | k t kvs => exact fun p o n r => h _ _ ⟨_, _, ((G.grow (o := o) n).putO ⟨_, upd_same⟩ (G.newS n) (G.fresh0 n) OM.cut_same (.t ts.length) Str.empty).push (sl := .od none t kvs) ⟨p, rfl, OM.put_same, r, G.fresh0 n⟩⟩

/-! ### operators of two -/
/-- a rule of two values, as data -/
def Is2 (X : Cx) (R : R2) (f : D → D → Option Rs) : Prop := ∀ (S H : Hp) (x y : V) (a b : D) (Q : VK) (rs : Rs), Le S H → Rv X.K S H x a → Rv X.K S H y b → f a b = some rs → OutK X.K S H Q rs → R x y H Q
def Bin (X : Cx) (op : Value → Value → Sem Value) (f : D → D → Option Rs) : Prop := ∃ R : R2, OpR X op R ∧ Is2 X R f
def ors (f g : D → D → Option Rs) : D → D → Option Rs := fun a b => match f a b with
  | some r => some r
  | none => g a b
theorem Bin.or {X : Cx} {op : Value → Value → Sem Value} {f g : D → D → Option Rs} (h : Bin X op f) (h' : Bin X op g) : Bin X op (ors f g) := by
  obtain ⟨R, o, i⟩ := h
  obtain ⟨R', o', i'⟩ := h'
  refine ⟨_, o.or o', fun S H x y a b Q rs l ra rb e k => ?_⟩
  unfold ors at e
  cases q : f a b with
  | some r => rw [q] at e; cases e; exact .inl (i S H x y a b Q _ l ra rb q k)
  | none => rw [q] at e; exact .inr (i' S H x y a b Q _ l ra rb e k)
theorem OutK.of {K : PySem.W.Frag} {S H : Hp} {Q : VK} {v : V} {x : D} (k : OutK K S H Q (.d x)) (r : Rp K S v x) : Q v H := k.1 v r
section
variable {X : Cx}
def on2I (f : Int → Int → Option D) : D → D → Option Rs
  | .int i, .int j => (f i j).map .d
  | _, _ => none
theorem is2I {R : R2} {f : Int → Int → Option D} (h : ∀ i j d H Q, f i j = some d → (∀ v, (∀ K S, Rp K S v d) → Q v H) → R (.int i) (.int j) H Q) : Is2 X R (on2I f) := by
  intro S H x y a b Q rs l ra rb e k
  cases a with
  | int i =>
    cases b with
    | int j =>
      cases ra.int; cases rb.int
      dsimp only [on2I] at e
      cases q : f i j with
      | none => rw [q] at e; cases e
      | some d => rw [q] at e; cases e; exact h i j d H Q q fun v r => k.of (r _ _)
    | _ => cases e
  | _ => cases e
def mulOk (i j : Int) : Bool := decide (i.natAbs.log2 + j.natAbs.log2 < 100000000)
theorem mulOk.ok {i j : Int} (h : mulOk i j = true) : IntMulOk i j := by
  have h3 : i.natAbs.log2 + j.natAbs.log2 < 100000000 := of_decide_eq_true h
  have b1 : Builtin.Int.intBits i ≤ i.natAbs.log2 + 1 := by unfold Builtin.Int.intBits; split <;> omega
  have b2 : Builtin.Int.intBits j ≤ j.natAbs.log2 + 1 := by unfold Builtin.Int.intBits; split <;> omega
  have hl : bitsLine = 134217728 := by decide
  intro z
  have z3 := of_decide_eq_true ((Bool.and_eq_true _ _).mp z).2
  rw [hl] at z3
  omega
def divOk (j : Int) : Bool := decide (0 < j) && decide (j.natAbs.log2 < 9000)
def addI : D → D → Option Rs := on2I fun i j => some (.int (i + j))
def subI : D → D → Option Rs := on2I fun i j => some (.int (i - j))
def mulI : D → D → Option Rs := on2I fun i j => if mulOk i j = true then some (.int (i * j)) else none
def divI : D → D → Option Rs := on2I fun i j => if divOk j = true then some (.int (i / j)) else none
def modI : D → D → Option Rs := on2I fun i j => if 0 < j then some (.int (i % j)) else none
def powI : D → D → Option Rs := on2I fun i j => if 0 ≤ j ∧ j ≤ 1000000 ∧ i.natAbs < 2 ^ 64 then some (.int (i ^ j.toNat)) else none
theorem addI_ok : Bin X (binaryOp .Add) addI := ⟨_, op_add, is2I fun i j d H Q e k => by cases e; exact ⟨i, j, rfl, rfl, k _ fun _ _ => .int _⟩⟩
theorem subI_ok : Bin X (binaryOp .Sub) subI := ⟨_, op_sub, is2I fun i j d H Q e k => by cases e; exact ⟨i, j, rfl, rfl, k _ fun _ _ => .int _⟩⟩
theorem mulI_ok : Bin X (binaryOp .Mult) mulI := by
  refine ⟨_, opI (C := fun i j => mulOk i j = true) (g := fun i j => i * j) fun _ _ _ _ _ _ _ hc q => mul_int q (mulOk.ok hc), is2I fun i j d H Q e k => ?_⟩
  split at e
  · rename_i h; cases e; exact ⟨i, j, rfl, rfl, h, k _ fun _ _ => .int _⟩
  · cases e
theorem divI_ok : Bin X (binaryOp .FloorDiv) divI := by
  refine ⟨_, op_fdivW, is2I fun i j d H Q e k => ?_⟩
  split at e
  · rename_i h
    cases e
    have h' : 0 < j ∧ j.natAbs.log2 < 9000 := by simpa [divOk] using h
    exact ⟨i, j, rfl, rfl, h', k _ fun _ _ => .int _⟩
  · cases e
theorem modI_ok : Bin X (binaryOp .Mod) modI := by
  refine ⟨_, op_mod, is2I fun i j d H Q e k => ?_⟩
  split at e
  · rename_i h; cases e; exact ⟨i, j, rfl, rfl, h, k _ fun _ _ => .int _⟩
  · cases e
theorem powI_ok : Bin X (binaryOp .Pow) powI := by
  refine ⟨_, op_pow, is2I fun i j d H Q e k => ?_⟩
  split at e
  · rename_i h; cases e; exact ⟨i, j, rfl, rfl, h, k _ fun _ _ => .int _⟩
  · cases e
/-- texts -/
theorem sOk_app {a b : Str} (h : sOk a = true) (h' : sOk b = true) (l : a.length + b.length ≤ sizeLine) : sOk (a ++ b) = true := by
  refine sOk.mk ?_ (by show (a.cps ++ b.cps).size ≤ sizeLine; rw [Array.size_append]; exact l)
  show (a.cps ++ b.cps).all _ = true
  rw [Array.all_append]
  have h1 : a.cps.all _ = true := sOk.st h
  have h2 : b.cps.all _ = true := sOk.st h'
  rw [h1, h2]; rfl
def addS : D → D → Option Rs
  | .str a, .str b => if a.length + b.length ≤ sizeLine then some (.d (.str (a ++ b))) else none
  | _, _ => none
theorem addS_ok : Bin X (binaryOp .Add) addS := by
  refine ⟨_, op_add_str, fun S H x y a b Q rs l ra rb e k => ?_⟩
  cases a with
  | str a =>
    cases b with
    | str b =>
      dsimp only [addS] at e
      split at e
      · rename_i h
        cases e
        exact ⟨a, b, ra.str.1, rb.str.1, h, k.of (.str _ (sOk_app ra.str.2 rb.str.2 h))⟩
      · cases e
    | _ => cases e
  | _ => cases e
def addL : D → D → Option Rs
  | .list a, .list b => if a.length + b.length ≤ sizeLine then some (.l (a ++ b)) else none
  | _, _ => none
theorem addL_ok : Bin X (binaryOp .Add) addL := by
  refine ⟨_, op_cat, fun S H x y a b Q rs l ra rb e k => ?_⟩
  cases a with
  | list a =>
    cases b with
    | list b =>
      dsimp only [addL] at e
      split at e
      · rename_i h
        cases e
        obtain ⟨p, vs, rfl, hp, r1, _⟩ := ra.list l
        obtain ⟨q, ws, rfl, hq, r2, _⟩ := rb.list l
        exact ⟨p, q, vs, ws, rfl, rfl, hp, hq, by rw [r1.length, r2.length]; exact h, fun r n => k r _ n (r1.app r2) (by rw [List.length_append]; exact h)⟩
      · cases e
    | _ => cases e
  | _ => cases e
def addT : D → D → Option Rs
  | .tuple a, .tuple b => if a.length + b.length ≤ sizeLine then some (.d (.tuple (a ++ b))) else none
  | _, _ => none
theorem RpA.nil_iff {K : PySem.W.Frag} {H : Hp} {vs : List V} {ds : List D} (r : RpA K H vs ds) : vs = [] ↔ ds = [] := by
  cases r <;> simp
theorem newS {K : PySem.W.Frag} {S H : Hp} {p : Addr} (l : Le S H) (n : H p = none) : S p = none := by
  cases e : S p with
  | none => rfl
  | some u => have := l _ _ e; rw [n] at this; cases this
theorem OutK.tup {K : PySem.W.Frag} {S H : Hp} {Q : VK} {xs : List D} {ws : List V} {p : Addr} (k : OutK K S H Q (.d (.tuple xs))) (l : Le S H) (n : H p = none) (r : RpA K S ws xs) (h : xs.length ≤ sizeLine) : Q (.ref p) (upd H p (.tup ws)) :=
  k.2 p _ n (.tup (SqT.of upd_same) h (RpA.mono (Le.to_upd (newS (K := K) l n)) _ _ r))
theorem addT_ok : Bin X (binaryOp .Add) addT := by
  refine ⟨_, op_catA, fun S H x y a b Q rs l ra rb e k => ?_⟩
  cases a with
  | tuple a =>
    cases b with
    | tuple b =>
      dsimp only [addT] at e
      split at e
      · rename_i h
        cases e
        obtain ⟨p, vs, rfl, hp, r1, _, q1⟩ := ra.tup l
        obtain ⟨q, ws, rfl, hq, r2, _, q2⟩ := rb.tup l
        refine ⟨p, q, vs, ws, rfl, rfl, hp, hq, by rw [r1.length, r2.length]; exact h, fun z => ?_, fun _ z => ?_, fun _ _ r n => k.tup l n (r1.app r2) (by rw [List.length_append]; exact h)⟩
        · have e1 := r1.nil_iff.mp z
          subst e1
          exact k.of q2
        · have e1 := r2.nil_iff.mp z
          subst e1
          rw [List.append_nil] at k
          exact k.of q1
      · cases e
    | _ => cases e
  | _ => cases e
def repL : D → D → Option Rs
  | .list a, .int k => if -(2 ^ 63) ≤ k ∧ k < 2 ^ 63 ∧ a.length * k.toNat ≤ sizeLine then some (.l (List.replicate k.toNat a).flatten) else none
  | _, _ => none
theorem RpA.rep {K : PySem.W.Frag} {H : Hp} {vs : List V} {ds : List D} (r : RpA K H vs ds) : ∀ n : Nat, RpA K H (List.replicate n vs).flatten (List.replicate n ds).flatten
  | 0 => .nil
  | n + 1 => by simp only [List.replicate_succ, List.flatten_cons]; exact r.app (RpA.rep r n)
theorem len_rep {α : Type} (xs : List α) : ∀ n : Nat, (List.replicate n xs).flatten.length = xs.length * n
  | 0 => by simp
  | n + 1 => by simp only [List.replicate_succ, List.flatten_cons, List.length_append, len_rep xs n, Nat.mul_succ]; omega
theorem repL_ok : Bin X (binaryOp .Mult) repL := by
  refine ⟨_, op_rep, fun S H x y a b Q rs l ra rb e k => ?_⟩
  cases a with
  | list a =>
    cases b with
    | int j =>
      dsimp only [repL] at e
      split at e
      · rename_i h
        cases e
        obtain ⟨p, vs, rfl, hp, r1, _⟩ := ra.list l
        exact ⟨p, j, vs, rfl, rb.int, hp, h.1, h.2.1, by rw [r1.length]; exact h.2.2, fun r n => k r _ n (r1.rep _) (by rw [len_rep]; exact h.2.2)⟩
      · cases e
    | _ => cases e
  | _ => cases e
def repS : D → D → Option Rs
  | .str z, .int n => if -(2 ^ 62) ≤ n ∧ n ≤ 1 then some (.d (.str (if n < 1 then Str.empty else z))) else none
  | _, _ => none
theorem op_repS : OpR X (binaryOp .Mult) (fun x y H Q => ∃ (z : Str) (n : Int), x = .str z ∧ y = .int n ∧ -(2 ^ 62) ≤ n ∧ n ≤ 1 ∧ Q (.str (if n < 1 then Str.empty else z)) H) := by
  intro pins s σ H x y v u Q I rx ry h
  obtain ⟨z, n, rfl, rfl, h1, h2, q⟩ := h
  obtain ⟨t, rfl⟩ := rx
  obtain ⟨t', rfl⟩ := ry
  have e0 : n = 1 ∨ n < 1 := by omega
  refine P.mul_str (by rw [decide_eq_false (by omega), decide_eq_false (by omega)]; rfl) ?_ ?_ ?_
  · intro a b
    have : n = 1 := by omega
    subst this
    simp at b
  · intro a b
    have : n = 1 := by omega
    subst this
    simp at b
  · rcases e0 with e0 | e0
    · subst e0
      rw [if_neg (by omega), if_pos (by simp)]
      exact ⟨.str z, H, I, ⟨t, rfl⟩, by rw [if_neg (by omega)] at q; exact q⟩
    · rw [if_pos e0]
      exact ⟨Nat.zero_le _, .str Str.empty, H, I.tok _, ⟨_, rfl⟩, by rw [if_pos e0] at q; exact q⟩
theorem repS_ok : Bin X (binaryOp .Mult) repS := by
  refine ⟨_, op_repS, fun S H x y a b Q rs l ra rb e k => ?_⟩
  cases a with
  | str a =>
    cases b with
    | int j =>
      dsimp only [repS] at e
      split at e
      · rename_i h
        cases e
        refine ⟨a, j, ra.str.1, rb.int, h.1, h.2, k.of (.str _ ?_)⟩
        split
        · exact sOk.mk (by decide +kernel) (Nat.zero_le _)
        · exact ra.str.2
      · cases e
    | _ => cases e
  | _ => cases e
def binD : Operator → D → D → Option Rs
  | .Add => ors addI (ors addS (ors addL addT))
  | .Sub => subI
  | .Mult => ors mulI (ors repL repS)
  | .FloorDiv => divI
  | .Mod => modI
  | .Pow => powI
  | _ => fun _ _ => none
theorem bin_no {op : Value → Value → Sem Value} : Bin X op fun _ _ => none := ⟨fun _ _ _ _ => False, fun _ _ _ _ _ _ _ _ _ _ _ _ h => h.elim, fun _ _ _ _ _ _ _ _ _ _ _ e => nomatch e⟩
theorem binD_ok : ∀ op : Operator, Bin X (binaryOp op) (binD op)
  | .Add => addI_ok.or (addS_ok.or (addL_ok.or addT_ok))
  | .Sub => subI_ok
  | .Mult => mulI_ok.or (repL_ok.or repS_ok)
  | .FloorDiv => divI_ok
  | .Mod => modI_ok
  | .Pow => powI_ok
  | .Div => bin_no
  | .MatMult => bin_no
  | .LShift => bin_no
  | .RShift => bin_no
  | .BitOr => bin_no
  | .BitXor => bin_no
  | .BitAnd => bin_no
end
end Pw
/-! Pw, part E: comparisons, subscripts, slices, built-ins by data. -/
namespace Pw
open PySem PySem.Spec PyProof.Rows L2
section
variable {X : Cx}
def bres (b : Bool) : Option Rs := some (.d (.bool b))
theorem OutK.bl {K : PySem.W.Frag} {S H : Hp} {Q : VK} {b : Bool} (k : OutK K S H Q (.d (.bool b))) : Q (.bl b) H := k.of (.bl b)
theorem OutK.it {K : PySem.W.Frag} {S H : Hp} {Q : VK} {b : Int} (k : OutK K S H Q (.d (.int b))) : Q (.int b) H := k.of (.int b)
def eqD (a b : D) : Option Rs := if eqOk a = true ∧ eqOk b = true then bres (PyData.eqv a b) else none
def neD (a b : D) : Option Rs := if eqOk a = true ∧ eqOk b = true then bres (!PyData.eqv a b) else none
theorem eqD_ok (hu : X.A.units + 64 < cLine) : Bin X (compareOp .Eq) eqD := by
  refine ⟨_, op_eqD hu, fun S H x y a b Q rs l ra rb e k => ?_⟩
  unfold eqD at e
  split at e
  · rename_i h
    cases e
    exact ⟨a, b, Rp.dp _ _ (ra.rp l) (eqOk.nod h.1), Rp.dp _ _ (rb.rp l) (eqOk.nod h.2), (ra.rp l).shaped h.1, (rb.rp l).shaped h.2, k.bl⟩
  · cases e
theorem neD_ok (hu : X.A.units + 64 < cLine) : Bin X (compareOp .NotEq) neD := by
  refine ⟨_, op_neD hu, fun S H x y a b Q rs l ra rb e k => ?_⟩
  unfold neD at e
  split at e
  · rename_i h
    cases e
    exact ⟨a, b, Rp.dp _ _ (ra.rp l) (eqOk.nod h.1), Rp.dp _ _ (rb.rp l) (eqOk.nod h.2), (ra.rp l).shaped h.1, (rb.rp l).shaped h.2, k.bl⟩
  · cases e
def on2S (f : Str → Str → Bool) : D → D → Option Rs
  | .str i, .str j => bres (f i j)
  | _, _ => none
theorem is2S {R : R2} {f : Str → Str → Bool} (h : ∀ i j H Q, Q (.bl (f i j)) H → R (.str i) (.str j) H Q) : Is2 X R (on2S f) := by
  intro S H x y a b Q rs l ra rb e k
  cases a with
  | str i =>
    cases b with
    | str j =>
      cases ra.str.1; cases rb.str.1
      cases e
      exact h i j H Q k.bl
    | _ => cases e
  | _ => cases e
def ltS (a b : Str) : Bool := decide (a.cps.toList < b.cps.toList)
def ltI : D → D → Option Rs := on2I fun i j => some (.bool (decide (i < j)))
def leI : D → D → Option Rs := on2I fun i j => some (.bool (decide (i ≤ j)))
def gtI : D → D → Option Rs := on2I fun i j => some (.bool (decide (j < i)))
def geI : D → D → Option Rs := on2I fun i j => some (.bool (decide (j ≤ i)))
theorem ltI_ok : Bin X (compareOp .Lt) ltI := ⟨_, op_lt, is2I fun i j d H Q e k => by cases e; exact ⟨i, j, rfl, rfl, k _ fun _ _ => .bl _⟩⟩
theorem leI_ok : Bin X (compareOp .LtE) leI := ⟨_, op_le, is2I fun i j d H Q e k => by cases e; exact ⟨i, j, rfl, rfl, k _ fun _ _ => .bl _⟩⟩
theorem gtI_ok : Bin X (compareOp .Gt) gtI := ⟨_, op_gt, is2I fun i j d H Q e k => by cases e; exact ⟨i, j, rfl, rfl, k _ fun _ _ => .bl _⟩⟩
theorem geI_ok : Bin X (compareOp .GtE) geI := ⟨_, op_ge, is2I fun i j d H Q e k => by cases e; exact ⟨i, j, rfl, rfl, k _ fun _ _ => .bl _⟩⟩
def ltS2 : D → D → Option Rs := on2S fun a b => ltS a b
def leS2 : D → D → Option Rs := on2S fun a b => !ltS b a
theorem ltS_ok : Bin X (compareOp .Lt) ltS2 := ⟨_, op_lt_str, is2S fun i j H Q k => ⟨i, j, rfl, rfl, k⟩⟩
theorem leS_ok : Bin X (compareOp .LtE) leS2 := ⟨_, op_le_str, is2S fun i j H Q k => ⟨i, j, rfl, rfl, k⟩⟩
/-- membership -/
def inL (neg : Bool) : D → D → Option Rs
  | d, .list ds => if eqOk d = true ∧ eqOk (.list ds) = true then bres (if neg = true then !(ds.any fun z => PyData.eqv z d) else ds.any fun z => PyData.eqv z d) else none
  | _, _ => none
theorem inL_ok (hu : X.A.units + 65 < cLine) : Bin X (compareOp .In) (inL false) := by
  refine ⟨_, op_inD hu, fun S H x y a b Q rs l ra rb e k => ?_⟩
  cases b with
  | list ds =>
    dsimp only [inL] at e
    split at e
    · rename_i h
      cases e
      exact ⟨a, ds, Rp.dp _ _ (ra.rp l) (eqOk.nod h.1), Rp.dp _ _ (rb.rp l) (eqOk.nod h.2), (ra.rp l).shaped h.1, (rb.rp l).shaped h.2, k.bl⟩
    · cases e
  | _ => cases e
theorem notInL_ok (hu : X.A.units + 65 < cLine) : Bin X (compareOp .NotIn) (inL true) := by
  refine ⟨_, op_notInD hu, fun S H x y a b Q rs l ra rb e k => ?_⟩
  cases b with
  | list ds =>
    dsimp only [inL] at e
    split at e
    · rename_i h
      cases e
      exact ⟨a, ds, Rp.dp _ _ (ra.rp l) (eqOk.nod h.1), Rp.dp _ _ (rb.rp l) (eqOk.nod h.2), (ra.rp l).shaped h.1, (rb.rp l).shaped h.2, k.bl⟩
    · cases e
  | _ => cases e
def inT (neg : Bool) : D → D → Option Rs
  | d, .tuple ds => if eqOk d = true ∧ eqOk (.tuple ds) = true then bres (if neg = true then !(ds.any fun z => PyData.eqv z d) else ds.any fun z => PyData.eqv z d) else none
  | _, _ => none
def rInTup (K : PySem.W.Frag) (neg : Bool) : R2 := fun x y H Q => ∃ d ds, Dp K H x d ∧ Dp K H y (.tuple ds) ∧ SeqAt.shaped d = true ∧ SeqAt.shaped (.tuple ds) = true ∧ Q (.bl (if neg = true then !(ds.any fun z => PyData.eqv z d) else ds.any fun z => PyData.eqv z d)) H
theorem op_inTup (hu : X.A.units + 65 < cLine) : OpR X (compareOp .In) (rInTup X.K false) := by
  rintro pins s σ H x y v u Q I rx ry ⟨d, ds, hd, he, sd, se, q⟩
  obtain ⟨as, r1⟩ := Dp.reads I d x v hd rx
  obtain ⟨bs, r2⟩ := Dp.reads I (.tuple ds) y u he ry
  exact SeqAt.in_tuple_reads r2 r1 (SeqAt.canLay_of_shaped se) (SeqAt.canLay_of_shaped sd) (room_in_shaped sd hu) ⟨.bl _, H, I, rfl, q⟩
theorem op_notInTup (hu : X.A.units + 65 < cLine) : OpR X (compareOp .NotIn) (rInTup X.K true) := by
  rintro pins s σ H x y v u Q I rx ry ⟨d, ds, hd, he, sd, se, q⟩
  obtain ⟨as, r1⟩ := Dp.reads I d x v hd rx
  obtain ⟨bs, r2⟩ := Dp.reads I (.tuple ds) y u he ry
  exact SeqAt.notIn_tuple_reads r2 r1 (SeqAt.canLay_of_shaped se) (SeqAt.canLay_of_shaped sd) (room_in_shaped sd hu) ⟨.bl _, H, I, rfl, q⟩
theorem inT_is {neg : Bool} : Is2 X (rInTup X.K neg) (inT neg) := by
  intro S H x y a b Q rs l ra rb e k
  cases b with
  | tuple ds =>
    dsimp only [inT] at e
    split at e
    · rename_i h
      cases e
      exact ⟨a, ds, Rp.dp _ _ (ra.rp l) (eqOk.nod h.1), Rp.dp _ _ (rb.rp l) (eqOk.nod h.2), (ra.rp l).shaped h.1, (rb.rp l).shaped h.2, k.bl⟩
    · cases e
  | _ => cases e
theorem inT_ok (hu : X.A.units + 65 < cLine) : Bin X (compareOp .In) (inT false) := ⟨_, op_inTup hu, inT_is⟩
theorem notInT_ok (hu : X.A.units + 65 < cLine) : Bin X (compareOp .NotIn) (inT true) := ⟨_, op_notInTup hu, inT_is⟩
/-- one sign in a text -/
def inS (neg : Bool) : D → D → Option Rs
  | .str a, .str b => match a.cps.toList with
    | [c] => bres (if neg = true then !decide (c ∈ b.cps.toList) else decide (c ∈ b.cps.toList))
    | _ => none
  | _, _ => none
theorem inS_ok : Bin X (compareOp .In) (inS false) := by
  refine ⟨_, op_in_sign, fun S H x y a b Q rs l ra rb e k => ?_⟩
  cases a with
  | str a =>
    cases b with
    | str b =>
      cases ra.str.1; cases rb.str.1
      dsimp only [inS] at e
      split at e
      · rename_i c h
        cases e
        refine ⟨c, b, ?_, rfl, k.bl⟩
        obtain ⟨⟨l⟩⟩ := a
        have h : l = [c] := h
        subst h; rfl
      · cases e
    | _ => cases e
  | _ => cases e
theorem notInS_ok : Bin X (compareOp .NotIn) (inS true) := by
  refine ⟨_, op_notIn_sign, fun S H x y a b Q rs l ra rb e k => ?_⟩
  cases a with
  | str a =>
    cases b with
    | str b =>
      cases ra.str.1; cases rb.str.1
      dsimp only [inS] at e
      split at e
      · rename_i c h
        cases e
        refine ⟨c, b, ?_, rfl, k.bl⟩
        obtain ⟨⟨l⟩⟩ := a
        have h : l = [c] := h
        subst h; rfl
      · cases e
    | _ => cases e
  | _ => cases e
/-- is None; is of bools -/
def isN (neg : Bool) : D → D → Option Rs
  | .none, .none => bres (!neg)
  | .dict _, .none => none
  | _, .none => bres neg
  | .bool a, .bool b => bres (if neg = true then !decide (a = b) else decide (a = b))
  | _, _ => none
theorem Rv.notNon {K : PySem.W.Frag} {S H : Hp} {v : V} {x : D} (h : Rv K S H v x) (n : x ≠ .none) : v ≠ .non := by
  rintro rfl
  rcases h with h | ⟨p, xs, e, _, h⟩ | ⟨p, t, kvs, e, _, h⟩
  · cases h; exact n rfl
  · cases e
  · cases e
theorem isN_is : Is2 X (fun x y H Q => (y = .non ∧ Q (.bl (decide (x = .non))) H) ∨ ∃ a b : Bool, x = .bl a ∧ y = .bl b ∧ Q (.bl (decide (a = b))) H) (isN false) := by
  intro S H x y a b Q rs l ra rb e k
  cases b with
  | none =>
    refine .inl ⟨rb.non, ?_⟩
    cases a with
    | none => cases ra.non; cases e; exact k.bl
    | dict _ => cases e
    | _ =>
      have z := ra.notNon (by intro z; cases z)
      cases e
      rw [decide_eq_false z]
      exact k.bl
  | bool b =>
    cases a with
    | bool a => cases e; exact .inr ⟨a, b, ra.bl, rb.bl, k.bl⟩
    | _ => cases e
  | _ => cases a <;> cases e
theorem notN_is : Is2 X (fun x y H Q => (y = .non ∧ Q (.bl (!decide (x = .non))) H) ∨ ∃ a b : Bool, x = .bl a ∧ y = .bl b ∧ Q (.bl (!decide (a = b))) H) (isN true) := by
  intro S H x y a b Q rs l ra rb e k
  cases b with
  | none =>
    refine .inl ⟨rb.non, ?_⟩
    cases a with
    | none => cases ra.non; cases e; exact k.bl
    | dict _ => cases e
    | _ =>
      have z := ra.notNon (by intro z; cases z)
      cases e
      rw [decide_eq_false z]
      exact k.bl
  | bool b =>
    cases a with
    | bool a => cases e; exact .inr ⟨a, b, ra.bl, rb.bl, k.bl⟩
    | _ => cases e
  | _ => cases a <;> cases e
def cmpD : CmpOp → D → D → Option Rs
  | .Eq => eqD
  | .NotEq => neD
  | .Lt => ors ltI ltS2
  | .LtE => ors leI leS2
  | .Gt => gtI
  | .GtE => geI
  | .Is => isN false
  | .IsNot => isN true
  | .In => ors (inL false) (ors (inT false) (inS false))
  | .NotIn => ors (inL true) (ors (inT true) (inS true))
theorem cmpD_ok (hu : X.A.units + 65 < cLine) : ∀ op : CmpOp, Bin X (compareOp op) (cmpD op)
  | .Eq => eqD_ok (by omega)
  | .NotEq => neD_ok (by omega)
  | .Lt => ltI_ok.or ltS_ok
  | .LtE => leI_ok.or leS_ok
  | .Gt => gtI_ok
  | .GtE => geI_ok
  | .Is => ⟨_, op_isN.or op_is_bl, isN_is⟩
  | .IsNot => ⟨_, op_notN.or op_isnot_bl, notN_is⟩
  | .In => (inL_ok hu).or ((inT_ok hu).or inS_ok)
  | .NotIn => (notInL_ok hu).or ((notInT_ok hu).or notInS_ok)
end
end Pw
/-! Pw, part F: subscripts, slices, built-ins by data. -/
namespace Pw
open PySem PySem.Spec PyProof.Rows L2
section
variable {X : Cx}
def IxB (X : Cx) (f : D → D → Option Rs) : Prop := ∃ R : R2, IxR X R ∧ Is2 X R f
/-- a dict's keys that are ints and texts -/
def keyD : D → Option Key
  | .int i => some (.inl i)
  | .str x => some (.inr x)
  | _ => none
def dlk : List (D × D) → Key → Option D
  | [], _ => none
  | (k', d) :: r, k => if keyD k' = some k then some d else dlk r k
theorem keyD_kD (k : Key) : keyD (kD k) = some k := by cases k <;> rfl
theorem dlk_rp {K : PySem.W.Frag} {S : Hp} {d : D} {k : Key} : ∀ {kvs : List (Key × V)} {ds : List (D × D)}, RpK K S kvs ds → dlk ds k = some d → ∃ v, valV kvs k = some v ∧ Rp K S v d
  | _, _, .nil, e => by cases e
  | _, _, .cons (k := k') (v := v) (vs := vs) (d := d') (ds := ds) ok r t, e => by
    unfold dlk at e
    rw [keyD_kD] at e
    unfold valV
    by_cases q : k' = k
    · subst q
      rw [if_pos rfl] at e
      cases e
      exact ⟨v, by simp, r⟩
    · rw [if_neg (by simpa using q)] at e
      obtain ⟨w, h1, h2⟩ := dlk_rp t e
      refine ⟨w, ?_, h2⟩
      unfold valV at h1
      rw [List.find?_cons_of_neg (by simpa using q)]
      exact h1
theorem dlk_rpT {K : PySem.W.Frag} {S : Hp} (k : Key) : ∀ {kvs : List (List Key × V)} {ds : List (D × D)}, RpT K S kvs ds → dlk ds k = none
  | _, _, .nil => rfl
  | _, _, .cons ok r t => by
    unfold dlk
    rw [if_neg (by simp [keyD])]
    exact dlk_rpT k t
theorem ix_dict (hu : X.A.units + 1 < cLine) : IxR X (fun x y H Q => ∃ a v, x = .ref a ∧ DGet H a y (some v) ∧ Q v H) := by
  intro value slice pins s σ H x y v u Q I rx ry h hs
  obtain ⟨a, r, rfl, g, q⟩ := h
  obtain rfl : v = Value.ref a := rx
  exact tail_any (dict_typeIs I g) slot_dict_getitem.lookup (d_getItem hu I g ry fun w' s3 I3 rw' => ⟨r, H, I3, rw', q⟩) hs
theorem keyV {K : PySem.W.Frag} {S H : Hp} {v : V} {d : D} {k : Key} (h : Rv K S H v d) (e : keyD d = some k) : v = kV k := by
  cases d with
  | int i => cases e; exact h.int
  | str z => cases e; exact h.str.1
  | _ => cases e
def idxSeq : D → D → Option Rs
  | .list xs, .int i => (atI xs i).map .d
  | .tuple xs, .int i => (atI xs i).map .d
  | .str z, .int i => (atI z.cps.toList i).map fun c => .d (.str ⟨#[c]⟩)
  | .dict kvs, k => match keyD k with
    | some k => (dlk kvs k).map .d
    | none => none
  | _, _ => none
theorem atI_rp {K : PySem.W.Frag} {S : Hp} {vs : List V} {xs : List D} {i : Int} {d : D} (r : RpA K S vs xs) (e : atI xs i = some d) : ∃ v, atI vs i = some v ∧ Rp K S v d := by
  unfold atI at e ⊢
  rw [r.length]
  cases q : ixN xs.length i with
  | none => rw [q] at e; cases e
  | some j => rw [q] at e; exact r.get e
theorem sOk_get {z : Str} {i : Int} {c : Nat} (h : sOk z = true) (e : atI z.cps.toList i = some c) : sOk ⟨#[c]⟩ = true := by
  obtain ⟨j, _, hj, _⟩ := atI_get e
  have hm : c ∈ z.cps.toList := List.mem_of_getElem? hj
  have h2 : z.cps.all (· < 0x110000) = true := sOk.st h
  rw [← Array.all_toList, List.all_eq_true] at h2
  refine sOk.mk ?_ (by show 1 ≤ sizeLine; decide)
  show (#[c] : Array Nat).all (· < 0x110000) = true
  have h3 := h2 c hm
  simpa using h3
theorem idxSeq_ok (hu : X.A.units + 1 < cLine) : IxB X idxSeq := by
  refine ⟨_, (ix_list (X := X)).or ((ix_tup (X := X)).or ((ix_str (X := X)).or (ix_dict hu))), fun S H x y a b Q rs l ra rb e k => ?_⟩
  have dct : ∀ {kvs : List (D × D)}, a = .dict kvs → rIxL X.K x y H Q ∨ rIxT X.K x y H Q ∨ rIxS x y H Q ∨ ∃ a v, x = .ref a ∧ DGet H a y (some v) ∧ Q v H := fun {kvs} ea => by
    subst ea
    have e : (match keyD b with | some k => (dlk kvs k).map Rs.d | none => none) = some rs := by cases b <;> exact e
    cases q : keyD b with
    | none => rw [q] at e; cases e
    | some key =>
      rw [q] at e
      dsimp only at e
      cases q2 : dlk kvs key with
      | none => rw [q2] at e; cases e
      | some d =>
        rw [q2] at e; cases e
        obtain ⟨p, t, rfl, len, hd⟩ := ra.dict l
        have ey := keyV rb q
        subst ey
        cases t with
        | true => 
          rw [if_pos rfl] at hd
          obtain ⟨kk, _, r⟩ := hd
          rw [dlk_rpT key r] at q2; cases q2
        | false =>
          rw [if_neg (by decide)] at hd
          obtain ⟨kk, hp, r⟩ := hd
          obtain ⟨v, h1, h2⟩ := dlk_rp r q2
          exact .inr (.inr (.inr ⟨p, v, rfl, h1 ▸ DGet.k hp, k.of h2⟩))
  cases a with
  | dict kvs => exact dct rfl
  | list xs =>
    cases b with
    | int i =>
      have hy := rb.int
      dsimp only [idxSeq] at e
      cases q : atI xs i with
      | none => rw [q] at e; cases e
      | some d =>
        rw [q] at e; cases e
        obtain ⟨p, vs, rfl, hp, r1, _⟩ := ra.list l
        obtain ⟨v, h1, h2⟩ := atI_rp r1 q
        exact .inl ⟨p, vs, i, v, rfl, hy, SqL.of hp, h1, k.of h2⟩
    | _ => cases e
  | tuple xs =>
    cases b with
    | int i =>
      have hy := rb.int
      dsimp only [idxSeq] at e
      cases q : atI xs i with
      | none => rw [q] at e; cases e
      | some d =>
        rw [q] at e; cases e
        obtain ⟨p, vs, rfl, hp, r1, _, _⟩ := ra.tup l
        obtain ⟨v, h1, h2⟩ := atI_rp r1 q
        exact .inr (.inl ⟨p, vs, i, v, rfl, hy, hp, h1, k.of h2⟩)
    | _ => cases e
  | str z =>
    cases b with
    | int i =>
      have hy := rb.int
      dsimp only [idxSeq] at e
      cases q : atI z.cps.toList i with
      | none => rw [q] at e; cases e
      | some c =>
        rw [q] at e; cases e
        exact .inr (.inr (.inl ⟨z, i, c, ra.str.1, hy, sOk.ln ra.str.2, q, k.of (.str _ (sOk_get ra.str.2 q))⟩))
    | _ => cases e
  | _ => cases b <;> cases e

/-! ### slices -/
def cutD (xs : List D) (lo hi : Option Int) : List D := (xs.drop (HT.sIx xs.length 0 lo)).take (HT.sIx xs.length xs.length hi - HT.sIx xs.length 0 lo)
theorem cutD_rp {K : PySem.W.Frag} {S : Hp} {vs : List V} {xs : List D} (lo hi : Option Int) (r : RpA K S vs xs) : RpA K S (cutV vs lo hi) (cutD xs lo hi) := by
  unfold cutV cutD
  rw [r.length]
  exact (r.drop _).take _
theorem cutD_length (xs : List D) (lo hi : Option Int) : (cutD xs lo hi).length ≤ xs.length := by
  unfold cutD
  rw [List.length_take, List.length_drop]; omega
def sliceD (x : D) (lo hi : Option Int) : Option Rs :=
  match x with
  | .list xs => some (.l (cutD xs lo hi))
  | .tuple xs => some (.d (.tuple (cutD xs lo hi)))
  | .str z => some (.d (.str (cutS z lo hi)))
  | _ => none
theorem sOk_cut {z : Str} (lo hi : Option Int) (h : sOk z = true) : sOk (cutS z lo hi) = true := by
  have h2 : z.cps.all (· < 0x110000) = true := sOk.st h
  rw [← Array.all_toList, List.all_eq_true] at h2
  refine sOk.mk ?_ (Nat.le_trans (cutS_length z lo hi) (sOk.ln h))
  show (cutS z lo hi).cps.all (· < 0x110000) = true
  rw [← Array.all_toList, List.all_eq_true]
  intro c hc
  exact h2 c (List.mem_of_mem_drop (List.mem_of_mem_take (show c ∈ (z.cps.toList.drop _).take _ from hc)))
def SlB (X : Cx) : Prop := ∃ R, L2.SlR X R ∧ ∀ (S H : Hp) (x : V) (a : D) (lo hi : Option Int) (Q : VK) (rs : Rs), Le S H → Rv X.K S H x a → sliceD a lo hi = some rs → OutK X.K S H Q rs → R x lo hi H Q
theorem slB : SlB X := by
  refine ⟨_, (sl_list (X := X)).or ((sl_tupA (X := X)).or (sl_str (X := X))), fun S H x a lo hi Q rs l ra e k => ?_⟩
  cases a with
  | list xs =>
    cases e
    obtain ⟨p, vs, rfl, hp, r1, hl⟩ := ra.list l
    exact .inl ⟨p, vs, rfl, SqL.of hp, fun q n => k q _ n (cutD_rp lo hi r1) (Nat.le_trans (cutD_length xs lo hi) hl)⟩
  | tuple xs =>
    cases e
    obtain ⟨p, vs, rfl, hp, r1, hl, r0⟩ := ra.tup l
    refine .inr (.inl ⟨p, vs, rfl, hp, fun w => ?_, fun _ q n => k.tup l n (cutD_rp lo hi r1) (Nat.le_trans (cutD_length xs lo hi) hl)⟩)
    rw [r1.length] at w
    have ec : cutD xs lo hi = xs := by
      unfold cutD
      rw [w.1, w.2]
      simp
    rw [ec] at k
    exact k.of r0
  | str z =>
    cases e
    exact .inr (.inr ⟨z, ra.str.1, sOk.ln ra.str.2, k.of (.str _ (sOk_cut lo hi ra.str.2))⟩)
  | _ => cases e

/-! ### built-ins -/
inductive RvA (K : PySem.W.Frag) (S H : Hp) : List V → List D → Prop
  | nil : RvA K S H [] []
  | cons {v : V} {vs : List V} {d : D} {ds : List D} : Rv K S H v d → RvA K S H vs ds → RvA K S H (v :: vs) (d :: ds)
def IsN (X : Cx) (R : List V → Hp → VK → Prop) (g : List D → Option Rs) : Prop := ∀ (S H : Hp) (vs : List V) (ds : List D) (Q : VK) (rs : Rs), Le S H → RvA X.K S H vs ds → g ds = some rs → OutK X.K S H Q rs → R vs H Q
def CalB (X : Cx) (f : Value) (g : List D → Option Rs) : Prop := ∃ R, CallR X f R ∧ IsN X R g
def one (f : D → Option Rs) : List D → Option Rs
  | [x] => f x
  | _ => none
theorem isOne {R : List V → Hp → VK → Prop} {f : D → Option Rs} (h : ∀ (S H : Hp) (v : V) (d : D) (Q : VK) (rs : Rs), Le S H → Rv X.K S H v d → f d = some rs → OutK X.K S H Q rs → R [v] H Q) : IsN X R (one f) := by
  intro S H vs ds Q rs l r e k
  cases r with
  | nil => cases e
  | cons a t =>
    cases t with
    | nil => exact h S H _ _ Q rs l a e k
    | cons b t => cases e
def orN (f g : List D → Option Rs) : List D → Option Rs := fun a => match f a with
  | some r => some r
  | none => g a
theorem CalB.or {f : Value} {g g' : List D → Option Rs} (h : CalB X f g) (h' : CalB X f g') : CalB X f (orN g g') := by
  obtain ⟨R, o, i⟩ := h
  obtain ⟨R', o', i'⟩ := h'
  refine ⟨_, o.or o', fun S H vs ds Q rs l r e k => ?_⟩
  unfold orN at e
  cases q : g ds with
  | some r => rw [q] at e; cases e; exact .inl (i S H vs ds Q _ l (by assumption) q k)
  | none => rw [q] at e; exact .inr (i' S H vs ds Q _ l r e k)
def lenD : D → Option Rs
  | .list xs => some (.d (.int xs.length))
  | .tuple xs => some (.d (.int xs.length))
  | .str z => some (.d (.int z.length))
  | .dict kvs => some (.d (.int kvs.length))
  | _ => none
theorem RpT.length {K : PySem.W.Frag} {H : Hp} : ∀ {vs : List (List L2.Key × V)} {ds : List (D × D)}, RpT K H vs ds → vs.length = ds.length
  | _, _, .nil => rfl
  | _, _, .cons _ _ t => by simp only [List.length_cons, RpT.length t]
theorem len_ok : CalB X (.builtin "len") (one lenD) := by
  refine ⟨_, (call_len_seq (X := X)).or ((call_len_str (X := X)).or ((call_lenD (X := X)).or (call_len_dT (X := X)))), isOne fun S H v d Q rs l r e k => ?_⟩
  cases d with
  | list xs =>
    cases e
    obtain ⟨p, vs, rfl, hp, r1, hl⟩ := r.list l
    rw [← r1.length] at k
    exact .inl ⟨p, vs, rfl, .inl (SqL.of hp), k.it⟩
  | tuple xs =>
    cases e
    obtain ⟨p, vs, rfl, hp, r1, hl, _⟩ := r.tup l
    rw [← r1.length] at k
    exact .inl ⟨p, vs, rfl, .inr hp, k.it⟩
  | str z => cases e; exact .inr (.inl ⟨z, by rw [r.str.1], sOk.ln r.str.2, k.it⟩)
  | dict kvs =>
    cases e
    obtain ⟨p, t, rfl, _, h⟩ := r.dict l
    cases t with
    | true =>
      rw [if_pos rfl] at h
      obtain ⟨k', a, b⟩ := h
      rw [← b.length] at k
      exact .inr (.inr (.inr ⟨p, k', rfl, a, k.it⟩))
    | false =>
      rw [if_neg (by decide)] at h
      obtain ⟨k', a, b⟩ := h
      rw [← b.length] at k
      exact .inr (.inr (.inl ⟨p, k', rfl, a, k.it⟩))
  | _ => cases e
def listD : D → Option Rs
  | .list xs => some (.l xs)
  | .tuple xs => some (.l xs)
  | _ => none
theorem list_ok : CalB X (.type "list") (one listD) := by
  refine ⟨_, call_list_of (X := X), isOne fun S H v d Q rs l r e k => ?_⟩
  cases d with
  | list xs =>
    cases e
    obtain ⟨p, vs, rfl, hp, r1, hl⟩ := r.list l
    exact ⟨p, vs, rfl, .inl (SqL.of hp), fun q n => k q _ n r1 hl⟩
  | tuple xs =>
    cases e
    obtain ⟨p, vs, rfl, hp, r1, hl, _⟩ := r.tup l
    exact ⟨p, vs, rfl, .inr hp, fun q n => k q _ n r1 hl⟩
  | _ => cases e
def tupleD : D → Option Rs
  | .list xs => some (.d (.tuple xs))
  | .tuple xs => some (.d (.tuple xs))
  | _ => none
theorem tuple_ok : CalB X (.type "tuple") (one tupleD) := by
  refine ⟨_, call_tuple_of (X := X), isOne fun S H v d Q rs l r e k => ?_⟩
  cases d with
  | list xs =>
    cases e
    obtain ⟨p, vs, rfl, hp, r1, hl⟩ := r.list l
    exact ⟨p, vs, rfl, .inl ⟨SqL.of hp, fun q n => k.tup l n r1 hl⟩⟩
  | tuple xs =>
    cases e
    obtain ⟨p, vs, rfl, hp, r1, hl, r0⟩ := r.tup l
    exact ⟨p, vs, rfl, .inr ⟨hp, k.of r0⟩⟩
  | _ => cases e
def bools : List D → Option (List Bool)
  | [] => some []
  | .bool b :: r => (bools r).map (b :: ·)
  | _ => none
theorem bools_rp {K : PySem.W.Frag} {S : Hp} : ∀ {vs : List V} {ds : List D} {bs : List Bool}, RpA K S vs ds → bools ds = some bs → vs = bs.map V.bl
  | _, _, _, .nil, e => by cases e; rfl
  | _, _, _, .cons (d := .bool b) (ds := ds) a t, e => by
    dsimp only [bools] at e
    cases q : bools ds with
    | none => rw [q] at e; cases e
    | some r => rw [q] at e; cases e; cases a; rw [bools_rp t q]; rfl
  | _, _, _, .cons (d := .none) a t, e => by cases e
  | _, _, _, .cons (d := .int _) a t, e => by cases e
  | _, _, _, .cons (d := .str _) a t, e => by cases e
  | _, _, _, .cons (d := .list _) a t, e => by cases e
  | _, _, _, .cons (d := .tuple _) a t, e => by cases e
  | _, _, _, .cons (d := .dict _) a t, e => by cases e
def allD : D → Option Rs
  | .list xs => (bools xs).map fun bs => .d (.bool (bs.all id))
  | _ => none
def anyD : D → Option Rs
  | .list xs => (bools xs).map fun bs => .d (.bool (bs.any id))
  | _ => none
theorem all_ok (hc : X.calm = true) : CalB X (.builtin "all") (one allD) := by
  refine ⟨_, cr_all hc, isOne fun S H v d Q rs l r e k => ?_⟩
  cases d with
  | list xs =>
    dsimp only [allD] at e
    cases q : bools xs with
    | none => rw [q] at e; cases e
    | some bs =>
      rw [q] at e; cases e
      obtain ⟨p, vs, rfl, hp, r1, hl⟩ := r.list l
      exact ⟨p, bs, rfl, by rw [← bools_rp r1 q]; exact SqL.of hp, k.bl⟩
  | _ => cases e
theorem any_ok (hc : X.calm = true) : CalB X (.builtin "any") (one anyD) := by
  refine ⟨_, cr_any hc, isOne fun S H v d Q rs l r e k => ?_⟩
  cases d with
  | list xs =>
    dsimp only [anyD] at e
    cases q : bools xs with
    | none => rw [q] at e; cases e
    | some bs =>
      rw [q] at e; cases e
      obtain ⟨p, vs, rfl, hp, r1, hl⟩ := r.list l
      exact ⟨p, bs, rfl, by rw [← bools_rp r1 q]; exact SqL.of hp, k.bl⟩
  | _ => cases e
def intsD : List D → Option (List Int)
  | [] => some []
  | .int b :: r => (intsD r).map (b :: ·)
  | _ => none
theorem ints_rp {K : PySem.W.Frag} {S : Hp} : ∀ {vs : List V} {ds : List D} {bs : List Int}, RpA K S vs ds → intsD ds = some bs → vs = bs.map V.int
  | _, _, _, .nil, e => by cases e; rfl
  | _, _, _, .cons (d := .int b) (ds := ds) a t, e => by
    dsimp only [intsD] at e
    cases q : intsD ds with
    | none => rw [q] at e; cases e
    | some r => rw [q] at e; cases e; cases a; rw [ints_rp t q]; rfl
  | _, _, _, .cons (d := .none) a t, e => by cases e
  | _, _, _, .cons (d := .bool _) a t, e => by cases e
  | _, _, _, .cons (d := .str _) a t, e => by cases e
  | _, _, _, .cons (d := .list _) a t, e => by cases e
  | _, _, _, .cons (d := .tuple _) a t, e => by cases e
  | _, _, _, .cons (d := .dict _) a t, e => by cases e
/-- any of whole numbers -/
theorem any_by_place (f : Int → Bool) : ∀ ns : List Int, ((List.range ns.length).any fun k => f (ns.getD k 0)) = ns.any f
  | [] => rfl
  | m :: ns => by
    have ih := any_by_place f ns
    rw [List.length_cons, List.range_succ_eq_map]
    simp only [List.any_cons, List.any_map]
    rw [← ih]; rfl
def rAnyInts (K : PySem.W.Frag) : List V → Hp → VK → Prop := fun ws H Q => ∃ (p : Addr) (ms : List Int), ws = [V.ref p] ∧ SqL K H p (ms.map V.int) ∧ Q (.bl (ms.any fun n => n != 0)) H
theorem cr_anyInts (calm : X.calm = true) : CallR X (.builtin "any") (rAnyInts X.K) := by
  intro pn s σ H ws us Q J rws hyp
  obtain ⟨p, ms, rfl, at_p, hq⟩ := hyp
  obtain ⟨its, rits, isl, _⟩ := J.list at_p
  rw [Vals.ref1 rws]
  have size : its.length = ms.length := by have := rits.length; rw [List.length_map] at this; exact this.symm
  have tr : TruthOf X.prog X.w X.A.in1 (fun k v => its.toArray[k]? = some v) (fun k => ms.getD k 0 != 0) := fun k v s' Q' E' hv hq' => by
    have hv1 : its[k]? = some v := by simpa using hv
    have hk : k < ms.length := by rw [← size]; exact (List.getElem?_eq_some_iff.mp hv1).1
    obtain ⟨u, hu, ru⟩ := rits.get (i := k) (x := .int ms[k]) (by rw [List.getElem?_map, List.getElem?_eq_getElem hk]; rfl)
    rw [hv1] at hu
    cases hu
    obtain ⟨t, rfl⟩ := ru
    have hd : ms.getD k 0 = ms[k] := by rw [List.getD_eq_getElem?_getD, List.getElem?_eq_getElem hk]; rfl
    dsimp only at hq'
    rw [hd] at hq'
    exact truthy_int hq'
  refine call_any_walk (iter_any isl.isList fun s2 es st ne => ?_)
  subst es
  refine ⟨_, _, _, _, _, _, _, rfl, Walks.list (A := X.A.in1) (J.ok.hd calm) _ p ne its.toArray, st, tr, fun h' tk keep => ?_⟩
  refine ⟨.bl _, H, J.kept fun b o eo => keep b o (fun mem => ?_) (Heap.get?_push_of_some _ eo), ?_, hq⟩
  · rcases List.mem_cons.mp mem with rfl | mem
    · exact absurd (Heap.lt_size eo) (Nat.lt_irrefl _)
    · cases mem
  · show Value.bool _ = Value.bool _
    rw [← any_by_place, List.size_toArray, size]
def anyID : D → Option Rs
  | .list xs => (intsD xs).map fun bs => .d (.bool (bs.any fun n => n != 0))
  | _ => none
theorem anyI_ok (hc : X.calm = true) : CalB X (.builtin "any") (one anyID) := by
  refine ⟨_, cr_anyInts hc, isOne fun S H v d Q rs l r e k => ?_⟩
  cases d with
  | list xs =>
    dsimp only [anyID] at e
    cases q : intsD xs with
    | none => rw [q] at e; cases e
    | some bs =>
      rw [q] at e; cases e
      obtain ⟨p, vs, rfl, hp, r1, hl⟩ := r.list l
      exact ⟨p, bs, rfl, by rw [← ints_rp r1 q]; exact SqL.of hp, k.bl⟩
  | _ => cases e
def sumD : D → Option Rs
  | .list xs => (intsD xs).map fun bs => .d (.int bs.sum)
  | _ => none
theorem sum_ok (hc : X.calm = true) : CalB X (.builtin "sum") (one sumD) := by
  refine ⟨_, cr_sum hc, isOne fun S H v d Q rs l r e k => ?_⟩
  cases d with
  | list xs =>
    dsimp only [sumD] at e
    cases q : intsD xs with
    | none => rw [q] at e; cases e
    | some bs =>
      rw [q] at e; cases e
      obtain ⟨p, vs, rfl, hp, r1, hl⟩ := r.list l
      exact ⟨p, bs, rfl, by rw [← ints_rp r1 q]; exact SqL.of hp, k.it⟩
  | _ => cases e
def intD : D → Option Rs
  | .int i => some (.d (.int i))
  | .bool b => some (.d (.int (if b then 1 else 0)))
  | _ => none
theorem int_ok : CalB X (.type "int") (one intD) := by
  refine ⟨_, call_int1 (X := X), isOne fun S H v d Q rs l r e k => ?_⟩
  cases d with
  | int i => cases e; exact .inl ⟨i, by rw [r.int], k.it⟩
  | bool b => cases e; exact .inr ⟨b, by rw [r.bl], k.it⟩
  | _ => cases e
def absD : D → Option Rs
  | .int i => some (.d (.int (if i < 0 then -i else i)))
  | _ => none
theorem abs_ok : CalB X (.builtin "abs") (one absD) := by
  refine ⟨_, call_abs (X := X), isOne fun S H v d Q rs l r e k => ?_⟩
  cases d with
  | int i => cases e; exact ⟨i, by rw [r.int], k.it⟩
  | _ => cases e
def two (f : D → D → Option Rs) : List D → Option Rs
  | [x, y] => f x y
  | _ => none
theorem isTwo {R : List V → Hp → VK → Prop} {f : D → D → Option Rs} (h : ∀ (S H : Hp) (v w : V) (d e : D) (Q : VK) (rs : Rs), Le S H → Rv X.K S H v d → Rv X.K S H w e → f d e = some rs → OutK X.K S H Q rs → R [v, w] H Q) : IsN X R (two f) := by
  intro S H vs ds Q rs l r e k
  cases r with
  | nil => cases e
  | cons a t =>
    cases t with
    | nil => cases e
    | cons b t =>
      cases t with
      | nil => exact h S H _ _ _ _ Q rs l a b e k
      | cons c t => cases e
def max2D : D → D → Option Rs
  | .int i, .int j => some (.d (.int (if j > i then j else i)))
  | _, _ => none
def min2D : D → D → Option Rs
  | .int i, .int j => some (.d (.int (if j < i then j else i)))
  | _, _ => none
theorem max2_ok (hc : X.calm = true) : CalB X (.builtin "max") (two max2D) := by
  refine ⟨_, call_max2 hc, isTwo fun S H v w d e' Q rs l r r' e k => ?_⟩
  cases d with
  | int i =>
    cases e' with
    | int j => cases e; exact ⟨i, j, by rw [r.int, r'.int], k.it⟩
    | _ => cases e
  | _ => cases e
theorem min2_ok (hc : X.calm = true) : CalB X (.builtin "min") (two min2D) := by
  refine ⟨_, call_min2 hc, isTwo fun S H v w d e' Q rs l r r' e k => ?_⟩
  cases d with
  | int i =>
    cases e' with
    | int j => cases e; exact ⟨i, j, by rw [r.int, r'.int], k.it⟩
    | _ => cases e
  | _ => cases e
def maxL : Int → List Int → Int
  | m, [] => m
  | m, x :: xs => maxL (if x > m then x else m) xs
def minL : Int → List Int → Int
  | m, [] => m
  | m, x :: xs => minL (if x < m then x else m) xs
theorem maxL_ok : ∀ (xs : List Int) (m : Int), (maxL m xs = m ∨ maxL m xs ∈ xs) ∧ m ≤ maxL m xs ∧ ∀ x ∈ xs, x ≤ maxL m xs
  | [], m => ⟨.inl rfl, Int.le_refl _, fun x h => by simp at h⟩
  | x :: xs, m => by
    obtain ⟨h1, h2, h3⟩ := maxL_ok xs (if x > m then x else m)
    unfold maxL
    refine ⟨?_, ?_, fun y hy => ?_⟩
    · rcases h1 with h1 | h1
      · rw [h1]; split
        · exact .inr List.mem_cons_self
        · exact .inl rfl
      · exact .inr (List.mem_cons_of_mem _ h1)
    · refine Int.le_trans ?_ h2; split <;> omega
    · rcases List.mem_cons.mp hy with rfl | hy
      · refine Int.le_trans ?_ h2; split <;> omega
      · exact h3 y hy
theorem minL_ok : ∀ (xs : List Int) (m : Int), (minL m xs = m ∨ minL m xs ∈ xs) ∧ minL m xs ≤ m ∧ ∀ x ∈ xs, minL m xs ≤ x
  | [], m => ⟨.inl rfl, Int.le_refl _, fun x h => by simp at h⟩
  | x :: xs, m => by
    obtain ⟨h1, h2, h3⟩ := minL_ok xs (if x < m then x else m)
    unfold minL
    refine ⟨?_, ?_, fun y hy => ?_⟩
    · rcases h1 with h1 | h1
      · rw [h1]; split
        · exact .inr List.mem_cons_self
        · exact .inl rfl
      · exact .inr (List.mem_cons_of_mem _ h1)
    · refine Int.le_trans h2 ?_; split <;> omega
    · rcases List.mem_cons.mp hy with rfl | hy
      · refine Int.le_trans h2 ?_; split <;> omega
      · exact h3 y hy
def max1D : D → Option Rs
  | .list xs => match intsD xs with
    | some (n :: ns) => some (.d (.int (maxL n ns)))
    | _ => none
  | _ => none
def min1D : D → Option Rs
  | .list xs => match intsD xs with
    | some (n :: ns) => some (.d (.int (minL n ns)))
    | _ => none
  | _ => none
theorem max1_ok (hc : X.calm = true) : CalB X (.builtin "max") (one max1D) := by
  refine ⟨_, cr_max hc, isOne fun S H v d Q rs l r e k => ?_⟩
  cases d with
  | list xs =>
    dsimp only [max1D] at e
    cases q : intsD xs with
    | none => rw [q] at e; cases e
    | some bs =>
      rw [q] at e
      cases bs with
      | nil => cases e
      | cons n ns =>
        cases e
        obtain ⟨p, vs, rfl, hp, r1, hl⟩ := r.list l
        refine ⟨p, n :: ns, rfl, by rw [← ints_rp r1 q]; exact SqL.of hp, by simp, fun m hm hle => ?_⟩
        obtain ⟨h1, h2, h3⟩ := maxL_ok ns n
        have e : m = maxL n ns := by
          refine Int.le_antisymm ?_ (hle _ ?_)
          · rcases List.mem_cons.mp hm with rfl | hm
            · exact h2
            · exact h3 m hm
          · rcases h1 with h1 | h1
            · rw [h1]; exact List.mem_cons_self
            · exact List.mem_cons_of_mem _ h1
        rw [e]; exact k.it
  | _ => cases e
theorem min1_ok (hc : X.calm = true) : CalB X (.builtin "min") (one min1D) := by
  refine ⟨_, cr_min hc, isOne fun S H v d Q rs l r e k => ?_⟩
  cases d with
  | list xs =>
    dsimp only [min1D] at e
    cases q : intsD xs with
    | none => rw [q] at e; cases e
    | some bs =>
      rw [q] at e
      cases bs with
      | nil => cases e
      | cons n ns =>
        cases e
        obtain ⟨p, vs, rfl, hp, r1, hl⟩ := r.list l
        refine ⟨p, n :: ns, rfl, by rw [← ints_rp r1 q]; exact SqL.of hp, by simp, fun m hm hle => ?_⟩
        obtain ⟨h1, h2, h3⟩ := minL_ok ns n
        have e : m = minL n ns := by
          refine Int.le_antisymm (hle _ ?_) ?_
          · rcases h1 with h1 | h1
            · rw [h1]; exact List.mem_cons_self
            · exact List.mem_cons_of_mem _ h1
          · rcases List.mem_cons.mp hm with rfl | hm
            · exact h2
            · exact h3 m hm
        rw [e]; exact k.it
  | _ => cases e
def three (f : D → D → D → Option Rs) : List D → Option Rs
  | [x, y, z] => f x y z
  | _ => none
def min3D : D → D → D → Option Rs
  | .int i, .int j, .int k => some (.d (.int (if k < (if j < i then j else i) then k else (if j < i then j else i))))
  | _, _, _ => none
theorem min3_ok (hc : X.calm = true) : CalB X (.builtin "min") (three min3D) := by
  refine ⟨_, call_min3Nu hc, fun S H vs ds Q rs l r e k => ?_⟩
  cases r with
  | nil => cases e
  | cons a t => cases t with
    | nil => cases e
    | cons b t => cases t with
      | nil => cases e
      | cons c t => cases t with
        | cons d t => cases e
        | nil =>
          rename_i v d v' d' v'' d''
          change min3D d d' d'' = some rs at e
          cases d with
          | int i => cases d' with
            | int j => cases d'' with
              | int m =>
                cases e
                refine ⟨v, v', v'', .int _, rfl, ?_, k.it⟩
                rw [a.int, b.int, c.int]
                have e2 : ∀ x y : Int, nuMin2 (.int x) (.int y) = some (.int (if y < x then y else x)) := fun x y => by
                  show some (if decide (y < x) = true then V.int y else V.int x) = _
                  by_cases q : y < x <;> simp [q]
                unfold nuMin3
                rw [e2]
                exact e2 _ _
              | _ => cases e
            | _ => cases e
          | _ => cases e
def divmodD : D → D → Option Rs
  | .int i, .int j => if 0 < j ∧ j < 1073741824 then some (.d (.tuple [.int (i / j), .int (i % j)])) else none
  | _, _ => none
theorem divmod_ok : CalB X (.builtin "divmod") (two divmodD) := by
  refine ⟨_, call_divmod (X := X), isTwo fun S H v w d e' Q rs l r r' e k => ?_⟩
  cases d with
  | int i =>
    cases e' with
    | int j =>
      dsimp only [divmodD] at e
      split at e
      · rename_i h
        cases e
        exact ⟨i, j, by rw [r.int, r'.int], h, fun p n => k.tup l n (.cons (.int _) (.cons (.int _) .nil)) (by show 2 ≤ sizeLine; decide)⟩
      · cases e
    | _ => cases e
  | _ => cases e
/-! sorted -/
def allAlikeB (xs : List D) : Bool := xs.all fun d => xs.all fun e => PySem.W.alike d e
def sortableB (xs : List D) : Bool := (xs.all fun d => match d with | .tuple (_ :: _) => true | _ => false) || xs.all fun d => match d with | .none => false | .tuple _ => false | _ => true
theorem allAlikeB_ok {xs : List D} (h : allAlikeB xs = true) : PySem.W.AllAlike xs := fun d hd e he => by
  have h1 := List.all_eq_true.mp h d hd
  exact List.all_eq_true.mp h1 e he
theorem sortableB_ok {xs : List D} (h : sortableB xs = true) : PySem.W.Sortable xs := by
  rcases (Bool.or_eq_true _ _).mp h with h | h
  · refine .inl fun d hd => ?_
    have h1 := List.all_eq_true.mp h d hd
    split at h1
    · exact ⟨_, _, rfl⟩
    · cases h1
  · refine .inr fun d hd => ?_
    have h1 := List.all_eq_true.mp h d hd
    split at h1
    · cases h1
    · cases h1
    · rename_i n1 n2
      exact ⟨n1, n2⟩
def dLe : D → D → Bool := PySem.W.dataLe false id
def sortD : D → Option Rs
  | .list xs => if allAlikeB xs = true ∧ sortableB xs = true ∧ nodA xs = true ∧ (xs.all fun d => decide (d.depth ≤ 60)) = true then some (.l (xs.mergeSort dLe)) else none
  | _ => none
theorem each_toRp {K : PySem.W.Frag} {S : Hp} : ∀ {us : List Value} {ds : List D}, PySem.W.EachIs (fun u d => ∃ v, RelV v u ∧ Rp K S v d) us ds → ∃ vs, Vals vs us ∧ RpA K S vs ds
  | _, _, .nil => ⟨[], .nil, .nil⟩
  | _, _, .cons ⟨v, r, q⟩ t => by
    obtain ⟨vs, r2, q2⟩ := each_toRp t
    exact ⟨v :: vs, .cons r r2, .cons q q2⟩
theorem each_ofRp {K : PySem.W.Frag} {S : Hp} : ∀ {vs : List V} {us : List Value} {ds : List D}, Vals vs us → RpA K S vs ds → PySem.W.EachIs (fun u d => ∃ v, RelV v u ∧ Rp K S v d) us ds
  | _, _, _, .nil, .nil => .nil
  | _, _, _, .cons r t, .cons q t2 => .cons ⟨_, r, q⟩ (each_ofRp t t2)
theorem cr_sortD (hu : X.A.units + 70 < cLine) : CallR X (.builtin "sorted") (fun vs H Q => ∃ (a : Addr) (us : List V) (xs : List D) (S : Hp), vs = [.ref a] ∧ SqL X.K H a us ∧ Le S H ∧ RpA X.K S us xs ∧ xs.length ≤ sizeLine ∧
    (allAlikeB xs = true ∧ sortableB xs = true ∧ nodA xs = true ∧ (xs.all fun d => decide (d.depth ≤ 60)) = true) ∧ ∀ p ws, H p = none → RpA X.K S ws (xs.mergeSort dLe) → Q (.ref p) (upd H p (.lst ws))) := by
  intro pins s σ H vs us Q I r h
  obtain ⟨a, vs', xs, S, rfl, hs, le, ra, hl, ⟨h1, h2, h3, h4⟩, q⟩ := h
  obtain ⟨its, rv, hL, _⟩ := I.list hs
  rw [Vals.ref1 r]
  have er : PySem.W.EachIs (fun v b => ∃ as, Reads s.heap v (id b) as) its xs := by
    have dp := RpA.dp xs vs' (RpA.mono le _ _ ra) h3
    obtain ⟨as, rr⟩ := Dp.readsAll I xs vs' its dp rv
    have rr' : ReadsAll s.heap its (xs.map id) as := by rw [List.map_id]; exact rr
    exact PySem.W.readsAll_each id rr'
  refine PySem.W.sorted_data (enc := id) (R := fun u d => ∃ v, RelV v u ∧ Rp X.K S v d) hL.isList (each_ofRp rv ra) er (by rw [List.map_id]; exact allAlikeB_ok h1) (by rw [List.map_id]; exact sortableB_ok h2) hl
    (fun b hb => by have := of_decide_eq_true (List.all_eq_true.mp h4 b hb); show X.A.units + 2 + b.depth < cLine; omega) fun out ho eo => ?_
  obtain ⟨ws, r1, r2⟩ := each_toRp eo
  obtain ⟨ep, he'⟩ := PyProof.Rows.sortedAll_at s.heap its out.toArray
  have hlen : ws.length ≤ sizeLine := by rw [r1.length, ho]; exact hl
  exact ⟨.ref _, upd H (s.heap.objs.size + 1) (.lst ws), I.laid (t' := s.toks) (fun _ _ => PyProof.Rows.sortedAll_old) (Nat.le_succ _) ⟨hlen, out.toArray.toList, ep, r1, he'⟩, rfl, q _ ws (I.hok.fresh (Nat.le_succ _)) r2⟩
theorem sort_ok (hu : X.A.units + 70 < cLine) : CalB X (.builtin "sorted") (one sortD) := by
  refine ⟨_, cr_sortD hu, isOne fun S H v d Q rs l r e k => ?_⟩
  cases d with
  | list xs =>
    dsimp only [sortD] at e
    split at e
    · rename_i h
      cases e
      obtain ⟨p, vs, rfl, hp, r1, hl⟩ := r.list l
      exact ⟨p, vs, xs, S, rfl, SqL.of hp, l, r1, hl, h, fun p ws n rw' => k p ws n rw' (by rw [List.length_mergeSort]; exact hl)⟩
    · cases e
  | _ => cases e
/-! repr -/
mutual
theorem nod_hd : ∀ d : D, nod d = true → d.hasDict = false
  | .none, _ => by simp [PyData.hasDict]
  | .bool _, _ => by simp [PyData.hasDict]
  | .int _, _ => by simp [PyData.hasDict]
  | .str _, _ => by simp [PyData.hasDict]
  | .list xs, h => by simp only [PyData.hasDict]; exact nodA_hd xs (by simpa [nod] using h)
  | .tuple xs, h => by simp only [PyData.hasDict]; exact nodA_hd xs (by simpa [nod] using h)
  | .dict _, h => by simp [nod] at h
theorem nodA_hd : ∀ ds : List D, nodA ds = true → PyData.hasDictAll ds = false
  | [], _ => by simp [PyData.hasDictAll]
  | d :: ds, h => by
    have h1 : nod d = true ∧ nodA ds = true := by simpa [nodA] using h
    simp [PyData.hasDictAll, nod_hd d h1.1, nodA_hd ds h1.2]
end
def reprOk (d : D) : Bool := nod d && (decide (d.depth ≤ 60) && (d.showable && sOk d.shown))
def reprD : D → Option Rs
  | .list xs => if reprOk (.list xs) = true then some (.d (.str (PyData.shown (.list xs)))) else none
  | .tuple xs => if reprOk (.tuple xs) = true then some (.d (.str (PyData.shown (.tuple xs)))) else none
  | _ => none
theorem reprOk.parts {d : D} (h : reprOk d = true) : nod d = true ∧ d.depth ≤ 60 ∧ d.showable = true ∧ sOk d.shown = true := by
  unfold reprOk at h
  simpa only [Bool.and_eq_true, decide_eq_true_eq] using h
theorem cr_repr (hg : X.A.guards = some []) (hu : X.A.units + 70 < cLine) : CallR X (.builtin "repr") (fun vs H Q => ∃ (a : Addr) (d : D), vs = [.ref a] ∧ Dp X.K H (.ref a) d ∧ reprOk d = true ∧ Q (.str d.shown) H) := by
  rintro pins s σ H vs us Q I r ⟨a, d, rfl, hd, ok, q⟩
  rw [Vals.ref1 r]
  obtain ⟨h1, h2, h3, h4⟩ := (reprOk.parts ok)
  obtain ⟨as, rd⟩ := Dp.reads I d _ (.ref a) hd rfl
  exact PySem.repr_of_reads' rd h3 (PyData.noDict_hsm (nod_hd d h1)) hg (by omega) (fun _ _ e => e) (fun h' u tk hk => ⟨.str d.shown, H, I.kept (t' := tk) hk, ⟨u, rfl⟩, q⟩) (sOk.ln h4)
theorem repr_ok (hg : X.A.guards = some []) (hu : X.A.units + 70 < cLine) : CalB X (.builtin "repr") (one reprD) := by
  refine ⟨_, cr_repr hg hu, isOne fun S H v d Q rs l r e k => ?_⟩
  cases d with
  | list xs =>
    dsimp only [reprD] at e
    split at e
    · rename_i ok
      cases e
      obtain ⟨p, vs, rfl, hp, r1, hl⟩ := r.list l
      exact ⟨p, _, rfl, Rp.dp _ _ (r.rp l) (reprOk.parts ok).1, ok, k.of (.str _ (reprOk.parts ok).2.2.2)⟩
    · cases e
  | tuple xs =>
    dsimp only [reprD] at e
    split at e
    · rename_i ok
      cases e
      obtain ⟨p, vs, rfl, hp, r1, hl, r0⟩ := r.tup l
      exact ⟨p, _, rfl, Rp.dp _ _ (r.rp l) (reprOk.parts ok).1, ok, k.of (.str _ (reprOk.parts ok).2.2.2)⟩
    · cases e
  | _ => cases e
inductive Blt
  | repr | sorted | len | list | tuple | all | any | sum | int | abs | max | min | divmod
  deriving DecidableEq
def Blt.name : Blt → Str
  | .repr => "repr" | .sorted => "sorted" | .len => "len" | .list => "list" | .tuple => "tuple" | .all => "all" | .any => "any" | .sum => "sum" | .int => "int" | .abs => "abs" | .max => "max" | .min => "min" | .divmod => "divmod"
def Blt.val : Blt → Value
  | .repr => .builtin "repr" | .sorted => .builtin "sorted" | .len => .builtin "len" | .list => .type "list" | .tuple => .type "tuple" | .all => .builtin "all" | .any => .builtin "any" | .sum => .builtin "sum" | .int => .type "int" | .abs => .builtin "abs" | .max => .builtin "max" | .min => .builtin "min" | .divmod => .builtin "divmod"
def bltD : Blt → List D → Option Rs
  | .repr => one reprD
  | .sorted => one sortD
  | .len => one lenD
  | .list => one listD
  | .tuple => one tupleD
  | .all => one allD
  | .any => orN (one anyD) (one anyID)
  | .sum => one sumD
  | .int => one intD
  | .abs => one absD
  | .max => orN (two max2D) (one max1D)
  | .min => orN (two min2D) (orN (one min1D) (three min3D))
  | .divmod => two divmodD
theorem bltD_ok (hc : X.calm = true) (hu : X.A.units + 80 < cLine) (hg : X.A.guards = some []) : ∀ b : Blt, CalB X b.val (bltD b)
  | .repr => repr_ok hg (by omega)
  | .sorted => sort_ok (by omega)
  | .len => len_ok
  | .list => list_ok
  | .tuple => tuple_ok
  | .all => all_ok hc
  | .any => (any_ok hc).or (anyI_ok hc)
  | .sum => sum_ok hc
  | .int => int_ok
  | .abs => abs_ok
  | .max => (max2_ok hc).or (max1_ok hc)
  | .min => (min2_ok hc).or ((min1_ok hc).or (min3_ok hc))
  | .divmod => divmod_ok
end
end Pw
/-! Pw, part G: the small language and what it computes. -/
namespace Pw
open PySem PySem.Spec PyProof.Rows L2

inductive R (α : Type) where
  | ok (a : α) (ρ : Envr)
  | raise (C : Str) (x : D) (ρ : Envr)
  | stuck
def R.bind {α β : Type} (r : R α) (f : α → Envr → R β) : R β :=
  match r with
  | .ok a ρ => f a ρ
  | .raise C x ρ => .raise C x ρ
  | .stuck => .stuck
def R.mapR {α β : Type} (r : R α) (f : α → β) : R β := r.bind fun a ρ => .ok (f a) ρ
inductive FR where
  | ok (r : Sl) (outs : List (Option Sl))
  | raise (C : Str) (x : D) (outs : List (Option Sl))
  | stuck
structure Fn where
  name : Str
  md : List Bool
  sem : List Sl → FR
inductive Lit
  | non
  | bl (b : Bool)
  | int (i : Int)
  | str (x : Str)
def Lit.d : Lit → D
  | .non => .none
  | .bl b => .bool b
  | .int i => .int i
  | .str x => .str x
/-- targets -/
inductive Tg
  | nm (i : Nat)
  | tp (ts : List Tg)
/-- methods that leave their object as it is; methods of a list that change it -/
inductive Mth
  | index | join
  deriving DecidableEq
def Mth.ty : Mth → String
  | .index => "list"
  | .join => "str"
/-- built-in classes for isinstance -/
inductive Ty
  | lst | tup | str | int | bool | dict
  deriving DecidableEq
def tyIs : D → Ty → Bool
  | .list _, .lst => true
  | .tuple _, .tup => true
  | .str _, .str => true
  | .int _, .int => true
  | .bool _, .int => true
  | .bool _, .bool => true
  | .dict _, .dict => true
  | _, _ => false
def strsD : List D → Option (List Str)
  | [] => some []
  | .str x :: r => (strsD r).map (x :: ·)
  | _ => none
def seqD : D → Option (List D)
  | .list xs => some xs
  | .tuple xs => some xs
  | _ => none
def joinD (a : Str) (d : D) : Option Rs :=
  match (seqD d).bind strsD with
  | some ys => if (ys.map (·.length)).sum + ys.length * a.length ≤ 16777216 ∧ sOk (Txt.join a ys) = true then some (.d (.str (Txt.join a ys))) else none
  | none => none
def indexD (xs : List D) (d : D) : Option Rs :=
  if eqOk (.list xs) = true ∧ eqOk d = true then (xs.findIdx? fun z => PyData.eqv z d).map fun (j : Nat) => .d (.int (j : Int)) else none
def metTy : Mth → D → Bool
  | .index, .list _ => true
  | .join, .str _ => true
  | _, _ => false
def metI : D → List D → Option Rs
  | .list xs, [d] => indexD xs d
  | _, _ => none
def metJ : D → List D → Option Rs
  | .str a, [d] => joinD a d
  | _, _ => none
def metD : Mth → D → List D → Option Rs
  | .index => metI
  | .join => metJ
inductive Mut
  | append | pop | popAt | insert | reverse | extend | remove
  deriving DecidableEq
mutual
inductive E
  | lit (c : Lit)
  | glo (x : Str) (d : D)
  | var (i : Nat)
  | tup (es : Es)
  | lst (es : Es)
  | dct (ks : List Str) (es : Es)
  | bin (op : Operator) (a b : E)
  | cmp (op : CmpOp) (a b : E)
  | chn (p q : CmpOp) (a b c : E)
  | and_ (es : Es)
  | or_ (es : Es)
  | not_ (a : E)
  | neg (a : E)
  | ife (c a b : E)
  | idx (a b : E)
  | slc (a : E) (lo hi : Oe)
  | sscr (i : Nat) (lo hi : Oe)
  | call (F : Fn) (es : Es)
  | blt (b : Blt) (es : Es)
  | mut (m : Mut) (i : Nat) (es : Es)
  | isi (a : E) (Ts : List Ty)
  | met (m : Mth) (a : E) (es : Es)
  | comp (elt : E) (tg : Tg) (it : It) (c : Oe) (own : List Nat)
inductive Es
  | nil
  | cons (e : E) (es : Es)
inductive Oe
  | non
  | som (e : E)
inductive It
  | val (e : E)
  | rng1 (e : E)
  | rng2 (a b : E)
  | enm (e : E)
  | zip (a b : E)
  | rev (e : E)
end
mutual
/-- the slots that comprehensions take for their own -/
def E.own : E → List Nat
  | .lit _ | .glo _ _ | .var _ => []
  | .tup es | .lst es | .dct _ es | .and_ es | .or_ es | .call _ es | .blt _ es | .mut _ _ es => es.own
  | .bin _ a b | .cmp _ a b | .idx a b => a.own ++ b.own
  | .chn _ _ a b c | .ife a b c => a.own ++ (b.own ++ c.own)
  | .not_ a | .neg a | .isi a _ => a.own
  | .met _ a es => a.own ++ es.own
  | .slc a lo hi => a.own ++ (lo.own ++ hi.own)
  | .sscr _ lo hi => lo.own ++ hi.own
  | .comp elt _ it c own => own ++ (elt.own ++ (it.own ++ c.own))
def Es.own : Es → List Nat
  | .nil => []
  | .cons e es => e.own ++ es.own
def Oe.own : Oe → List Nat
  | .non => []
  | .som e => e.own
def It.own : It → List Nat
  | .val e | .rng1 e | .enm e | .rev e => e.own
  | .rng2 a b | .zip a b => a.own ++ b.own
end
/-- no alias of a slot that will be a comprehension's -/
def nal (os : List Nat) : Sl → Bool
  | .ali i => !os.contains i
  | _ => true
def ret (sl : Sl) (ρ : Envr) : R Sl := .ok sl ρ
def rsR (ρ : Envr) : Option Rs → R Sl
  | some rs => .ok (slOf rs) ρ
  | none => .stuck
def views (ρ : Envr) : List Sl → Option (List D)
  | [] => some []
  | s :: r => match view ρ s, views ρ r with
    | some d, some ds => some (d :: ds)
    | _, _ => none
def truth (ρ : Envr) (s : Sl) : Option Bool :=
  match view ρ s with
  | some (.bool b) => some b
  | _ => none
def bindT : Tg → D → Envr → Option Envr
  | .nm i, d, ρ => if i < ρ.length then some (ρ.set i (some (.d d))) else none
  | .tp ts, .tuple ds, ρ => if ts.length = ds.length then bindTs ts ds ρ else none
  | .tp ts, .list ds, ρ => if ts.length = ds.length then bindTs ts ds ρ else none
  | .tp _, _, _ => none
where bindTs : List Tg → List D → Envr → Option Envr
  | [], [], ρ => some ρ
  | t :: ts, d :: ds, ρ => match bindT t d ρ with
    | some ρ' => bindTs ts ds ρ'
    | none => none
  | _, _, _ => none
def wipeE (ρ : Envr) : List Nat → Envr
  | [] => ρ
  | v :: vs => (wipeE ρ vs).set v none
/-- the own slots again as they were -/
def backE (ρ₀ ρ : Envr) : List Nat → Envr
  | [] => ρ
  | v :: vs => backE ρ₀ (ρ.set v (ρ₀.getD v none)) vs
/-- a loop over items -/
def loopL (f : D → Envr → List D → R (List D)) : List D → Envr → List D → R (List D)
  | [], ρ, acc => .ok acc ρ
  | d :: ds, ρ, acc => (f d ρ acc).bind fun acc' ρ' => loopL f ds ρ' acc'
def itemsOf : D → Option (List D)
  | .list xs => some xs
  | .tuple xs => some xs
  | .str z => some (z.cps.toList.map fun c => .str ⟨#[c]⟩)
  | _ => none
def rngItems (lo n : Int) : List D := (List.range n.toNat).map fun (k : Nat) => .int (lo + (k : Int))
def enumItems (xs : List D) : List D := xs.zipIdx.map fun p => .tuple [.int (p.2 : Int), p.1]
def zipItems (xs ys : List D) : List D := (xs.zip ys).map fun p => .tuple [p.1, p.2]
/-- the arguments as the callee has them -/
def argIn (ρ : Envr) (io : Bool) (k : Nat) (s : Sl) : Option Sl :=
  match io with
  | false => match s with
    | .d x => some (.d x)
    | .raw v => some (.raw v)
    | .scr ns => some (.scr ns)
    | _ => none
  | true =>
    match (match s with
      | .ali i => (ρ[i]?).join
      | s => some s) with
    | some (.ol _ xs) => some (.ol (some k) xs)
    | some (.od _ t kvs) => some (.od (some k) t kvs)
    | some (.oi _ C fs) => some (.oi (some k) C fs)
    | _ => none
def argsIn (ρ : Envr) : List Bool → Nat → List Sl → Option (List Sl)
  | [], _, [] => some []
  | m :: ms, k, s :: r => match argIn ρ m k s, argsIn ρ ms (k + 1) r with
    | some a, some as => some (a :: as)
    | _, _ => none
  | _, _, _ => none
def aliOf : List Sl → List Nat
  | [] => []
  | .ali i :: r => i :: aliOf r
  | _ :: r => aliOf r
def Sl.flag (k : Option Nat) : Sl → Sl
  | .ol _ xs => .ol k xs
  | .od _ t kvs => .od k t kvs
  | .oi _ C fs => .oi k C fs
  | s => s
def Sl.owned : Sl → Bool
  | .ol _ _ | .od _ _ _ | .oi _ _ _ => true
  | _ => false
def Sl.z : Sl → Option Nat
  | .ol z _ | .od z _ _ | .oi z _ _ => z
  | _ => none
def reflag (old : Option Sl) (new : Sl) : Option Sl :=
  match old with
  | some y => if y.owned = true ∧ new.owned = true then some (new.flag y.z) else none
  | none => none
def putOuts (ρ : Envr) : List Sl → List (Option Sl) → Envr
  | .ali i :: r, o :: os => putOuts (ρ.set i (o.bind fun o => reflag ((ρ[i]?).join) o)) r os
  | _ :: r, _ :: os => putOuts ρ r os
  | _, _ => ρ
def resOk : Sl → Bool
  | .d _ | .raw _ | .ol none _ | .od none _ _ | .oi none _ _ => true
  | _ => false
def callR (F : Fn) (sls : List Sl) (ρ : Envr) : R Sl :=
  if (aliOf sls).Nodup then
    match argsIn ρ F.md 0 sls with
    | some args => match F.sem args with
      | .ok r outs => if resOk r = true ∧ outs.length = F.md.length then .ok r (putOuts ρ sls outs) else .stuck
      | .raise C x outs => if outs.length = F.md.length then .raise C x (putOuts ρ sls outs) else .stuck
      | .stuck => .stuck
    | none => .stuck
  else .stuck
/-- a list's methods that change it -/
def mApp (xs : List D) : List D → Option (D × List D)
  | [d] => if xs.length < sizeLine then some (.none, xs ++ [d]) else none
  | _ => none
def mPop (xs : List D) : List D → Option (D × List D)
  | [] => (xs[xs.length - 1]?).map fun d => (d, xs.dropLast)
  | _ => none
def mPopAt (xs : List D) : List D → Option (D × List D)
  | [.int i] => (ixN xs.length i).bind fun k => (xs[k]?).map fun d => (d, xs.eraseIdx k)
  | _ => none
def mIns (xs : List D) : List D → Option (D × List D)
  | [.int i, d] => if xs.length < sizeLine ∧ 0 ≤ i ∧ i < 2 ^ 63 then some (.none, xs.take i.toNat ++ [d] ++ xs.drop i.toNat) else none
  | _ => none
def mRev (xs : List D) : List D → Option (D × List D)
  | [] => some (.none, xs.reverse)
  | _ => none
def mExt (xs : List D) : List D → Option (D × List D)
  | [.list ys] => if xs.length + ys.length ≤ sizeLine then some (.none, xs ++ ys) else none
  | _ => none
def mRem (xs : List D) : List D → Option (D × List D)
  | [.str z] => match strsD xs with
    | some ys => (ys.findIdx? fun y => y.cps.toList == z.cps.toList).map fun j => (.none, xs.eraseIdx j)
    | none => none
  | _ => none
def mutD : Mut → List D → List D → Option (D × List D)
  | .insert, xs, ds => mIns xs ds
  | .reverse, xs, ds => mRev xs ds
  | .extend, xs, ds => mExt xs ds
  | .remove, xs, ds => mRem xs ds
  | .append, xs, ds => mApp xs ds
  | .pop, xs, ds => mPop xs ds
  | .popAt, xs, ds => mPopAt xs ds
def sldD : Sl → Option D
  | .d x => some x
  | _ => none
def varR (i : Nat) (ρ : Envr) : R Sl :=
  match ρ[i]? with
  | some (some (.d x)) => .ok (.d x) ρ
  | some (some (.raw v)) => .ok (.raw v) ρ
  | some (some (.scr ns)) => .ok (.scr ns) ρ
  | some (some (.ol _ _)) | some (some (.od _ _ _)) | some (some (.oi _ _ _)) => .ok (.ali i) ρ
  | _ => .stuck
def fzR (s : Sl) (ρ : Envr) : R Sl :=
  match fz ρ s with
  | some (x, ρ') => .ok (.d x) ρ'
  | none => .stuck
def partOf (ρ : Envr) : Sl → Option (Option Int) := fun s => match view ρ s with
  | some (.int i) => some (some i)
  | _ => none

def iopD : Operator → D → D → Option Rs
  | .Add => addI
  | .Sub => subI
  | .Mult => mulI
  | .FloorDiv => divI
  | .Mod => modI
  | _ => fun _ _ => none
def op2 (f : D → D → Option Rs) (s u : Sl) (ρ : Envr) : R Sl :=
  match view ρ s, view ρ u with
  | some x, some y => rsR ρ (f x y)
  | _, _ => .stuck
def grd {α : Type} (b : Bool) (r : R α) : R α := if b = true then r else .stuck
def rawR (s : Sl) (ρ : Envr) : R Sl :=
  match s with
  | .raw v => .ok (.raw v) ρ
  | .scr ns => .ok (.scr ns) ρ
  | s => fzR s ρ
def fzD (s : Sl) (ρ : Envr) : R D :=
  match fz ρ s with
  | some (x, ρ') => .ok x ρ'
  | none => .stuck
def testR (s : Sl) (ρ : Envr) : R Bool :=
  match truth ρ s with
  | some b => .ok b ρ
  | none => .stuck
/-- one turn of a comprehension -/
def turnR (tg : Tg) (own : List Nat) (q : Envr → R Bool) (el : Envr → R Sl) (d : D) (ρ : Envr) (acc : List D) : R (List D) :=
  match bindT tg d ρ with
  | none => .stuck
  | some ρ => (q ρ).bind fun b ρ => if b = true then (el ρ).bind fun s ρ => (fzD s ρ).bind fun y ρ => .ok (acc ++ [y]) (wipeE ρ own) else .ok acc (wipeE ρ own)
def compR (own : List Nat) (ρ₁ : Envr) : R (List D) → R Sl
  | .ok acc ρ₂ => .ok (.ol none acc) (backE ρ₁ ρ₂ own)
  | _ => .stuck
def chnR (p : CmpOp) (s u : Sl) (ρ : Envr) (k : R Sl) : R Sl :=
  match view ρ s, view ρ u with
  | some x, some y => match cmpD p x y with
    | some (.d (.bool true)) => k
    | some (.d (.bool false)) => .ok (.d (.bool false)) ρ
    | _ => .stuck
  | _, _ => .stuck
def mutR (m : Mut) (i : Nat) (ds : List D) (ρ : Envr) : R Sl :=
  match ρ[i]? with
  | some (some (.ol z xs)) => match mutD m xs ds with
    | some (d, xs') => .ok (.d d) (ρ.set i (some (.ol z xs')))
    | none => .stuck
  | _ => .stuck
def isOl (ρ : Envr) (i : Nat) : Bool :=
  match ρ[i]? with
  | some (some (.ol _ _)) => true
  | _ => false
def scrOf (ρ : Envr) (i : Nat) : Option (List Int) :=
  match ρ[i]? with
  | some (some (.scr ns)) => some ns
  | _ => none
def notR (s : Sl) (ρ : Envr) : R Sl := (testR s ρ).bind fun b ρ => .ok (.d (.bool (!b))) ρ
def negR (s : Sl) (ρ : Envr) : R Sl :=
  match view ρ s with
  | some (.int i) => .ok (.d (.int (-i))) ρ
  | _ => .stuck
def slcR (s : Sl) (l h : Option Int) (ρ : Envr) : R Sl :=
  match view ρ s with
  | some x => rsR ρ (sliceD x l h)
  | none => .stuck
def bltR (b : Blt) (sls : List Sl) (ρ : Envr) : R Sl :=
  match views ρ sls with
  | some ds => rsR ρ (bltD b ds)
  | none => .stuck
def isiR (Ts : List Ty) (s : Sl) (ρ : Envr) : R Sl :=
  match view ρ s with
  | some x => .ok (.d (.bool (Ts.any (tyIs x)))) ρ
  | none => .stuck
def hasTy (m : Mth) (ρ : Envr) (s : Sl) : Bool :=
  match view ρ s with
  | some x => metTy m x
  | none => false
def metR (m : Mth) (s : Sl) (ss : List Sl) (ρ : Envr) : R Sl :=
  match view ρ s, views ρ ss with
  | some x, some ds => rsR ρ (metD m x ds)
  | _, _ => .stuck
def partR (s : Sl) (ρ : Envr) : R (Option Int) :=
  match partOf ρ s with
  | some o => .ok o ρ
  | none => .stuck
def optR {α : Type} (ρ : Envr) : Option α → R α
  | some x => .ok x ρ
  | none => .stuck
def rng1R (s : Sl) (ρ : Envr) : R (List D) :=
  match view ρ s with
  | some (.int n) => if -(2 ^ 62) ≤ n ∧ n ≤ 10000000 then .ok (rngItems 0 n) ρ else .stuck
  | _ => .stuck
def rng2R (s u : Sl) (ρ : Envr) : R (List D) :=
  match view ρ s, view ρ u with
  | some (.int m), some (.int n) => if -(2 ^ 61) ≤ m ∧ m < 2 ^ 61 ∧ -(2 ^ 61) ≤ n ∧ n < 2 ^ 61 ∧ n - m ≤ 10000000 then .ok (rngItems m (n - m)) ρ else .stuck
  | _, _ => .stuck
def seqOf : D → Option (List D)
  | .list xs => some xs
  | .tuple xs => some xs
  | _ => none
def zipOf : D → D → Option (List D)
  | .list xs, .list ys => some (zipItems xs ys)
  | .tuple xs, .tuple ys => some (zipItems xs ys)
  | .str x, .str y => some (zipItems (x.cps.toList.map fun c => .str ⟨#[c]⟩) (y.cps.toList.map fun c => .str ⟨#[c]⟩))
  | _, _ => none

mutual
def ev : E → Envr → R Sl
  | .lit c, ρ => .ok (.d c.d) ρ
  | .glo _ d, ρ => .ok (.d d) ρ
  | .var i, ρ => varR i ρ
  | .tup es, ρ => (evA es ρ).bind fun ds ρ => .ok (.d (.tuple ds)) ρ
  | .lst es, ρ => (evA es ρ).bind fun ds ρ => .ok (.ol none ds) ρ
  | .dct ks es, ρ => (evA es ρ).bind fun ds ρ => .ok (.od none false ((ks.map PyData.str).zip ds)) ρ
  | .bin op a b, ρ => (ev a ρ).bind fun s ρ => grd (nal b.own s) ((ev b ρ).bind fun u ρ => op2 (binD op) s u ρ)
  | .cmp op a b, ρ => (ev a ρ).bind fun s ρ => grd (nal b.own s) ((ev b ρ).bind fun u ρ => op2 (cmpD op) s u ρ)
  | .chn p q a b c, ρ => (ev a ρ).bind fun s ρ => grd (nal (b.own ++ c.own) s) ((ev b ρ).bind fun u ρ => chnR p s u ρ (grd (nal c.own u) ((ev c ρ).bind fun w ρ => op2 (cmpD q) u w ρ)))
  | .and_ es, ρ => evB true es ρ
  | .or_ es, ρ => evB false es ρ
  | .not_ a, ρ => (ev a ρ).bind fun s ρ => notR s ρ
  | .neg a, ρ => (ev a ρ).bind fun s ρ => negR s ρ
  | .ife c a b, ρ => (ev c ρ).bind fun s ρ => (testR s ρ).bind fun t ρ => if t = true then ev a ρ else ev b ρ
  | .idx a b, ρ => (ev a ρ).bind fun s ρ => grd (nal b.own s) ((ev b ρ).bind fun u ρ => op2 idxSeq s u ρ)
  | .slc a lo hi, ρ => (ev a ρ).bind fun s ρ => grd (nal (lo.own ++ hi.own) s) ((evO lo ρ).bind fun l ρ => (evO hi ρ).bind fun h ρ => slcR s l h ρ)
  | .sscr i lo hi, ρ => (optR ρ (scrOf ρ i)).bind fun ns ρ => (evO lo ρ).bind fun l ρ => (evO hi ρ).bind fun h ρ => .ok (.ol none (cutD (ns.map .int) l h)) ρ
  | .call F es, ρ => (evC F.md es ρ).bind fun sls ρ => callR F sls ρ
  | .blt b es, ρ => (evL es ρ).bind fun sls ρ => bltR b sls ρ
  | .mut m i es, ρ => grd (isOl ρ i) ((evA es ρ).bind fun ds ρ => mutR m i ds ρ)
  | .isi a Ts, ρ => (ev a ρ).bind fun s ρ => isiR Ts s ρ
  | .met m a es, ρ => (ev a ρ).bind fun s ρ => grd (nal es.own s && hasTy m ρ s) ((evL es ρ).bind fun ss ρ => metR m s ss ρ)
  | .comp elt tg it c own, ρ => (evI it ρ).bind fun items ρ₁ => compR own ρ₁ (loopL (turnR tg own (fun ρ => evQ c ρ) fun ρ => ev elt ρ) items (wipeE ρ₁ own) [])
/-- all frozen, from the left -/
def evA : Es → Envr → R (List D)
  | .nil, ρ => .ok [] ρ
  | .cons e es, ρ => (ev e ρ).bind fun s ρ => (fzD s ρ).bind fun x ρ => (evA es ρ).bind fun ds ρ => .ok (x :: ds) ρ
/-- as they are -/
def evL : Es → Envr → R (List Sl)
  | .nil, ρ => .ok [] ρ
  | .cons e es, ρ => (ev e ρ).bind fun s ρ => grd (nal es.own s) ((evL es ρ).bind fun ss ρ => .ok (s :: ss) ρ)
/-- a call's arguments -/
def evC : List Bool → Es → Envr → R (List Sl)
  | m :: ms, .cons e es, ρ => (ev e ρ).bind fun s ρ => (if m = true then grd (nal es.own s) (.ok s ρ) else rawR s ρ).bind fun s ρ => (evC ms es ρ).bind fun ss ρ => .ok (s :: ss) ρ
  | [], .nil, ρ => .ok [] ρ
  | _, _, _ => .stuck
/-- and, or: k the word that goes on -/
def evB (k : Bool) : Es → Envr → R Sl
  | .nil, _ => .stuck
  | .cons e .nil, ρ => ev e ρ
  | .cons e (.cons f es), ρ => (ev e ρ).bind fun s ρ => (testR s ρ).bind fun b ρ => if b = k then evB k (.cons f es) ρ else .ok (.d (.bool b)) ρ
def evO : Oe → Envr → R (Option Int)
  | .non, ρ => .ok none ρ
  | .som e, ρ => (ev e ρ).bind fun s ρ => partR s ρ
/-- a comprehension's test -/
def evQ : Oe → Envr → R Bool
  | .non, ρ => .ok true ρ
  | .som e, ρ => (ev e ρ).bind fun s ρ => testR s ρ
/-- what is walked: the items -/
def evI : It → Envr → R (List D)
  | .val e, ρ => (ev e ρ).bind fun s ρ => (fzD s ρ).bind fun x ρ => optR ρ (itemsOf x)
  | .rng1 e, ρ => (ev e ρ).bind fun s ρ => rng1R s ρ
  | .rng2 a b, ρ => (ev a ρ).bind fun s ρ => grd (nal b.own s) ((ev b ρ).bind fun u ρ => rng2R s u ρ)
  | .enm e, ρ => (ev e ρ).bind fun s ρ => (fzD s ρ).bind fun x ρ => (optR ρ (seqOf x)).bind fun xs ρ => .ok (enumItems xs) ρ
  | .zip a b, ρ => (ev a ρ).bind fun s ρ => (fzD s ρ).bind fun x ρ => (ev b ρ).bind fun u ρ => (fzD u ρ).bind fun y ρ => optR ρ (zipOf x y)
  | .rev e, ρ => (ev e ρ).bind fun s ρ => (fzD s ρ).bind fun x ρ => (optR ρ (seqOf x)).bind fun xs ρ => .ok xs.reverse ρ
end

/-- all as names get them -/
def ownR (s : Sl) (ρ : Envr) : R Sl :=
  match s with
  | .ali i => fzR (.ali i) ρ
  | s => .ok s ρ
def evW : Es → Envr → R (List Sl)
  | .nil, ρ => .ok [] ρ
  | .cons e es, ρ => (ev e ρ).bind fun s ρ => (ownR s ρ).bind fun s ρ => (evW es ρ).bind fun ss ρ => .ok (s :: ss) ρ

/-! ### statements -/
inductive SR where
  | next (ρ : Envr)
  | brk (ρ : Envr)
  | cont (ρ : Envr)
  | ret (r : Sl) (ρ : Envr)
  | raise (C : Str) (x : D) (ρ : Envr)
  | stuck
def R.st {α : Type} (r : R α) (f : α → Envr → SR) : SR :=
  match r with
  | .ok a ρ => f a ρ
  | .raise C x ρ => .raise C x ρ
  | .stuck => .stuck
def SR.seq (r : SR) (f : Envr → SR) : SR :=
  match r with
  | .next ρ => f ρ
  | r => r
def optS (o : Option Envr) : SR :=
  match o with
  | some ρ => .next ρ
  | none => .stuck
/-- what is handed back: an alias moves out of its slot -/
def outR (s : Sl) (ρ : Envr) : R Sl :=
  match s with
  | .ali i => match ρ[i]? with
    | some (some (.ol none xs)) => .ok (.ol none xs) (ρ.set i none)
    | some (some (.od none t kvs)) => .ok (.od none t kvs) (ρ.set i none)
    | some (some (.oi none C fs)) => .ok (.oi none C fs) (ρ.set i none)
    | some (some (.d x)) => .ok (.d x) ρ
    | _ => .stuck
  | s => .ok s ρ
def grdS (b : Bool) (r : SR) : SR := if b = true then r else .stuck
def setS (i : Nat) (s : Sl) (ρ : Envr) : SR := if i < ρ.length then .next (ρ.set i (some s)) else .stuck
def setsS : List Nat → List Sl → Envr → SR
  | [], [], ρ => .next ρ
  | i :: is, d :: ds, ρ => (setS i d ρ).seq fun ρ => setsS is ds ρ
  | _, _, _ => .stuck
def setSub (i : Nat) (k : D) (d : D) (ρ : Envr) : SR :=
  match ρ[i]? with
  | some (some (.ol z xs)) => match k with
    | .int j => match ixN xs.length j with
      | some n => .next (ρ.set i (some (.ol z (xs.set n d))))
      | none => .stuck
    | _ => .stuck
  | _ => .stuck
def loopS (f : D → Envr → SR) : List D → Envr → SR
  | [], ρ => .next ρ
  | d :: ds, ρ => match f d ρ with
    | .next ρ => loopS f ds ρ
    | .cont ρ => loopS f ds ρ
    | .brk ρ => .next ρ
    | r => r
def whileS (q : Envr → R Bool) (f : Envr → SR) : Nat → Envr → SR
  | 0, _ => .stuck
  | n + 1, ρ => (q ρ).st fun b ρ => if b = true then match f ρ with
      | .next ρ => whileS q f n ρ
      | .cont ρ => whileS q f n ρ
      | .brk ρ => .next ρ
      | r => r
    else .next ρ
mutual
inductive S
  | dead
  | pass
  | brk
  | cont
  | exp (e : E)
  | asg (i : Nat) (e : E)
  | unp (tg : Tg) (e : E)
  | par (is : List Nat) (es : Es)
  | sub (i : Nat) (k e : E)
  | unpSub (i : Nat) (k : E) (j : Nat) (e : E)
  | aug (i : Nat) (op : Operator) (e : E)
  | ifs (c : E) (a b : Ss)
  | for_ (tg : Tg) (it : It) (b : Ss)
  | whl (n : Envr → Nat) (c : E) (b : Ss)
  | ret (e : E)
  | raise (C : Str) (e : E)
inductive Ss
  | nil
  | cons (s : S) (ss : Ss)
end
mutual
def ex : S → Envr → SR
  | .dead, _ => .stuck
  | .pass, ρ => .next ρ
  | .brk, ρ => .brk ρ
  | .cont, ρ => .cont ρ
  | .exp e, ρ => (ev e ρ).st fun _ ρ => .next ρ
  | .asg i e, ρ => (ev e ρ).st fun s ρ => (ownR s ρ).st fun s ρ => setS i s ρ
  | .unp tg e, ρ => (ev e ρ).st fun s ρ => (fzD s ρ).st fun d ρ => optS (bindT tg d ρ)
  | .par is es, ρ => (evW es ρ).st fun ss ρ => setsS is ss ρ
  | .sub i k e, ρ => (ev e ρ).st fun s ρ => (fzD s ρ).st fun d ρ => grdS (isOl ρ i) ((ev k ρ).st fun u ρ => (fzD u ρ).st fun j ρ => setSub i j d ρ)
  | .unpSub i k j e, ρ => (ev e ρ).st fun s ρ => (fzD s ρ).st fun d ρ => match d with
      | .tuple [a, b] => grdS (isOl ρ i) ((ev k ρ).st fun u ρ => (fzD u ρ).st fun n ρ => (setSub i n a ρ).seq fun ρ => setS j (.d b) ρ)
      | _ => .stuck
  | .aug i op e, ρ => (varR i ρ).st fun s ρ => grdS (nal e.own s) ((ev e ρ).st fun u ρ => (op2 (iopD op) s u ρ).st fun s ρ => setS i s ρ)
  | .ifs c a b, ρ => (ev c ρ).st fun s ρ => (testR s ρ).st fun t ρ => if t = true then exs a ρ else exs b ρ
  | .for_ tg it b, ρ => (evI it ρ).st fun items ρ => loopS (fun d ρ => (optS (bindT tg d ρ)).seq fun ρ => exs b ρ) items ρ
  | .whl n c b, ρ => whileS (fun ρ => (ev c ρ).bind fun s ρ => testR s ρ) (fun ρ => exs b ρ) (n ρ) ρ
  | .ret e, ρ => (ev e ρ).st fun s ρ => (outR s ρ).st fun s ρ => .ret s ρ
  | .raise C e, ρ => (ev e ρ).st fun s ρ => (fzD s ρ).st fun d ρ => .raise C d ρ
def exs : Ss → Envr → SR
  | .nil, ρ => .next ρ
  | .cons s ss, ρ => (ex s ρ).seq fun ρ => exs ss ρ
end
end Pw
/-! Pw, part Gd: promises of defs that are called where nothing is being shown. -/
namespace Pw
open PySem PySem.Spec PyProof.Rows L2
/-- a promise kept wherever no text of an object is under way -/
structure FnG (P : Program) (w : World) (K : PySem.W.Frag) (mg : Str → Option Value) (base : Heap) (CX : CXT) (k : Nat) (f : Addr) (fd : FuncData) (ps : List Str) (sp : Sp) : Prop where
  many : ∀ vs H Q E, sp vs H Q E → vs.length = ps.length
  go : ∀ (A : Around) (out : List Env) (s : Shared) (H : Hp) (as : Args) (us : List Value) (vs : List V) (Q : VK) (E : XK), (Room k A ∧ A.guards = some []) → Env0 P w K mg base A out s H → BindsTo s fd as (ps.zip us) → Vals vs us →
    sp vs H Q E → codeAny (model P w) A (.call (.ref f) as) (CR CX out P w H s Q E) s
section
variable {P : Program} {w : World} {K : PySem.W.Frag} {mg : Str → Option Value} {base : Heap} {CX : CXT} {j k : Nat} {f : Addr} {fd : FuncData} {ps : List Str} {sp : Sp}
theorem FnG.mono (F : FnG P w K mg base CX j f fd ps sp) (l : j ≤ k) : FnG P w K mg base CX k f fd ps sp :=
  ⟨F.many, fun A out s H as us vs Q E r => F.go A out s H as us vs Q E ⟨r.1.mono l, r.2⟩⟩
theorem gd_deeper {A : Around} {env : Env} (h : A.guards = some []) : (A.deeper env).guards = some [] := by
  first
    | exact h
    | simpa [Around.deeper, Around.under, Code.guards, Code.isGuard, pushGuards] using h
/-- a def by its body -/
theorem fnG_of {name qual : Str} {params : Arguments} {body : List Stmt} {scope : Scope} {dV kV doc pm cdv ct oc : Value} {an od : Option Addr} {osl : Array (Option Value)} {N : List Str}
    (lk : K.lookup f = some ⟨oc, od, .func (PySem.W.fnOf name qual params body scope dV kV doc pm an cdv ct), osl⟩) (hcd : PySem.W.codeIn K cdv qual = true) (S : FnScope N ps scope) (len : ∀ vs H Q E, sp vs H Q E → vs.length = ps.length)
    (hb : ∀ (A : Around) (out : List Env) (s : Shared) (H : Hp) (vs : List V) (Q : VK) (E : XK), Room k (A.deeper (envOfC qual scope s.heap.objs.size f cdv)) → (A.deeper (envOfC qual scope s.heap.objs.size f cdv)).guards = some [] → sp vs H Q E →
      ∃ t, PSs (cxOf CX P w K mg base N qual scope f cdv A out s H E) body t ∧ t { nx := fun _ H' => Q .non H', rt := Q } (start N vs) H) :
    FnG P w K mg base CX (k + 1) f (PySem.W.fnOf name qual params body scope dV kV doc pm an cdv ct) ps sp := by
  constructor
  · exact len
  intro A out s H as us vs Q E ⟨hr, hg⟩ e0 bd r hs
  have hl := len _ _ _ _ hs
  have kin : K.In s.heap := e0.mod.kin.keeps fun b o e => (e0.bs b o e).1
  have nol : s.heap.NoLimit := e0.mod.nolimit.keeps fun b o e => (e0.bs b o e).1
  have kinds : ∀ y ∈ ps.zip us, scope.names.lookup y.1 = some .local ∨ (scope.names.lookup y.1 = some .cell ∧ ((cellsFrom (s.heap.objs.size + 1) scope.names []).lookup y.1).isSome = true) := by
    rintro ⟨n, v⟩ hy
    exact (S.par n (List.of_mem_zip hy).1).imp id fun q => ⟨q, PySem.W.cellsFrom_some _ _ _ (.inl q)⟩
  refine codeAny_call_function hr.depth (kin _ _ lk) rfl S.co S.gen rfl (PySem.W.codeRec_of kin hcd) (bd _ _ _ _ (wpAny_newFunctionEnv_cells S.kind kinds fun env he s1 x => ?_))
  cases he
  refine ⟨nol.keeps x.toInCall.keep, codeAny_func ?_⟩
  obtain ⟨t, pt, q⟩ := hb A out s H vs Q E (hr.deeper _) (gd_deeper hg) hs
  have I : Inv (cxOf CX P w K mg base N qual scope f cdv A out s H E) [] (start N vs) H s1 := inv_start S hr.hd e0 hl r x
  refine wpAny_mono (pt.run [] s1 (start N vs) H _ I q) (fun fl s' z => ?_) fun e s' z => z
  cases fl with
  | ret u => obtain ⟨v, σ', H', J, rv, q⟩ := z; exact ⟨v, H', J.os, J.bare, J.base, J.hok, rv, q⟩
  | next => obtain ⟨σ', H', J, q⟩ := z; exact ⟨.non, H', J.os, J.bare, J.base, J.hok, rfl, q⟩
  | brk => exact z.choose_spec.choose_spec.2.elim
  | cont => exact z.choose_spec.choose_spec.2.elim
end
section
variable {X : Cx} {CX : CXT} {k : Nat} {f : Addr} {fd : FuncData} {ps : List Str} {sp : Sp} {E : L2.St → XK} {x : Str} {e : Expr} {es : List Expr} {t : TA} {p pos : Pos}
/-- a call of such a def -/
theorem pe_callG (F : FnG X.prog X.w X.K X.mg X.base CX k f fd ps sp) (hr : Room k X.A ∧ X.A.guards = some []) (hg : Gl X x) (hm : X.mg x = some (.ref f)) (hk : PySem.W.keepIn X.K (.ref f) = true) (hb : Binds X.K fd ps []) (hx : ∀ σ, PassesAt CX X σ (E σ))
    (ha : PA X (e :: es) t) (hdb : (x == ("__debug__" : Str)) = false) (he : starEach (e :: es) X.env = (false, eval e X.env) :: starEach es X.env) (hpl : (backTo pos (starEach es X.env)).any (·.1) = false) : PE X (.Call (.Name x p) (e :: es) [] pos) (tCallS sp E t) := by
  constructor
  intro pins s σ H Q I h
  refine wpAny_Call_Name_kw (ld_glob I hg hm (PySem.W.callWith_K (h₀ := X.base) I.ok.mod.kin hk (thn (ha.run pos pins s σ H _ I h) fun us s1 ⟨vs, H1, I1, r, q⟩ => ⟨I1.kIn, ?_⟩) he hpl) hdb)
  have bd := hb s1 us I1.kIn (by rw [List.append_nil, ← r.length]; exact F.many _ _ _ _ q)
  rw [List.append_nil] at bd
  refine wpAny_call (codeAny_mono (F.go X.A X.stack s1 H1 ⟨us, []⟩ us vs Q (E σ) hr I1.env0 bd r q) fun r s' z => ?_)
  match r, z with
  | .error e, z => exact hx σ pins H1 s1 e s' I1 z
  | .ok (.ret u), z => exact I1.after z
  | .ok .next, z => exact z.elim
  | .ok .brk, z => exact z.elim
  | .ok .cont, z => exact z.elim
end
end Pw
namespace Pw
open PySem PySem.Spec PyProof.Rows L2
/-- the script as an object of its own, where it is none of the module's -/
theorem script_heap {P : Program} {w : World} {K : PySem.W.Frag} {h : Heap} {a : Addr} {vs : List Value} {ns : List Int} (kin : K.In h) (oa : h.get? a = some { cls := .type "list", data := .seq vs.toArray }) (ia : IntsAre vs ns) (few : ns.length ≤ sizeLine) :
    ∃ H : Hp, Only H ∧ SqL K H a (ns.map V.int) ∧ HOk P w H h ∧ ∀ b, H b ≠ none → b = a ∧ K.lookup a = none := by
  have rv := vals_ints ia
  have el := ia.length
  cases q : K.lookup a with
  | some o =>
    have eo := (kin a o q).symm.trans oa
    cases eo
    exact ⟨fun _ => none, fun _ => .inl rfl, .inr ⟨_, vs.toArray, _, q, rfl, rfl, rfl, by rw [List.size_toArray, el]; exact few, by simpa using rv⟩, fun b u z => (nomatch (show (none : Option HO) = some u from z)), fun b z => absurd rfl z⟩
  | none =>
    let F : HO := .frz { cls := .type "list", data := .seq vs.toArray } (.lst (ns.map V.int))
    have yes : ∀ b, b = a → (if b = a then some F else none) = some F := fun b e => if_pos e
    have no : ∀ b, b ≠ a → (if b = a then some F else none) = none := fun b e => if_neg e
    refine ⟨fun b => if b = a then some F else none, fun b => ?_, .inl (.inr ⟨_, yes a rfl⟩), fun b u z => ?_, fun b z => ⟨?_, rfl⟩⟩
    · rcases Classical.em (b = a) with e | e
      · exact .inr ⟨_, _, yes b e⟩
      · exact .inl (no b e)
    · rcases Classical.em (b = a) with e | e
      · cases (yes b e).symm.trans z
        subst e
        exact ⟨oa, by rw [List.length_map]; exact few, vs, _, rv, oa⟩
      · cases (no b e).symm.trans z
    · rcases Classical.em (b = a) with e | e
      · exact e
      · exact absurd (no b e) z
/-- the end of a walk, by such a promise -/
theorem walkG {l : PySem.W.OpenLaw} {n k : Nat} {q : Program} {loose : List Str} {XP : (Str → Option Value) → Heap → Prop} {YP : World → Heap → Prop} {d : DefRec} {K : Params → PySem.W.Frag} {CX : World → CXT} {sp : World → Sp} {x : Str}
    (most : l.most = some n) (fits : n ≤ sizeLine) (plain : d.params.defaults = []) (room : Room k callerA) (has : ∀ (w : World) (h : Heap), YP w h → (K w.params).In h)
    (F : ∀ (w : World) (mg : Str → Option Value) (fa : Addr) (h : Heap), (K w.params).In h → h.Ns mainGlobals mg → mg d.name = some (.ref fa) →
      ∃ fd : FuncData, (∀ (s : Shared) (u : Value), BindsTo s fd ⟨[u], []⟩ [(x, u)]) ∧ ∀ base : Heap, (K w.params).In base → base.Ns mainGlobals mg → FnG l.prog w (K w.params) mg base (CX w) k fa fd [x] (sp w))
    (yes : ∀ (w : World) (H : Hp) (a : Addr) (ns : List Int), ns.length ≤ n → (∀ z ∈ ns, Builtin.Int.intBits z ≤ 1048576) → Only H → SqL (K w.params) H a (ns.map V.int) → sp w [.ref a] H (fun v _ => v = .bl true) fun _ _ _ => False)
    (out : ∀ (w : World) (H : Hp) (s : Shared) (e : Value) (s' : Shared), CX w [] H s (fun _ _ _ => False) e s' → False) : PySem.W.WalkO q loose XP YP l.row.toRowW d [] (fun f vs => PySem.call f vs) := by
  refine Att.attach_callB most plain fun w s₀ s₁ mg mb fa o pm cd doc a vs ns G Y ho hd hcd hmg oa ia len bits gens => ?_
  have kin := has w _ Y
  obtain ⟨fd, hb, hF⟩ := F w mg fa _ kin G.T.g hmg
  obtain ⟨H, only, sq, hok, at_a⟩ := script_heap (P := l.prog) (w := w) kin oa ia (Nat.le_trans len fits)
  have tohid : ∀ {b : Addr} {o : Obj}, s₁.heap.get? b = some o → H b = none → (hidT s₁.heap H).get? b = some o := fun e z => hidT_get e z
  have free : ∀ {b : Addr} {o : Obj}, s₁.heap.get? b = some o → (∀ vs, o.data ≠ .seq vs 0) → H b = none := fun {b o} e nd => by
    rcases Classical.em (H b = none) with z | z
    · exact z
    · obtain ⟨rfl, _⟩ := at_a b z
      cases e.symm.trans oa
      exact absurd rfl (nd _)
  have ns_ : ∀ {b : Addr} {m : Str → Option Value}, s₁.heap.Ns b m → (hidT s₁.heap H).Ns b m := fun ⟨o, es, ep, e, dt, r⟩ => ⟨o, es, ep, tohid e (free e fun vs z => by rw [dt] at z; cases z), dt, r⟩
  have kinH : (K w.params).In (hidT s₁.heap H) := fun b o e => tohid (kin b o e) (by
    rcases Classical.em (H b = none) with z | z
    · exact z
    · obtain ⟨rfl, z⟩ := at_a b z
      rw [z] at e; cases e)
  obtain ⟨mc, c1, c2⟩ := G.T.nolimit
  have mo : Mod (K w.params) mg (hidT s₁.heap H) := ⟨kinH, ns_ G.T.g, ⟨mb, ns_ G.T.b, G.T.builtins⟩, mc, ns_ c1, c2⟩
  have e0 : Env0 l.prog w (K w.params) mg (hidT s₁.heap H) callerA [] s₁ H := ⟨rfl, mo, fun b o e => of_hidT e, Nat.le_of_eq (hidT_size _ _), trivial, fun b m => (nomatch (show b ∈ ([] : List Addr) from m)), hok, .of_eq gens⟩
  have run := (hF _ kinH (ns_ G.T.g)).go callerA [] s₁ H ⟨[.ref a], []⟩ [.ref a] [.ref a] _ _ ⟨room, rfl⟩ e0 (hb s₁ (.ref a)) (.cons rfl .nil) (yes w H a ns len bits only sq)
  refine codeAny_mono run fun r s' z => ?_
  match r, z with
  | .error e, z => exact (out w H s₁ e s' z).elim
  | .ok .next, z => exact z.elim
  | .ok .brk, z => exact z.elim
  | .ok .cont, z => exact z.elim
  | .ok (.ret u), z =>
    obtain ⟨v, H', os, bare, un, hok', ru, rfl⟩ := z
    cases (show u = Value.bool true from ru)
    refine ⟨rfl, OldK.of_keep fun b o e => ?_, os, bare⟩
    rcases only b with z | ⟨ob, xs, z⟩
    · exact un.keep b o e z (fun m => (nomatch (show b ∈ ([] : List Addr) from m))) (by simp)
    · have was := (hok b _ z).1
      have is := (hok' b _ (un.frzs b ob _ z)).1
      cases e.symm.trans was
      exact is
end Pw
/-! Pw, part H: what it computes is what the text does. -/
namespace Pw
open PySem PySem.Spec PyProof.Rows L2

abbrev what : Str := Str.ofString "what"
def PostR {α : Type} (Z : Zx) (W : WX) (σ : L2.St) (P : α → Envr → Prop) : R α → Prop
  | .ok a ρ => P a ρ
  | .raise C x ρ => ∀ d v H', Good Z [v] [.d x] σ ρ H' → H' d = some (.xd [(what, v)]) → W (.ref (Z.cls C)) (some d) σ H'
  | .stuck => False
section
variable {α β : Type} {Z : Zx} {W : WX} {σ : L2.St}
theorem PostR.bind {r : R α} {f : α → Envr → R β} {P : β → Envr → Prop} (h : PostR Z W σ P (r.bind f)) : PostR Z W σ (fun a ρ => PostR Z W σ P (f a ρ)) r := by
  cases r with
  | ok a ρ => exact h
  | raise C x ρ => exact h
  | stuck => exact h
theorem PostR.imp {r : R α} {P P' : α → Envr → Prop} (h : PostR Z W σ P r) (i : ∀ a ρ, P a ρ → P' a ρ) : PostR Z W σ P' r := by
  cases r with
  | ok a ρ => exact i a ρ h
  | raise C x ρ => exact h
  | stuck => exact h
theorem PostR.grd {b : Bool} {r : R α} {P : α → Envr → Prop} (h : PostR Z W σ P (grd b r)) : b = true ∧ PostR Z W σ P r := by
  unfold Pw.grd at h
  split at h
  · rename_i e; exact ⟨e, h⟩
  · exact h.elim
theorem PostR.opt {ρ : Envr} {o : Option α} {P : α → Envr → Prop} (h : PostR Z W σ P (optR ρ o)) : ∃ x, o = some x ∧ P x ρ := by
  cases o with
  | none => exact h.elim
  | some x => exact ⟨x, rfl, h⟩
theorem PostR.fzD {s : Sl} {ρ : Envr} {P : D → Envr → Prop} (h : PostR Z W σ P (fzD s ρ)) : ∃ x ρ', fz ρ s = some (x, ρ') ∧ P x ρ' := by
  unfold Pw.fzD at h
  cases e : fz ρ s with
  | none => rw [e] at h; exact h.elim
  | some y => obtain ⟨x, ρ'⟩ := y; rw [e] at h; exact ⟨x, ρ', rfl, h⟩
theorem PostR.fzR {s : Sl} {ρ : Envr} {P : Sl → Envr → Prop} (h : PostR Z W σ P (fzR s ρ)) : ∃ x ρ', fz ρ s = some (x, ρ') ∧ P (.d x) ρ' := by
  unfold Pw.fzR at h
  cases e : fz ρ s with
  | none => rw [e] at h; exact h.elim
  | some y => obtain ⟨x, ρ'⟩ := y; rw [e] at h; exact ⟨x, ρ', rfl, h⟩
theorem PostR.test {s : Sl} {ρ : Envr} {P : Bool → Envr → Prop} (h : PostR Z W σ P (testR s ρ)) : ∃ b, view ρ s = some (.bool b) ∧ P b ρ := by
  unfold Pw.testR truth at h
  cases e : view ρ s with
  | none => rw [e] at h; exact h.elim
  | some y =>
    rw [e] at h
    cases y with
    | bool b => exact ⟨b, rfl, h⟩
    | _ => exact h.elim
end
def noal (os : List Nat) (ts : List Sl) : Prop := ∀ i ∈ os, Sl.ali i ∉ ts
theorem noal.nil {ts : List Sl} : noal [] ts := fun _ h => nomatch h
theorem noal.mono {os os' : List Nat} {ts : List Sl} (h : noal os ts) (i : ∀ x ∈ os', x ∈ os) : noal os' ts := fun x hx => h x (i x hx)
theorem noal.l {os os' : List Nat} {ts : List Sl} (h : noal (os ++ os') ts) : noal os ts := h.mono fun _ => List.mem_append_left _
theorem noal.r {os os' : List Nat} {ts : List Sl} (h : noal (os ++ os') ts) : noal os' ts := h.mono fun _ => List.mem_append_right _
theorem noal.cons {os : List Nat} {ts : List Sl} {s : Sl} (h : noal os ts) (n : nal os s = true) : noal os (s :: ts) := fun i hi hm => by
  rcases List.mem_cons.mp hm with e | hm
  · subst e
    have : (!os.contains i) = true := n
    simp at this
    exact this hi
  · exact h i hi hm
theorem noal.consD {os : List Nat} {ts : List Sl} {x : D} (h : noal os ts) : noal os (.d x :: ts) := h.cons rfl

/-- what a text's words lean on -/
inductive Need
  | fn (F : Fn)
  | glo (x : Str) (d : D)
  | no (x : Str)
def entryZ (K : PySem.W.Frag) (cls : Str → Addr) (S H : Hp) (O : OM) (vs : List V) : Zx where
  K := K
  cls := cls
  H0 := H
  S0 := S
  io := fun b => ∃ w, O b = some w
  top := fun i => match vs[i]? with
    | some (.ref p) => some p
    | _ => none
def outEnv (md : List Bool) (outs : List (Option Sl)) : Envr := (md.zip outs).map fun p => if p.1 = true then p.2 else none
/-- a def's promise, by data -/
def spec (K : PySem.W.Frag) (cls : Str → Addr) (F : Fn) : Sp := fun vs H Q E => ∃ (S : Hp) (O : OM) (args : List Sl),
  vs.length = F.md.length ∧ args.length = F.md.length ∧
  GoodX (entryZ K cls S H O vs) S O [] [] (vs.map some) (args.map some) H ∧
  match F.sem args with
  | .ok r outs => ∀ v H', Good (entryZ K cls S H O vs) [v] [r] (vs.map some) (outEnv F.md outs) H' → Q v H'
  | .raise C x outs => ∀ d v H', Good (entryZ K cls S H O vs) [v] [.d x] (vs.map some) (outEnv F.md outs) H' → H' d = some (.xd [(what, v)]) → E (.ref (cls C)) (some d) H'
  | .stuck => False
structure FnAt (X : Cx) (Z : Zx) (F : Fn) (k : Nat) (f : Addr) (fd : FuncData) (ps : List Str) : Prop where
  ok : FnG X.prog X.w X.K X.mg X.base (CX X.prog X.w) k f fd ps (spec Z.K Z.cls F)
  room : Room k X.A
  mg : X.mg F.name = some (.ref f)
  kp : PySem.W.keepIn X.K (.ref f) = true
  bd : Binds X.K fd ps []
  db : (F.name == ("__debug__" : Str)) = false
def Have (X : Cx) (Z : Zx) : Need → Prop
  | .fn F => ∃ k f fd ps, FnAt X Z F k f fd ps
  | .glo x d => ∃ v u, X.mg x = some u ∧ RelV v u ∧ (∀ S, Rp Z.K S v d) ∧ (x == ("__debug__" : Str)) = false
  | .no x => X.mg x = none
/-- where a body stands -/
structure At (X : Cx) (Z : Zx) (W : WX) : Prop where
  K : X.K = Z.K
  calm : X.calm = true
  nd : X.N.Nodup
  hu : X.A.units + 80 < cLine
  tk : Takes X W
  gd : X.A.guards = some []
def SE (X : Cx) (Z : Zx) (W : WX) (x : Expr) (e : E) : Prop := ∃ t, PE X x t ∧ ∀ (vs : List V) (ts : List Sl) (σ : L2.St) (ρ : Envr) (H : Hp) (Q : VK), noal e.own ts → Good Z vs ts σ ρ H →
  PostR Z W σ (fun s ρ' => ∀ v H', Good Z (v :: vs) (s :: ts) σ ρ' H' → Q v H') (ev e ρ) → t σ H Q
def ST (X : Cx) (Z : Zx) (W : WX) (x : Expr) (e : E) : Prop := ∃ t, PT X x t ∧ ∀ (vs : List V) (ts : List Sl) (σ : L2.St) (ρ : Envr) (H : Hp) (Q : Bool → Hp → Prop), noal e.own ts → Good Z vs ts σ ρ H →
  PostR Z W σ (fun b ρ' => ∀ H', Good Z vs ts σ ρ' H' → Q b H') ((ev e ρ).bind fun s ρ => testR s ρ) → t σ H Q
def SA (X : Cx) (Z : Zx) (W : WX) (xs : List Expr) (es : Es) : Prop := ∃ t, PA X xs t ∧ ∀ (vs : List V) (ts : List Sl) (σ : L2.St) (ρ : Envr) (H : Hp) (Q : List V → Hp → Prop), noal es.own ts → Good Z vs ts σ ρ H →
  PostR Z W σ (fun ds ρ' => ∀ ws H', ws.length = ds.length → Good Z (ws.reverse ++ vs) ((ds.map Sl.d).reverse ++ ts) σ ρ' H' → Q ws H') (evA es ρ) → t σ H Q
def SLs (X : Cx) (Z : Zx) (W : WX) (f : Envr → R (List Sl)) (xs : List Expr) (es : Es) : Prop := ∃ t, PA X xs t ∧ ∀ (vs : List V) (ts : List Sl) (σ : L2.St) (ρ : Envr) (H : Hp) (Q : List V → Hp → Prop), noal es.own ts → Good Z vs ts σ ρ H →
  PostR Z W σ (fun ss ρ' => ∀ ws H', ws.length = ss.length → Good Z (ws.reverse ++ vs) (ss.reverse ++ ts) σ ρ' H' → Q ws H') (f ρ) → t σ H Q

section
variable {X : Cx} {Z : Zx} {W : WX} {x y : Expr} {a b c : E} {pos : Pos}
theorem two_ok {R : R2} {f : D → D → Option Rs} (hK : X.K = Z.K) (hi : Is2 X R f) {vs : List V} {ts : List Sl} {σ : L2.St} {ρ : Envr} {H : Hp} {v w : V} {s u : Sl} {Q : VK} (G : Good Z (w :: v :: vs) (u :: s :: ts) σ ρ H)
    (h : PostR Z W σ (fun s ρ' => ∀ v H', Good Z (v :: vs) (s :: ts) σ ρ' H' → Q v H') (op2 f s u ρ)) : R v w H Q := by
  obtain ⟨S, O, G⟩ := G
  unfold op2 at h
  cases e1 : view ρ s with
  | none => rw [e1] at h; exact h.elim
  | some p =>
    cases e2 : view ρ u with
    | none => rw [e1, e2] at h; exact h.elim
    | some q =>
      rw [e1, e2] at h
      dsimp only at h
      cases e3 : f p q with
      | none => rw [e3] at h; exact h.elim
      | some rs =>
        rw [e3] at h
        have r1 := G.rv G.tmp.2.1 e1
        have r2 := G.rv G.tmp.1 e2
        rw [← hK] at r1 r2
        refine hi S H v w p q Q rs G.le r1 r2 e3 ?_
        rw [hK]
        exact G.pop.pop.out h
theorem se_two {R : R2} {f : D → D → Option Rs} (hK : X.K = Z.K) (hi : Is2 X R f) (ha : SE X Z W x a) (hb : SE X Z W y b) :
    ∃ ta tb, PE X x ta ∧ PE X y tb ∧ ∀ (vs : List V) (ts : List Sl) (σ : L2.St) (ρ : Envr) (H : Hp) (Q : VK), noal (a.own ++ b.own) ts → Good Z vs ts σ ρ H →
      PostR Z W σ (fun s ρ' => ∀ v H', Good Z (v :: vs) (s :: ts) σ ρ' H' → Q v H') ((ev a ρ).bind fun s ρ => grd (nal b.own s) ((ev b ρ).bind fun u ρ => op2 f s u ρ)) → tOp R ta tb σ H Q := by
  obtain ⟨ta, pa, sa⟩ := ha
  obtain ⟨tb, pb, sb⟩ := hb
  refine ⟨ta, tb, pa, pb, fun vs ts σ ρ H Q hn G h => ?_⟩
  refine sa vs ts σ ρ H _ hn.l G (h.bind.imp fun s ρ1 h1 v H1 G1 => ?_)
  obtain ⟨g, h1⟩ := h1.grd
  refine sb (v :: vs) (s :: ts) σ ρ1 H1 _ (hn.r.cons g) G1 (h1.bind.imp fun u ρ2 h2 w H2 G2 => ?_)
  exact two_ok hK hi G2 h2
end
end Pw
/-! Pw, part I: the words one by one. -/
namespace Pw
open PySem PySem.Spec PyProof.Rows L2
def litB : Lit → Const → Bool
  | .non, .none => true
  | .bl b, .bool b' => b == b'
  | .int i, .int i' => i == i'
  | .str s, .str s' => decide (s = s') && sOk s
  | _, _ => false
section
variable {X : Cx} {Z : Zx} {W : WX} {x y z : Expr} {a b c : E} {pos : Pos}
theorem st_val {t : TE} (hp : PT X x (tTest t)) (hs : ∀ (vs : List V) (ts : List Sl) (σ : L2.St) (ρ : Envr) (H : Hp) (Q : VK), noal a.own ts → Good Z vs ts σ ρ H →
    PostR Z W σ (fun s ρ' => ∀ v H', Good Z (v :: vs) (s :: ts) σ ρ' H' → Q v H') (ev a ρ) → t σ H Q) : ST X Z W x a := by
  refine ⟨_, hp, fun vs ts σ ρ H Q hn G h => ?_⟩
  refine hs vs ts σ ρ H _ hn G (h.bind.imp fun s ρ1 h1 v H1 G1 => ?_)
  obtain ⟨k, e, h1⟩ := h1.test
  obtain ⟨S, O, g⟩ := id G1
  exact ⟨k, (g.rv g.tmp.1 e).bl, h1 H1 G1.pop⟩
theorem se_lit_gen {v : V} {d : D} {e : E} (hv : ∀ ρ, ev e ρ = .ok (.d d) ρ) (r : ∀ S, Rp Z.K S v d) (hp : PE X x (tC v)) (ht : PT X x (tTest (tC v))) : SE X Z W x e ∧ ST X Z W x e := by
  have hs : ∀ (vs : List V) (ts : List Sl) (σ : L2.St) (ρ : Envr) (H : Hp) (Q : VK), noal e.own ts → Good Z vs ts σ ρ H →
      PostR Z W σ (fun s ρ' => ∀ v H', Good Z (v :: vs) (s :: ts) σ ρ' H' → Q v H') (ev e ρ) → tC v σ H Q := fun vs ts σ ρ H Q hn G h => by
    rw [hv] at h
    obtain ⟨S, O, g⟩ := G
    exact h v H ⟨S, O, g.pushD (r S)⟩
  exact ⟨⟨_, hp, hs⟩, st_val ht hs⟩
theorem se_lit {cst : Const} {j : Nat} : (cl : Lit) → (h : litB cl cst = true) → SE X Z W (.Constant cst j pos) (.lit cl) ∧ ST X Z W (.Constant cst j pos) (.lit cl) := by
  intro cl h
  cases cl with
  | non =>
    cases cst with
    | none => exact se_lit_gen (fun _ => rfl) (fun _ => .non) pe_non (pt_val pe_non)
    | _ => cases h
  | bl b =>
    cases cst with
    | bool b' => obtain rfl := eq_of_beq h; exact se_lit_gen (fun _ => rfl) (fun _ => .bl b) pe_bl (pt_val pe_bl)
    | _ => cases h
  | int b =>
    cases cst with
    | int b' => obtain rfl := eq_of_beq h; exact se_lit_gen (fun _ => rfl) (fun _ => .int b) pe_int (pt_val pe_int)
    | _ => cases h
  | str b =>
    cases cst with
    | str b' =>
      obtain ⟨h1, h2⟩ := (Bool.and_eq_true _ _).mp h
      obtain rfl := of_decide_eq_true h1
      exact se_lit_gen (fun _ => rfl) (fun _ => .str b h2) pe_str (pt_val pe_str)
    | _ => cases h
theorem se_glo {n : Str} {d : D} (hg : Gl X n) (h : Have X Z (.glo n d)) : SE X Z W (.Name n pos) (.glo n d) ∧ ST X Z W (.Name n pos) (.glo n d) := by
  obtain ⟨v, u, hm, r, hr, hd⟩ := h
  exact se_lit_gen (fun _ => rfl) hr (pe_glob hg hm r hd) (pt_val (pe_glob hg hm r hd))
theorem var_ok {vs : List V} {ts : List Sl} {σ : L2.St} {ρ : Envr} {H : Hp} {i : Nat} {P : Sl → Envr → Prop} (G : Good Z vs ts σ ρ H) (h : PostR Z W σ P (varR i ρ)) : ∃ v s, σ[i]? = some (some v) ∧ Good Z (v :: vs) (s :: ts) σ ρ H ∧ varR i ρ = .ok s ρ ∧ P s ρ := by
  obtain ⟨S, O, g⟩ := G
  unfold varR at h ⊢
  cases e : ρ[i]? with
  | none => rw [e] at h; exact h.elim
  | some o =>
    cases o with
    | none => rw [e] at h; exact h.elim
    | some sl =>
      rw [e] at h
      obtain ⟨v, h1, h2⟩ := g.env i sl e
      refine ⟨v, ?_⟩
      cases sl with
      | d x => exact ⟨.d x, h1, ⟨S, O, g.push (sl := .d x) h2⟩, rfl, h⟩
      | ol q xs => exact ⟨.ali i, h1, ⟨S, O, g.push (sl := .ali i) h1⟩, rfl, h⟩
      | od q t kvs => exact ⟨.ali i, h1, ⟨S, O, g.push (sl := .ali i) h1⟩, rfl, h⟩
      | oi q C fs => exact ⟨.ali i, h1, ⟨S, O, g.push (sl := .ali i) h1⟩, rfl, h⟩
      | raw w => exact ⟨.raw w, h1, ⟨S, O, g.push (sl := .raw w) h2⟩, rfl, h⟩
      | scr ns => exact ⟨.scr ns, h1, ⟨S, O, g.push (sl := .scr ns) h2⟩, rfl, h⟩
      | ali j => exact h.elim
theorem se_var {i : Nat} {n : Str} (hN : X.N[i]? = some n) (hv : Vis X.env.scope n) (hd : (n == ("__debug__" : Str)) = false) (hcd : (n == ("__classdict__" : Str)) = false) : SE X Z W (.Name n pos) (.var i) ∧ ST X Z W (.Name n pos) (.var i) := by
  have hs : ∀ (vs : List V) (ts : List Sl) (σ : L2.St) (ρ : Envr) (H : Hp) (Q : VK), noal (E.var i).own ts → Good Z vs ts σ ρ H →
      PostR Z W σ (fun s ρ' => ∀ v H', Good Z (v :: vs) (s :: ts) σ ρ' H' → Q v H') (ev (.var i) ρ) → tVar i σ H Q := fun vs ts σ ρ H Q hn G h => by
    obtain ⟨v, s, h1, g, _, h2⟩ := var_ok G h
    exact ⟨v, h1, h2 v H g⟩
  exact ⟨⟨_, pe_var hN hv hd hcd, hs⟩, st_val (pt_val (pe_var hN hv hd hcd)) hs⟩

/-! ### lists of words -/
theorem sa_nil : SA X Z W [] .nil := ⟨_, pa_nil, fun vs ts σ ρ H Q hn G h => h [] H rfl G⟩
theorem sa_cons {xs : List Expr} {es : Es} (ha : SE X Z W x a) (hb : SA X Z W xs es) (hs : starEach (x :: xs) X.env = (false, eval x X.env) :: starEach xs X.env) : SA X Z W (x :: xs) (.cons a es) := by
  obtain ⟨ta, pa, sa⟩ := ha
  obtain ⟨tb, pb, sb⟩ := hb
  refine ⟨_, pa_cons pa pb hs, fun vs ts σ ρ H Q hn G h => ?_⟩
  refine sa vs ts σ ρ H _ (noal.l (os := a.own) (os' := es.own) hn) G (h.bind.imp fun s ρ1 h1 v H1 G1 => ?_)
  obtain ⟨d, ρ2, e, h2⟩ := h1.bind.fzD
  refine sb (v :: vs) (.d d :: ts) σ ρ2 H1 _ ((noal.r (os := a.own) (os' := es.own) hn).consD) (G1.fz e) (h2.bind.imp fun ds ρ3 h3 ws H2 l G2 => ?_)
  refine h3 (v :: ws) H2 (by simp [l]) ?_
  simpa using G2
theorem sl_nil {f : Envr → Pw.R (List Sl)} (hf : ∀ ρ, f ρ = .ok [] ρ) : SLs X Z W f [] .nil := ⟨_, pa_nil, fun vs ts σ ρ H Q hn G h => by rw [hf] at h; exact h [] H rfl G⟩
theorem sl_cons {f g : Envr → Pw.R (List Sl)} {k : Sl → Envr → Pw.R Sl} {xs : List Expr} {es : Es} (hk : ∀ (vs : List V) (ts : List Sl) (σ : L2.St) (ρ : Envr) (H : Hp) (v : V) (s : Sl) (P : Sl → Envr → Prop), Good Z (v :: vs) (s :: ts) σ ρ H → PostR Z W σ P (k s ρ) → ∃ s' ρ', Good Z (v :: vs) (s' :: ts) σ ρ' H ∧ nal es.own s' = true ∧ P s' ρ')
    (hf : ∀ ρ, f ρ = (ev a ρ).bind fun s ρ => (k s ρ).bind fun s ρ => (g ρ).bind fun ss ρ => .ok (s :: ss) ρ)
    (ha : SE X Z W x a) (hb : SLs X Z W g xs es) (hs : starEach (x :: xs) X.env = (false, eval x X.env) :: starEach xs X.env) : SLs X Z W f (x :: xs) (.cons a es) := by
  obtain ⟨ta, pa, sa⟩ := ha
  obtain ⟨tb, pb, sb⟩ := hb
  refine ⟨_, pa_cons pa pb hs, fun vs ts σ ρ H Q hn G h => ?_⟩
  rw [hf] at h
  refine sa vs ts σ ρ H _ (noal.l (os := a.own) (os' := es.own) hn) G (h.bind.imp fun s ρ1 h1 v H1 G1 => ?_)
  obtain ⟨s', ρ2, G2, n2, h2⟩ := hk vs ts σ ρ1 H1 v s _ G1 h1.bind
  refine sb (v :: vs) (s' :: ts) σ ρ2 H1 _ ((noal.r (os := a.own) (os' := es.own) hn).cons n2) G2 (h2.bind.imp fun ss ρ3 h3 ws H2 l G3 => ?_)
  refine h3 (v :: ws) H2 (by simp [l]) ?_
  simpa using G3

theorem GoodX.rpA {S H : Hp} {O : OM} {vs : List V} {ts : List Sl} {σ : L2.St} {ρ : Envr} : ∀ {ws : List V} {ds : List D}, GoodX Z S O (ws.reverse ++ vs) ((ds.map Sl.d).reverse ++ ts) σ ρ H → ws.length = ds.length → RpA Z.K S ws ds
  | [], [], _, _ => .nil
  | [], _ :: _, _, l => by simp at l
  | _ :: _, [], _, l => by simp at l
  | w :: ws, d :: ds, G, l => by
    have l' : ws.length = ds.length := by simpa using l
    have G' : GoodX Z S O (ws.reverse ++ (w :: vs)) ((ds.map Sl.d).reverse ++ (.d d :: ts)) σ ρ H := by simpa using G
    exact .cons (GoodX.popN (by simp [l']) G').tmp.1 (GoodX.rpA G' l')
theorem se_tup {xs : List Expr} {es : Es} {x1 : Nat} (h : SA X Z W xs es) (hl : ∀ ρ ds ρ', evA es ρ = .ok ds ρ' → ds.length ≤ sizeLine) : SE X Z W (.Tuple xs x1 pos) (.tup es) ∧ ST X Z W (.Tuple xs x1 pos) (.tup es) := by
  obtain ⟨t, p, s⟩ := h
  have hs : ∀ (vs : List V) (ts : List Sl) (σ : L2.St) (ρ : Envr) (H : Hp) (Q : VK), noal (E.tup es).own ts → Good Z vs ts σ ρ H →
      PostR Z W σ (fun s ρ' => ∀ v H', Good Z (v :: vs) (s :: ts) σ ρ' H' → Q v H') (ev (.tup es) ρ) → tTup t σ H Q := fun vs ts σ ρ H Q hn G h => by
    refine s vs ts σ ρ H _ hn G ?_
    have h := PostR.bind (r := evA es ρ) (f := fun ds ρ => R.ok (Sl.d (.tuple ds)) ρ) h
    have hl := hl ρ
    cases e : evA es ρ with
    | stuck => rw [e] at h; exact h
    | raise C x ρ' => rw [e] at h; exact h
    | ok ds ρ1 =>
      rw [e] at h
      intro ws H1 l G1
      have l2 := hl ds ρ1 e
      obtain ⟨S, O, g⟩ := G1
      exact ⟨by rw [l]; exact l2, fun q n => h _ _ (Good.newTup (GoodX.popN (by simp [l]) g) n (g.rpA l) l2)⟩
  exact ⟨⟨_, pe_tup p, hs⟩, st_val (pt_val (pe_tup p)) hs⟩
theorem se_lst {xs : List Expr} {es : Es} (h : SA X Z W xs es) (hl : ∀ ρ ds ρ', evA es ρ = .ok ds ρ' → ds.length ≤ sizeLine) : SE X Z W (.List xs pos) (.lst es) ∧ ST X Z W (.List xs pos) (.lst es) := by
  obtain ⟨t, p, s⟩ := h
  have hs : ∀ (vs : List V) (ts : List Sl) (σ : L2.St) (ρ : Envr) (H : Hp) (Q : VK), noal (E.lst es).own ts → Good Z vs ts σ ρ H →
      PostR Z W σ (fun s ρ' => ∀ v H', Good Z (v :: vs) (s :: ts) σ ρ' H' → Q v H') (ev (.lst es) ρ) → tLst t σ H Q := fun vs ts σ ρ H Q hn G h => by
    refine s vs ts σ ρ H _ hn G ?_
    have h := PostR.bind (r := evA es ρ) (f := fun ds ρ => R.ok (Sl.ol none ds) ρ) h
    have hl := hl ρ
    cases e : evA es ρ with
    | stuck => rw [e] at h; exact h
    | raise C x ρ' => rw [e] at h; exact h
    | ok ds ρ1 =>
      rw [e] at h
      intro ws H1 l G1
      have l2 := hl ds ρ1 e
      obtain ⟨S, O, g⟩ := G1
      exact ⟨by rw [l]; exact l2, fun q n => h _ _ (Good.newL (GoodX.popN (by simp [l]) g) n (g.rpA l) l2)⟩
  exact ⟨⟨_, pe_lst p, hs⟩, st_val (pt_val (pe_lst p)) hs⟩

/-! ### dicts, keys texts -/
def tk1 (k : Str) : Option Expr → Bool
  | some (.Constant (.str k') _ _) => decide (k = k') && sOk k
  | _ => false
def tkeys : List Str → List (Option Expr) → Bool
  | [], [] => true
  | k :: ks, o :: r => tk1 k o && tkeys ks r
  | _, _ => false
def SPs (X : Cx) (Z : Zx) (W : WX) (pos : Pos) (keys : List (Option Expr)) (xs : List Expr) (ks : List Str) (es : Es) : Prop := ∃ t, PPs X pos keys xs t ∧ ∀ (vs : List V) (ts : List Sl) (σ : L2.St) (ρ : Envr) (H : Hp) (Q : List (V × V) → Hp → Prop), noal es.own ts → Good Z vs ts σ ρ H →
  PostR Z W σ (fun ds ρ' => ∀ ws H', ws.length = ds.length → ds.length = ks.length → Good Z (ws.reverse ++ vs) ((ds.map Sl.d).reverse ++ ts) σ ρ' H' → Q ((ks.map V.str).zip ws) H') (evA es ρ) → tPairs t σ H Q
theorem sp_nil {pos : Pos} : SPs X Z W pos [] [] [] .nil := ⟨_, pps_nil, fun vs ts σ ρ H Q hn G h => h [] H rfl rfl G⟩
theorem sp_cons {j : Nat} {p2 pos : Pos} {k : Str} {keys : List (Option Expr)} {xs : List Expr} {ks : List Str} {es : Es} (ha : SE X Z W x a) (hb : SPs X Z W pos keys xs ks es) : SPs X Z W pos (some (.Constant (.str k) j p2) :: keys) (x :: xs) (k :: ks) (.cons a es) := by
  obtain ⟨ta, pa, sa⟩ := ha
  obtain ⟨tb, pb, sb⟩ := hb
  refine ⟨_, pps_cons pe_str pa pb, fun vs ts σ ρ H Q hn G h => ?_⟩
  show ta σ H _
  refine sa vs ts σ ρ H _ (noal.l (os := a.own) (os' := es.own) hn) G (h.bind.imp fun s ρ1 h1 v H1 G1 => ?_)
  obtain ⟨d, ρ2, e, h2⟩ := h1.bind.fzD
  refine sb (v :: vs) (.d d :: ts) σ ρ2 H1 _ ((noal.r (os := a.own) (os' := es.own) hn).consD) (G1.fz e) (h2.bind.imp fun ds ρ3 h3 ws H2 l l2 G2 => ?_)
  refine h3 (v :: ws) H2 (by simp [l]) (by simp [l2]) ?_
  simpa using G2
theorem putK_new {k : Key} {v : V} : ∀ {kvs : List (Key × V)}, k ∉ kvs.map (·.1) → putK kvs k v = kvs ++ [(k, v)] := by
  intro kvs h
  unfold putK
  rw [if_neg]
  intro q
  obtain ⟨p, hp, e⟩ := List.any_eq_true.mp q
  exact h (List.mem_map.mpr ⟨p, hp, of_decide_eq_true e⟩)
theorem mergeK_nodup : ∀ (more kvs : List (Key × V)), ((kvs ++ more).map (·.1)).Nodup → mergeK kvs more = kvs ++ more
  | [], kvs, _ => by rw [List.append_nil]; rfl
  | (k, v) :: r, kvs, h => by
    have h2 : k ∉ kvs.map (·.1) := by
      rw [List.map_append, List.nodup_append] at h
      intro hm
      exact h.2.2 k hm k (by simp) rfl
    show mergeK (putK kvs k v) r = _
    rw [putK_new h2, mergeK_nodup r (kvs ++ [(k, v)]) (by simpa using h)]
    simp
theorem RpK.zipK {K : PySem.W.Frag} {S : Hp} : ∀ {ks : List Str} {ws : List V} {ds : List D}, (∀ k ∈ ks, sOk k = true) → RpA K S ws ds → RpK K S ((ks.map Sum.inr).zip ws) ((ks.map PyData.str).zip ds)
  | [], _, _, _, _ => .nil
  | _ :: _, _, _, _, .nil => .nil
  | k :: ks, _, _, hk, .cons a t => .cons (k := .inr k) (hk k List.mem_cons_self) a (RpK.zipK (fun k m => hk k (List.mem_cons_of_mem _ m)) t)
theorem se_dct {keys : List (Option Expr)} {xs : List Expr} {ks : List Str} {es : Es} (h : SPs X Z W pos keys xs ks es) (hk : ∀ k ∈ ks, sOk k = true) (nd : ks.Nodup) (hall : keys.all (·.isSome) = true) (hl : keys.length = xs.length) (h0 : keys ≠ []) (h15 : keys.length ≤ 15) (hks : ks.length = keys.length) :
    SE X Z W (.Dict keys xs pos) (.dct ks es) ∧ ST X Z W (.Dict keys xs pos) (.dct ks es) := by
  obtain ⟨t, p, s⟩ := h
  have hp := pe_disp p hall hl h0 h15
  have hs : ∀ (vs : List V) (ts : List Sl) (σ : L2.St) (ρ : Envr) (H : Hp) (Q : VK), noal (E.dct ks es).own ts → Good Z vs ts σ ρ H →
      PostR Z W σ (fun s ρ' => ∀ v H', Good Z (v :: vs) (s :: ts) σ ρ' H' → Q v H') (ev (.dct ks es) ρ) → tDisp t σ H Q := fun vs ts σ ρ H Q hn G h => by
    have h := PostR.bind (r := evA es ρ) (f := fun ds ρ => R.ok (Sl.od none false ((ks.map PyData.str).zip ds)) ρ) h
    intro q n
    obtain ⟨S, O, g⟩ := G
    have G0 : Good Z (.ref q :: vs) (.od none false [] :: ts) σ ρ (upd H q (.dK [])) :=
      ⟨_, _, ((g.grow (o := .dK []) n).putO ⟨_, upd_same⟩ (g.newS n) (g.fresh0 n) OM.cut_same (.t ts.length) Str.empty).push (sl := .od none false []) ⟨q, rfl, OM.put_same, ⟨Nat.zero_le _, by rw [if_neg (by decide)]; exact ⟨[], upd_same, .nil⟩⟩, g.fresh0 n⟩⟩
    refine s (.ref q :: vs) (.od none false [] :: ts) σ ρ _ _ (hn.cons rfl) G0 (h.imp fun ds ρ1 h1 ws H2 l l2 G2 => ?_)
    obtain ⟨S2, O2, g2⟩ := G2
    have ra := g2.rpA l
    have g3 := GoodX.popN (by simp [l]) g2
    obtain ⟨p', ep, ho, ⟨_, hd⟩, hz⟩ := id g3.tmp.1
    cases ep
    rw [if_neg (by decide)] at hd
    obtain ⟨kk, hkk, rk⟩ := hd
    cases rk
    have lz : (ks.map (Sum.inr : Str → Key)).length = ws.length := by rw [List.length_map, l, l2]
    have e1 : ((ks.map (Sum.inr : Str → Key)).zip ws).map (fun kv => (kV kv.1, kv.2)) = (ks.map V.str).zip ws := by
      rw [show (fun kv : Key × V => (kV kv.1, kv.2)) = Prod.map kV id from rfl, ← List.zip_map, List.map_id, List.map_map]; rfl
    have e2 : (((ks.map (Sum.inr : Str → Key)).zip ws).map (·.1)) = ks.map Sum.inr := List.map_fst_zip (by omega)
    have e3 : mergeK [] ((ks.map (Sum.inr : Str → Key)).zip ws) = (ks.map Sum.inr).zip ws := by
      rw [mergeK_nodup _ [] (by rw [List.nil_append, e2]; exact List.pairwise_map.mpr (nd.imp fun h e => h (Sum.inr.inj e)))]; rfl
    refine ⟨hkk, (ks.map Sum.inr).zip ws, e1.symm, by rw [List.length_zip, ← lz, Nat.min_self, List.length_map, hks]; exact h15, ?_⟩
    rw [e3]
    refine h1 _ _ ⟨S2, O2, g3.wrT ho hz (sl' := .od none false ((ks.map PyData.str).zip ds)) ⟨q, rfl, ho, ⟨?_, by rw [if_neg (by decide)]; exact ⟨_, upd_same, RpK.zipK hk ra⟩⟩, hz⟩⟩
    rw [List.length_zip, List.length_map, l2, Nat.min_self, hks, sizeLine_eq]; omega
  exact ⟨⟨_, hp, hs⟩, st_val (pt_val hp) hs⟩

/-! ### operators -/
variable (A : At X Z W)
include A
theorem se_bin {op : Operator} (ha : SE X Z W x a) (hb : SE X Z W y b) : SE X Z W (.BinOp x op y pos) (.bin op a b) ∧ ST X Z W (.BinOp x op y pos) (.bin op a b) := by
  obtain ⟨R, ho, hi⟩ := binD_ok (X := X) op
  obtain ⟨ta, tb, pa, pb, s⟩ := se_two A.K hi ha hb
  exact ⟨⟨_, pe_op ho pa pb, s⟩, st_val (pt_val (pe_op ho pa pb)) s⟩
theorem se_cmp {op : CmpOp} (ha : SE X Z W x a) (hb : SE X Z W y b) (hm : behindInMarks op y = false) : SE X Z W (.Compare x [op] [y] pos) (.cmp op a b) ∧ ST X Z W (.Compare x [op] [y] pos) (.cmp op a b) := by
  obtain ⟨R, ho, hi⟩ := cmpD_ok (X := X) (by have := A.hu; omega) op
  obtain ⟨ta, tb, pa, pb, s⟩ := se_two A.K hi ha hb
  exact ⟨⟨_, pe_cmpR ho pa pb hm, s⟩, st_val (pt_cmpR ho pa pb hm) s⟩
theorem se_idx (ha : SE X Z W x a) (hb : SE X Z W y b) (hs : PlainIx y) : SE X Z W (.Subscript x y pos) (.idx a b) ∧ ST X Z W (.Subscript x y pos) (.idx a b) := by
  obtain ⟨R, ho, hi⟩ := idxSeq_ok (X := X) (by have := A.hu; omega)
  obtain ⟨ta, tb, pa, pb, s⟩ := se_two A.K hi ha hb
  exact ⟨⟨_, pe_ix ho pa pb hs, s⟩, st_val (pt_val (pe_ix ho pa pb hs)) s⟩
end
end Pw
/-! Pw, part J: chains, and, or, not, slices, built-ins, a list's methods. -/
namespace Pw
open PySem PySem.Spec PyProof.Rows L2
theorem R.bind_assoc {α β γ : Type} (r : R α) (f : α → Envr → R β) (g : β → Envr → R γ) : (r.bind f).bind g = r.bind fun a ρ => (f a ρ).bind g := by
  cases r <;> rfl
theorem RpA.ints {K : PySem.W.Frag} {S : Hp} : ∀ ns : List Int, RpA K S (ns.map V.int) (ns.map PyData.int)
  | [] => .nil
  | n :: ns => .cons (.int n) (RpA.ints ns)
theorem nal_l {os os' : List Nat} {s : Sl} (h : nal (os ++ os') s = true) : nal os s = true := by
  cases s with
  | ali i =>
    have h : (!(os ++ os').contains i) = true := h
    show (!os.contains i) = true
    simp at h ⊢
    exact h.1
  | _ => rfl
theorem nal_r {os os' : List Nat} {s : Sl} (h : nal (os ++ os') s = true) : nal os' s = true := by
  cases s with
  | ali i =>
    have h : (!(os ++ os').contains i) = true := h
    show (!os'.contains i) = true
    simp at h ⊢
    exact h.2
  | _ => rfl
section
variable {X : Cx} {Z : Zx} {W : WX} {x y z : Expr} {a b c : E} {pos : Pos}
/-- a test's reading from a word's -/
theorem PostR.bl {σ : L2.St} {r : Pw.R Bool} {P : Bool → Envr → Prop} (h : PostR Z W σ P ((r.bind fun b ρ => R.ok (Sl.d (.bool b)) ρ).bind fun s ρ => testR s ρ)) : PostR Z W σ P r := by
  cases r with
  | ok b ρ => exact h
  | raise C x ρ => exact h
  | stuck => exact h
theorem Good.bl {vs : List V} {ts : List Sl} {σ : L2.St} {ρ : Envr} {H : Hp} {v : V} {s : Sl} {b : Bool} (G : Good Z (v :: vs) (s :: ts) σ ρ H) (e : view ρ s = some (.bool b)) : v = .bl b := by
  obtain ⟨S, O, g⟩ := G
  exact (g.rv g.tmp.1 e).bl
theorem Good.pushB {vs : List V} {ts : List Sl} {σ : L2.St} {ρ : Envr} {H : Hp} (b : Bool) (G : Good Z vs ts σ ρ H) : Good Z (.bl b :: vs) (.d (.bool b) :: ts) σ ρ H := by
  obtain ⟨S, O, g⟩ := G
  exact ⟨S, O, g.pushD (.bl b)⟩
theorem se_not (ha : SE X Z W x a) (hb : ST X Z W x a) : SE X Z W (.UnaryOp .Not x pos) (.not_ a) ∧ ST X Z W (.UnaryOp .Not x pos) (.not_ a) := by
  obtain ⟨t, p, s⟩ := ha
  obtain ⟨t', p', s'⟩ := hb
  refine ⟨⟨_, pe_not p, fun vs ts σ ρ H Q hn G h => ?_⟩, ⟨_, pt_not p', fun vs ts σ ρ H Q hn G h => ?_⟩⟩
  · refine s vs ts σ ρ H _ hn G ((PostR.bind (r := ev a ρ) (f := fun s ρ => notR s ρ) h).imp fun u ρ1 h1 v H1 G1 => ?_)
    obtain ⟨k, e, h2⟩ := (PostR.bind (r := testR u ρ1) (f := fun b ρ => R.ok (Sl.d (.bool (!b))) ρ) h1).test
    exact ⟨k, G1.bl e, h2 _ H1 (G1.pop.pushB _)⟩
  · refine s' vs ts σ ρ H _ hn G ?_
    have h : PostR Z W σ _ (((ev a ρ).bind fun s ρ => (testR s ρ).bind fun b ρ => R.ok (Sl.d (.bool (!b))) ρ).bind fun s ρ => testR s ρ) := h
    rw [R.bind_assoc] at h
    cases e : ev a ρ with
    | stuck => rw [e] at h; exact h
    | raise C x ρ' => rw [e] at h; exact h
    | ok u ρ1 =>
      rw [e] at h
      have h : PostR Z W σ _ (((testR u ρ1).bind fun b ρ => R.ok (Sl.d (.bool (!b))) ρ).bind fun s ρ => testR s ρ) := h
      show PostR Z W σ _ (testR u ρ1)
      cases e2 : testR u ρ1 with
      | stuck => rw [e2] at h; exact h
      | raise C x ρ' => rw [e2] at h; exact h
      | ok k ρ2 => rw [e2] at h; exact h
theorem se_neg (ha : SE X Z W x a) : SE X Z W (.UnaryOp .USub x pos) (.neg a) ∧ ST X Z W (.UnaryOp .USub x pos) (.neg a) := by
  obtain ⟨t, p, s⟩ := ha
  have hs : ∀ (vs : List V) (ts : List Sl) (σ : L2.St) (ρ : Envr) (H : Hp) (Q : VK), noal (E.neg a).own ts → Good Z vs ts σ ρ H →
      PostR Z W σ (fun s ρ' => ∀ v H', Good Z (v :: vs) (s :: ts) σ ρ' H' → Q v H') (ev (.neg a) ρ) → tUn (rU fun i => .int (-i)) t σ H Q := fun vs ts σ ρ H Q hn G h => by
    refine s vs ts σ ρ H _ hn G ((PostR.bind (r := ev a ρ) (f := fun s ρ => negR s ρ) h).imp fun u ρ1 h1 v H1 G1 => ?_)
    unfold negR at h1
    cases e : view ρ1 u with
    | none => rw [e] at h1; exact h1.elim
    | some d =>
      rw [e] at h1
      cases d with
      | int i =>
        obtain ⟨S, O, g⟩ := G1
        exact ⟨i, (g.rv g.tmp.1 e).int, h1 _ H1 ⟨S, O, g.pop.pushD (.int _)⟩⟩
      | _ => exact h1.elim
  exact ⟨⟨_, pe_un un_neg p, hs⟩, st_val (pt_val (pe_un un_neg p)) hs⟩
theorem pt_ife {t1 t2 t3 : TT} (h1 : PT X x t1) (h2 : PT X y t2) (h3 : PT X z t3) : PT X (.IfExp x y z pos) (fun σ H Q => t1 σ H fun b H1 => if b = true then t2 σ H1 Q else t3 σ H1 Q) := by
  refine ⟨fun pins s σ H Q I h => ?_⟩
  refine isTrue_IfExp (thn (h1.run pins s σ H _ I h) fun k s1 ⟨H1, I1, q⟩ => ?_)
  cases k with
  | true => exact h2.run pins s1 σ H1 Q I1 q
  | false => exact h3.run pins s1 σ H1 Q I1 q
theorem se_ife (hc : ST X Z W x c) (ha : SE X Z W y a ∧ ST X Z W y a) (hb : SE X Z W z b ∧ ST X Z W z b) : SE X Z W (.IfExp x y z pos) (.ife c a b) ∧ ST X Z W (.IfExp x y z pos) (.ife c a b) := by
  obtain ⟨tc, pc, sc⟩ := hc
  obtain ⟨⟨ta, pa, sa⟩, ⟨ta', pa', sa'⟩⟩ := ha
  obtain ⟨⟨tb, pb, sb⟩, ⟨tb', pb', sb'⟩⟩ := hb
  refine ⟨⟨_, pe_ifExp pc pa pb, fun vs ts σ ρ H Q hn G h => ?_⟩, ⟨_, pt_ife pc pa' pb', fun vs ts σ ρ H Q hn G h => ?_⟩⟩
  · have hn : noal (c.own ++ (a.own ++ b.own)) ts := hn
    have h : PostR Z W σ _ ((ev c ρ).bind fun s ρ => (testR s ρ).bind fun t ρ => if t = true then ev a ρ else ev b ρ) := h
    rw [← R.bind_assoc] at h
    refine sc vs ts σ ρ H _ hn.l G (h.bind.imp fun k ρ1 h1 H1 G1 => ?_)
    cases k with
    | true => exact sa vs ts σ ρ1 H1 Q hn.r.l G1 h1
    | false => exact sb vs ts σ ρ1 H1 Q hn.r.r G1 h1
  · have hn : noal (c.own ++ (a.own ++ b.own)) ts := hn
    have h : PostR Z W σ _ (((ev c ρ).bind fun s ρ => (testR s ρ).bind fun t ρ => if t = true then ev a ρ else ev b ρ).bind fun s ρ => testR s ρ) := h
    rw [← R.bind_assoc, R.bind_assoc] at h
    refine sc vs ts σ ρ H _ hn.l G (h.bind.imp fun k ρ1 h1 H1 G1 => ?_)
    cases k with
    | true => exact sa' vs ts σ ρ1 H1 Q hn.r.l G1 h1
    | false => exact sb' vs ts σ ρ1 H1 Q hn.r.r G1 h1

/-! ### and, or -/
def SB (X : Cx) (Z : Zx) (W : WX) (k : Bool) (xs : List Expr) (es : Es) (pos : Pos) : Prop := (∃ t, PE X (.BoolOp (if k = true then .And else .Or) xs pos) t ∧ ∀ (vs : List V) (ts : List Sl) (σ : L2.St) (ρ : Envr) (H : Hp) (Q : VK), noal es.own ts → Good Z vs ts σ ρ H →
  PostR Z W σ (fun s ρ' => ∀ v H', Good Z (v :: vs) (s :: ts) σ ρ' H' → Q v H') (evB k es ρ) → t σ H Q) ∧
  ∃ t, PW X (.BoolOp (if k = true then .And else .Or) xs pos) t ∧ ∀ (vs : List V) (ts : List Sl) (σ : L2.St) (ρ : Envr) (H : Hp) (Q : Bool → Hp → Prop), noal es.own ts → Good Z vs ts σ ρ H →
    PostR Z W σ (fun b ρ' => ∀ H', Good Z vs ts σ ρ' H' → Q b H') ((evB k es ρ).bind fun s ρ => testR s ρ) → t σ H Q
theorem sb_one {k : Bool} (ha : SE X Z W x a ∧ ST X Z W x a) : SB X Z W k [x] (.cons a .nil) pos := by
  obtain ⟨⟨ta, pa, sa⟩, ⟨ta', pa', sa'⟩⟩ := ha
  refine ⟨⟨ta, pe_one pa, fun vs ts σ ρ H Q hn G h => sa vs ts σ ρ H Q (noal.l (os := a.own) (os' := Es.nil.own) hn) G h⟩, ⟨ta', ?_, fun vs ts σ ρ H Q hn G h => sa' vs ts σ ρ H Q (noal.l (os := a.own) (os' := Es.nil.own) hn) G h⟩⟩
  cases k with
  | true => exact pw_and1 pa'
  | false => exact pw_or1 pa'
theorem sb_cons {k : Bool} {xs : List Expr} {es : Es} (ha : SE X Z W x a ∧ ST X Z W x a) (hb : SB X Z W k (y :: xs) (.cons b es) pos) : SB X Z W k (x :: y :: xs) (.cons a (.cons b es)) pos := by
  obtain ⟨⟨ta, pa, sa⟩, ⟨ta', pa', sa'⟩⟩ := ha
  obtain ⟨⟨tb, pb, sb⟩, ⟨tb', pb', sb'⟩⟩ := hb
  have hev : ∀ ρ, evB k (.cons a (.cons b es)) ρ = (ev a ρ).bind fun s ρ => (testR s ρ).bind fun t ρ => if t = k then evB k (.cons b es) ρ else .ok (.d (.bool t)) ρ := fun ρ => rfl
  have main : ∀ (vs : List V) (ts : List Sl) (σ : L2.St) (ρ : Envr) (H : Hp) (Q : VK), noal (Es.cons a (.cons b es)).own ts → Good Z vs ts σ ρ H →
      PostR Z W σ (fun s ρ' => ∀ v H', Good Z (v :: vs) (s :: ts) σ ρ' H' → Q v H') (evB k (.cons a (.cons b es)) ρ) → ta σ H fun v H1 => ∃ c, v = .bl c ∧ if c = k then tb σ H1 Q else Q (.bl c) H1 := fun vs ts σ ρ H Q hn G h => by
    have hn : noal (a.own ++ (Es.cons b es).own) ts := hn
    rw [hev] at h
    refine sa vs ts σ ρ H _ hn.l G (h.bind.imp fun s ρ1 h1 v H1 G1 => ?_)
    obtain ⟨c, e, h2⟩ := h1.bind.test
    refine ⟨c, G1.bl e, ?_⟩
    by_cases q : c = k
    · rw [if_pos q] at h2 ⊢
      exact sb vs ts σ ρ1 H1 Q hn.r G1.pop h2
    · rw [if_neg q] at h2 ⊢
      exact h2 _ H1 (G1.pop.pushB c)
  have mainT : ∀ (vs : List V) (ts : List Sl) (σ : L2.St) (ρ : Envr) (H : Hp) (Q : Bool → Hp → Prop), noal (Es.cons a (.cons b es)).own ts → Good Z vs ts σ ρ H →
      PostR Z W σ (fun b ρ' => ∀ H', Good Z vs ts σ ρ' H' → Q b H') ((evB k (.cons a (.cons b es)) ρ).bind fun s ρ => testR s ρ) → ta' σ H fun c H1 => if c = k then tb' σ H1 Q else Q c H1 := fun vs ts σ ρ H Q hn G h => by
    have hn : noal (a.own ++ (Es.cons b es).own) ts := hn
    rw [hev, ← R.bind_assoc, R.bind_assoc] at h
    refine sa' vs ts σ ρ H _ hn.l G (h.bind.imp fun c ρ1 h1 H1 G1 => ?_)
    by_cases q : c = k
    · rw [if_pos q] at h1 ⊢
      exact sb' vs ts σ ρ1 H1 Q hn.r G1 h1
    · rw [if_neg q] at h1 ⊢
      exact h1 H1 G1
  cases k with
  | true =>
    refine ⟨⟨_, pe_and pa pb, fun vs ts σ ρ H Q hn G h => ?_⟩, ⟨_, pw_and pa' pb', fun vs ts σ ρ H Q hn G h => ?_⟩⟩
    · have m := main vs ts σ ρ H Q hn G h
      have e : (fun (v : V) (H1 : Hp) => ∃ c, v = V.bl c ∧ if c = true then tb σ H1 Q else Q (.bl c) H1) = fun v H1 => ∃ c, v = V.bl c ∧ if c = true then tb σ H1 Q else Q (.bl false) H1 := by
        funext v H1
        congr 1; funext c
        cases c <;> rfl
      rw [e] at m
      exact m
    · have m := mainT vs ts σ ρ H Q hn G h
      have e : (fun (c : Bool) (H1 : Hp) => if c = true then tb' σ H1 Q else Q c H1) = fun c H1 => if c = true then tb' σ H1 Q else Q false H1 := by
        funext c H1
        cases c <;> rfl
      rw [e] at m
      exact m
  | false =>
    refine ⟨⟨_, pe_or pa pb, fun vs ts σ ρ H Q hn G h => ?_⟩, ⟨_, pw_or pa' pb', fun vs ts σ ρ H Q hn G h => ?_⟩⟩
    · have m := main vs ts σ ρ H Q hn G h
      have e : (fun (v : V) (H1 : Hp) => ∃ c, v = V.bl c ∧ if c = false then tb σ H1 Q else Q (.bl c) H1) = fun v H1 => ∃ c, v = V.bl c ∧ if c = true then Q (.bl true) H1 else tb σ H1 Q := by
        funext v H1
        congr 1; funext c
        cases c <;> rfl
      rw [e] at m
      exact m
    · have m := mainT vs ts σ ρ H Q hn G h
      have e : (fun (c : Bool) (H1 : Hp) => if c = false then tb' σ H1 Q else Q c H1) = fun c H1 => if c = true then Q true H1 else tb' σ H1 Q := by
        funext c H1
        cases c <;> rfl
      rw [e] at m
      exact m
theorem se_and {xs : List Expr} {es : Es} (h : SB X Z W true xs es pos) : SE X Z W (.BoolOp .And xs pos) (.and_ es) ∧ ST X Z W (.BoolOp .And xs pos) (.and_ es) :=
  let ⟨⟨t, p, s⟩, ⟨t', p', s'⟩⟩ := h
  ⟨⟨t, p, s⟩, ⟨t', p'.pt, s'⟩⟩
theorem se_or {xs : List Expr} {es : Es} (h : SB X Z W false xs es pos) : SE X Z W (.BoolOp .Or xs pos) (.or_ es) ∧ ST X Z W (.BoolOp .Or xs pos) (.or_ es) :=
  let ⟨⟨t, p, s⟩, ⟨t', p', s'⟩⟩ := h
  ⟨⟨t, p, s⟩, ⟨t', p'.pt, s'⟩⟩

/-! ### slices -/
def SO (X : Cx) (Z : Zx) (W : WX) (x : Option Expr) (o : Oe) : Prop := ∃ t, PO X x t ∧ ∀ (vs : List V) (ts : List Sl) (σ : L2.St) (ρ : Envr) (H : Hp) (Q : Option Int → Hp → Prop), noal o.own ts → Good Z vs ts σ ρ H →
  PostR Z W σ (fun l ρ' => ∀ H', Good Z vs ts σ ρ' H' → Q l H') (evO o ρ) → t σ H Q
theorem so_none : SO X Z W none .non := ⟨_, po_none, fun vs ts σ ρ H Q hn G h => h H G⟩
theorem so_some (ha : SE X Z W x a) : SO X Z W (some x) (.som a) := by
  obtain ⟨t, p, s⟩ := ha
  refine ⟨_, po_some p, fun vs ts σ ρ H Q hn G h => ?_⟩
  refine s vs ts σ ρ H _ hn G ((PostR.bind (r := ev a ρ) (f := fun s ρ => partR s ρ) h).imp fun u ρ1 h1 v H1 G1 => ?_)
  unfold partR partOf at h1
  cases e : view ρ1 u with
  | none => rw [e] at h1; exact h1.elim
  | some d =>
    rw [e] at h1
    cases d with
    | int i =>
      obtain ⟨S, O, g⟩ := id G1
      exact ⟨i, (g.rv g.tmp.1 e).int, h1 H1 G1.pop⟩
    | _ => exact h1.elim
variable (A : At X Z W)
include A
theorem se_slc {lo hi : Option Expr} {l h : Oe} {p2 : Pos} (ha : SE X Z W x a) (hl : SO X Z W lo l) (hh : SO X Z W hi h) : SE X Z W (.Subscript x (.Slice lo hi none p2) pos) (.slc a l h) ∧ ST X Z W (.Subscript x (.Slice lo hi none p2) pos) (.slc a l h) := by
  obtain ⟨t, p, s⟩ := ha
  obtain ⟨tl, pl, sl⟩ := hl
  obtain ⟨th, ph, sh⟩ := hh
  obtain ⟨R, ho, hi⟩ := slB (X := X)
  have hs : ∀ (vs : List V) (ts : List Sl) (σ : L2.St) (ρ : Envr) (H : Hp) (Q : VK), noal (E.slc a l h).own ts → Good Z vs ts σ ρ H →
      PostR Z W σ (fun s ρ' => ∀ v H', Good Z (v :: vs) (s :: ts) σ ρ' H' → Q v H') (ev (.slc a l h) ρ) → tSl R t tl th σ H Q := fun vs ts σ ρ H Q hn G hp => by
    have hn : noal (a.own ++ (l.own ++ h.own)) ts := hn
    refine s vs ts σ ρ H _ hn.l G ((PostR.bind (r := ev a ρ) hp).imp fun u ρ1 h1 v H1 G1 => ?_)
    obtain ⟨g, h1⟩ := h1.grd
    have n1 := hn.r.cons g
    refine sl (v :: vs) (u :: ts) σ ρ1 H1 _ n1.l G1 (h1.bind.imp fun i ρ2 h2 H2 G2 => ?_)
    refine sh (v :: vs) (u :: ts) σ ρ2 H2 _ n1.r G2 (h2.bind.imp fun j ρ3 h3 H3 G3 => ?_)
    unfold slcR at h3
    cases e : view ρ3 u with
    | none => rw [e] at h3; exact h3.elim
    | some d =>
      rw [e] at h3
      dsimp only at h3
      cases e3 : sliceD d i j with
      | none => rw [e3] at h3; exact h3.elim
      | some rs =>
        rw [e3] at h3
        obtain ⟨S, O, g⟩ := G3
        have r1 := g.rv g.tmp.1 e
        rw [← A.K] at r1
        refine hi S H3 v d i j Q rs g.le r1 e3 ?_
        rw [A.K]
        exact g.pop.out h3
  exact ⟨⟨_, pe_slice ho p pl ph, hs⟩, st_val (pt_val (pe_slice ho p pl ph)) hs⟩
/-- a slice of the script -/
theorem se_sscr {lo hi : Option Expr} {l h : Oe} {p1 p2 : Pos} {i : Nat} {n : Str} (hN : X.N[i]? = some n) (hv : Vis X.env.scope n) (hd : (n == ("__debug__" : Str)) = false) (hcd : (n == ("__classdict__" : Str)) = false)
    (hl : SO X Z W lo l) (hh : SO X Z W hi h) : SE X Z W (.Subscript (.Name n p1) (.Slice lo hi none p2) pos) (.sscr i l h) ∧ ST X Z W (.Subscript (.Name n p1) (.Slice lo hi none p2) pos) (.sscr i l h) := by
  obtain ⟨tl, pl, sl⟩ := hl
  obtain ⟨th, ph, sh⟩ := hh
  have pv := pe_var (pos := p1) hN hv hd hcd
  have hs : ∀ (vs : List V) (ts : List Sl) (σ : L2.St) (ρ : Envr) (H : Hp) (Q : VK), noal (E.sscr i l h).own ts → Good Z vs ts σ ρ H →
      PostR Z W σ (fun s ρ' => ∀ v H', Good Z (v :: vs) (s :: ts) σ ρ' H' → Q v H') (ev (.sscr i l h) ρ) → tSl (rSlL X.K) (tVar i) tl th σ H Q := fun vs ts σ ρ H Q hn G hp => by
    have hn : noal (l.own ++ h.own) ts := hn
    obtain ⟨ns, e, h1⟩ := PostR.opt (PostR.bind (r := optR ρ (scrOf ρ i)) hp)
    obtain ⟨S, O, g⟩ := G
    have e' : ρ[i]? = some (some (.scr ns)) := by
      unfold scrOf at e
      split at e
      · rename_i m q; cases e; exact q
      · cases e
    obtain ⟨v, hv, q⟩ := g.env i _ e'
    have G1 : Good Z (v :: vs) (.scr ns :: ts) σ ρ H := ⟨S, O, g.push (sl := .scr ns) q⟩
    refine ⟨v, hv, ?_⟩
    refine sl (v :: vs) (.scr ns :: ts) σ ρ H _ (hn.l.cons rfl) G1 (h1.bind.imp fun lo ρ2 h2 H2 G2 => ?_)
    refine sh (v :: vs) (.scr ns :: ts) σ ρ2 H2 _ (hn.r.cons rfl) G2 (h2.bind.imp fun hi ρ3 h3 H3 G3 => ?_)
    obtain ⟨S, O, g⟩ := G3
    obtain ⟨p, rfl, hq, hlen⟩ : ∃ a, v = .ref a ∧ SqL Z.K S a (ns.map V.int) ∧ ns.length ≤ 63 := g.tmp.1
    rw [← A.K] at hq
    refine ⟨p, _, rfl, g.le.sqL hq, fun q n => ?_⟩
    have ra : RpA Z.K S (ns.map V.int) (ns.map PyData.int) := RpA.ints ns
    refine h3 _ _ (Good.newL g.pop n (cutD_rp lo hi ra) (Nat.le_trans (cutD_length _ _ _) ?_))
    rw [List.length_map]
    exact Nat.le_trans hlen (by decide)
  exact ⟨⟨_, pe_slice sl_list pv pl ph, hs⟩, st_val (pt_val (pe_slice sl_list pv pl ph)) hs⟩

theorem se_chn {p q : CmpOp} (ha : SE X Z W x a) (hb : SE X Z W y b) (hc : SE X Z W z c) (hm : lastMarks [p, q] [y, z] = false) : SE X Z W (.Compare x [p, q] [y, z] pos) (.chn p q a b c) ∧ ST X Z W (.Compare x [p, q] [y, z] pos) (.chn p q a b c) := by
  obtain ⟨R, ho, hi⟩ := cmpD_ok (X := X) (by have := A.hu; omega) p
  obtain ⟨R', ho', hi'⟩ := cmpD_ok (X := X) (by have := A.hu; omega) q
  obtain ⟨ta, pa, sa⟩ := ha
  obtain ⟨tb, pb, sb⟩ := hb
  obtain ⟨tc, pc, sc⟩ := hc
  have hs : ∀ (vs : List V) (ts : List Sl) (σ : L2.St) (ρ : Envr) (H : Hp) (Q : VK), noal (E.chn p q a b c).own ts → Good Z vs ts σ ρ H →
      PostR Z W σ (fun s ρ' => ∀ v H', Good Z (v :: vs) (s :: ts) σ ρ' H' → Q v H') (ev (.chn p q a b c) ρ) → tChain R R' ta tb tc σ H Q := fun vs ts σ ρ H Q hn G h => by
    have hn : noal (a.own ++ (b.own ++ c.own)) ts := hn
    refine sa vs ts σ ρ H _ hn.l G ((PostR.bind (r := ev a ρ) h).imp fun s ρ1 h1 v H1 G1 => ?_)
    obtain ⟨g1, h1⟩ := h1.grd
    refine sb (v :: vs) (s :: ts) σ ρ1 H1 _ (hn.r.l.cons (nal_l g1)) G1 (h1.bind.imp fun u ρ2 h2 w H2 G2 => ?_)
    obtain ⟨S, O, g⟩ := id G2
    unfold chnR at h2
    cases e1 : view ρ2 s with
    | none => rw [e1] at h2; exact h2.elim
    | some d1 =>
      cases e2 : view ρ2 u with
      | none => rw [e1, e2] at h2; exact h2.elim
      | some d2 =>
        rw [e1, e2] at h2
        dsimp only at h2
        have r1 := g.rv g.tmp.2.1 e1
        have r2 := g.rv g.tmp.1 e2
        rw [← A.K] at r1 r2
        cases e3 : cmpD p d1 d2 with
        | none => rw [e3] at h2; exact h2.elim
        | some rs =>
          rw [e3] at h2
          cases rs with
          | l _ => exact h2.elim
          | k _ _ => exact h2.elim
          | d dd =>
            cases dd with
            | bool k =>
              refine hi S H2 v w d1 d2 _ _ g.le r1 r2 e3 ⟨fun v' r' => ?_, fun p o n r' => by cases r'⟩
              cases r'
              refine ⟨k, rfl, ?_⟩
              cases k with
              | false => exact h2 _ H2 (G2.pop.pop.pushB false)
              | true =>
                dsimp only at h2
                obtain ⟨g2, h3⟩ := h2.grd
                have nn : noal c.own (u :: s :: ts) := (hn.r.r.cons (nal_r g1)).cons g2
                refine sc (w :: v :: vs) (u :: s :: ts) σ ρ2 H2 _ nn G2 (h3.bind.imp fun z' ρ3 h4 w3 H3 G4 => ?_)
                exact two_ok A.K hi' G4 (h4.imp fun s5 ρ5 h5 v5 H5 G5 => h5 v5 H5 G5.drop2)
            | _ => exact h2.elim
  exact ⟨⟨_, pe_chain ho ho' pa pb pc hm, hs⟩, st_val (pt_chain ho ho' pa pb pc hm) hs⟩
end
end Pw
/-! Pw, part K: calls. -/
namespace Pw
open PySem PySem.Spec PyProof.Rows L2
section
variable {Z Z' : Zx} {S S' H H' : Hp} {O O' : OM} {r r' : Root} {v : V} {sl : Sl} {k : Option Nat}
/-- told anew in another body's terms -/
theorem SlR.zz (hK : Z'.K = Z.K) (hc : Z'.cls = Z.cls) (hS : Le S S') (hO : ∀ q f o, O q = some ⟨r, f⟩ → H q = some o → O' q = some ⟨r', f⟩ ∧ H' q = some o) (hz : sl.owned = true → ∀ p, v = .ref p → O p = some ⟨r, Str.empty⟩ → zOk Z' k p) (h : SlR Z S H O r v sl) : SlR Z' S' H' O' r' v (sl.flag k) := by
  cases sl with
  | d x =>
    show Rp Z'.K S' v x
    rw [hK]
    exact Rp.mono hS _ _ h
  | ol z xs =>
    obtain ⟨p, e, o, ⟨l, vs, hp, ra⟩, z⟩ := h
    refine ⟨p, e, (hO p _ _ o hp).1, ⟨l, vs, (hO p _ _ o hp).2, ?_⟩, hz rfl p e o⟩
    rw [hK]; exact RpA.mono hS _ _ ra
  | od z t kvs =>
    obtain ⟨p, e, o, dr, z⟩ := h
    obtain ⟨u, hu⟩ := dr.there
    refine ⟨p, e, (hO p _ _ o hu).1, ?_, hz rfl p e o⟩
    rw [hK]; exact dr.mv hS fun w hw => (hO p _ _ o hw).2
  | oi z C fs =>
    obtain ⟨p, dx, fvs, e, o, hp, fr, nd, z⟩ := h
    refine ⟨p, dx, fvs, e, (hO p _ _ o hp).1, ?_, ?_, nd, hz rfl p e o⟩
    · rw [hc]; exact (hO p _ _ o hp).2
    · rw [hK]; exact fr.mv hS hO
  | raw w => exact h
  | scr ns =>
    obtain ⟨a, e, q, l⟩ := h
    refine ⟨a, e, ?_, l⟩
    rw [hK]; exact hS.sqL q
  | ali i => exact h
theorem SlR.top (h : SlR Z S H O r v sl) (o : sl.owned = true) : ∃ p, v = .ref p ∧ O p = some ⟨r, Str.empty⟩ := by
  cases sl with
  | ol z xs => obtain ⟨p, e, o, _⟩ := h; exact ⟨p, e, o⟩
  | od z t kvs => obtain ⟨p, e, o, _⟩ := h; exact ⟨p, e, o⟩
  | oi z C fs => obtain ⟨p, _, _, e, o, _⟩ := h; exact ⟨p, e, o⟩
  | _ => cases o
end
/-! where an argument's object lies with the caller -/
def rootOf (n : Nat) (io : Bool) (s : Sl) : Option Root :=
  match io with
  | false => none
  | true => match s with
    | .ali i => some (.s i)
    | _ => some (.t n)
def rootsOf : Nat → List Bool → List Sl → List (Option Root)
  | n, m :: ms, s :: ss => rootOf n m s :: rootsOf (n + 1) ms ss
  | _, _, _ => []
def pos : List (Option Root) → Root → Option Nat
  | [], _ => none
  | o :: os, r => if o = some r then some 0 else (pos os r).map (· + 1)
theorem pos_get : ∀ {os : List (Option Root)} {r : Root} {k : Nat}, pos os r = some k → os[k]? = some (some r)
  | [], _, _, h => by cases h
  | o :: os, r, k, h => by
    unfold pos at h
    split at h
    · rename_i e; cases h; rw [e]; rfl
    · cases q : pos os r with
      | none => rw [q] at h; cases h
      | some j =>
        rw [q] at h; cases h
        show os[j]? = some (some r)
        exact pos_get q
theorem rootsOf_t : ∀ {n : Nat} {ms : List Bool} {ss : List Sl} {k m : Nat}, (rootsOf n ms ss)[k]? = some (some (.t m)) → m = n + k
  | n, m :: ms, s :: ss, 0, j, h => by
    have h : some (rootOf n m s) = some (some (.t j)) := h
    cases m with
    | false => cases h
    | true =>
      cases s with
      | ali i => cases h
      | _ => cases h; rfl
  | n, m :: ms, s :: ss, k + 1, j, h => by
    have h : (rootsOf (n + 1) ms ss)[k]? = some (some (.t j)) := h
    have := rootsOf_t (n := n + 1) (ms := ms) (ss := ss) (k := k) h
    omega
  | n, [], _, k, _, h => by cases k <;> cases h
  | n, _ :: _, [], k, _, h => by cases k <;> cases h
theorem rootsOf_s : ∀ {n : Nat} {ms : List Bool} {ss : List Sl} {k i : Nat}, (rootsOf n ms ss)[k]? = some (some (.s i)) → ss[k]? = some (.ali i) ∧ ms[k]? = some true
  | n, m :: ms, s :: ss, 0, i, h => by
    have h : some (rootOf n m s) = some (some (.s i)) := h
    cases m with
    | false => cases h
    | true =>
      cases s with
      | ali j => cases h; exact ⟨rfl, rfl⟩
      | _ => cases h
  | n, m :: ms, s :: ss, k + 1, j, h => by
    have h : (rootsOf (n + 1) ms ss)[k]? = some (some (.s j)) := h
    exact rootsOf_s (n := n + 1) (ms := ms) (ss := ss) (k := k) h
  | n, [], _, k, _, h => by cases k <;> cases h
  | n, _ :: _, [], k, _, h => by cases k <;> cases h
theorem aliOf_mem : ∀ {ss : List Sl} {k i : Nat}, ss[k]? = some (.ali i) → i ∈ aliOf ss
  | s :: ss, 0, i, h => by
    have h : some s = some (.ali i) := h
    cases h
    exact List.mem_cons_self
  | s :: ss, k + 1, i, h => by
    have := aliOf_mem (ss := ss) (k := k) h
    cases s with
    | ali j => exact List.mem_cons_of_mem _ this
    | _ => exact this
  | [], k, i, h => by cases k <;> cases h
theorem pos_root : ∀ {n : Nat} {ms : List Bool} {ss : List Sl} {k : Nat} {r : Root}, (aliOf ss).Nodup → (rootsOf n ms ss)[k]? = some (some r) → pos (rootsOf n ms ss) r = some k
  | n, m :: ms, s :: ss, 0, r, nd, h => by
    have h : some (rootOf n m s) = some (some r) := h
    show (if rootOf n m s = some r then some 0 else _) = _
    rw [if_pos (Option.some.inj h)]
  | n, m :: ms, s :: ss, k + 1, r, nd, h => by
    have h : (rootsOf (n + 1) ms ss)[k]? = some (some r) := h
    have nd' : (aliOf ss).Nodup := by
      cases s with
      | ali j => exact (List.nodup_cons.mp nd).2
      | _ => exact nd
    show (if rootOf n m s = some r then some 0 else (pos (rootsOf (n + 1) ms ss) r).map (· + 1)) = _
    rw [if_neg, pos_root nd' h]
    · rfl
    · intro e
      cases m with
      | false => cases e
      | true =>
        cases s with
        | ali j =>
          cases e
          exact (List.nodup_cons.mp nd).1 (aliOf_mem (rootsOf_s h).1)
        | _ => cases e; have := rootsOf_t h; omega
  | n, [], _, k, _, _, h => by cases k <;> cases h
  | n, _ :: _, [], k, _, _, h => by cases k <;> cases h
/-- the callee's owners -/
def OM.into (O : OM) (rs : List (Option Root)) : OM := fun b => match O b with
  | some w => (pos rs w.root).map fun k => ⟨.s k, w.fld⟩
  | none => none
theorem OM.into_some {O : OM} {rs : List (Option Root)} {b : Addr} {w : Own} (h : O.into rs b = some w) : ∃ u k, O b = some u ∧ pos rs u.root = some k ∧ w = ⟨.s k, u.fld⟩ := by
  unfold OM.into at h
  cases e : O b with
  | none => rw [e] at h; cases h
  | some u =>
    rw [e] at h
    cases q : pos rs u.root with
    | none => dsimp only at h; rw [q] at h; cases h
    | some k => dsimp only at h; rw [q] at h; cases h; exact ⟨u, k, rfl, q, rfl⟩
theorem OM.into_of {O : OM} {rs : List (Option Root)} {b : Addr} {r : Root} {f : Str} {k : Nat} (h : O b = some ⟨r, f⟩) (q : pos rs r = some k) : O.into rs b = some ⟨.s k, f⟩ := by
  unfold OM.into; rw [h]; dsimp only; rw [q]; rfl
theorem OM.into_none {O : OM} {rs : List (Option Root)} {b : Addr} {w : Own} (h : O b = some w) (q : pos rs w.root = none) : O.into rs b = none := by
  unfold OM.into; rw [h]; dsimp only; rw [q]; rfl
/-- the caller's owners behind the call -/
def OM.back (O O' : OM) (rs : List (Option Root)) (n : Nat) : OM := fun b => match O' b with
  | some ⟨.s k, f⟩ => match rs[k]? with
    | some (some r) => some ⟨r, f⟩
    | _ => none
  | some ⟨.t 0, f⟩ => some ⟨.t n, f⟩
  | some ⟨.t (_ + 1), _⟩ => none
  | none => match O b with
    | some w => if (pos rs w.root).isSome = true then none else some w
    | none => none
theorem argsIn_get {ρ : Envr} : ∀ {ms : List Bool} {n : Nat} {ss args : List Sl} {k : Nat} {s : Sl}, argsIn ρ ms n ss = some args → ss[k]? = some s → ∃ m a, ms[k]? = some m ∧ args[k]? = some a ∧ argIn ρ m (n + k) s = some a
  | m :: ms, n, s :: ss, args, k, s', h, e => by
    unfold argsIn at h
    cases q : argIn ρ m n s with
    | none => rw [q] at h; cases h
    | some a =>
      cases q2 : argsIn ρ ms (n + 1) ss with
      | none => rw [q, q2] at h; cases h
      | some as =>
        rw [q, q2] at h
        cases h
        cases k with
        | zero =>
          have e : some s = some s' := e
          cases e
          exact ⟨m, a, rfl, rfl, q⟩
        | succ k =>
          obtain ⟨m', a', h1, h2, h3⟩ := argsIn_get q2 (show ss[k]? = some s' from e)
          exact ⟨m', a', h1, h2, by rw [← h3]; congr 1; omega⟩
  | [], _, [], _, k, _, _, e => by cases k <;> cases e
  | [], _, _ :: _, _, _, _, h, _ => by cases h
  | _ :: _, _, [], _, k, _, _, e => by cases k <;> cases e
theorem argsIn_len {ρ : Envr} : ∀ {ms : List Bool} {n : Nat} {ss args : List Sl}, argsIn ρ ms n ss = some args → ss.length = ms.length ∧ args.length = ms.length
  | m :: ms, n, s :: ss, args, h => by
    unfold argsIn at h
    cases q : argIn ρ m n s with
    | none => rw [q] at h; cases h
    | some a =>
      cases q2 : argsIn ρ ms (n + 1) ss with
      | none => rw [q, q2] at h; cases h
      | some as =>
        rw [q, q2] at h
        cases h
        have := argsIn_len q2
        simp [this.1, this.2]
  | [], _, [], _, h => by cases h; exact ⟨rfl, rfl⟩
  | [], _, _ :: _, _, h => by cases h
  | _ :: _, _, [], _, h => by cases h
theorem TmpsR.at {Z : Zx} {S H : Hp} {O : OM} {σ : L2.St} {vs : List V} {ts : List Sl} : ∀ {ws : List V} {ss : List Sl} {k : Nat} {s : Sl}, TmpsR Z S H O σ (ws.reverse ++ vs) (ss.reverse ++ ts) → ws.length = ss.length → ss[k]? = some s → ∃ v, ws[k]? = some v ∧ TmpR Z S H O σ (ts.length + k) v s := by
  intro ws ss k s h l e
  have main : ∀ (a : List V) (b : List Sl), a.length = b.length → TmpsR Z S H O σ (a ++ vs) (b ++ ts) → ∀ (j : Nat) (s : Sl), b[j]? = some s → ∃ v, a[j]? = some v ∧ TmpR Z S H O σ (ts.length + (b.length - 1 - j)) v s := by
    intro a
    induction a with
    | nil =>
      intro b l h j s e
      cases b with
      | nil => simp at e
      | cons _ _ => simp at l
    | cons v a ih =>
      intro b l h j s e
      cases b with
      | nil => simp at l
      | cons t b =>
        cases j with
        | zero =>
          have e : some t = some s := e
          cases e
          refine ⟨v, rfl, ?_⟩
          have h1 : TmpR Z S H O σ (b ++ ts).length v s := h.1
          rw [List.length_append] at h1
          have : ts.length + ((s :: b).length - 1 - 0) = b.length + ts.length := by simp; omega
          rw [this]; exact h1
        | succ j =>
          obtain ⟨w, h1, h2⟩ := ih b (by simpa using l) h.2 j s e
          refine ⟨w, h1, ?_⟩
          have hj : j < b.length := (List.getElem?_eq_some_iff.mp (show b[j]? = some s from e)).1
          have : ts.length + ((t :: b).length - 1 - (j + 1)) = ts.length + (b.length - 1 - j) := by simp; omega
          rw [this]; exact h2
  have hk : k < ss.length := (List.getElem?_eq_some_iff.mp e).1
  have e2 : ss.reverse[ss.length - 1 - k]? = some s := by
    rw [List.getElem?_reverse (by omega)]
    rw [← e]; congr 1; omega
  obtain ⟨v, h1, h2⟩ := main ws.reverse ss.reverse (by simp [l]) h _ s e2
  refine ⟨v, ?_, ?_⟩
  · rw [List.getElem?_reverse (by omega)] at h1
    rw [← h1]; congr 1; omega
  · rw [List.length_reverse] at h2
    have : ss.length - 1 - (ss.length - 1 - k) = k := by omega
    rw [this] at h2
    exact h2

theorem putOuts_len : ∀ {ss : List Sl} {outs : List (Option Sl)} {ρ : Envr}, (putOuts ρ ss outs).length = ρ.length
  | [], _, _ => by unfold putOuts; rfl
  | .ali i :: r, o :: os, ρ => by unfold putOuts; rw [putOuts_len, List.length_set]
  | .ali i :: r, [], ρ => by unfold putOuts; rfl
  | .d _ :: r, o :: os, ρ => by unfold putOuts; exact putOuts_len
  | .d _ :: r, [], ρ => by unfold putOuts; rfl
  | .ol _ _ :: r, o :: os, ρ => by unfold putOuts; exact putOuts_len
  | .ol _ _ :: r, [], ρ => by unfold putOuts; rfl
  | .od _ _ _ :: r, o :: os, ρ => by unfold putOuts; exact putOuts_len
  | .od _ _ _ :: r, [], ρ => by unfold putOuts; rfl
  | .oi _ _ _ :: r, o :: os, ρ => by unfold putOuts; exact putOuts_len
  | .oi _ _ _ :: r, [], ρ => by unfold putOuts; rfl
  | .raw _ :: r, o :: os, ρ => by unfold putOuts; exact putOuts_len
  | .raw _ :: r, [], ρ => by unfold putOuts; rfl
  | .scr _ :: r, o :: os, ρ => by unfold putOuts; exact putOuts_len
  | .scr _ :: r, [], ρ => by unfold putOuts; rfl
theorem putOuts_skip {s : Sl} {r : List Sl} {o : Option Sl} {os : List (Option Sl)} {ρ : Envr} (h : ∀ i, s ≠ .ali i) : putOuts ρ (s :: r) (o :: os) = putOuts ρ r os := by
  cases s with
  | ali i => exact absurd rfl (h i)
  | _ => rfl
theorem aliOf_skip {s : Sl} {r : List Sl} (h : ∀ i, s ≠ .ali i) : aliOf (s :: r) = aliOf r := by
  cases s with
  | ali i => exact absurd rfl (h i)
  | _ => rfl
/-- a slot behind the call: as it was, or what the callee left -/
theorem putOuts_get : ∀ {ss : List Sl} {outs : List (Option Sl)} {ρ : Envr} {j : Nat} {x : Sl}, (aliOf ss).Nodup → (putOuts ρ ss outs)[j]? = some (some x) →
    (ρ[j]? = some (some x) ∧ ∀ k : Nat, ss[k]? = some (.ali j) → outs[k]? = none) ∨ ∃ (k : Nat) (o : Sl), ss[k]? = some (.ali j) ∧ outs[k]? = some (some o) ∧ reflag ((ρ[j]?).join) o = some x
  | [], outs, ρ, j, x, nd, h => by
    have h : ρ[j]? = some (some x) := by simpa [putOuts] using h
    exact .inl ⟨h, fun k e => by simp at e⟩
  | s :: ss, [], ρ, j, x, nd, h => by
    have e : putOuts ρ (s :: ss) [] = ρ := by cases s <;> rfl
    rw [e] at h
    exact .inl ⟨h, fun k e => by simp⟩
  | s :: ss, o :: os, ρ, j, x, nd, h => by
    by_cases hs : ∃ i, s = .ali i
    · obtain ⟨i, rfl⟩ := hs
      have nd1 : i ∉ aliOf ss := (List.nodup_cons.mp nd).1
      have nd2 : (aliOf ss).Nodup := (List.nodup_cons.mp nd).2
      have h : (putOuts (ρ.set i (o.bind fun o => reflag ((ρ[i]?).join) o)) ss os)[j]? = some (some x) := h
      by_cases hij : i = j
      · subst hij
        rcases putOuts_get nd2 h with ⟨h1, h2⟩ | ⟨k, o', h1, h2, h3⟩
        · rw [List.getElem?_set_self'] at h1
          cases q : ρ[i]? with
          | none => rw [q] at h1; cases h1
          | some u =>
            rw [q] at h1
            have h1 : (o.bind fun o => reflag (some u).join o) = some x := Option.some.inj h1
            cases o with
            | none => cases h1
            | some o => exact .inr ⟨0, o, rfl, rfl, h1⟩
        · exact absurd (aliOf_mem h1) nd1
      · rcases putOuts_get nd2 h with ⟨h1, h2⟩ | ⟨k, o', h1, h2, h3⟩
        · rw [List.getElem?_set_ne hij] at h1
          refine .inl ⟨h1, fun k e => ?_⟩
          cases k with
          | zero =>
            have e : some (Sl.ali i) = some (.ali j) := e
            cases e
            exact absurd rfl hij
          | succ k => exact h2 k e
        · rw [List.getElem?_set_ne hij] at h3
          exact .inr ⟨k + 1, o', h1, h2, h3⟩
    · have hs' : ∀ i, s ≠ .ali i := fun i e => hs ⟨i, e⟩
      rw [putOuts_skip hs'] at h
      rw [aliOf_skip hs'] at nd
      rcases putOuts_get nd h with ⟨h1, h2⟩ | ⟨k, o', h1, h2, h3⟩
      · refine .inl ⟨h1, fun k e => ?_⟩
        cases k with
        | zero =>
          have e : some s = some (.ali j) := e
          exact absurd (Option.some.inj e) (hs' j)
        | succ k => exact h2 k e
      · exact .inr ⟨k + 1, o', h1, h2, h3⟩
theorem outEnv_get {md : List Bool} {outs : List (Option Sl)} {k : Nat} {o : Sl} (h1 : md[k]? = some true) (h2 : outs[k]? = some (some o)) : (outEnv md outs)[k]? = some (some o) := by
  unfold outEnv
  have e : (md.zip outs)[k]? = some (true, some o) := List.getElem?_zip_eq_some.mpr ⟨h1, h2⟩
  rw [List.getElem?_map, e]
  rfl
theorem reflag_some {old : Option Sl} {o x : Sl} (h : reflag old o = some x) : ∃ y, old = some y ∧ y.owned = true ∧ o.owned = true ∧ x = o.flag y.z := by
  unfold reflag at h
  cases old with
  | none => cases h
  | some y =>
    dsimp only at h
    split at h
    · rename_i q; cases h; exact ⟨y, rfl, q.1, q.2, rfl⟩
    · cases h
theorem SlR.zok {Z : Zx} {S H : Hp} {O : OM} {r : Root} {v : V} {y : Sl} (h : SlR Z S H O r v y) (ho : y.owned = true) : ∃ p, v = .ref p ∧ zOk Z y.z p := by
  cases y with
  | ol z xs => obtain ⟨p, e, _, _, q⟩ := h; exact ⟨p, e, q⟩
  | od z t xs => obtain ⟨p, e, _, _, q⟩ := h; exact ⟨p, e, q⟩
  | oi z C xs => obtain ⟨p, _, _, e, _, _, _, _, q⟩ := h; exact ⟨p, e, q⟩
  | _ => cases ho
theorem flag_none {s : Sl} (h : resOk s = true) : s.flag none = s ∧ (∀ i, s ≠ .ali i) := by
  cases s with
  | ol z xs => cases z with
    | none => exact ⟨rfl, fun i e => by cases e⟩
    | some k => cases h
  | od z t xs => cases z with
    | none => exact ⟨rfl, fun i e => by cases e⟩
    | some k => cases h
  | oi z t xs => cases z with
    | none => exact ⟨rfl, fun i e => by cases e⟩
    | some k => cases h
  | d x => exact ⟨rfl, fun i e => by cases e⟩
  | raw x => exact ⟨rfl, fun i e => by cases e⟩
  | scr x => cases h
  | ali x => cases h
theorem TmpR.sl {Z : Zx} {S H : Hp} {O : OM} {σ : L2.St} {n : Nat} {v : V} {s : Sl} (h : TmpR Z S H O σ n v s) (a : ∀ i, s ≠ .ali i) : SlR Z S H O (.t n) v s := by
  cases s with
  | ali i => exact absurd rfl (a i)
  | _ => exact h
theorem SlR.tmp {Z : Zx} {S H : Hp} {O : OM} {σ : L2.St} {n : Nat} {v : V} {s : Sl} (h : SlR Z S H O (.t n) v s) : TmpR Z S H O σ n v s := by
  cases s with
  | ali i => exact h.elim
  | _ => exact h
section
variable {Z : Zx} {S H : Hp} {O : OM} {vs ws : List V} {ts ss : List Sl} {σ : L2.St} {ρ : Envr} {md : List Bool} {args : List Sl}
/-- the state as the callee meets it -/
theorem GoodX.enter (G : GoodX Z S O (ws.reverse ++ vs) (ss.reverse ++ ts) σ ρ H) (l : ws.length = ss.length) (nd : (aliOf ss).Nodup) (ha : argsIn ρ md 0 ss = some args) :
    GoodX (entryZ Z.K Z.cls S H (O.into (rootsOf ts.length md ss)) ws) S (O.into (rootsOf ts.length md ss)) [] [] (ws.map some) (args.map some) H := by
  obtain ⟨al1, al2⟩ := argsIn_len ha
  refine ⟨G.le, fun p o e => ?_, fun p o e => ?_, fun i sl e => ?_, trivial, fun b o e _ => e, Le.refl, fun b h => .inl h, fun b ⟨w, e⟩ => ?_, by rw [List.length_map, List.length_map]; omega⟩
  · obtain ⟨u, k, h1, _⟩ := OM.into_some e
    exact ⟨(G.own p u h1).1, .inr ⟨o, e⟩⟩
  · obtain ⟨u, k, h1, _⟩ := OM.into_some e
    exact G.liv p u h1
  · rw [List.getElem?_map] at e
    cases q : args[i]? with
    | none => rw [q] at e; cases e
    | some a =>
      rw [q] at e
      cases e
      have hi : i < ss.length := by
        have := (List.getElem?_eq_some_iff.mp q).1
        omega
      obtain ⟨m, a', hm, ha', hin⟩ := argsIn_get ha (List.getElem?_eq_getElem hi)
      rw [q] at ha'; cases ha'
      obtain ⟨v, hv, ht⟩ := TmpsR.at G.tmp l (List.getElem?_eq_getElem hi)
      generalize hs : ss[i] = s at ht hin
      have hs2 : ss[i]? = some s := by rw [← hs]; exact List.getElem?_eq_getElem hi
      refine ⟨v, by rw [List.getElem?_map, hv]; rfl, ?_⟩
      cases m with
      | false =>
        cases s with
        | d x => cases hin; exact ht
        | raw x => cases hin; exact ht
        | scr x => cases hin; exact ht
        | _ => cases hin
      | true =>
        -- the root of its object
        have core : ∀ (r : Root) (y : Sl), SlR Z S H O r v y → rootOf (ts.length + i) true s = some r → (match y with | .ol _ xs => some (Sl.ol (some (0 + i)) xs) | .od _ t kvs => some (.od (some (0 + i)) t kvs) | .oi _ C fs => some (.oi (some (0 + i)) C fs) | _ => none) = some sl →
            SlR (entryZ Z.K Z.cls S H (O.into (rootsOf ts.length md ss)) ws) S H (O.into (rootsOf ts.length md ss)) (.s i) v sl := by
          intro r y hy hr e
          have hroot : (rootsOf ts.length md ss)[i]? = some (some r) := by
            have gen : ∀ (n : Nat) (ms : List Bool) (ss : List Sl) (i : Nat), ms[i]? = some true → ss[i]? = some s → (rootsOf n ms ss)[i]? = some (rootOf (n + i) true s) := by
              intro n ms
              induction ms generalizing n with
              | nil => intro ss i h; simp at h
              | cons m ms ih =>
                intro ss i h1 h2
                cases ss with
                | nil => simp at h2
                | cons t ss =>
                  cases i with
                  | zero =>
                    have h1 : some m = some true := h1
                    have h2 : some t = some s := h2
                    cases h1; cases h2
                    rfl
                  | succ i =>
                    have := ih (n + 1) ss i h1 h2
                    show (rootsOf (n + 1) ms ss)[i]? = _
                    rw [this]; congr 2; omega
            rw [gen _ _ _ _ hm hs2, hr]
          have hp := pos_root nd hroot
          have hO : ∀ q f o, O q = some ⟨r, f⟩ → H q = some o → O.into (rootsOf ts.length md ss) q = some ⟨.s i, f⟩ ∧ H q = some o := fun q f o a b => ⟨OM.into_of a hp, b⟩
          have hz : ∀ p, v = .ref p → O p = some ⟨r, Str.empty⟩ → zOk (entryZ Z.K Z.cls S H (O.into (rootsOf ts.length md ss)) ws) (some i) p := fun p ev ep => by
            refine ⟨?_, _, OM.into_of ep hp⟩
            show (match ws[i]? with | some (V.ref p) => some p | _ => none) = some p
            rw [hv, ev]
          have z := SlR.zz (Z := Z) (S := S) (r := r) (O := O) (sl := y) (Z' := entryZ Z.K Z.cls S H (O.into (rootsOf ts.length md ss)) ws) (k := some i) rfl rfl Le.refl hO (fun _ => hz) hy
          rw [Nat.zero_add] at e
          cases y with
          | ol _ xs => cases e; exact z
          | od _ t kvs => cases e; exact z
          | oi _ C fs => cases e; exact z
          | _ => cases e
        by_cases hal : ∃ j, s = .ali j
        · obtain ⟨j, rfl⟩ := hal
          dsimp only [argIn] at hin
          have ht : σ[j]? = some (some v) := ht
          cases qj : ρ[j]? with
          | none => rw [qj] at hin; cases hin
          | some oy =>
            cases oy with
            | none => rw [qj] at hin; cases hin
            | some y =>
              obtain ⟨v', h1, h2⟩ := G.env j y qj
              rw [ht] at h1; cases h1
              refine core (.s j) y h2 rfl ?_
              rw [qj] at hin
              rw [← hin]
              cases y <;> rfl
        · have hal' : ∀ j, s ≠ .ali j := fun j e => hal ⟨j, e⟩
          refine core (.t (ts.length + i)) s (ht.sl hal') ?_ ?_
          · cases s with
            | ali j => exact absurd rfl (hal' j)
            | _ => rfl
          · rw [← hin]
            cases s with
            | ali j => exact absurd rfl (hal' j)
            | _ => rfl
  · obtain ⟨u, k, h1, _⟩ := OM.into_some e
    exact G.liv b u h1
end
end Pw
/-! Pw, part L: calls, back. -/
namespace Pw
open PySem PySem.Spec PyProof.Rows L2
theorem zOk.top {Z : Zx} {z : Option Nat} {p q : Addr} (h : zOk Z z p) (e : p = q) : zOk Z z q := by subst e; exact h
section
variable {Z : Zx} {S H S' H' : Hp} {O O' : OM} {vs ws : List V} {ts ss : List Sl} {σ : L2.St} {ρ : Envr} {md : List Bool} {args : List Sl} {outs : List (Option Sl)} {v : V} {r : Sl}
theorem GoodX.leave (G : GoodX Z S O (ws.reverse ++ vs) (ss.reverse ++ ts) σ ρ H) (l : ws.length = ss.length) (nd : (aliOf ss).Nodup) (ha : argsIn ρ md 0 ss = some args) (lo : outs.length = md.length)
    (G' : GoodX (entryZ Z.K Z.cls S H (O.into (rootsOf ts.length md ss)) ws) S' O' [v] [r] (ws.map some) (outEnv md outs) H') (hr : resOk r = true) :
    GoodX Z S' (O.back O' (rootsOf ts.length md ss) ts.length) (v :: vs) (r :: ts) σ (putOuts ρ ss outs) H' := by
  obtain ⟨al1, al2⟩ := argsIn_len ha
  generalize hrs : rootsOf ts.length md ss = rs at G'
  have G0 : GoodX Z S O vs ts σ ρ H := GoodX.popN (by simp [l]) G
  have noio : ∀ {b w}, O b = some w → pos rs w.root = none → O.into rs b = none := fun h q => OM.into_none h q
  have fr : ∀ {b}, H b = none → Z.H0 b = none := fun h => G0.fresh0 h
  -- an object of the caller's that is none of the arguments'
  have keepC : ∀ {b w o}, O b = some w → pos rs w.root = none → H b = some o → O' b = none ∧ H' b = some o := fun {b w o} h1 h2 h3 => by
    have ni : ¬ (entryZ Z.K Z.cls S H (O.into rs) ws).io b := fun ⟨u, e⟩ => by rw [noio h1 h2] at e; cases e
    refine ⟨?_, G'.keep b o h3 ni⟩
    cases e : O' b with
    | none => rfl
    | some u =>
      rcases (G'.own b u e).2 with z | z
      · have z : H b = none := z
        rw [h3] at z; cases z
      · exact absurd z ni
  have backC : ∀ {b w o}, O b = some w → pos rs w.root = none → H b = some o → O.back O' rs ts.length b = some w ∧ H' b = some o := fun {b w o} h1 h2 h3 => by
    obtain ⟨k1, k2⟩ := keepC h1 h2 h3
    refine ⟨?_, k2⟩
    unfold OM.back
    rw [k1, h1]
    dsimp only
    rw [h2]
    rfl
  have backK : ∀ {b k f rt}, O' b = some ⟨.s k, f⟩ → rs[k]? = some (some rt) → O.back O' rs ts.length b = some ⟨rt, f⟩ := fun {b k f rt} h1 h2 => by
    unfold OM.back
    rw [h1]
    dsimp only
    rw [h2]
  have backT : ∀ {b f}, O' b = some ⟨.t 0, f⟩ → O.back O' rs ts.length b = some ⟨.t ts.length, f⟩ := fun {b f} h1 => by
    unfold OM.back
    rw [h1]
  -- whence an owner behind the call
  have cases_ : ∀ {b w}, O.back O' rs ts.length b = some w → (∃ u, O' b = some u) ∨ (O' b = none ∧ ∃ u, O b = some u ∧ pos rs u.root = none) := fun {b w} h => by
    cases e : O' b with
    | some u => exact .inl ⟨u, rfl⟩
    | none =>
      unfold OM.back at h
      rw [e] at h
      dsimp only at h
      cases e2 : O b with
      | none => rw [e2] at h; cases h
      | some u =>
        rw [e2] at h
        dsimp only at h
        split at h
        · cases h
        · rename_i q
          refine .inr ⟨rfl, u, rfl, ?_⟩
          cases q2 : pos rs u.root with
          | none => rfl
          | some k => rw [q2] at q; exact absurd rfl q
  have ioC : ∀ {b}, (entryZ Z.K Z.cls S H (O.into rs) ws).io b → ∃ u, O b = some u := fun {b} ⟨w, e⟩ => by
    obtain ⟨u, k, h1, _⟩ := OM.into_some e
    exact ⟨u, h1⟩
  refine ⟨G'.le, fun b w h => ?_, fun b w h => ?_, fun j x h => ?_, ⟨?_, ?_⟩, fun b o h1 h2 => ?_, G0.sh0.trans G'.sh0, fun b h => ?_, fun b h => ?_, by rw [putOuts_len]; exact G0.len⟩
  · rcases cases_ h with ⟨u, e⟩ | ⟨e, u, e2, q⟩
    · obtain ⟨h1, h2⟩ := G'.own b u e
      refine ⟨h1, ?_⟩
      rcases h2 with z | z
      · exact .inl (fr z)
      · obtain ⟨u', e'⟩ := ioC z
        exact (G0.own b u' e').2
    · obtain ⟨h1, h2⟩ := G0.own b u e2
      refine ⟨?_, h2⟩
      cases e3 : S' b with
      | none => rfl
      | some o =>
        rcases G'.shf b (by rw [e3]; intro z; cases z) with z | z
        · exact absurd h1 z
        · obtain ⟨o', e4⟩ := G0.liv b u e2
          have z : H b = none := z
          rw [e4] at z; cases z
  · rcases cases_ h with ⟨u, e⟩ | ⟨e, u, e2, q⟩
    · exact G'.liv b u e
    · obtain ⟨o, e4⟩ := G0.liv b u e2
      exact ⟨o, (keepC e2 q e4).2⟩
  · rcases putOuts_get nd h with ⟨h1, h2⟩ | ⟨k, o, h1, h2, h3⟩
    · obtain ⟨w, hw, hs⟩ := G0.env j x h1
      refine ⟨w, hw, hs.mv G'.sh0 fun q f o a b => backC a ?_ b⟩
      cases q2 : pos rs (.s j) with
      | none => rfl
      | some k =>
        have e := pos_get q2
        rw [← hrs] at e
        obtain ⟨e1, e2⟩ := rootsOf_s e
        exfalso
        have hk : k < md.length := (List.getElem?_eq_some_iff.mp e2).1
        rw [← lo] at hk
        have z := h2 k e1
        rw [List.getElem?_eq_getElem hk] at z
        cases z
    · obtain ⟨y, e1, oy, oo, rfl⟩ := reflag_some h3
      obtain ⟨m, a, hm, haa, hin⟩ := argsIn_get ha h1
      have hm' : m = true := by
        cases m with
        | true => rfl
        | false => cases hin
      subst hm'
      obtain ⟨w, hw, hs⟩ := G'.env k o (outEnv_get hm h2)
      have hwk : ws[k]? = some w := by
        rw [List.getElem?_map] at hw
        cases q : ws[k]? with
        | none => rw [q] at hw; cases hw
        | some w' => rw [q] at hw; cases hw; rfl
      obtain ⟨w', hw', ht⟩ := TmpsR.at G.tmp l h1
      rw [hwk] at hw'; cases hw'
      have hσ : σ[j]? = some (some w) := ht
      have hρ : ρ[j]? = some (some y) := by
        cases q : ρ[j]? with
        | none => rw [q] at e1; cases e1
        | some u => rw [q] at e1; cases e1; rfl
      obtain ⟨w2, h5, h6⟩ := G0.env j y hρ
      rw [hσ] at h5; cases h5
      refine ⟨w, hσ, SlR.zz (Z := entryZ Z.K Z.cls S H (O.into rs) ws) (S := S') (H := H') (O := O') (r := .s k) (sl := o) rfl rfl Le.refl (fun q f u a b => ⟨backK a ?_, b⟩) (fun _ p ep _ => ?_) hs⟩
      · rw [← hrs]
        have gen : ∀ (n : Nat) (ms : List Bool) (ss : List Sl) (i : Nat), ms[i]? = some true → ss[i]? = some (.ali j) → (rootsOf n ms ss)[i]? = some (some (.s j)) := by
          intro n ms
          induction ms generalizing n with
          | nil => intro ss i h; simp at h
          | cons m ms ih =>
            intro ss i h1 h2
            cases ss with
            | nil => simp at h2
            | cons t ss =>
              cases i with
              | zero =>
                have h1 : some m = some true := h1
                have h2 : some t = some (Sl.ali j) := h2
                cases h1; cases h2
                rfl
              | succ i => exact ih (n + 1) ss i h1 h2
        exact gen _ _ _ _ hm h1
      · obtain ⟨p', e', z⟩ := h6.zok oy
        rw [ep] at e'; cases e'
        exact z
  · have t0 : TmpR (entryZ Z.K Z.cls S H (O.into rs) ws) S' H' O' (ws.map some) 0 v r := G'.tmp.1
    obtain ⟨f1, f2⟩ := flag_none hr
    have s0 := t0.sl f2
    have := SlR.zz (Z := entryZ Z.K Z.cls S H (O.into rs) ws) (Z' := Z) (S := S') (S' := S') (H := H') (H' := H') (O := O') (O' := O.back O' rs ts.length) (r := .t 0) (r' := .t ts.length) (k := none) (sl := r) (v := v) rfl rfl Le.refl (fun q f u a b => ⟨backT a, b⟩) (fun ow p ep eo => ?_) s0
    · rw [f1] at this
      exact this.tmp
    · -- a fresh one
      cases r with
      | ol z xs =>
        cases z with
        | none => obtain ⟨p', e', _, _, q⟩ := s0; rw [ep] at e'; cases e'; exact fr q
        | some k => cases hr
      | od z t xs =>
        cases z with
        | none => obtain ⟨p', e', _, _, q⟩ := s0; rw [ep] at e'; cases e'; exact fr q
        | some k => cases hr
      | oi z C xs =>
        cases z with
        | none => obtain ⟨p', _, _, e', _, _, _, _, q⟩ := s0; rw [ep] at e'; cases e'; exact fr q
        | some k => cases hr
      | d x => cases ow
      | raw x => cases ow
      | scr x => cases hr
      | ali x => cases hr
  · refine G0.tmp.mv G'.sh0 (fun _ _ _ h => h) fun n hn q f o a b => backC a ?_ b
    cases q2 : pos rs (.t n) with
    | none => rfl
    | some k =>
      have e := pos_get q2
      rw [← hrs] at e
      have := rootsOf_t e
      omega
  · have ho := G0.keep b o h1 h2
    refine G'.keep b o ho fun z => ?_
    obtain ⟨u, e⟩ := ioC z
    rcases (G0.own b u e).2 with q | q
    · rw [q] at h1; cases h1
    · exact h2 q
  · rcases G'.shf b h with z | z
    · exact G0.shf b z
    · exact .inr (fr z)
  · obtain ⟨o, e⟩ := G0.iol b h
    by_cases z : (entryZ Z.K Z.cls S H (O.into rs) ws).io b
    · exact G'.iol b z
    · exact ⟨o, G'.keep b o e z⟩
end
end Pw
/-! Pw, part M: a call of a def, of a built-in; a list's own methods. -/
namespace Pw
open PySem PySem.Spec PyProof.Rows L2
section
variable {X : Cx} {Z : Zx} {W : WX} {x y z : Expr} {a b c : E} {pos : Pos}
/-- the last temporary alone -/
theorem Good.only {vs : List V} {ts : List Sl} {σ : L2.St} {ρ : Envr} {H : Hp} {v : V} {d : D} (G : Good Z (v :: vs) (.d d :: ts) σ ρ H) : Good Z [v] [.d d] σ ρ H := by
  obtain ⟨S, O, g⟩ := G
  have r : Rp Z.K S v d := g.tmp.1
  have l := g.tmp.2.length
  have g2 : GoodX Z S O [] [] σ ρ H := GoodX.popN (ws := vs) (us := ts) l (by simpa using g.pop)
  exact ⟨S, O, g2.pushD r⟩
theorem call_core {F : Fn} {vs ws : List V} {ts ss : List Sl} {σ : L2.St} {ρ : Envr} {H : Hp} {Q : VK} (G : Good Z (ws.reverse ++ vs) (ss.reverse ++ ts) σ ρ H) (l : ws.length = ss.length)
    (h : PostR Z W σ (fun s ρ' => ∀ v H', Good Z (v :: vs) (s :: ts) σ ρ' H' → Q v H') (callR F ss ρ)) : spec Z.K Z.cls F ws H Q (WE W σ) := by
  obtain ⟨S, O, g⟩ := G
  unfold callR at h
  split at h
  · rename_i nd
    cases ha : argsIn ρ F.md 0 ss with
    | none => rw [ha] at h; exact h.elim
    | some args =>
      rw [ha] at h
      dsimp only at h
      obtain ⟨l1, l2⟩ := argsIn_len ha
      refine ⟨S, O.into (rootsOf ts.length F.md ss), args, by omega, l2, g.enter l nd ha, ?_⟩
      cases hs : F.sem args with
      | stuck => rw [hs] at h; exact h.elim
      | ok r outs =>
        rw [hs] at h
        dsimp only at h ⊢
        split at h
        · rename_i hr
          intro v H' ⟨S', O', g'⟩
          exact h v H' ⟨_, _, g.leave l nd ha hr.2 g' hr.1⟩
        · exact h.elim
      | raise C x outs =>
        rw [hs] at h
        dsimp only at h ⊢
        split at h
        · rename_i hr
          intro d v H' ⟨S', O', g'⟩ hd
          have g2 : Good Z (v :: vs) (.d x :: ts) σ (putOuts ρ ss outs) H' := ⟨_, _, g.leave l nd ha hr g' rfl⟩
          exact h d v H' g2.only hd
        · exact h.elim
  · exact h.elim
variable (A : At X Z W)
/-- from a call's arguments -/
theorem se_call {F : Fn} {n : Str} {p : Pos} {xs : List Expr} {es : Es} (hF : Have X Z (.fn F)) (hn : n = F.name) (hg : Gl X n) (h : SLs X Z W (evC F.md es) (x :: xs) es)
    (hs : starEach (x :: xs) X.env = (false, eval x X.env) :: starEach xs X.env) (hpl : (backTo pos (starEach xs X.env)).any (·.1) = false) (A : At X Z W) : SE X Z W (.Call (.Name n p) (x :: xs) [] pos) (.call F es) ∧ ST X Z W (.Call (.Name n p) (x :: xs) [] pos) (.call F es) := by
  subst hn
  obtain ⟨k, f, fd, ps, hF⟩ := hF
  obtain ⟨t, pt, s⟩ := h
  have pc : PE X (.Call (.Name F.name p) (x :: xs) [] pos) (tCallS (spec Z.K Z.cls F) (WE W) t) := pe_callG hF.ok ⟨hF.room, A.gd⟩ hg hF.mg hF.kp hF.bd (fun σ => passAt A.tk σ) pt hF.db hs hpl
  have hsem : ∀ (vs : List V) (ts : List Sl) (σ : L2.St) (ρ : Envr) (H : Hp) (Q : VK), noal (E.call F es).own ts → Good Z vs ts σ ρ H →
      PostR Z W σ (fun s ρ' => ∀ v H', Good Z (v :: vs) (s :: ts) σ ρ' H' → Q v H') (ev (.call F es) ρ) → tCallS (spec Z.K Z.cls F) (WE W) t σ H Q := fun vs ts σ ρ H Q hn G h => by
    refine s vs ts σ ρ H _ hn G ((PostR.bind (r := evC F.md es ρ) (f := fun sls ρ => callR F sls ρ) h).imp fun ss ρ1 h1 ws H1 l G1 => ?_)
    exact call_core G1 l h1
  exact ⟨⟨_, pc, hsem⟩, st_val (pt_val pc) hsem⟩

/-! ### built-ins -/
theorem Blt.boot : ∀ b : Blt, bootBuiltins b.name = some b.val
  | .repr => by decide +kernel
  | .sorted => by decide +kernel
  | .len => by decide +kernel
  | .list => by decide +kernel
  | .tuple => by decide +kernel
  | .all => by decide +kernel
  | .any => by decide +kernel
  | .sum => by decide +kernel
  | .int => by decide +kernel
  | .abs => by decide +kernel
  | .max => by decide +kernel
  | .min => by decide +kernel
  | .divmod => by decide +kernel
theorem Blt.nm : ∀ b : Blt, b.name ≠ "__name__" := by intro b; cases b <;> decide +kernel
theorem Blt.db : ∀ b : Blt, (b.name == ("__debug__" : Str)) = false := by intro b; cases b <;> decide +kernel
theorem pe_blt {R : List V → Hp → VK → Prop} {p : Pos} {xs : List Expr} {t : TA} (bl : Blt) (hc : CallR X bl.val R) (hg : Gl X bl.name) (hm : X.mg bl.name = none) (ha : PA X (x :: xs) t)
    (hs : starEach (x :: xs) X.env = (false, eval x X.env) :: starEach xs X.env) (hpl : (backTo pos (starEach xs X.env)).any (·.1) = false) : PE X (.Call (.Name bl.name p) (x :: xs) [] pos) (tCB R t) := by
  have h1 := bl.boot
  have h2 := bl.nm
  have h3 := bl.db
  cases bl with
  | repr => exact pe_callB hc hg hm h1 ha h2 h3 hs hpl
  | sorted => exact pe_callB hc hg hm h1 ha h2 h3 hs hpl
  | len => exact pe_callB hc hg hm h1 ha h2 h3 hs hpl
  | list => exact pe_callTy hc hg hm h1 ha h2 h3 hs hpl
  | tuple => exact pe_callTy hc hg hm h1 ha h2 h3 hs hpl
  | all => exact pe_callB hc hg hm h1 ha h2 h3 hs hpl
  | any => exact pe_callB hc hg hm h1 ha h2 h3 hs hpl
  | sum => exact pe_callB hc hg hm h1 ha h2 h3 hs hpl
  | int => exact pe_callTy hc hg hm h1 ha h2 h3 hs hpl
  | abs => exact pe_callB hc hg hm h1 ha h2 h3 hs hpl
  | max => exact pe_callB hc hg hm h1 ha h2 h3 hs hpl
  | min => exact pe_callB hc hg hm h1 ha h2 h3 hs hpl
  | divmod => exact pe_callB hc hg hm h1 ha h2 h3 hs hpl
theorem GoodX.rvA {S H : Hp} {O : OM} {vs : List V} {ts : List Sl} {σ : L2.St} {ρ : Envr} : ∀ {ws : List V} {ss : List Sl} {ds : List D}, GoodX Z S O (ws.reverse ++ vs) (ss.reverse ++ ts) σ ρ H → ws.length = ss.length → views ρ ss = some ds → RvA Z.K S H ws ds
  | [], [], ds, _, _, e => by cases e; exact .nil
  | [], _ :: _, _, _, l, _ => by simp at l
  | _ :: _, [], _, _, l, _ => by simp at l
  | w :: ws, s :: ss, ds, G, l, e => by
    have l' : ws.length = ss.length := by simpa using l
    have G' : GoodX Z S O (ws.reverse ++ (w :: vs)) (ss.reverse ++ (s :: ts)) σ ρ H := by simpa using G
    unfold views at e
    cases e1 : view ρ s with
    | none => rw [e1] at e; cases e
    | some d =>
      cases e2 : views ρ ss with
      | none => rw [e1, e2] at e; cases e
      | some ds' =>
        rw [e1, e2] at e
        cases e
        have g2 := GoodX.popN (by simp [l']) G'
        exact .cons (g2.rv g2.tmp.1 e1) (GoodX.rvA G' l' e2)
theorem se_blt {bl : Blt} {n : Str} {p : Pos} {xs : List Expr} {es : Es} (hm : Have X Z (.no bl.name)) (hn : n = bl.name) (hg : Gl X n) (h : SLs X Z W (evL es) (x :: xs) es)
    (hs : starEach (x :: xs) X.env = (false, eval x X.env) :: starEach xs X.env) (hpl : (backTo pos (starEach xs X.env)).any (·.1) = false) (A : At X Z W) : SE X Z W (.Call (.Name n p) (x :: xs) [] pos) (.blt bl es) ∧ ST X Z W (.Call (.Name n p) (x :: xs) [] pos) (.blt bl es) := by
  subst hn
  obtain ⟨t, pt, s⟩ := h
  obtain ⟨R, hc, hi⟩ := bltD_ok A.calm A.hu A.gd bl
  have pc : PE X (.Call (.Name bl.name p) (x :: xs) [] pos) (tCB R t) := pe_blt bl hc hg hm pt hs hpl
  have hsem : ∀ (vs : List V) (ts : List Sl) (σ : L2.St) (ρ : Envr) (H : Hp) (Q : VK), noal (E.blt bl es).own ts → Good Z vs ts σ ρ H →
      PostR Z W σ (fun s ρ' => ∀ v H', Good Z (v :: vs) (s :: ts) σ ρ' H' → Q v H') (ev (.blt bl es) ρ) → tCB R t σ H Q := fun vs ts σ ρ H Q hn G h => by
    refine s vs ts σ ρ H _ hn G ((PostR.bind (r := evL es ρ) (f := fun sls ρ => bltR bl sls ρ) h).imp fun ss ρ1 h1 ws H1 l G1 => ?_)
    unfold bltR at h1
    cases e1 : views ρ1 ss with
    | none => rw [e1] at h1; exact h1.elim
    | some ds =>
      rw [e1] at h1
      dsimp only at h1
      cases e2 : bltD bl ds with
      | none => rw [e2] at h1; exact h1.elim
      | some rs =>
        rw [e2] at h1
        obtain ⟨S, O, g⟩ := G1
        have r1 := g.rvA l e1
        rw [← A.K] at r1
        refine hi S H1 ws ds Q rs g.le r1 e2 ?_
        rw [A.K]
        exact (GoodX.popN (by simp [l]) g).out h1
  exact ⟨⟨_, pc, hsem⟩, st_val (pt_val pc) hsem⟩

/-! ### a list's own methods -/
def Mut.name : Mut → Str
  | .append => "append" | .pop => "pop" | .popAt => "pop" | .insert => "insert" | .reverse => "reverse" | .extend => "extend" | .remove => "remove"
def Mut.id : Mut → String
  | .append => "list.append" | .pop => "list.pop" | .popAt => "list.pop" | .insert => "list.insert" | .reverse => "list.reverse" | .extend => "list.extend" | .remove => "list.remove"
theorem Mut.slot : ∀ m : Mut, Slot "list" m.name m.id
  | .append => PySem.F.slot_list_append
  | .pop => PySem.F.slot_list_pop
  | .popAt => PySem.F.slot_list_pop
  | .insert => PySem.F.slot_list_insert
  | .reverse => PySem.F.slot_list_reverse
  | .extend => PySem.F.slot_list_extend
  | .remove => PySem.F.slot_list_remove
theorem Mut.type : ∀ m : Mut, typeOf (.builtin m.id) = pure (.type "method_descriptor")
  | .append => PySem.F.type_list_append
  | .pop => PySem.F.type_list_pop
  | .popAt => PySem.F.type_list_pop
  | .insert => PySem.F.type_list_insert
  | .reverse => PySem.F.type_list_reverse
  | .extend => PySem.F.type_list_extend
  | .remove => PySem.F.type_list_remove
def IsM (X : Cx) (R : V → List V → Hp → VK → Prop) (m : Mut) : Prop := ∀ (S H : Hp) (p : Addr) (us ws : List V) (xs xs' ds : List D) (d : D) (Q : VK), Le S H → H p = some (.lst us) → RpA X.K S us xs → xs.length ≤ sizeLine → RpA X.K S ws ds →
  mutD m xs ds = some (d, xs') → (∀ v us', Rp X.K S v d → RpA X.K S us' xs' → xs'.length ≤ sizeLine → Q v (upd H p (.lst us'))) → R (.ref p) ws H Q
theorem mut_no {R : V → List V → Hp → VK → Prop} {m : Mut} (h : ∀ xs ds, mutD m xs ds = none) : IsM X R m := fun S H p us ws xs xs' ds d Q _ _ _ _ _ e _ => by rw [h] at e; cases e
theorem RpA.erase {K : PySem.W.Frag} {S : Hp} : ∀ {us : List V} {xs : List D} (k : Nat), RpA K S us xs → RpA K S (us.eraseIdx k) (xs.eraseIdx k)
  | _, _, _, .nil => .nil
  | _, _, 0, .cons a t => t
  | _, _, k + 1, .cons a t => .cons a (RpA.erase k t)
theorem RpA.last {K : PySem.W.Frag} {S : Hp} {us : List V} {xs : List D} (r : RpA K S us xs) : RpA K S us.dropLast xs.dropLast := by
  rw [List.dropLast_eq_take, List.dropLast_eq_take, r.length]
  exact r.take _
def eqs (z : Str) (v : Value) : Bool :=
  match v with
  | .str y _ => y.cps.toList == z.cps.toList
  | _ => false
theorem strs_rp {K : PySem.W.Frag} {S : Hp} : ∀ {vs : List V} {ds : List D} {ys : List Str}, RpA K S vs ds → strsD ds = some ys → vs = ys.map V.str ∧ ∀ y ∈ ys, sOk y = true
  | _, _, _, .nil, e => by cases e; exact ⟨rfl, fun y m => nomatch m⟩
  | _, _, _, .cons (d := .str b) (ds := ds) a t, e => by
    dsimp only [strsD] at e
    cases q : strsD ds with
    | none => rw [q] at e; cases e
    | some r =>
      rw [q] at e; cases e
      cases a with
      | str _ h =>
        obtain ⟨h1, h2⟩ := strs_rp t q
        rw [h1]
        exact ⟨rfl, fun y m => (List.mem_cons.mp m).elim (fun e => e ▸ h) (h2 y)⟩
  | _, _, _, .cons (d := .none) a t, e => by cases e
  | _, _, _, .cons (d := .bool _) a t, e => by cases e
  | _, _, _, .cons (d := .int _) a t, e => by cases e
  | _, _, _, .cons (d := .list _) a t, e => by cases e
  | _, _, _, .cons (d := .tuple _) a t, e => by cases e
  | _, _, _, .cons (d := .dict _) a t, e => by cases e
theorem eqs_gives {z : Str} {t : Tok} : ∀ {us : List Value} {ns : List Str}, Vals (ns.map V.str) us → ∀ y ∈ us, MeetsSeq.EqGives y (.str z t) (eqs z y)
  | us, [], h => fun y hy => by cases h; cases hy
  | us, n :: ns, h => fun y hy => by
    cases h with
    | cons r rr =>
      obtain ⟨t', rfl⟩ := r
      rcases List.mem_cons.mp hy with e | e
      · subst e; exact PySem.SeqRoads2.EqGives.str n z t' t
      · exact eqs_gives rr y e
theorem vals_str : ∀ {us : List Value} {ns : List Str} {j : Nat} {y : Str}, Vals (ns.map V.str) us → ns[j]? = some y → ∃ t, us[j]? = some (.str y t)
  | us, [], j, y, h, e => by cases e
  | us, n :: ns, j, y, h, e => by
    cases h with
    | @cons _ b0 _ bs r rr =>
      cases j with
      | zero => cases e; obtain ⟨t', rfl⟩ := r; exact ⟨t', rfl⟩
      | succ j => exact vals_str (us := bs) (ns := ns) rr e
theorem mt_remS : MtR X "list.remove" (fun x xs H Q => ∃ (l : Addr) (ns : List Str) (z : Str) (j : Nat), x = .ref l ∧ xs = [.str z] ∧ H l = some (.lst (ns.map V.str)) ∧ ns.findIdx? (fun y => y.cps.toList == z.cps.toList) = some j ∧ Q .non (upd H l (.lst ((ns.map V.str).eraseIdx j)))) := by
  intro pins s σ H x xs v us Q I rx rxs h
  obtain ⟨l, ns, z, j, rfl, rfl, hH, hj, q⟩ := h
  cases rx
  obtain ⟨u, rfl, ru⟩ := rxs.one
  obtain ⟨t, rfl⟩ := ru
  obtain ⟨hz, its, n, r, hl, e⟩ := I.lstM hH
  rw [List.length_map] at hl hz
  obtain ⟨hjn, hj1, hj2⟩ := List.findIdx?_eq_some_iff_getElem.mp hj
  refine call_meets PySem.F.slot_list_remove ⟨_, e, rfl⟩ PySem.F.entry_list_remove (PySem.F.args_list_remove_2 _ _)
    (MeetsSeq.list_remove l its.toArray n (.str z t) (eqs z) (fun y hy => eqs_gives r y (by simpa using hy)) j (by rw [List.size_toArray]; omega) ?_ ?_ (by rw [List.size_toArray]; omega)) ⟨e, ?_⟩
  · obtain ⟨tj, hjt⟩ := vals_str r (List.getElem?_eq_getElem hjn)
    obtain ⟨h1, h2⟩ := List.getElem?_eq_some_iff.mp hjt
    have e1 : its.toArray[j] = .str ns[j] tj := by simpa using h2
    rw [e1]; exact hj1
  · intro m hm hmj
    obtain ⟨tm, hmt⟩ := vals_str r (List.getElem?_eq_getElem (show m < ns.length by omega))
    obtain ⟨h1, h2⟩ := List.getElem?_eq_some_iff.mp hmt
    have e1 : its.toArray[m] = .str ns[m] tm := by simpa using h2
    rw [e1]
    have := hj2 m hmj
    simpa [eqs] using this
  · have rr := r.eraseIdx j
    refine ⟨.non, _, I.lset (its' := its.eraseIdx j) (t' := s.toks) hH e ?_ rr ?_, rfl, q⟩
    · show its.toArray.eraseIdxIfInBounds j = (its.eraseIdx j).toArray
      rw [List.eraseIdxIfInBounds_toArray]
    · exact Nat.le_trans (List.length_eraseIdx_le ..) (by rw [List.length_map]; exact hz)
theorem mut_ok : ∀ m : Mut, ∃ R, MtR X m.id R ∧ IsM X R m
  | .append => by
    refine ⟨rAppend, mt_append, fun S H p us ws xs xs' ds d Q l hp r hl rw' e k => ?_⟩
    have e : mApp xs ds = some (d, xs') := e
    cases rw' with
    | nil => cases e
    | @cons v0 vs0 d0 ds0 r1 rt =>
      cases rt with
      | cons _ _ => cases e
      | nil =>
        have e : (if xs.length < sizeLine then some (PyData.none, xs ++ [d0]) else none) = some (d, xs') := e
        split at e
        · rename_i hz
          cases e
          exact ⟨p, us, _, rfl, rfl, hp, by rw [r.length]; exact hz, k _ _ .non (r.app (.cons r1 .nil)) (by rw [List.length_append]; exact hz)⟩
        · cases e
  | .pop => by
    refine ⟨rPop, mt_pop, fun S H p us ws xs xs' ds d Q l hp r hl rw' e k => ?_⟩
    have e : mPop xs ds = some (d, xs') := e
    cases rw' with
    | cons _ _ => cases e
    | nil =>
      have e : (xs[xs.length - 1]?).map (fun d => (d, xs.dropLast)) = some (d, xs') := e
      cases q : xs[xs.length - 1]? with
      | none => rw [q] at e; cases e
      | some y =>
        rw [q] at e
        cases e
        obtain ⟨v, h1, h2⟩ := r.get q
        exact ⟨p, us, v, rfl, rfl, hp, by rw [r.length]; exact h1, k v _ h2 r.last (Nat.le_trans (by simp) hl)⟩
  | .popAt => by
    refine ⟨rPopAt, mt_popAt, fun S H p us ws xs xs' ds d Q l hp r hl rw' e k => ?_⟩
    have e : mPopAt xs ds = some (d, xs') := e
    cases rw' with
    | nil => cases e
    | cons r1 rt =>
      cases r1 with
      | int i =>
        cases rt with
        | cons _ _ => cases e
        | nil =>
          have e : ((ixN xs.length i).bind fun k => (xs[k]?).map fun d => (d, xs.eraseIdx k)) = some (d, xs') := e
          cases q : ixN xs.length i with
          | none => rw [q] at e; cases e
          | some j =>
            rw [q] at e
            have e : (xs[j]?).map (fun d => (d, xs.eraseIdx j)) = some (d, xs') := e
            cases q2 : xs[j]? with
            | none => rw [q2] at e; cases e
            | some y =>
              rw [q2] at e
              cases e
              obtain ⟨v, h1, h2⟩ := r.get q2
              obtain ⟨s1, s2, s3, s4⟩ := ixN_seq q
              have hs : (xs.length : Int) ≤ 16777216 := by have := hl; rw [sizeLine_eq] at this; omega
              exact ⟨p, us, i, j, v, rfl, rfl, hp, by omega, by omega, by rw [r.length]; exact s1, h1, k v _ h2 (r.erase j) (Nat.le_trans (List.length_eraseIdx_le ..) hl)⟩
      | _ => cases rt <;> cases e
  | .insert => by
    refine ⟨_, mt_insert, fun S H p us ws xs xs' ds d Q l hp r hl rw' e k => ?_⟩
    have e : mIns xs ds = some (d, xs') := e
    unfold mIns at e
    split at e
    · rename_i i d0 _e
      split at e
      · rename_i h
        cases e
        cases rw' with
        | cons r1 rt =>
          cases rt with
          | cons r2 rt =>
            cases rt
            cases r1
            refine ⟨p, us, i, _, rfl, rfl, hp, by rw [r.length]; exact h.1, h.2.1, h.2.2, k _ _ .non (((r.take _).app (.cons r2 .nil)).app (r.drop _)) ?_⟩
            have := h.1
            simp; omega
      · cases e
    · cases e
  | .reverse => by
    refine ⟨_, mt_reverse, fun S H p us ws xs xs' ds d Q l hp r hl rw' e k => ?_⟩
    have e : mRev xs ds = some (d, xs') := e
    cases rw' with
    | cons _ _ => cases e
    | nil =>
      cases e
      exact ⟨p, us, rfl, rfl, hp, k _ _ .non r.rev (by rw [List.length_reverse]; exact hl)⟩
  | .extend => by
    refine ⟨_, mt_extend, fun S H p us ws xs xs' ds d Q l hp r hl rw' e k => ?_⟩
    have e : mExt xs ds = some (d, xs') := e
    unfold mExt at e
    split at e
    · rename_i ys
      split at e
      · rename_i h
        cases e
        cases rw' with
        | cons r1 rt =>
          cases rt
          cases r1 with
          | lst a b c => exact ⟨p, _, us, _, rfl, rfl, hp, l _ _ a, by rw [r.length, c.length]; exact h, k _ _ .non (r.app c) (by rw [List.length_append]; exact h)⟩
      · cases e
    · cases e
  | .remove => by
    refine ⟨_, mt_remS, fun S H p us ws xs xs' ds d Q l hp r hl rw' e k => ?_⟩
    have e : mRem xs ds = some (d, xs') := e
    unfold mRem at e
    split at e
    · rename_i z _e
      cases q : strsD xs with
      | none => rw [q] at e; cases e
      | some ys =>
        rw [q] at e
        have e : ((ys.findIdx? fun y => y.cps.toList == z.cps.toList).map fun j => (PyData.none, xs.eraseIdx j)) = some (d, xs') := e
        cases q2 : ys.findIdx? (fun y => y.cps.toList == z.cps.toList) with
        | none => rw [q2] at e; cases e
        | some j =>
          rw [q2] at e
          cases e
          obtain ⟨e1, _⟩ := strs_rp r q
          cases rw' with
          | cons r1 rt =>
            cases rt
            cases r1
            exact ⟨p, ys, z, j, rfl, rfl, by rw [hp, e1], q2, by rw [← e1]; exact k _ _ .non (r.erase j) (Nat.le_trans (List.length_eraseIdx_le ..) hl)⟩
    · cases e

theorem mut_sem {m : Mut} {i : Nat} {es : Es} {t : TA} {R : V → List V → Hp → VK → Prop} (A : At X Z W) (hi : IsM X R m) (s : ∀ (vs : List V) (ts : List Sl) (σ : L2.St) (ρ : Envr) (H : Hp) (Q : List V → Hp → Prop), noal es.own ts → Good Z vs ts σ ρ H →
    PostR Z W σ (fun ds ρ' => ∀ ws H', ws.length = ds.length → Good Z (ws.reverse ++ vs) ((ds.map Sl.d).reverse ++ ts) σ ρ' H' → Q ws H') (evA es ρ) → t σ H Q) :
    ∀ (vs : List V) (ts : List Sl) (σ : L2.St) (ρ : Envr) (H : Hp) (Q : VK), noal (E.mut m i es).own ts → Good Z vs ts σ ρ H →
      PostR Z W σ (fun s ρ' => ∀ v H', Good Z (v :: vs) (s :: ts) σ ρ' H' → Q v H') (ev (.mut m i es) ρ) → tBM X.K "list" R (tVar i) t σ H Q := fun vs ts σ ρ H Q hn G h => by
  have h : PostR Z W σ _ (grd (isOl ρ i) ((evA es ρ).bind fun ds ρ => mutR m i ds ρ)) := h
  obtain ⟨g0, h⟩ := h.grd
  obtain ⟨S, O, g⟩ := id G
  have e0 : ∃ z xs0, ρ[i]? = some (some (.ol z xs0)) := by
    unfold isOl at g0
    split at g0
    · rename_i z xs0 q; exact ⟨z, xs0, q⟩
    · cases g0
  obtain ⟨z, xs0, e0⟩ := e0
  obtain ⟨v, hσ, q, ev, oq, lr, zq⟩ := g.env i _ e0
  subst ev
  obtain ⟨_, us0, hq, _⟩ := lr
  refine ⟨_, hσ, .inl ⟨rfl, us0, SqL.of hq⟩, ?_⟩
  refine s vs ts σ ρ H _ hn G (h.bind.imp fun ds ρ1 h1 ws H1 l G1 => ?_)
  obtain ⟨S1, O1, g1⟩ := G1
  unfold mutR at h1
  split at h1
  · rename_i z1 ys e1
    cases e2 : mutD m ys ds with
    | none => rw [e2] at h1; exact h1.elim
    | some dy =>
      obtain ⟨d, ys'⟩ := dy
      rw [e2] at h1
      dsimp only at h1
      obtain ⟨v', hσ', q', ev', oq', ⟨ly, us, hq', ra⟩, zq'⟩ := g1.env i _ e1
      subst ev'
      rw [hσ] at hσ'; cases hσ'
      have rw0 := g1.rpA l
      have g2 := GoodX.popN (by simp [l]) g1
      rw [← A.K] at ra rw0
      refine hi S1 H1 q us ws ys ys' ds d Q g1.le hq' ra ly rw0 e2 fun w us' r1 r2 r3 => ?_
      rw [A.K] at r1 r2
      have g3 := g2.wr (sl := .ol z1 ys') (o := .lst us') hσ oq' ⟨_, hq'⟩ ⟨q, rfl, oq', ⟨r3, us', upd_same, r2⟩, zq'⟩
      exact h1 w _ ⟨S1, O1, g3.pushD r1⟩
  · exact h1.elim
theorem se_mut {m : Mut} {i : Nat} {n k : Str} {p apos : Pos} {x : Expr} {xs : List Expr} {es : Es} (hN : X.N[i]? = some n) (hv : Vis X.env.scope n) (hd : (n == ("__debug__" : Str)) = false) (hcd : (n == ("__classdict__" : Str)) = false) (hk : k = m.name)
    (h : SA X Z W (x :: xs) es) (hbase : attributeBase (.Name n p) k X.env (eval (.Name n p) X.env) = eval (.Name n p) X.env)
    (hfew : ((backTo pos (starEach (x :: xs) X.env)).all (fun x => !x.1) && (backToKw pos (keywordEach [] X.env)).all (fun x => x.1.isSome)
      && decide ((x :: xs).length + ([] : List Keyword).length + (if ([] : List Keyword).isEmpty then 0 else 1) < 30)) = true)
    (hline : (apos.endLine == pos.line) = true) (hs : starEach (x :: xs) X.env = (false, eval x X.env) :: starEach xs X.env) (hpl : (backTo pos (starEach xs X.env)).any (·.1) = false) (A : At X Z W) :
    SE X Z W (.Call (.Attribute (.Name n p) k apos) (x :: xs) [] pos) (.mut m i es) ∧ ST X Z W (.Call (.Attribute (.Name n p) k apos) (x :: xs) [] pos) (.mut m i es) := by
  subst hk
  obtain ⟨t, pt, s⟩ := h
  obtain ⟨R, hc, hi⟩ := mut_ok (X := X) m
  have pc := pe_bm F.plainAttrs_list m.slot m.type hc (pe_var (pos := p) hN hv hd hcd) pt hbase hfew hline hs hpl
  exact ⟨⟨_, pc, mut_sem A hi s⟩, st_val (pt_val pc) (mut_sem A hi s)⟩
theorem se_mut0 {m : Mut} {i : Nat} {n k : Str} {p apos : Pos} (hN : X.N[i]? = some n) (hv : Vis X.env.scope n) (hd : (n == ("__debug__" : Str)) = false) (hcd : (n == ("__classdict__" : Str)) = false) (hk : k = m.name)
    (hbase : attributeBase (.Name n p) k X.env (eval (.Name n p) X.env) = eval (.Name n p) X.env) (hline : (apos.endLine == pos.line) = true) (A : At X Z W) :
    SE X Z W (.Call (.Attribute (.Name n p) k apos) [] [] pos) (.mut m i .nil) ∧ ST X Z W (.Call (.Attribute (.Name n p) k apos) [] [] pos) (.mut m i .nil) := by
  subst hk
  obtain ⟨R, hc, hi⟩ := mut_ok (X := X) m
  have pc := pe_bm0 F.plainAttrs_list m.slot m.type hc (pe_var (pos := p) hN hv hd hcd) hbase hline
  have sem := mut_sem (m := m) (i := i) (es := .nil) (t := tNil) A hi fun vs ts σ ρ H Q hn G h => h [] H rfl G
  exact ⟨⟨_, pc, sem⟩, st_val (pt_val pc) sem⟩
end
end Pw
/-! Pw, part N: what is walked; targets. -/
namespace Pw
open PySem PySem.Spec PyProof.Rows L2
/-- what a turn hands out: shared already, or new -/
def One (Z : Zx) (S H H' : Hp) (x : V) (d : D) : Prop := (H' = H ∧ Rp Z.K S x d) ∨ ∃ p o, x = .ref p ∧ H p = none ∧ H' = upd H p o ∧ Rp Z.K (upd S p o) (.ref p) d
theorem One.push {Z : Zx} {S H H' : Hp} {O : OM} {vs : List V} {ts : List Sl} {σ : L2.St} {ρ : Envr} {x : V} {d : D} (h : One Z S H H' x d) (G : GoodX Z S O vs ts σ ρ H) : Good Z (x :: vs) (.d d :: ts) σ ρ H' := by
  rcases h with ⟨rfl, r⟩ | ⟨p, o, rfl, n, rfl, r⟩
  · exact ⟨S, O, G.pushD r⟩
  · exact Good.newD G n r
structure Wk (Z : Zx) (J : L2.It) (hv : List V) (hs : List Sl) (items : List D) : Prop where
  walk : ∃ (G : Hp → Prop) (Y : Nat → Hp → V → Hp → Prop), Walk J items.length G Y ∧ (∀ vs ts σ ρ H, Good Z (hv ++ vs) (hs ++ ts) σ ρ H → G H) ∧
    ∀ i x H H' S O vs ts σ ρ, i < items.length → GoodX Z S O (hv ++ vs) (hs ++ ts) σ ρ H → Y i H x H' → ∃ d, items[i]? = some d ∧ One Z S H H' x d
  ali : ∀ i, Sl.ali i ∉ hs
  len : hv.length = hs.length
  big : items.length ≤ sizeLine
def SI (X : Cx) (Z : Zx) (W : WX) (tg iter : Expr) (it : It) : Prop := ∃ wi, PI X tg iter wi ∧ ∀ (vs : List V) (ts : List Sl) (σ : L2.St) (ρ : Envr) (H : Hp) (R : L2.It → Hp → Prop), noal it.own ts → Good Z vs ts σ ρ H →
  PostR Z W σ (fun items ρ' => ∀ J hv hs H', Wk Z J hv hs items → Good Z (hv ++ vs) (hs ++ ts) σ ρ' H' → R J H') (evI it ρ) → wi σ H R
theorem pi_or {X : Cx} {tg e : Expr} {w w' : TI} (h : PI X tg e w) (h' : PI X tg e w') : PI X tg e (fun σ H R => w σ H R ∨ w' σ H R) :=
  ⟨fun pins s σ H R I q => q.elim (h.run pins s σ H R I) (h'.run pins s σ H R I)⟩
section
variable {X : Cx} {Z : Zx} {W : WX} {x y tg : Expr} {a b : E} {pos : Pos} {v w : V} {xs ys : List D} {p q : Addr}
theorem GoodX.listAt {S H : Hp} {O : OM} {vs : List V} {ts : List Sl} {σ : L2.St} {ρ : Envr} (G : GoodX Z S O (.ref p :: vs) (.d (.list xs) :: ts) σ ρ H) : ∃ us, H p = some (.lst us) ∧ RpA Z.K S us xs ∧ xs.length ≤ sizeLine := by
  have r : Rp Z.K S (.ref p) (.list xs) := G.tmp.1
  cases r with
  | lst a b c => exact ⟨_, G.le _ _ a, c, b⟩
theorem GoodX.tupAt {S H : Hp} {O : OM} {vs : List V} {ts : List Sl} {σ : L2.St} {ρ : Envr} (G : GoodX Z S O (.ref p :: vs) (.d (.tuple xs) :: ts) σ ρ H) : ∃ us, SqT Z.K H p us ∧ RpA Z.K S us xs ∧ xs.length ≤ sizeLine := by
  have r : Rp Z.K S (.ref p) (.tuple xs) := G.tmp.1
  cases r with
  | tup a b c => exact ⟨_, G.le.sqT a, c, b⟩
theorem wk_list (hl : xs.length ≤ sizeLine) : Wk Z (Itl Z.K p) [.ref p] [.d (.list xs)] xs := by
  refine ⟨⟨fun H => ∃ us, SqL Z.K H p us ∧ us.length = xs.length, fun i H x H' => H' = H ∧ ∀ us, SqL Z.K H p us → us[i]? = some x, ⟨fun i H hi ⟨us, h1, h2⟩ => ?_, fun H ⟨us, h1, h2⟩ => ⟨us, h1, by omega⟩, fun i H x H' hi _ y => y⟩, fun vs ts σ ρ H ⟨S, O, G⟩ => ?_, fun i x H H' S O vs ts σ ρ hi G ⟨e, h⟩ => ?_⟩, by simp, rfl, hl⟩
  · exact ⟨us, us[i]'(by omega), h1, by simp [show i < us.length by omega]⟩
  · obtain ⟨us, h1, h2, _⟩ := G.listAt
    exact ⟨us, SqL.of h1, h2.length⟩
  · subst e
    obtain ⟨us, h1, h2, _⟩ := G.listAt
    obtain ⟨d, h3, h4⟩ := h2.getV (h us (SqL.of h1))
    exact ⟨d, h3, .inl ⟨rfl, h4⟩⟩
theorem wk_tup (hl : xs.length ≤ sizeLine) : Wk Z (Itt Z.K p) [.ref p] [.d (.tuple xs)] xs := by
  refine ⟨⟨fun H => ∃ us, SqT Z.K H p us ∧ us.length = xs.length, fun i H x H' => H' = H ∧ ∀ us, SqT Z.K H p us → us[i]? = some x, ⟨fun i H hi ⟨us, h1, h2⟩ => ?_, fun H ⟨us, h1, h2⟩ => ⟨us, h1, by omega⟩, fun i H x H' hi _ y => y⟩, fun vs ts σ ρ H ⟨S, O, G⟩ => ?_, fun i x H H' S O vs ts σ ρ hi G ⟨e, h⟩ => ?_⟩, by simp, rfl, hl⟩
  · exact ⟨us, us[i]'(by omega), h1, by simp [show i < us.length by omega]⟩
  · obtain ⟨us, h1, h2, _⟩ := G.tupAt
    exact ⟨us, h1, h2.length⟩
  · subst e
    obtain ⟨us, h1, h2, _⟩ := G.tupAt
    obtain ⟨d, h3, h4⟩ := h2.getV (h us h1)
    exact ⟨d, h3, .inl ⟨rfl, h4⟩⟩
theorem sOk_sign {z : Str} {c : Nat} (h : sOk z = true) (hc : c ∈ z.cps.toList) : sOk ⟨#[c]⟩ = true := by
  have h2 : z.cps.all (· < 0x110000) = true := sOk.st h
  rw [← Array.all_toList, List.all_eq_true] at h2
  refine sOk.mk ?_ (by show 1 ≤ sizeLine; decide)
  show (#[c] : Array Nat).all (· < 0x110000) = true
  have h3 := h2 c hc
  simpa using h3
theorem wk_str {z : Str} (hz : sOk z = true) : Wk Z (Its z) [] [] (z.cps.toList.map fun c => .str ⟨#[c]⟩) := by
  refine ⟨⟨fun _ => True, fun i H v H' => H' = H ∧ ∃ c, z.cps[i]? = some c ∧ v = .str ⟨#[c]⟩, ?_, fun _ _ _ _ _ _ => trivial, ?_⟩, by simp, rfl, ?_⟩
  · have w := walk_str (z := z)
    have e : (z.cps.toList.map fun c => (PyData.str ⟨#[c]⟩ : D)).length = z.cps.size := by simp
    rw [e]; exact w
  · rintro i x H H' S O vs ts σ ρ hi G ⟨e, c, h1, h2⟩
    subst e; subst h2
    have h3 : z.cps.toList[i]? = some c := by rw [Array.getElem?_toList]; exact h1
    refine ⟨.str ⟨#[c]⟩, by rw [List.getElem?_map, h3]; rfl, .inl ⟨rfl, (.str _ (sOk_sign hz (List.mem_of_getElem? h3)))⟩⟩
  · rw [List.length_map, Array.length_toList]; exact sOk.ln hz
theorem wk_rng {lo : Int} {n : Int} (h : n ≤ 10000000) : Wk Z (Itr lo n.toNat) [] [] (rngItems lo n) := by
  have e : (rngItems lo n).length = n.toNat := by simp [rngItems]
  refine ⟨⟨fun _ => True, YFn fun i => .int (lo + i), by rw [e]; exact walk_range, fun _ _ _ _ _ _ => trivial, ?_⟩, by simp, rfl, ?_⟩
  · rintro i x H H' S O vs ts σ ρ hi G ⟨e1, e2⟩
    subst e1; subst e2
    rw [e] at hi
    exact ⟨.int (lo + i), by simp [rngItems, hi], .inl ⟨rfl, (.int _)⟩⟩
  · rw [e, sizeLine_eq]; omega
/-- the pair that enumerate or zip hands out -/
theorem one_pair {H S : Hp} {v w : V} {d e : D} (l : Le S H) (n : H p = none) (r1 : Rp Z.K S v d) (r2 : Rp Z.K S w e) : One Z S H (upd H p (.tup [v, w])) (.ref p) (.tuple [d, e]) := by
  have nS : S p = none := by
    cases q : S p with
    | none => rfl
    | some u => have := l _ _ q; rw [n] at this; cases this
  have l2 : Le S (upd S p (.tup [v, w])) := Le.to_upd nS
  exact .inr ⟨p, _, rfl, n, rfl, .tup (SqT.of upd_same) (by show 2 ≤ sizeLine; decide) (.cons (Rp.mono l2 _ _ r1) (.cons (Rp.mono l2 _ _ r2) .nil))⟩
theorem wk_enumL (hl : xs.length ≤ sizeLine) : Wk Z (Ite Z.K p) [.ref p] [.d (.list xs)] (enumItems xs) := by
  have e : (enumItems xs).length = xs.length := by simp [enumItems]
  refine ⟨⟨fun H => ∃ us, SqL Z.K H p us ∧ us.length = xs.length, fun i H v H' => ∃ T x, v = .ref T ∧ H T = none ∧ H' = upd H T (.tup [.int (i : Nat), x]) ∧ ∀ us, SqL Z.K H p us → us[i]? = some x, ⟨fun i H hi ⟨us, h1, h2⟩ => ?_, fun H ⟨us, h1, h2⟩ => ⟨us, h1, by omega⟩, fun i H x H' hi _ y => y⟩, fun vs ts σ ρ H ⟨S, O, G⟩ => ?_, ?_⟩, by simp, rfl, by rw [e]; exact hl⟩
  · rw [e] at hi
    exact ⟨us, us[i]'(by omega), h1, by simp [show i < us.length by omega]⟩
  · obtain ⟨us, h1, h2, _⟩ := G.listAt
    exact ⟨us, SqL.of h1, h2.length⟩
  · rintro i v H H' S O vs ts σ ρ hi G ⟨T, x, rfl, n, rfl, h⟩
    obtain ⟨us, h1, h2, _⟩ := G.listAt
    obtain ⟨d, h3, h4⟩ := h2.getV (h us (SqL.of h1))
    exact ⟨.tuple [.int (i : Int), d], by simp [enumItems, h3], one_pair G.le n (.int _) h4⟩
theorem SqLT {b : Bool} : True := trivial
theorem wk_zipL (hl : xs.length ≤ sizeLine) : Wk Z (Itz Z.K p q) [.ref q, .ref p] [.d (.list ys), .d (.list xs)] (zipItems xs ys) := by
  have e : (zipItems xs ys).length = min xs.length ys.length := by simp [zipItems]
  refine ⟨⟨fun H => ∃ us ws, SqL Z.K H p us ∧ SqL Z.K H q ws ∧ us.length = xs.length ∧ ws.length = ys.length, fun i H v H' => ∃ T x y, v = .ref T ∧ H T = none ∧ H' = upd H T (.tup [x, y]) ∧ (∀ us, SqL Z.K H p us → us[i]? = some x) ∧ ∀ ws, SqL Z.K H q ws → ws[i]? = some y,
    ⟨fun i H hi ⟨us, ws, h1, h2, h3, h4⟩ => ?_, fun H ⟨us, ws, h1, h2, h3, h4⟩ => ⟨us, ws, h1, h2, by rw [e]; omega⟩, fun i H x H' hi _ y => y⟩, fun vs ts σ ρ H ⟨S, O, G⟩ => ?_, ?_⟩, by simp, rfl, by rw [e]; omega⟩
  · rw [e] at hi
    exact ⟨us, ws, us[i]'(by omega), ws[i]'(by omega), h1, h2, by simp [show i < us.length by omega], by simp [show i < ws.length by omega]⟩
  · obtain ⟨ws, h1, h2, _⟩ := G.listAt
    obtain ⟨us, h3, h4, _⟩ := G.pop.listAt
    exact ⟨us, ws, SqL.of h3, SqL.of h1, h4.length, h2.length⟩
  · rintro i v H H' S O vs ts σ ρ hi G ⟨T, x, y, rfl, n, rfl, hx, hy⟩
    obtain ⟨ws, h1, h2, _⟩ := G.listAt
    obtain ⟨us, h3, h4, _⟩ := G.pop.listAt
    obtain ⟨d, h5, h6⟩ := h4.getV (hx us (SqL.of h3))
    obtain ⟨d', h7, h8⟩ := h2.getV (hy ws (SqL.of h1))
    have hz : (xs.zip ys)[i]? = some (d, d') := List.getElem?_zip_eq_some.mpr ⟨h5, h7⟩
    exact ⟨.tuple [d, d'], by simp [zipItems, hz], one_pair G.le n h6 h8⟩
theorem wk_zipT (hl : xs.length ≤ sizeLine) : Wk Z (RZ.ItzT Z.K p q) [.ref q, .ref p] [.d (.tuple ys), .d (.tuple xs)] (zipItems xs ys) := by
  have e : (zipItems xs ys).length = min xs.length ys.length := by simp [zipItems]
  refine ⟨⟨fun H => ∃ us ws, SqT Z.K H p us ∧ SqT Z.K H q ws ∧ us.length = xs.length ∧ ws.length = ys.length, fun i H v H' => ∃ T x y, v = .ref T ∧ H T = none ∧ H' = upd H T (.tup [x, y]) ∧ (∀ us, SqT Z.K H p us → us[i]? = some x) ∧ ∀ ws, SqT Z.K H q ws → ws[i]? = some y,
    ⟨fun i H hi ⟨us, ws, h1, h2, h3, h4⟩ => ?_, fun H ⟨us, ws, h1, h2, h3, h4⟩ => ⟨us, ws, h1, h2, by rw [e]; omega⟩, fun i H x H' hi _ y => y⟩, fun vs ts σ ρ H ⟨S, O, G⟩ => ?_, ?_⟩, by simp, rfl, by rw [e]; omega⟩
  · rw [e] at hi
    exact ⟨us, ws, us[i]'(by omega), ws[i]'(by omega), h1, h2, by simp [show i < us.length by omega], by simp [show i < ws.length by omega]⟩
  · obtain ⟨ws, h1, h2, _⟩ := G.tupAt
    obtain ⟨us, h3, h4, _⟩ := G.pop.tupAt
    exact ⟨us, ws, h3, h1, h4.length, h2.length⟩
  · rintro i v H H' S O vs ts σ ρ hi G ⟨T, x, y, rfl, n, rfl, hx, hy⟩
    obtain ⟨ws, h1, h2, _⟩ := G.tupAt
    obtain ⟨us, h3, h4, _⟩ := G.pop.tupAt
    obtain ⟨d, h5, h6⟩ := h4.getV (hx us h3)
    obtain ⟨d', h7, h8⟩ := h2.getV (hy ws h1)
    have hz : (xs.zip ys)[i]? = some (d, d') := List.getElem?_zip_eq_some.mpr ⟨h5, h7⟩
    exact ⟨.tuple [d, d'], by simp [zipItems, hz], one_pair G.le n h6 h8⟩
theorem rev_at {α : Type} {xs : List α} {i : Nat} {d : α} (hi : i < xs.length) (h : xs[xs.length - 1 - i]? = some d) : xs.reverse[i]? = some d := by
  rw [List.getElem?_reverse hi]; exact h
theorem wk_revL (hl : xs.length ≤ sizeLine) {n : Nat} (hn : n = xs.length) : Wk Z (Itv Z.K p n) [.ref p] [.d (.list xs)] xs.reverse := by
  subst hn
  have e : xs.reverse.length = xs.length := by simp
  refine ⟨⟨fun H => ∃ us, SqL Z.K H p us ∧ us.length = xs.length, fun i H x H' => H' = H ∧ ∀ us, SqL Z.K H p us → us[xs.length - 1 - i]? = some x, ⟨fun i H hi ⟨us, h1, h2⟩ => ?_, fun H ⟨us, h1, h2⟩ => by rw [e]; exact Nat.le_refl _, fun i H x H' hi _ y => y⟩, fun vs ts σ ρ H ⟨S, O, G⟩ => ?_, fun i x H H' S O vs ts σ ρ hi G ⟨e1, h⟩ => ?_⟩, by simp, rfl, by rw [e]; exact hl⟩
  · rw [e] at hi
    exact ⟨hi, us, us[xs.length - 1 - i]'(by omega), h1, by simp [show xs.length - 1 - i < us.length by omega]⟩
  · obtain ⟨us, h1, h2, _⟩ := G.listAt
    exact ⟨us, SqL.of h1, h2.length⟩
  · subst e1
    rw [e] at hi
    obtain ⟨us, h1, h2, _⟩ := G.listAt
    obtain ⟨d, h3, h4⟩ := h2.getV (h us (SqL.of h1))
    exact ⟨d, rev_at hi h3, .inl ⟨rfl, h4⟩⟩
theorem wk_revT (hl : xs.length ≤ sizeLine) {n : Nat} (hn : n = xs.length) : Wk Z (RT.ItvT Z.K p n) [.ref p] [.d (.tuple xs)] xs.reverse := by
  subst hn
  have e : xs.reverse.length = xs.length := by simp
  refine ⟨⟨fun H => ∃ us, SqT Z.K H p us ∧ us.length = xs.length, fun i H x H' => H' = H ∧ ∀ us, SqT Z.K H p us → us[xs.length - 1 - i]? = some x, ⟨fun i H hi ⟨us, h1, h2⟩ => ?_, fun H ⟨us, h1, h2⟩ => by rw [e]; exact Nat.le_refl _, fun i H x H' hi _ y => y⟩, fun vs ts σ ρ H ⟨S, O, G⟩ => ?_, fun i x H H' S O vs ts σ ρ hi G ⟨e1, h⟩ => ?_⟩, by simp, rfl, by rw [e]; exact hl⟩
  · rw [e] at hi
    exact ⟨hi, us, us[xs.length - 1 - i]'(by omega), h1, by simp [show xs.length - 1 - i < us.length by omega]⟩
  · obtain ⟨us, h1, h2, _⟩ := G.tupAt
    exact ⟨us, h1, h2.length⟩
  · subst e1
    rw [e] at hi
    obtain ⟨us, h1, h2, _⟩ := G.tupAt
    obtain ⟨d, h3, h4⟩ := h2.getV (h us h1)
    exact ⟨d, rev_at hi h3, .inl ⟨rfl, h4⟩⟩
theorem Good.top {vs : List V} {ts : List Sl} {σ : L2.St} {ρ : Envr} {H : Hp} {d : D} (G : Good Z (v :: vs) (.d d :: ts) σ ρ H) : ∃ S, Le S H ∧ Rp Z.K S v d := by
  obtain ⟨S, O, g⟩ := G
  exact ⟨S, g.le, g.tmp.1⟩
theorem si_val (A : At X Z W) (ha : SE X Z W x a) : SI X Z W tg x (.val a) := by
  obtain ⟨t, p, s⟩ := ha
  refine ⟨_, pi_or (pi_list p) (pi_or (pi_tup p) (pi_str p)), fun vs ts σ ρ H R hn G h => ?_⟩
  have h : PostR Z W σ _ ((ev a ρ).bind fun s ρ => (fzD s ρ).bind fun x ρ => optR ρ (itemsOf x)) := h
  -- which of the three is told by the word's value
  cases e : ev a ρ with
  | stuck => rw [e] at h; exact h.elim
  | raise C x ρ1 =>
    rw [e] at h
    exact .inl (s vs ts σ ρ H _ hn G (by rw [e]; exact h))
  | ok u ρ1 =>
    rw [e] at h
    obtain ⟨d, ρ2, e1, h1⟩ := (PostR.bind (r := fzD u ρ1) h).fzD
    obtain ⟨items, e2, h2⟩ := h1.opt
    cases d with
    | list xs =>
      cases e2
      refine .inl (s vs ts σ ρ H _ hn G ?_)
      rw [e]
      intro v H1 G1
      have G2 := G1.fz e1
      obtain ⟨S, l, r⟩ := G2.top
      cases r with
      | lst r1 r2 r3 =>
        refine ⟨_, rfl, ⟨_, SqL.of (l _ _ r1)⟩, ?_⟩
        rw [A.K]
        exact h2 _ _ _ _ (wk_list r2) G2
    | tuple xs =>
      cases e2
      refine .inr (.inl (s vs ts σ ρ H _ hn G ?_))
      rw [e]
      intro v H1 G1
      have G2 := G1.fz e1
      obtain ⟨S, l, r⟩ := G2.top
      cases r with
      | tup r1 r2 r3 =>
        refine ⟨_, rfl, ⟨_, by rw [A.K]; exact l.sqT r1⟩, ?_⟩
        rw [A.K]
        exact h2 _ _ _ _ (wk_tup r2) G2
    | str z =>
      cases e2
      refine .inr (.inr (s vs ts σ ρ H _ hn G ?_))
      rw [e]
      intro v H1 G1
      have G2 := G1.fz e1
      obtain ⟨S, l, r⟩ := G2.top
      cases r with
      | str _ hz => exact ⟨z, rfl, h2 _ [] [] _ (wk_str hz) G2.pop⟩
    | _ => cases e2
end
end Pw
/-! Pw, part O: enumerate over a tuple; what is walked, the rest. -/
namespace Pw
open PySem PySem.Spec PyProof.Rows L2
section
variable {P : Program} {w : World} {A : Around} {E : Value → Shared → Prop} {s : Shared}
set_option maxHeartbeats 1000000 in
theorem en_meets {v : Value} {o : Obj} {G : Heap → Prop} (B : Begins v o G) : Meets (Builtin.«enumerate.__new__» ⟨[.type "enumerate", v], []⟩) (fun _ R s => G s.heap ∧
    R (.ok (.ret (.ref (s.heap.push o).objs.size))) { s with heap := (s.heap.push o).push { cls := .type "enumerate", data := .fields #[.none, .bool false, .ref s.heap.objs.size, rawInt 0, .none, .none] } }) :=
  .of_wp fun prog w A R s h => by
    obtain ⟨hp, g, d, tk, os⟩ := s
    obtain ⟨h1, h⟩ := h
    have hsub := sub_enumerate
    have qq : ∀ {A' : Around} {E Q : Value → Shared → Prop}, Q (.ref hp.objs.size) ⟨hp.push o, g, d, tk, os⟩ → wpAny (model prog w) A' (pyIter v) Q E ⟨hp, g, d, tk, os⟩ := fun q => B.iter prog w _ _ ⟨hp, g, d, tk, os⟩ _ h1 q
    wp_walk using qq
    refine wpAny_stack_any fun st => wpAny_pure ?_
    split
    · rename_i c _ _ _ _ _
      cases (c == Value.type "enumerate") <;> (wp_walk using qq; exact ⟨_, rfl, h⟩)
    · wp_walk using qq
      exact ⟨_, rfl, h⟩
theorem en_call {v : Value} {o : Obj} {G : Heap → Prop} {Q : Value → Shared → Prop} (B : Begins v o G) (g : G s.heap)
    (h : ∀ h', IsEnum h' (s.heap.objs.size + 1) s.heap.objs.size 0 .none → h'.get? s.heap.objs.size = some o → (∀ b u, s.heap.get? b = some u → h'.get? b = some u) → Q (.ref (s.heap.objs.size + 1)) { s with heap := h' }) :
    wpAny (model P w) A (call (.type "enumerate") [v]) Q E s := by
  refine callType_new F.called_enumerate (by decide) (F.typeCall_enumerate_1 _) (F.newCall_enumerate_1 _) (fun ob => F.args_object_init_2 ob _) F.entry_enumerate_new (en_meets B) ⟨g, ?_⟩
  have z : (s.heap.push o).objs.size = s.heap.objs.size + 1 := Heap.size_push ..
  show _ ∧ _
  rw [z]
  have e : IsEnum ((s.heap.push o).push { cls := .type "enumerate", data := .fields #[.none, .bool false, .ref s.heap.objs.size, rawInt 0, .none, .none] }) (s.heap.objs.size + 1) s.heap.objs.size 0 .none := by
    have := Heap.get?_push_size (s.heap.push o) (o := { cls := .type "enumerate", data := .fields #[.none, .bool false, .ref s.heap.objs.size, rawInt 0, .none, .none] }) rfl
    rw [z] at this; exact this
  exact ⟨⟨_, e, rfl⟩, h _ e (Heap.get?_push_of_some _ (Heap.get?_push_size _ B.free)) fun b u x => Heap.get?_push_of_some _ (Heap.get?_push_of_some _ x)⟩
end
/-- the tuple at a, each item in a new pair -/
def IteT (K : PySem.W.Frag) (a : Addr) : L2.It :=
  ⟨fun i H => ∃ (xs : List V) (x : V), SqT K H a xs ∧ xs[i]? = some x, fun i H v H' => ∃ T x, v = .ref T ∧ H T = none ∧ H' = upd H T (.tup [.int (i : Nat), x]) ∧ ∀ xs, SqT K H a xs → xs[i]? = some x, fun i H => ∃ xs : List V, SqT K H a xs ∧ xs.length = i⟩
theorem en_turn {P : Program} {w : World} {K : PySem.W.Frag} {elts : List Expr} {kk : Nat} {tpos : Pos} (a e it : Addr) (hea : e ≠ a) (hia : a ≠ it) :
    Turn P w K (.Tuple elts kk tpos) (IteT K a) [e, it] e (fun i h => (∃ old, IsEnum h e it ((i : Nat) : Int) old) ∧ h.IsTupleIter it a i ∧ e ≠ it) where
  mem := by simp
  obj := fun i h st b hb => by
    obtain ⟨⟨old, he⟩, ⟨o, ho, hc, hd⟩, _⟩ := st
    rcases List.mem_cons.mp hb with z | hb
    · subst z; exact ⟨_, he, fun v q => nomatch q⟩
    · obtain rfl : b = it := by simpa using hb
      exact ⟨o, ho, fun v q => by rw [hd] at q; cases q⟩
  keep := fun i h h' st k => by
    obtain ⟨⟨old, he⟩, hi, hne⟩ := st
    exact ⟨⟨old, k e List.mem_cons_self _ he⟩, hi.at fun o q => k it (List.mem_cons_of_mem _ List.mem_cons_self) o q, hne⟩
  item := by
    intro X hP hw hK hc i pins s σ H E I hf st hg
    subst hP; subst hw; subst hK
    obtain ⟨⟨old, he⟩, hit, hne⟩ := st
    obtain ⟨xs, x, hq, hx⟩ := hg
    obtain ⟨its, rv, p, _⟩ := I.tuple hq
    obtain ⟨u, hu, ru⟩ := rv.get hx
    have hel := Heap.lt_size he
    have hil : it < s.heap.objs.size := by obtain ⟨_, q, _⟩ := hit; exact Heap.lt_size q
    have p' : s.heap.IsTuple a its.toArray := p
    have hlt : i < its.toArray.size := by have := (List.getElem?_eq_some_iff.mp hu).1; simpa using this
    refine wpAny_pyNext_enum_itemD (Draws.tuple (A := X.A.in1) (show X.A.in1.handled = none from I.ok.hd hc) it a hia its.toArray) he ⟨hit, p'⟩ hlt hne (by simp [hne, hea]) fun u' h' tk hu' ho hs' hT hsz hk => ?_
    have eu : u' = u := by
      have h1 : its.toArray[i]? = some u' := hu'
      have h2 : its.toArray[i]? = some u := by simpa using hu
      rw [h1] at h2; exact Option.some.inj h2
    subst eu
    refine ⟨_, rfl, wpAny_letOwnedTupleGo_enum (s := { s with heap := h', toks := tk + 1 }) ho fun h'' he' sb => ?_⟩
    have hT2 := (sb.2 _ (Nat.ne_of_gt hel)).trans hT
    have new : ObjOk X.prog X.w (upd H s.heap.objs.size (.tup [.int (i : Nat), x])) h'' s.heap.objs.size (.tup [.int (i : Nat), x]) :=
      ⟨by show 2 ≤ sizeLine; decide, _, .cons ⟨_, rfl⟩ (.cons ru .nil), ⟨_, hT2, rfl, _, rfl⟩⟩
    have ea : ∀ {b : Addr}, b ∉ [e, it] → b ≠ e ∧ b ≠ it := fun hb => ⟨fun z => hb (by simp [z]), fun z => hb (by simp [z])⟩
    have I1 : Inv X pins σ (upd H s.heap.objs.size (.tup [.int (i : Nat), x])) { s with heap := h'', toks := tk + 1 } :=
      I.turnedNew (ch := [e, it]) (fun b ob hb q => (sb.2 b (ea hb).1).trans (hk b ob (ea hb).1 (ea hb).2 q)) hf (Nat.le_refl _) new
    refine ⟨.ref s.heap.objs.size, _, I1, rfl, ⟨_, x, rfl, I.hok.fresh (Nat.le_refl _), rfl, fun ys hy => by rw [I.tuple_inj hy hq]; exact hx⟩, ⟨⟨u', ?_⟩, hs'.1.at fun o q => (sb.2 it (Ne.symm hne)).trans q, hne⟩, fun b hb => ?_⟩
    · rw [show ((i + 1 : Nat) : Int) = (i : Int) + 1 by omega]; exact he'
    · have hb' : b < s.heap.objs.size := by
        rcases List.mem_cons.mp hb with z | hb
        · subst z; exact hel
        · obtain rfl : b = it := by simpa using hb
          exact hil
      rw [upd_ne (Nat.ne_of_lt hb')]
      exact (hf b hb).1
  done := by
    intro X hP hw hK hc i pins s σ H E I hf st hg
    subst hP; subst hw; subst hK
    obtain ⟨⟨old, he⟩, hit, hne⟩ := st
    obtain ⟨xs, hq, hx⟩ := hg
    obtain ⟨its, rv, p, _⟩ := I.tuple hq
    obtain ⟨f0, f1, f2, f3, f4, f5⟩ := hf it (List.mem_cons_of_mem _ List.mem_cons_self)
    have hl := rv.length
    have ez : its.toArray.size = i := by simp; omega
    exact wpAny_pyNext_enum_endD (Draws.tuple (A := X.A.in1) (show X.A.in1.handled = none from I.ok.hd hc) it a hia its.toArray) he ⟨by rw [ez]; exact hit, p⟩ fun h' eb => ⟨rfl, I.turned (t' := s.toks) (fun b o hb q => eb b o hb q) f0 f1 f3 f4 f5⟩
  self := fun A i s Q E st h => by
    obtain ⟨⟨_, he⟩, _⟩ := st
    exact wpAny_pyIter_enum he h

/-! zip of two texts -/
/-- the signs of two texts in new pairs -/
def ItzS (x y : Str) : L2.It :=
  ⟨fun i _ => i < min x.cps.size y.cps.size, fun i H v H' => ∃ T c d, v = .ref T ∧ H T = none ∧ H' = upd H T (.tup [.str ⟨#[c]⟩, .str ⟨#[d]⟩]) ∧ x.cps[i]? = some c ∧ y.cps[i]? = some d, fun i _ => i = min x.cps.size y.cps.size⟩
theorem zs_turn {P : Program} {w : World} {K : PySem.W.Frag} {elts : List Expr} {kk : Nat} {tpos : Pos} {x y : Str} {t1 t2 : Tok} {z TI TO i1 i2 : Addr} (S : ZipSep2 z TI TO i1 i2 [i1] [i2]) :
    Turn P w K (.Tuple elts kk tpos) (ItzS x y) [z, TI, TO, i1, i2] z (fun i h => IsZip h z TI TO .none ∧ IsTupOf2 h TI (.ref i1) (.ref i2) ∧ (∃ a b, IsTupOf2 h TO a b) ∧ h.IsStrIter i1 (strIterType x) x t1 i ∧ h.IsStrIter i2 (strIterType y) y t2 i) where
  mem := by simp
  obj := fun i h st c hc => by
    obtain ⟨hz, hTI, ⟨x0, y0, hTO⟩, ⟨o1, e1, _, d1⟩, ⟨o2, e2, _, d2⟩⟩ := st
    have e' : c = z ∨ c = TI ∨ c = TO ∨ c = i1 ∨ c = i2 := by simpa using hc
    rcases e' with q | q | q | q | q
    · rw [q]; exact ⟨_, hz, fun v q => nomatch q⟩
    · rw [q]; exact ⟨_, hTI, fun v q => nomatch q⟩
    · rw [q]; exact ⟨_, hTO, fun v q => nomatch q⟩
    · rw [q]; exact ⟨o1, e1, fun v q => by rw [d1] at q; cases q⟩
    · rw [q]; exact ⟨o2, e2, fun v q => by rw [d2] at q; cases q⟩
  keep := fun i h h' st k => by
    obtain ⟨hz, hTI, ⟨x0, y0, hTO⟩, ⟨o1, e1, h1⟩, ⟨o2, e2, h2⟩⟩ := st
    exact ⟨k z (by simp) _ hz, k TI (by simp) _ hTI, ⟨x0, y0, k TO (by simp) _ hTO⟩, ⟨o1, k i1 (by simp) _ e1, h1⟩, ⟨o2, k i2 (by simp) _ e2, h2⟩⟩
  item := by
    intro X hP hw hK hc i pins s σ H E I hf st hg
    subst hP hw hK
    obtain ⟨hz, hTI, ⟨x0, y0, hTO⟩, h1, h2⟩ := st
    have hg : i < min x.cps.size y.cps.size := hg
    have hh : X.A.in1.handled = none := I.ok.hd hc
    have hzl : z < s.heap.objs.size := Heap.lt_size hz
    refine wpAny_pyNext_zipD2_item S (Draws.text hh i1 x t1) (Draws.text hh i2 y t2) hz hTI hTO h1 h2 (by omega) (by omega) fun u1 u2 h' tk q1 q2 z' TO' h1' h2' hT hsz hk => ?_
    obtain ⟨c1, k1, g1, rfl⟩ := q1
    obtain ⟨c2, k2, g2, rfl⟩ := q2
    refine ⟨_, rfl, wpAny_letOwnedTupleGo_zip (s := { s with heap := h', toks := tk }) z' fun h'' z'' sb => ?_⟩
    have hT2 := (sb.2 _ (Nat.ne_of_gt hzl)).trans hT
    have new : ObjOk X.prog X.w (upd H s.heap.objs.size (.tup [.str ⟨#[c1]⟩, .str ⟨#[c2]⟩])) h'' s.heap.objs.size (.tup [.str ⟨#[c1]⟩, .str ⟨#[c2]⟩]) :=
      ⟨by show 2 ≤ sizeLine; decide, _, .cons ⟨_, rfl⟩ (.cons ⟨_, rfl⟩ .nil), ⟨_, hT2, rfl, _, rfl⟩⟩
    have I1 : Inv X pins σ (upd H s.heap.objs.size (.tup [.str ⟨#[c1]⟩, .str ⟨#[c2]⟩])) { s with heap := h'', toks := tk } :=
      I.turnedNew (ch := [z, TI, TO, i1, i2]) (fun c o hb q => (sb.2 c (fun q' => hb (by simp [q']))).trans (hk c o (fun q' => hb (by simp [q'])) (fun q' => hb (by simp [q'])) (fun q' => hb (by simp [q'])) (fun q' => hb (by simp [q'])) q)) hf (Nat.le_refl _) new
    refine ⟨.ref s.heap.objs.size, _, I1, rfl, ⟨_, c1, c2, rfl, I.hok.fresh (Nat.le_refl _), rfl, g1, g2⟩, ⟨z'', ?_, ⟨.str ⟨#[c1]⟩ k1, .str ⟨#[c2]⟩ k2, ?_⟩, ?_, ?_⟩, fun c hcm => ?_⟩
    · exact (sb.2 _ S.TIz).trans (hk _ _ S.TIz S.TITO S.TIi1 S.TIi2 hTI)
    · exact (sb.2 _ S.TOz).trans TO'
    · obtain ⟨o1, e1, r1⟩ := h1'
      exact ⟨o1, (sb.2 _ (Ne.symm S.zi1)).trans e1, r1⟩
    · obtain ⟨o2, e2, r2⟩ := h2'
      exact ⟨o2, (sb.2 _ (Ne.symm S.zi2)).trans e2, r2⟩
    · have hlt : c < s.heap.objs.size := by
        have e' : c = z ∨ c = TI ∨ c = TO ∨ c = i1 ∨ c = i2 := by simpa using hcm
        rcases e' with q | q | q | q | q
        · rw [q]; exact hzl
        · rw [q]; exact Heap.lt_size hTI
        · rw [q]; exact Heap.lt_size hTO
        · rw [q]; obtain ⟨_, e1, _⟩ := h1; exact Heap.lt_size e1
        · rw [q]; obtain ⟨_, e2, _⟩ := h2; exact Heap.lt_size e2
      rw [upd_ne (Nat.ne_of_lt hlt)]
      exact (hf c hcm).1
  done := by
    intro X hP hw hK hc i pins s σ H E I hf st hg
    subst hP hw hK
    obtain ⟨hz, hTI, ⟨x0, y0, hTO⟩, h1, h2⟩ := st
    have hg : i = min x.cps.size y.cps.size := hg
    have hh : X.A.in1.handled = none := I.ok.hd hc
    exact wpAny_pyNext_zipD2_end S (Draws.text hh i1 x t1) (Draws.text hh i2 y t2) hz hTI hTO h1 h2 (by omega) (by omega) (by omega) fun h' tk hk => ⟨rfl, I.turnedL (t' := tk) (ch := [z, TI, TO, i1, i2]) (fun c o hb q =>
      hk c o (fun q' => hb (by simp [q'])) (fun q' => hb (by simp [q'])) (fun q' => hb (by simp [q'])) (fun q' => hb (by simp [q'])) q) hf⟩
  self := fun A i s Q E st h => wpAny_pyIter_zip st.1 h
def iZipS (ta : TA) : TI := fun σ H R => ta σ H fun vs H1 => ∃ x y, vs = [.str x, .str y] ∧ R (ItzS x y) H1
theorem pi_zipS {X : Cx} {e e2 : Expr} {ta : TA} {p pos tpos : Pos} {elts : List Expr} {kk : Nat} (hg : Gl X "zip") (hm : X.mg "zip" = none) (ha : PA X [e, e2] ta)
    (hs : starEach [e, e2] X.env = (false, eval e X.env) :: starEach [e2] X.env) (hpl : (backTo pos (starEach [e2] X.env)).any (·.1) = false) :
    PI X (.Tuple elts kk tpos) (.Call (.Name "zip" p) [e, e2] [] pos) (iZipS ta) := by
  refine ⟨fun pins s σ H R I h => ?_⟩
  refine Call_ (ld_blt I hg hm PyProof.Rows.boot_zip (PyProof.Rows.callWith_type1 (thn (ha.run pos pins s σ H _ I h) fun us s1 ⟨vs, H1, I1, r1, q1⟩ => ?_) hs hpl))
  obtain ⟨x, y, ex, q⟩ := q1
  subst ex
  cases r1 with
  | cons r rr =>
    cases rr with
    | cons r' rr =>
      cases rr
      obtain ⟨t1, rfl⟩ := r
      obtain ⟨t2, rfl⟩ := r'
      refine zip_begins2 (begins_text x t1) (begins_text y t2) trivial trivial fun h' hz hTI hTO h1 h2 hsz hk => wpAny_pyIter_zip hz ?_
      have I2 : Inv X pins σ H1 { s1 with heap := h' } := I1.kept (t' := s1.toks) hk
      refine ⟨s1.heap.objs.size + 4, [s1.heap.objs.size + 4, s1.heap.objs.size + 2, s1.heap.objs.size + 3, s1.heap.objs.size, s1.heap.objs.size + 1], _, _, H1, rfl, I2, zs_turn (x := x) (y := y) (t1 := t1) (t2 := t2) (zip_sep2 (fp1 := []) (fp2 := []) (fun _ h => (nomatch h)) (fun _ h => (nomatch h))), ⟨hz, hTI, ⟨_, _, hTO⟩, ⟨_, h1, rfl, rfl⟩, ⟨_, h2, rfl, rfl⟩⟩, fun c hcm => ?_, q⟩
      have e' : c = s1.heap.objs.size + 4 ∨ c = s1.heap.objs.size + 2 ∨ c = s1.heap.objs.size + 3 ∨ c = s1.heap.objs.size ∨ c = s1.heap.objs.size + 1 := by simpa using hcm
      have hle : s1.heap.objs.size ≤ c := by
        rcases e' with z | z | z | z | z
        · rw [z]; exact Nat.le_add_right _ _
        · rw [z]; exact Nat.le_add_right _ _
        · rw [z]; exact Nat.le_add_right _ _
        · rw [z]; exact Nat.le_refl _
        · rw [z]; exact Nat.le_add_right _ _
      exact I1.fpOk hle (I1.hok.fresh hle)

/-- enumerate over what a word gives: a list or a tuple -/
def iEnA (K : PySem.W.Frag) (te : TE) : TI := fun σ H R => te σ H fun v H1 => ∃ (a : Addr) (xs : List V), v = .ref a ∧ ((SqL K H1 a xs ∧ R (Ite K a) H1) ∨ (SqT K H1 a xs ∧ R (IteT K a) H1))
theorem pi_enA {X : Cx} {e : Expr} {te : TE} {p pos tpos : Pos} {elts : List Expr} {kk : Nat} (hg : Gl X "enumerate") (hm : X.mg "enumerate" = none) (he : PE X e te) (hs : starEach [e] X.env = (false, eval e X.env) :: starEach [] X.env) :
    PI X (.Tuple elts kk tpos) (.Call (.Name "enumerate" p) [e] [] pos) (iEnA X.K te) := by
  refine ⟨fun pins s σ H R I h => ?_⟩
  refine Call_ (ld_blt I hg hm boot_enumerate (PyProof.Rows.callWith_type1 (args_cons (thn (he.run pins s σ H _ I h) fun u s1 ⟨v, H1, I1, r1, q1⟩ => args_nil ?_) hs) hs rfl))
  obtain ⟨a, xs, ev, q⟩ := q1
  subst ev
  cases r1
  have fr : ∀ b, b ∈ [s1.heap.objs.size + 1, s1.heap.objs.size] → FpOk X pins H1 b := fun b hb => by
    have hle : s1.heap.objs.size ≤ b := by
      rcases List.mem_cons.mp hb with z | hb
      · rw [z]; exact Nat.le_add_right _ _
      · obtain rfl : b = s1.heap.objs.size := by simpa using hb
        exact Nat.le_refl _
    exact I1.fpOk hle (I1.hok.fresh hle)
  rcases q with ⟨hq, q⟩ | ⟨hq, q⟩
  · obtain ⟨its, rv, pl, _⟩ := I1.list hq
    refine call_enumerate_list pl.isList fun h' he hit hsz hk => wpAny_pyIter_enum he ?_
    exact ⟨s1.heap.objs.size + 1, _, _, _, H1, rfl, I1.kept (t' := s1.toks) hk, turn_enum a (s1.heap.objs.size + 1) s1.heap.objs.size, ⟨⟨.none, he⟩, hit, Nat.succ_ne_self _⟩, fr, q⟩
  · obtain ⟨its, rv, pt, _⟩ := I1.tuple hq
    have pt' : s1.heap.IsTuple a its.toArray := pt
    have lt : a < s1.heap.objs.size := by obtain ⟨_, q, _⟩ := pt'; exact Heap.lt_size q
    refine en_call (begins_tuple a its.toArray) pt' fun h' he hit hk => wpAny_pyIter_enum he ?_
    exact ⟨s1.heap.objs.size + 1, _, _, _, H1, rfl, I1.kept (t' := s1.toks) hk, en_turn a (s1.heap.objs.size + 1) s1.heap.objs.size (Nat.ne_of_gt (Nat.lt_succ_of_lt lt)) (Nat.ne_of_lt lt), ⟨⟨.none, he⟩, ⟨_, hit, rfl, rfl⟩, Nat.succ_ne_self _⟩, fr, q⟩

section
variable {X : Cx} {Z : Zx} {W : WX} {x y tg : Expr} {a b : E} {pos p : Pos} {v w : V} {xs ys : List D} {pa qa : Addr}
theorem wk_enumT (hl : xs.length ≤ sizeLine) : Wk Z (IteT Z.K pa) [.ref pa] [.d (.tuple xs)] (enumItems xs) := by
  have e : (enumItems xs).length = xs.length := by simp [enumItems]
  refine ⟨⟨fun H => ∃ us, SqT Z.K H pa us ∧ us.length = xs.length, fun i H v H' => ∃ T x, v = .ref T ∧ H T = none ∧ H' = upd H T (.tup [.int (i : Nat), x]) ∧ ∀ us, SqT Z.K H pa us → us[i]? = some x, ⟨fun i H hi ⟨us, h1, h2⟩ => ?_, fun H ⟨us, h1, h2⟩ => ⟨us, h1, by omega⟩, fun i H x H' hi _ y => y⟩, fun vs ts σ ρ H ⟨S, O, G⟩ => ?_, ?_⟩, by simp, rfl, by rw [e]; exact hl⟩
  · rw [e] at hi
    exact ⟨us, us[i]'(by omega), h1, by simp [show i < us.length by omega]⟩
  · obtain ⟨us, h1, h2, _⟩ := G.tupAt
    exact ⟨us, h1, h2.length⟩
  · rintro i v H H' S O vs ts σ ρ hi G ⟨T, x, rfl, n, rfl, h⟩
    obtain ⟨us, h1, h2, _⟩ := G.tupAt
    obtain ⟨d, h3, h4⟩ := h2.getV (h us h1)
    exact ⟨.tuple [.int (i : Int), d], by simp [enumItems, h3], one_pair G.le n (.int _) h4⟩
theorem wk_zipS {s t : Str} (hs : sOk s = true) (ht : sOk t = true) : Wk Z (ItzS s t) [] [] (zipItems (s.cps.toList.map fun c => .str ⟨#[c]⟩) (t.cps.toList.map fun c => .str ⟨#[c]⟩)) := by
  have e : (zipItems (s.cps.toList.map fun c => (PyData.str ⟨#[c]⟩ : D)) (t.cps.toList.map fun c => .str ⟨#[c]⟩)).length = min s.cps.size t.cps.size := by simp [zipItems]
  refine ⟨⟨fun _ => True, fun i H v H' => ∃ T c d, v = .ref T ∧ H T = none ∧ H' = upd H T (.tup [.str ⟨#[c]⟩, .str ⟨#[d]⟩]) ∧ s.cps[i]? = some c ∧ t.cps[i]? = some d, ⟨fun i H hi _ => by rw [e] at hi; exact hi, fun H _ => by rw [e]; exact rfl, fun i H x H' hi _ y => y⟩, fun _ _ _ _ _ _ => trivial, ?_⟩, by simp, rfl, ?_⟩
  · rintro i v H H' S O vs ts σ ρ hi G ⟨T, c, d, rfl, n, rfl, h1, h2⟩
    have h3 : s.cps.toList[i]? = some c := by rw [Array.getElem?_toList]; exact h1
    have h4 : t.cps.toList[i]? = some d := by rw [Array.getElem?_toList]; exact h2
    refine ⟨.tuple [.str ⟨#[c]⟩, .str ⟨#[d]⟩], ?_, one_pair G.le n (.str _ (sOk_sign hs (List.mem_of_getElem? h3))) (.str _ (sOk_sign ht (List.mem_of_getElem? h4)))⟩
    have hz : ((s.cps.toList.map fun c => (PyData.str ⟨#[c]⟩ : D)).zip (t.cps.toList.map fun c => (PyData.str ⟨#[c]⟩ : D)))[i]? = some (PyData.str ⟨#[c]⟩, PyData.str ⟨#[d]⟩) := List.getElem?_zip_eq_some.mpr ⟨by rw [List.getElem?_map, h3]; rfl, by rw [List.getElem?_map, h4]; rfl⟩
    unfold zipItems
    rw [List.getElem?_map, hz]; rfl
  · rw [e]; exact Nat.le_trans (Nat.min_le_left _ _) (sOk.ln hs)
theorem zipOf_str {s t : Str} : zipOf (.str s) (.str t) = some (zipItems (s.cps.toList.map fun c => .str ⟨#[c]⟩) (t.cps.toList.map fun c => .str ⟨#[c]⟩)) := rfl
theorem si_rng1 (A : At X Z W) (hm : Have X Z (.no "range")) (hg : Gl X "range") (ha : SE X Z W x a) (hs : starEach [x] X.env = (false, eval x X.env) :: starEach [] X.env) : SI X Z W tg (.Call (.Name "range" p) [x] [] pos) (.rng1 a) := by
  obtain ⟨t, pt, s⟩ := ha
  refine ⟨_, pi_range1 hg hm (pa_cons pt pa_nil hs) hs, fun vs ts σ ρ H R hn G h => ?_⟩
  have h : PostR Z W σ _ ((ev a ρ).bind fun s ρ => rng1R s ρ) := h
  refine s vs ts σ ρ H _ hn G (h.bind.imp fun u ρ1 h1 v H1 G1 => ?_)
  obtain ⟨S, O, g⟩ := id G1
  unfold rng1R at h1
  split at h1
  · rename_i n e
    split at h1
    · rename_i hb
      obtain ⟨hb1, hb2⟩ := hb
      have r := g.rv g.tmp.1 e
      cases r.int
      refine ⟨n, rfl, hb1, by omega, ?_⟩
      have := h1 (Itr 0 n.toNat) [] [] H1 (by simpa using wk_rng (lo := 0) hb2) ⟨_, _, g.pop⟩
      exact this
    · exact h1.elim
  · exact h1.elim
theorem si_rng2 (A : At X Z W) (hm : Have X Z (.no "range")) (hg : Gl X "range") (ha : SE X Z W x a) (hb : SE X Z W y b) (hs : starEach [x, y] X.env = [(false, eval x X.env), (false, eval y X.env)]) (hs2 : starEach [y] X.env = [(false, eval y X.env)]) (h0 : starEach [] X.env = []) :
    SI X Z W tg (.Call (.Name "range" p) [x, y] [] pos) (.rng2 a b) := by
  obtain ⟨t, pt, s⟩ := ha
  obtain ⟨t', pt', s'⟩ := hb
  refine ⟨_, pi_range2 hg hm (pa_cons pt (pa_cons pt' pa_nil (by rw [hs2, h0])) (by rw [hs, hs2])) hs hs2, fun vs ts σ ρ H R hn G h => ?_⟩
  have h : PostR Z W σ _ ((ev a ρ).bind fun s ρ => grd (nal b.own s) ((ev b ρ).bind fun u ρ => rng2R s u ρ)) := h
  have hn : noal (a.own ++ b.own) ts := hn
  refine s vs ts σ ρ H _ hn.l G (h.bind.imp fun u ρ1 h1 v H1 G1 => ?_)
  obtain ⟨gd, h1⟩ := h1.grd
  refine s' (v :: vs) (u :: ts) σ ρ1 H1 _ (hn.r.cons gd) G1 (h1.bind.imp fun u2 ρ2 h2 v2 H2 G2 => ?_)
  obtain ⟨S, O, g⟩ := id G2
  unfold rng2R at h2
  split at h2
  · rename_i m n e1 e2
    split at h2
    · rename_i hb
      obtain ⟨hb1, hb2, hb3, hb4, hb5⟩ := hb
      cases (g.rv g.tmp.1 e2).int
      cases (g.rv g.tmp.2.1 e1).int
      exact ⟨m, n, rfl, ⟨by omega, by omega, by omega, by omega⟩, h2 _ [] [] H2 (wk_rng hb5) ⟨_, _, g.pop.pop⟩⟩
    · exact h2.elim
  · exact h2.elim
theorem si_enm (A : At X Z W) {elts : List Expr} {kk : Nat} {tpos : Pos} (hm : Have X Z (.no "enumerate")) (hg : Gl X "enumerate") (ha : SE X Z W x a) (hs : starEach [x] X.env = (false, eval x X.env) :: starEach [] X.env) :
    SI X Z W (.Tuple elts kk tpos) (.Call (.Name "enumerate" p) [x] [] pos) (.enm a) := by
  obtain ⟨t, pt, s⟩ := ha
  refine ⟨_, pi_enA hg hm pt hs, fun vs ts σ ρ H R hn G h => ?_⟩
  have h : PostR Z W σ _ ((ev a ρ).bind fun s ρ => (fzD s ρ).bind fun x ρ => (optR ρ (seqOf x)).bind fun xs ρ => .ok (enumItems xs) ρ) := h
  refine s vs ts σ ρ H _ hn G (h.bind.imp fun u ρ1 h1 v H1 G1 => ?_)
  obtain ⟨d, ρ2, e1, h1⟩ := (PostR.bind (r := fzD u ρ1) h1).fzD
  obtain ⟨items, e2, h2⟩ := h1.bind.opt
  have G2 := G1.fz e1
  obtain ⟨S, l, r⟩ := G2.top
  cases d with
  | list xs =>
    cases e2
    cases r with
    | lst r1 r2 r3 => exact ⟨_, _, rfl, .inl ⟨SqL.of (l _ _ r1), by rw [A.K]; exact h2 _ _ _ _ (wk_enumL r2) G2⟩⟩
  | tuple xs =>
    cases e2
    cases r with
    | tup r1 r2 r3 => exact ⟨_, _, rfl, .inr ⟨by rw [A.K]; exact l.sqT r1, by rw [A.K]; exact h2 _ _ _ _ (wk_enumT r2) G2⟩⟩
  | _ => cases e2
theorem zip_ev {ρ : Envr} : evI (.zip a b) ρ = (evA (.cons a (.cons b .nil)) ρ).bind fun ds ρ => match ds with | [x, y] => optR ρ (zipOf x y) | _ => .stuck := by
  simp only [evI, evA, R.bind_assoc]
  rfl
theorem si_zip (A : At X Z W) {elts : List Expr} {kk : Nat} {tpos : Pos} (hm : Have X Z (.no "zip")) (hg : Gl X "zip") (h : SA X Z W [x, y] (.cons a (.cons b .nil)))
    (hs : starEach [x, y] X.env = (false, eval x X.env) :: starEach [y] X.env) (hpl : (backTo pos (starEach [y] X.env)).any (·.1) = false) :
    SI X Z W (.Tuple elts kk tpos) (.Call (.Name "zip" p) [x, y] [] pos) (.zip a b) := by
  obtain ⟨t, pt, s⟩ := h
  refine ⟨_, pi_or (RZ.pi_zipA hg hm pt hs hpl) (pi_zipS hg hm pt hs hpl), fun vs ts σ ρ H R hn G h => ?_⟩
  rw [zip_ev] at h
  have hn' : noal (Es.cons a (.cons b .nil)).own ts := hn.mono fun z hz => by
    have : (Es.cons a (.cons b .nil)).own = a.own ++ (b.own ++ []) := rfl
    rw [this, List.append_nil] at hz; exact hz
  have txt : (∃ d1 d2 ρ1, evA (.cons a (.cons b .nil)) ρ = .ok [.str d1, .str d2] ρ1) ∨ ∀ d1 d2 ρ1, evA (.cons a (.cons b .nil)) ρ ≠ .ok [.str d1, .str d2] ρ1 := by
    by_cases h : ∃ d1 d2 ρ1, evA (.cons a (.cons b .nil)) ρ = .ok [.str d1, .str d2] ρ1
    · exact .inl h
    · exact .inr fun d1 d2 ρ1 e => h ⟨d1, d2, ρ1, e⟩
  rcases txt with ⟨x1, x2, ρ1, et⟩ | nt
  · refine .inr (s vs ts σ ρ H _ hn' G ?_)
    have h := h.bind
    rw [et] at h ⊢
    intro ws H1 l G1
    match ws, l with
    | [w1, w2], _ =>
      have h : PostR Z W σ (fun items ρ' => ∀ J hv hs H', Wk Z J hv hs items → Good Z (hv ++ vs) (hs ++ ts) σ ρ' H' → R J H') (optR ρ1 (zipOf (.str x1) (.str x2))) := h
      obtain ⟨items, e2, h2⟩ := PostR.opt h
      rw [zipOf_str] at e2
      obtain rfl := Option.some.inj e2
      obtain ⟨S, O, g⟩ := id G1
      have r2 : Rp Z.K S w2 (.str x2) := g.tmp.1
      have r1 : Rp Z.K S w1 (.str x1) := g.tmp.2.1
      cases r1 with
      | str _ k1 =>
        cases r2 with
        | str _ k2 => exact ⟨x1, x2, rfl, h2 _ [] [] _ (wk_zipS k1 k2) ⟨_, _, g.pop.pop⟩⟩
  · refine .inl (s vs ts σ ρ H _ hn' G ?_)
    have h := h.bind
    cases ee : evA (.cons a (.cons b .nil)) ρ with
    | stuck => rw [ee] at h; exact h
    | raise C x ρ1 => rw [ee] at h; exact h
    | ok ds ρ1 =>
      rw [ee] at h
      intro ws H1 l G1
      match ds, ws, l, h, ee with
      | [d1, d2], [w1, w2], _, h1, ee =>
        have h1 : PostR Z W σ (fun items ρ' => ∀ J hv hs H', Wk Z J hv hs items → Good Z (hv ++ vs) (hs ++ ts) σ ρ' H' → R J H') (optR ρ1 (zipOf d1 d2)) := h1
        obtain ⟨items, e2, h2⟩ := PostR.opt h1
        obtain ⟨S, O, g⟩ := id G1
        have r2 : Rp Z.K S w2 d2 := g.tmp.1
        have r1 : Rp Z.K S w1 d1 := g.tmp.2.1
        cases d1 with
        | list xs =>
          cases d2 with
          | list ys =>
            cases e2
            cases r1 with
            | lst a1 a2 a3 =>
              cases r2 with
              | lst b1 b2 b3 => exact ⟨_, _, _, _, rfl, .inl ⟨SqL.of (g.le _ _ a1), SqL.of (g.le _ _ b1), by rw [A.K]; exact h2 _ [_, _] [_, _] _ (wk_zipL a2) G1⟩⟩
          | _ => cases e2
        | tuple xs =>
          cases d2 with
          | tuple ys =>
            cases e2
            cases r1 with
            | tup a1 a2 a3 =>
              cases r2 with
              | tup b1 b2 b3 => exact ⟨_, _, _, _, rfl, .inr ⟨by rw [A.K]; exact g.le.sqT a1, by rw [A.K]; exact g.le.sqT b1, by rw [A.K]; exact h2 _ [_, _] [_, _] _ (wk_zipT a2) G1⟩⟩
          | _ => cases e2
        | str z1 =>
          cases d2 with
          | str z2 => exact absurd ee (nt z1 z2 ρ1)
          | _ => cases e2
        | _ => cases e2
      | [], _, _, h1, _ => exact h1.elim
      | [_], _, _, h1, _ => exact h1.elim
      | _ :: _ :: _ :: _, _, _, h1, _ => exact h1.elim
theorem si_rev (A : At X Z W) (hm : Have X Z (.no "reversed")) (hg : Gl X "reversed") (ha : SE X Z W x a) (hs : starEach [x] X.env = (false, eval x X.env) :: starEach [] X.env) :
    SI X Z W tg (.Call (.Name "reversed" p) [x] [] pos) (.rev a) := by
  obtain ⟨t, pt, s⟩ := ha
  refine ⟨_, RT.pi_revA hg hm pt hs, fun vs ts σ ρ H R hn G h => ?_⟩
  have h : PostR Z W σ _ ((ev a ρ).bind fun s ρ => (fzD s ρ).bind fun x ρ => (optR ρ (seqOf x)).bind fun xs ρ => .ok xs.reverse ρ) := h
  refine s vs ts σ ρ H _ hn G (h.bind.imp fun u ρ1 h1 v H1 G1 => ?_)
  obtain ⟨d, ρ2, e1, h1⟩ := (PostR.bind (r := fzD u ρ1) h1).fzD
  obtain ⟨items, e2, h2⟩ := h1.bind.opt
  have G2 := G1.fz e1
  obtain ⟨S, l, r⟩ := G2.top
  cases d with
  | list xs =>
    cases e2
    cases r with
    | lst r1 r2 r3 => exact ⟨_, _, rfl, .inl ⟨SqL.of (l _ _ r1), by rw [A.K]; exact h2 _ _ _ _ (wk_revL r2 r3.length) G2⟩⟩
  | tuple xs =>
    cases e2
    cases r with
    | tup r1 r2 r3 => exact ⟨_, _, rfl, .inr ⟨by rw [A.K]; exact l.sqT r1, by rw [A.K]; exact h2 _ _ _ _ (wk_revT r2 r3.length) G2⟩⟩
  | _ => cases e2
end
end Pw
/-! Pw, part P: targets; comprehensions. -/
namespace Pw
open PySem PySem.Spec PyProof.Rows L2
def OM.swp (O : OM) (n : Nat) : OM := fun b => match O b with
  | some w => some (if w.root = .t n then ⟨.t (n + 1), w.fld⟩ else if w.root = .t (n + 1) then ⟨.t n, w.fld⟩ else w)
  | none => none
theorem OM.swp_some {O : OM} {n : Nat} {b : Addr} {w : Own} (h : O.swp n b = some w) : ∃ u, O b = some u := by
  unfold OM.swp at h
  split at h
  · rename_i u e; exact ⟨u, e⟩
  · cases h
theorem OM.swp_l {O : OM} {n : Nat} {b : Addr} {f : Str} (h : O b = some ⟨.t n, f⟩) : O.swp n b = some ⟨.t (n + 1), f⟩ := by
  unfold OM.swp; rw [h]; simp
theorem OM.swp_r {O : OM} {n : Nat} {b : Addr} {f : Str} (h : O b = some ⟨.t (n + 1), f⟩) : O.swp n b = some ⟨.t n, f⟩ := by
  unfold OM.swp; rw [h]; simp
theorem OM.swp_ne {O : OM} {n : Nat} {b : Addr} {w : Own} (h : O b = some w) (h1 : w.root ≠ .t n) (h2 : w.root ≠ .t (n + 1)) : O.swp n b = some w := by
  unfold OM.swp; rw [h]; simp [h1, h2]
section
variable {Z : Zx} {S S' H H' : Hp} {O O' : OM} {vs ws : List V} {ts us : List Sl} {σ σ' : L2.St} {ρ ρ' : Envr} {v w v0 v1 : V} {sl s0 s1 : Sl} {p : Addr} {o : HO} {x : D} {i : Nat}
theorem GoodX.swap (G : GoodX Z S O (v0 :: v1 :: vs) (s0 :: s1 :: ts) σ ρ H) : GoodX Z S (O.swp ts.length) (v1 :: v0 :: vs) (s1 :: s0 :: ts) σ ρ H := by
  have t0 : TmpR Z S H O σ (ts.length + 1) v0 s0 := G.tmp.1
  have t1 : TmpR Z S H O σ ts.length v1 s1 := G.tmp.2.1
  have t2 := G.tmp.2.2
  refine ⟨G.le, fun p w e => ?_, fun p w e => ?_, fun j sl' e => ?_, ⟨?_, ?_, ?_⟩, G.keep, G.sh0, G.shf, G.iol, G.len⟩
  · obtain ⟨u, hu⟩ := OM.swp_some e
    exact G.own p u hu
  · obtain ⟨u, hu⟩ := OM.swp_some e
    exact G.liv p u hu
  · obtain ⟨u, h1, h2⟩ := G.env j sl' e
    exact ⟨u, h1, h2.mv Le.refl fun q' f u a b => ⟨OM.swp_ne a (by intro z; cases z) (by intro z; cases z), b⟩⟩
  · exact t1.mv Le.refl (fun _ _ h => h) fun q f u a b => ⟨OM.swp_l a, b⟩
  · exact t0.mv Le.refl (fun _ _ h => h) fun q f u a b => ⟨OM.swp_r a, b⟩
  · exact t2.mv Le.refl (fun _ _ _ h => h) fun n hn q f u a b => ⟨OM.swp_ne a (by intro z; have := Root.t.inj z; omega) (by intro z; have := Root.t.inj z; omega), b⟩
theorem Good.dropN : ∀ {ws : List V} {us : List Sl}, ws.length = us.length → Good Z (v :: (ws ++ vs)) (sl :: (us ++ ts)) σ ρ H → Good Z (v :: vs) (sl :: ts) σ ρ H
  | [], [], _, G => G
  | _ :: _, _ :: _, e, G => Good.dropN (by simpa using e) (Good.drop2 G)
  | [], _ :: _, e, _ => by simp at e
  | _ :: _, [], e, _ => by simp at e
theorem Good.popN : ∀ {ws : List V} {us : List Sl}, ws.length = us.length → Good Z (ws ++ vs) (us ++ ts) σ ρ H → Good Z vs ts σ ρ H := fun e ⟨S, O, G⟩ => ⟨S, O, GoodX.popN e G⟩
end
/-! ### targets -/
def Off (os : List Nat) (σ σ' : L2.St) : Prop := σ'.length = σ.length ∧ ∀ i, i ∉ os → σ'[i]? = σ[i]?
theorem Off.refl {os : List Nat} {σ : L2.St} : Off os σ σ := ⟨rfl, fun _ _ => rfl⟩
theorem Off.trans {a b : List Nat} {σ σ' σ'' : L2.St} (h : Off a σ σ') (h' : Off b σ' σ'') : Off (a ++ b) σ σ'' :=
  ⟨h'.1.trans h.1, fun i hi => (h'.2 i fun m => hi (List.mem_append_right _ m)).trans (h.2 i fun m => hi (List.mem_append_left _ m))⟩
theorem Off.mono {a b : List Nat} {σ σ' : L2.St} (h : Off a σ σ') (i : ∀ x ∈ a, x ∈ b) : Off b σ σ' := ⟨h.1, fun j hj => h.2 j fun m => hj (i j m)⟩
theorem Off.set {σ : L2.St} {i : Nat} {x : Option V} : Off [i] σ (σ.set i x) := ⟨by simp, fun j hj => List.getElem?_set_ne fun e => hj (by simp [e])⟩
theorem wipe_get {σ : L2.St} : ∀ {os : List Nat} {i : Nat}, (wipe σ os)[i]? = if i ∈ os then (σ[i]?).map fun _ => none else σ[i]?
  | [], i => by simp [wipe]
  | v :: vs, i => by
    unfold wipe
    by_cases e : v = i
    · subst e
      rw [List.getElem?_set_self', wipe_get]
      by_cases m : v ∈ vs
      · simp [m]; rfl
      · simp [m]; rfl
    · rw [List.getElem?_set_ne e, wipe_get]
      simp [show i ≠ v from fun z => e z.symm]
theorem Off.wipe {os : List Nat} {σ σ' : L2.St} (h : Off os σ σ') : wipe σ' os = wipe σ os := by
  apply List.ext_getElem?
  intro i
  rw [wipe_get, wipe_get]
  by_cases m : i ∈ os
  · simp only [m, if_true]
    have hl := h.1
    by_cases q : i < σ.length
    · rw [List.getElem?_eq_getElem q, List.getElem?_eq_getElem (by omega)]; rfl
    · rw [List.getElem?_eq_none (by omega), List.getElem?_eq_none (by omega)]
  · simp only [m, if_false]; exact h.2 i m
theorem wipe_idem {os : List Nat} {σ : L2.St} : L2.wipe (L2.wipe σ os) os = L2.wipe σ os := by
  apply List.ext_getElem?
  intro i
  rw [wipe_get, wipe_get]
  by_cases m : i ∈ os
  · simp only [m, if_true]
    cases σ[i]? <;> rfl
  · simp only [m, if_false]
mutual
def Tg.slots : Tg → List Nat
  | .nm i => [i]
  | .tp ts => Tg.slotsL ts
def Tg.slotsL : List Tg → List Nat
  | [] => []
  | t :: ts => t.slots ++ Tg.slotsL ts
end
def STg (X : Cx) (Z : Zx) (tg : Expr) (t : Tg) : Prop := ∃ g, PG X tg g ∧ ∀ (S : Hp) (O : OM) (vs : List V) (ts : List Sl) (σ : L2.St) (ρ : Envr) (H : Hp) (v : V) (d : D) (Q : L2.St → Hp → Prop) (ρ' : Envr),
  noal t.slots ts → GoodX Z S O vs ts σ ρ H → Rp Z.K S v d → bindT t d ρ = some ρ' → (∀ σ' O', Off t.slots σ σ' → GoodX Z S O' vs ts σ' ρ' H → Q σ' H) → g v σ H Q
def STgs (X : Cx) (Z : Zx) (tgs : List Expr) (tl : List Tg) : Prop := ∃ g, PGs X tgs g ∧ ∀ (S : Hp) (O : OM) (vs : List V) (ts : List Sl) (σ : L2.St) (ρ : Envr) (H : Hp) (ws : List V) (ds : List D) (Q : L2.St → Hp → Prop) (ρ' : Envr),
  noal (Tg.slotsL tl) ts → GoodX Z S O vs ts σ ρ H → RpA Z.K S ws ds → bindT.bindTs tl ds ρ = some ρ' → (∀ σ' O', Off (Tg.slotsL tl) σ σ' → GoodX Z S O' vs ts σ' ρ' H → Q σ' H) → g ws σ H Q
section
variable {X : Cx} {Z : Zx} {W : WX} {pos : Pos}
theorem stg_nm {i : Nat} {n : Str} (hN : X.N.Nodup) (hi : X.N[i]? = some n) (hl : Loc X.env.scope n) (hf : X.fn n = true ∨ X.env.scope.names.lookup n = some .local) : STg X Z (.Name n pos) (.nm i) := by
  refine ⟨_, pg_name hN hi hl hf, fun S O vs ts σ ρ H v d Q ρ' hn G r e k => ?_⟩
  have e : (if i < ρ.length then some (ρ.set i (some (.d d))) else none) = some ρ' := e
  split at e
  · rename_i hlt
    cases e
    exact k _ _ Off.set ((G.pushD r).bind (by rw [← G.len]; exact hlt) (fun j z => nomatch z) (hn i List.mem_cons_self))
  · cases e
theorem stgs_nil : STgs X Z [] [] := ⟨_, pgs_nil, fun S O vs ts σ ρ H ws ds Q ρ' hn G r e k => by
  cases ds with
  | cons _ _ => cases e
  | nil =>
    cases e
    cases r
    exact ⟨rfl, k _ _ Off.refl G⟩⟩
theorem stgs_cons {x : Expr} {xs : List Expr} {t : Tg} {tl : List Tg} (h : STg X Z x t) (hs : STgs X Z xs tl) (ha : (assignEach (x :: xs) X.env).map (·.2) = assign x X.env :: (assignEach xs X.env).map (·.2)) : STgs X Z (x :: xs) (t :: tl) := by
  obtain ⟨g, p, s⟩ := h
  obtain ⟨g', p', s'⟩ := hs
  refine ⟨_, pgs_cons p p' ha, fun S O vs ts σ ρ H ws ds Q ρ' hn G r e k => ?_⟩
  cases r with
  | nil => cases e
  | @cons w0 ws0 d0 ds0 r1 r2 =>
    have e : (match bindT t d0 ρ with | some ρ' => bindT.bindTs tl ds0 ρ' | none => none) = some ρ' := e
    cases e1 : bindT t d0 ρ with
    | none => rw [e1] at e; cases e
    | some ρ1 =>
      rw [e1] at e
      have hn : noal (t.slots ++ Tg.slotsL tl) ts := hn
      refine ⟨_, _, rfl, s S O vs ts σ ρ H _ _ _ ρ1 hn.l G r1 e1 fun σ1 O1 o1 G1 => ?_⟩
      exact s' S O1 vs ts σ1 ρ1 H _ _ _ ρ' hn.r G1 r2 e fun σ2 O2 o2 G2 => k σ2 O2 (o1.trans o2) G2
theorem PG.orG {x : Expr} {g g' : TG} (h : PG X x g) (h' : PG X x g') : PG X x (fun v σ H Q => g v σ H Q ∨ g' v σ H Q) :=
  ⟨fun pins s σ H v u Q I r q => q.elim (h.run pins s σ H v u Q I r) (h'.run pins s σ H v u Q I r)⟩
theorem stg_tp {xs : List Expr} {tl : List Tg} {kk : Nat} (A : X.calm = true) (K : X.K = Z.K) (h : STgs X Z xs tl) (hn : (assignEach xs X.env).length = tl.length) (hst : (assignEach xs X.env).findIdx? (·.1) = none) : STg X Z (.Tuple xs kk pos) (.tp tl) := by
  obtain ⟨g, p, s⟩ := h
  refine ⟨_, PG.orG (pg_tup A p hn hst) (pg_lst A p hn hst), fun S O vs ts σ ρ H v d Q ρ' hn G r e k => ?_⟩
  cases d with
  | tuple ds =>
    have e : (if tl.length = ds.length then bindT.bindTs tl ds ρ else none) = some ρ' := e
    split at e
    · rename_i hl
      cases r with
      | tup a b c =>
        rw [K]
        exact .inl ⟨_, _, rfl, G.le.sqT a, by rw [c.length, hl], s S O vs ts σ ρ H _ ds Q ρ' hn G c e k⟩
    · cases e
  | list ds =>
    have e : (if tl.length = ds.length then bindT.bindTs tl ds ρ else none) = some ρ' := e
    split at e
    · rename_i hl
      cases r with
      | lst a b c =>
        rw [K]
        exact .inr ⟨_, _, rfl, SqL.of (G.le _ _ a), by rw [c.length, hl], s S O vs ts σ ρ H _ ds Q ρ' hn G c e k⟩
    · cases e
  | _ => cases e
end
/-! ### the same words in every context -/
def uE (Z : Zx) (W : WX) (a : E) : TE := fun σ H Q => ∃ vs ts ρ, noal a.own ts ∧ Good Z vs ts σ ρ H ∧ PostR Z W σ (fun s ρ' => ∀ v H', Good Z (v :: vs) (s :: ts) σ ρ' H' → Q v H') (ev a ρ)
theorem SE.u {X : Cx} {Z : Zx} {W : WX} {x : Expr} {a : E} (h : SE X Z W x a) : PE X x (uE Z W a) := by
  obtain ⟨t, p, s⟩ := h
  exact ⟨fun pins s0 σ H Q I ⟨vs, ts, ρ, h1, h2, h3⟩ => p.run pins s0 σ H Q I (s vs ts σ ρ H Q h1 h2 h3)⟩
def uG (Z : Zx) (t : Tg) : TG := fun v σ H Q => ∃ S O vs ts ρ d ρ', noal t.slots ts ∧ GoodX Z S O vs ts σ ρ H ∧ Rp Z.K S v d ∧ bindT t d ρ = some ρ' ∧ (∀ σ' O', Off t.slots σ σ' → GoodX Z S O' vs ts σ' ρ' H → Q σ' H)
theorem STg.u {X : Cx} {Z : Zx} {x : Expr} {t : Tg} (h : STg X Z x t) : PG X x (uG Z t) := by
  obtain ⟨g, p, s⟩ := h
  exact ⟨fun pins s0 σ H v u Q I r ⟨S, O, vs, ts, ρ, d, ρ', h1, h2, h3, h4, h5⟩ => p.run pins s0 σ H v u Q I r (s S O vs ts σ ρ H v d Q ρ' h1 h2 h3 h4 h5)⟩
def SQ (X : Cx) (Z : Zx) (W : WX) (ifs : List Expr) (c : Oe) : Prop := ∃ t, PTs X ifs t ∧ ∀ (vs : List V) (ts : List Sl) (σ : L2.St) (ρ : Envr) (H : Hp) (Q : Bool → Hp → Prop), noal c.own ts → Good Z vs ts σ ρ H →
  PostR Z W σ (fun b ρ' => ∀ H', Good Z vs ts σ ρ' H' → Q b H') (evQ c ρ) → t σ H Q
theorem sq_nil {X : Cx} {Z : Zx} {W : WX} : SQ X Z W [] .non := ⟨_, pts_nil, fun vs ts σ ρ H Q hn G h => h H G⟩
theorem sq_one {X : Cx} {Z : Zx} {W : WX} {x : Expr} {a : E} (h : ST X Z W x a) : SQ X Z W [x] (.som a) := by
  obtain ⟨t, p, s⟩ := h
  exact ⟨_, pts_one p, fun vs ts σ ρ H Q hn G h => s vs ts σ ρ H Q hn G h⟩
def uQ (Z : Zx) (W : WX) (c : Oe) : TT := fun σ H Q => ∃ vs ts ρ, noal c.own ts ∧ Good Z vs ts σ ρ H ∧ PostR Z W σ (fun b ρ' => ∀ H', Good Z vs ts σ ρ' H' → Q b H') (evQ c ρ)
theorem SQ.u {X : Cx} {Z : Zx} {W : WX} {ifs : List Expr} {c : Oe} (h : SQ X Z W ifs c) : PTs X ifs (uQ Z W c) := by
  obtain ⟨t, p, s⟩ := h
  exact ⟨fun pins s0 σ H Q I ⟨vs, ts, ρ, h1, h2, h3⟩ => p.run pins s0 σ H Q I (s vs ts σ ρ H Q h1 h2 h3)⟩
/-! ### own slots saved and brought back -/
theorem wipeE_get {ρ : Envr} : ∀ {os : List Nat} {i : Nat}, i ∉ os → (wipeE ρ os)[i]? = ρ[i]?
  | [], _, _ => rfl
  | v :: vs, i, h => by
    unfold wipeE
    rw [List.getElem?_set_ne fun e => h (by simp [e])]
    exact wipeE_get fun m => h (List.mem_cons_of_mem _ m)
theorem set_back {σ : L2.St} {v : Nat} {x : Option V} (h : σ[v]? = some x ∨ σ.length ≤ v) : ((σ.set v none).set v x) = σ := by
  rw [List.set_set]
  rcases h with h | h
  · apply List.ext_getElem?
    intro i
    by_cases e : v = i
    · subst e
      rw [List.getElem?_set_self', h]; rfl
    · rw [List.getElem?_set_ne e]
  · rw [List.set_eq_of_length_le h]
theorem save_all {Z : Zx} {vs : List V} {ts : List Sl} {σ : L2.St} {ρ : Envr} {H : Hp} : ∀ {os : List Nat}, os.Nodup → noal os ts → Good Z vs ts σ ρ H → ∃ kv ks, kv.length = ks.length ∧ (∀ i, Sl.ali i ∉ ks) ∧ Good Z (kv ++ vs) (ks ++ ts) (wipe σ os) (wipeE ρ os) H ∧
    ∀ v0 s0 ρ2 H2, (∀ i, s0 ≠ .ali i) → Good Z (v0 :: (kv ++ vs)) (s0 :: (ks ++ ts)) (wipe σ os) ρ2 H2 → Good Z (v0 :: vs) (s0 :: ts) σ (backE ρ ρ2 os) H2
  | [], _, _, G => ⟨[], [], rfl, by simp, G, fun v0 s0 ρ2 H2 _ g => g⟩
  | a :: os, nd, hn, G => by
    obtain ⟨kv, ks, l, na, G1, back⟩ := save_all (os := os) (List.nodup_cons.mp nd).2 (hn.mono fun _ => List.mem_cons_of_mem _) G
    have ha : a ∉ os := (List.nodup_cons.mp nd).1
    have hat : Sl.ali a ∉ ks ++ ts := fun m => (List.mem_append.mp m).elim (na a) (hn a List.mem_cons_self)
    have er : (wipeE ρ os)[a]? = ρ[a]? := wipeE_get ha
    have es : (wipe σ os)[a]? = σ[a]? := by rw [wipe_get]; simp [ha]
    obtain ⟨S, O, g⟩ := G1
    have un : (ρ[a]?).join = none → ∃ kv ks, kv.length = ks.length ∧ (∀ i, Sl.ali i ∉ ks) ∧ Good Z (kv ++ vs) (ks ++ ts) (wipe σ (a :: os)) (wipeE ρ (a :: os)) H ∧
        ∀ v0 s0 ρ2 H2, (∀ i, s0 ≠ .ali i) → Good Z (v0 :: (kv ++ vs)) (s0 :: (ks ++ ts)) (wipe σ (a :: os)) ρ2 H2 → Good Z (v0 :: vs) (s0 :: ts) σ (backE ρ ρ2 (a :: os)) H2 := fun hj => by
      refine ⟨kv, ks, l, na, ⟨_, _, g.unset none hat⟩, fun v0 s0 ρ2 H2 n0 ⟨S2, O2, g2⟩ => ?_⟩
      have g3 := g2.unset (i := a) ((σ[a]?).join) (fun m => by
        rcases List.mem_cons.mp m with e | m
        · exact n0 a e.symm
        · exact hat m)
      have e1 : ((wipe σ (a :: os)).set a (σ[a]?).join) = wipe σ os := by
        refine set_back ?_
        rw [es]
        by_cases q : a < σ.length
        · rw [List.getElem?_eq_getElem q]; exact .inl rfl
        · right; rw [wipe_length]; omega
      rw [e1] at g3
      have e2 : ρ.getD a none = none := by
        rw [List.getD_eq_getElem?_getD]
        cases q : ρ[a]? with
        | none => rfl
        | some u => rw [q] at hj; exact hj
      show Good Z (v0 :: vs) (s0 :: ts) σ (backE ρ (ρ2.set a (ρ.getD a none)) os) H2
      rw [e2]
      exact back v0 s0 _ H2 n0 ⟨_, _, g3⟩
    cases q : ρ[a]? with
    | none => exact un (by rw [q]; rfl)
    | some u =>
      cases u with
      | none => exact un (by rw [q]; rfl)
      | some sl =>
        obtain ⟨v, h1, h2⟩ := g.env a sl (by rw [er, q])
        have nsl : ∀ j, sl ≠ .ali j := fun j e => by subst e; exact h2
        refine ⟨v :: kv, sl :: ks, by simp [l], fun i m => ?_, ⟨_, _, g.save h1 (by rw [er, q]) hat⟩, fun v0 s0 ρ2 H2 n0 ⟨S2, O2, g2⟩ => ?_⟩
        · rcases List.mem_cons.mp m with e | m
          · exact nsl i e.symm
          · exact na i m
        · have lt : a < (wipe σ os).length := (List.getElem?_eq_some_iff.mp h1).1
          have g3 := (GoodX.swap g2).bind (i := a) (by show a < ((wipe σ os).set a none).length; rw [List.length_set]; exact lt) nsl (fun m => by
            rcases List.mem_cons.mp m with e | m
            · exact n0 a e.symm
            · exact hat m)
          have e1 : ((wipe σ (a :: os)).set a (some v)) = wipe σ os := set_back (.inl h1)
          rw [e1] at g3
          have e2 : ρ.getD a none = some sl := by rw [List.getD_eq_getElem?_getD, q]; rfl
          show Good Z (v0 :: vs) (s0 :: ts) σ (backE ρ (ρ2.set a (ρ.getD a none)) os) H2
          rw [e2]
          exact back v0 s0 _ H2 n0 ⟨_, _, g3⟩
/-- the own slots forgotten -/
theorem Good.wipe {Z : Zx} {vs : List V} {ts : List Sl} {σ : L2.St} {ρ : Envr} {H : Hp} : ∀ {os : List Nat}, noal os ts → Good Z vs ts σ ρ H → Good Z vs ts (L2.wipe σ os) (wipeE ρ os) H
  | [], _, G => G
  | a :: os, hn, G => by
    obtain ⟨S, O, g⟩ := Good.wipe (os := os) (hn.mono fun _ => List.mem_cons_of_mem _) G
    exact ⟨_, _, g.unset none (hn a List.mem_cons_self)⟩
/-! ### no raising in a block -/
def PN {α : Type} (P : α → Envr → Prop) : R α → Prop
  | .ok a ρ => P a ρ
  | _ => False
theorem PN.bind {α β : Type} {r : R α} {f : α → Envr → R β} {P : β → Envr → Prop} (h : PN P (r.bind f)) : PN (fun a ρ => PN P (f a ρ)) r := by
  cases r with
  | ok a ρ => exact h
  | raise C x ρ => exact h
  | stuck => exact h
theorem PN.toR {α : Type} {Z : Zx} {W : WX} {σ : L2.St} {r : R α} {P P' : α → Envr → Prop} (h : PN P r) (i : ∀ a ρ, P a ρ → P' a ρ) : PostR Z W σ P' r := by
  cases r with
  | ok a ρ => exact i a ρ h
  | raise C x ρ => exact h.elim
  | stuck => exact h
abbrev W0 : WX := fun _ _ _ _ => False
theorem At.blk {X : Cx} {Z : Zx} {W : WX} (A : At X Z W) (s : Shared) (H : Hp) (scope : Scope) (cenv : Env) (fp : List Addr) : At (X.blk s H scope cenv fp) Z W0 := ⟨A.K, A.calm, A.nd, A.hu, fun _ _ ⟨_, _, _, _, _, _, _, _, _, _, _, _, _, _, _, _, w⟩ => w.elim, A.gd⟩
theorem noal.app {os : List Nat} {us ts : List Sl} (h : ∀ i, Sl.ali i ∉ us) (h' : noal os ts) : noal os (us ++ ts) := fun i hi m => (List.mem_append.mp m).elim (h i) (h' i hi)
theorem comp_sem {Z : Zx} {W : WX} {a : E} {t : Tg} {it : It} {c : Oe} {os : List Nat} {wi : TI} (nd : os.Nodup) (hsl : ∀ i ∈ t.slots, i ∈ os)
    (si : ∀ (vs : List V) (ts : List Sl) (σ : L2.St) (ρ : Envr) (H : Hp) (R : L2.It → Hp → Prop), noal it.own ts → Good Z vs ts σ ρ H →
      PostR Z W σ (fun items ρ' => ∀ J hv hs H', Wk Z J hv hs items → Good Z (hv ++ vs) (hs ++ ts) σ ρ' H' → R J H') (evI it ρ) → wi σ H R) :
    ∀ (vs : List V) (ts : List Sl) (σ : L2.St) (ρ : Envr) (H : Hp) (Q : VK), noal (E.comp a t it c os).own ts → Good Z vs ts σ ρ H →
      PostR Z W σ (fun s ρ' => ∀ v H', Good Z (v :: vs) (s :: ts) σ ρ' H' → Q v H') (ev (.comp a t it c os) ρ) → tLc wi (uG Z t) (uQ Z W0 c) (uE Z W0 a) os σ H Q := fun vs ts σ ρ H Q hn G h => by
    have hn : noal (os ++ (a.own ++ (it.own ++ c.own))) ts := hn
    have h : PostR Z W σ _ ((evI it ρ).bind fun items ρ₁ => compR os ρ₁ (loopL (turnR t os (fun ρ => evQ c ρ) fun ρ => ev a ρ) items (wipeE ρ₁ os) [])) := h
    refine si vs ts σ ρ H _ hn.r.r.l G (h.bind.imp fun items ρ1 h1 J hv hs' H1 wk G1 D hD => ?_)
    obtain ⟨Gd, Y, w, hG, hY⟩ := wk.walk
    have hnh : noal os (hs' ++ ts) := noal.app wk.ali hn.l
    obtain ⟨kv, ks, lk, nk, Gk, back⟩ := save_all nd hnh G1
    have nall : ∀ os', noal os' ts → noal os' (ks ++ (hs' ++ ts)) := fun os' h => noal.app nk (noal.app wk.ali h)
    have h1 : PN (fun acc ρ' => ∀ v H', Good Z (v :: vs) (.ol none acc :: ts) σ (backE ρ1 ρ' os) H' → Q v H') (loopL (turnR t os (fun ρ => evQ c ρ) fun ρ => ev a ρ) items (wipeE ρ1 os) []) := by
      unfold compR at h1
      split at h1
      · rename_i acc ρ2 e; rw [e]; exact h1
      · exact h1.elim
    refine lc_it w (fun i H => ∃ acc ρi, acc.length ≤ i ∧ Good Z (.ref D :: (kv ++ (hv ++ vs))) (.ol none acc :: (ks ++ (hs' ++ ts))) (wipe σ os) ρi H ∧
      PN (fun acc ρ' => ∀ v H', Good Z (v :: vs) (.ol none acc :: ts) σ (backE ρ1 ρ' os) H' → Q v H') (loopL (turnR t os (fun ρ => evQ c ρ) fun ρ => ev a ρ) (items.drop i) ρi acc)) ?_ ?_ ?_ ?_
    · obtain ⟨S, O, g⟩ := Gk
      exact ⟨[], _, Nat.le_refl _, Good.newL g hD .nil (Nat.zero_le _), h1⟩
    · rintro i H2 hi ⟨acc, ρi, la, g, _⟩
      exact hG _ _ _ _ _ (Good.popN (ws := .ref D :: kv) (us := .ol none acc :: ks) (by simp [lk]) g)
    · rintro i x H2 H3 hi ⟨acc, ρi, la, ⟨S, O, g⟩, h2⟩ y
      obtain ⟨d, ed, one⟩ := hY i x H2 H3 S O _ _ _ _ hi (GoodX.popN (ws := .ref D :: kv) (us := .ol none acc :: ks) (by simp [lk]) g) y
      obtain ⟨S3, O3, g3⟩ := one.push g
      have e : items.drop i = d :: items.drop (i + 1) := by
        rw [List.drop_eq_getElem_cons hi]
        have := List.getElem?_eq_getElem hi
        rw [ed] at this; cases this; rfl
      rw [e] at h2
      have h2 : PN _ ((turnR t os (fun ρ => evQ c ρ) (fun ρ => ev a ρ) d ρi acc).bind fun acc' ρ' => loopL (turnR t os (fun ρ => evQ c ρ) fun ρ => ev a ρ) (items.drop (i + 1)) ρ' acc') := h2
      have h3 := h2.bind
      unfold turnR at h3
      cases eb : bindT t d ρi with
      | none => rw [eb] at h3; exact h3.elim
      | some ρ2 =>
        rw [eb] at h3
        dsimp only at h3
        have r3 : Rp Z.K S3 x d := g3.tmp.1
        have nt : noal t.slots (.ol none acc :: (ks ++ (hs' ++ ts))) := ((nall os hn.l).cons (s := .ol none acc) rfl).mono hsl
        refine ⟨S3, _, _, _, _, d, ρ2, nt, g3.pop, r3, eb, fun σ2 O2 off g4 => ⟨?_, ?_⟩⟩
        · have := (off.mono hsl).wipe
          rw [this, wipe_idem]
        have ew : wipe σ2 os = wipe σ os := by rw [(off.mono hsl).wipe, wipe_idem]
        have no : noal os (.ol none acc :: (ks ++ (hs' ++ ts))) := (nall os hn.l).cons rfl
        refine ⟨_, _, ρ2, ((nall c.own hn.r.r.r).cons rfl), ⟨_, _, g4⟩, h3.bind.toR fun b ρ3 h4 H4 G4 => ?_⟩
        cases b with
        | false =>
          rw [if_neg (by decide)] at h4 ⊢
          refine ⟨acc, _, Nat.le_succ_of_le la, ?_, h4⟩
          have := Good.wipe no G4
          rw [ew] at this; exact this
        | true =>
          rw [if_pos rfl] at h4 ⊢
          refine ⟨_, _, ρ3, ((nall a.own hn.r.l).cons rfl), G4, h4.bind.toR fun s ρ4 h5 yv H5 G5 => ?_⟩
          have h6 := PN.bind (r := fzD s ρ4) h5
          unfold fzD at h6
          cases ef : fz ρ4 s with
          | none => rw [ef] at h6; exact h6.elim
          | some df =>
            obtain ⟨yd, ρ5⟩ := df
            rw [ef] at h6
            have h6 : PN _ (loopL (turnR t os (fun ρ => evQ c ρ) fun ρ => ev a ρ) (items.drop (i + 1)) (wipeE ρ5 os) (acc ++ [yd])) := h6
            obtain ⟨S5, O5, g5⟩ := G5.fz ef
            have ry : Rp Z.K S5 yv yd := g5.tmp.1
            obtain ⟨q, eq, oq, ⟨ly, us, hq, ra⟩, zq⟩ := g5.tmp.2.1
            cases eq
            have hb := wk.big
            refine ⟨us, hq, by rw [ra.length]; omega, acc ++ [yd], _, by simp; omega, ?_, h6⟩
            have g6 := g5.pop.wrT oq zq (o := .lst (us ++ [yv])) (sl' := .ol none (acc ++ [yd])) ⟨D, rfl, oq, ⟨by rw [List.length_append]; simp; omega, _, upd_same, ra.app (.cons ry .nil)⟩, zq⟩
            have := Good.wipe (os := os) ((nall os hn.l).cons (s := .ol none (acc ++ [yd])) rfl) ⟨_, _, g6⟩
            rw [ew] at this
            exact this
    · rintro H2 ⟨acc, ρi, la, g, h2⟩
      rw [List.drop_length] at h2
      have h2 : ∀ v H', Good Z (v :: vs) (.ol none acc :: ts) σ (backE ρ1 ρi os) H' → Q v H' := h2
      refine h2 _ _ (Good.dropN wk.len (back _ _ _ _ (fun j z => nomatch z) g))
theorem se_comp {X : Cx} {Z : Zx} {W : WX} {elt tg iter : Expr} {ifs : List Expr} {scope : Scope} {own : List (Str × Nat)} {pos : Pos} {a : E} {t : Tg} {it : It} {c : Oe} {os : List Nat} (A : At X Z W) (hi : SI X Z W tg iter it) (ok : BlkOk X.N X.env.scope scope own) (hos : own.map (·.2) = os)
    (hg : ∀ (s : Shared) (H : Hp) (C : Addr) (cl : List (Str × Addr)) (fp : List Addr), STg (X.blk s H scope (compEnvC scope cl C X.env) fp) Z tg t)
    (ht : ∀ (s : Shared) (H : Hp) (C : Addr) (cl : List (Str × Addr)) (fp : List Addr), SQ (X.blk s H scope (compEnvC scope cl C X.env) fp) Z W0 ifs c)
    (he : ∀ (s : Shared) (H : Hp) (C : Addr) (cl : List (Str × Addr)) (fp : List Addr), SE (X.blk s H scope (compEnvC scope cl C X.env) fp) Z W0 elt a)
    (nd : os.Nodup) (hsl : ∀ i ∈ t.slots, i ∈ os) (hs : ∀ x, foldedSetIterable iter X.env x = pure x) : SE X Z W (.ListComp elt [⟨tg, iter, ifs, 0⟩] scope pos) (.comp a t it c os) ∧ ST X Z W (.ListComp elt [⟨tg, iter, ifs, 0⟩] scope pos) (.comp a t it c os) := by
  obtain ⟨wi, pi, si⟩ := hi
  have pc := pe_lc (pos := pos) A.calm A.nd pi ok (fun s H C cl fp => (hg s H C cl fp).u) (fun s H C cl fp => (ht s H C cl fp).u) (fun s H C cl fp => (he s H C cl fp).u) hs
  rw [hos] at pc
  exact ⟨⟨_, pc, comp_sem nd hsl si⟩, st_val (pt_val pc) (comp_sem nd hsl si)⟩
end Pw
/-! Pw, part Q: statements. -/
namespace Pw
open PySem PySem.Spec PyProof.Rows L2
def PostS (Z : Zx) (W : WX) (D : Ends) (vs : List V) (ts : List Sl) : SR → Prop
  | .next ρ => ∀ σ' H', Good Z vs ts σ' ρ H' → D.nx σ' H'
  | .brk ρ => ∀ σ' H', Good Z vs ts σ' ρ H' → D.bk σ' H'
  | .cont ρ => ∀ σ' H', Good Z vs ts σ' ρ H' → D.ct σ' H'
  | .ret r ρ => ∀ v σ' H', Good Z (v :: vs) (r :: ts) σ' ρ H' → D.rt v H'
  | .raise C x ρ => ∀ d v σ' H', Good Z [v] [.d x] σ' ρ H' → H' d = some (.xd [(what, v)]) → W (.ref (Z.cls C)) (some d) σ' H'
  | .stuck => False
section
variable {α : Type} {Z : Zx} {W : WX} {D : Ends} {vs : List V} {ts : List Sl} {σ : L2.St}
theorem PostS.st {r : R α} {f : α → Envr → SR} (h : PostS Z W D vs ts (r.st f)) : PostR Z W σ (fun a ρ => PostS Z W D vs ts (f a ρ)) r := by
  cases r with
  | ok a ρ => exact h
  | raise C x ρ => exact fun d v H' g e => h d v σ H' g e
  | stuck => exact h
theorem PostS.opt {o : Option Envr} {f : Envr → SR} (h : PostS Z W D vs ts ((optS o).seq f)) : ∃ ρ, o = some ρ ∧ PostS Z W D vs ts (f ρ) := by
  cases o with
  | none => exact h.elim
  | some x => exact ⟨x, rfl, h⟩
theorem PostS.seq {D' : Ends} {r : SR} {f : Envr → SR} (h : PostS Z W D vs ts (r.seq f)) (hn : ∀ ρ σ' H', PostS Z W D vs ts (f ρ) → Good Z vs ts σ' ρ H' → D'.nx σ' H') (hr : D'.rt = D.rt) (hb : D'.bk = D.bk) (hc : D'.ct = D.ct) : PostS Z W D' vs ts r := by
  cases r with
  | next ρ => exact fun σ' H' g => hn ρ σ' H' h g
  | brk ρ => intro σ' H' g; rw [hb]; exact h σ' H' g
  | cont ρ => intro σ' H' g; rw [hc]; exact h σ' H' g
  | ret r ρ => intro v σ' H' g; rw [hr]; exact h v σ' H' g
  | raise C x ρ => exact h
  | stuck => exact h
end
def SS (X : Cx) (Z : Zx) (W : WX) (s : Stmt) (st : S) : Prop := ∃ t, PS X s t ∧ ∀ (vs : List V) (ts : List Sl) (σ : L2.St) (ρ : Envr) (H : Hp) (D : Ends), (∀ i, Sl.ali i ∉ ts) → Good Z vs ts σ ρ H → PostS Z W D vs ts (ex st ρ) → t D σ H
def SSs (X : Cx) (Z : Zx) (W : WX) (s : List Stmt) (st : Ss) : Prop := ∃ t, PSs X s t ∧ ∀ (vs : List V) (ts : List Sl) (σ : L2.St) (ρ : Envr) (H : Hp) (D : Ends), (∀ i, Sl.ali i ∉ ts) → Good Z vs ts σ ρ H → PostS Z W D vs ts (exs st ρ) → t D σ H
theorem nal_of {ts : List Sl} {os : List Nat} (h : ∀ i, Sl.ali i ∉ ts) : noal os ts := fun i _ => h i
theorem nad {ts : List Sl} {s : Sl} (h : ∀ i, Sl.ali i ∉ ts) (hs : ∀ i, s ≠ .ali i) : ∀ i, Sl.ali i ∉ s :: ts := fun i m => by
  rcases List.mem_cons.mp m with e | m
  · exact hs i e.symm
  · exact h i m
theorem naA {us ts : List Sl} (h : ∀ i, Sl.ali i ∉ us) (h' : ∀ i, Sl.ali i ∉ ts) : ∀ i, Sl.ali i ∉ us ++ ts := fun i m => (List.mem_append.mp m).elim (h i) (h' i)
/-- where a body stands, for its statements -/
structure Body (X : Cx) (Z : Zx) (W : WX) : Prop extends At X Z W where
  passes : PassesOwn (model X.prog X.w) X.A X.env X.xe
  cells : ∀ x, X.env.scope.names.lookup x = some .cell → X.fn x = true
theorem Body.fnOr {X : Cx} {Z : Zx} {W : WX} (B : Body X Z W) {x : Str} (h : Loc X.env.scope x) : X.fn x = true ∨ X.env.scope.names.lookup x = some .local := h.elim .inr fun h => .inl (B.cells x h)
section
variable {X : Cx} {Z : Zx} {W : WX} {x : Expr} {a : E} {pos p : Pos} {s : Stmt} {st : S} {sl : Ss} {ss : List Stmt} (B : Body X Z W)
theorem ss_dead : SS X Z W s .dead := ⟨_, ps_never, fun _ _ _ _ _ _ _ _ h => h⟩
theorem ss_pass : SS X Z W (.Pass pos) .pass := ⟨_, ps_pass, fun vs ts σ ρ H D hn G h => h σ H G⟩
theorem ss_brk : SS X Z W (.Break pos) .brk := ⟨_, ps_break, fun vs ts σ ρ H D hn G h => h σ H G⟩
theorem ss_cont : SS X Z W (.Continue pos) .cont := ⟨_, ps_continue, fun vs ts σ ρ H D hn G h => h σ H G⟩
theorem sss_nil : SSs X Z W [] .nil := ⟨_, pss_nil, fun vs ts σ ρ H D hn G h => h σ H G⟩
theorem sss_cons (h1 : SS X Z W s st) (h2 : SSs X Z W ss sl) : SSs X Z W (s :: ss) (.cons st sl) := by
  obtain ⟨t, p, q⟩ := h1
  obtain ⟨t', p', q'⟩ := h2
  refine ⟨_, pss_cons p p', fun vs ts σ ρ H D hn G h => ?_⟩
  have h : PostS Z W D vs ts ((ex st ρ).seq fun ρ => exs sl ρ) := h
  exact q vs ts σ ρ H _ hn G (h.seq (D' := { D with nx := t' D }) (fun ρ' σ' H' h' G' => q' vs ts σ' ρ' H' D hn G' h') rfl rfl rfl)
theorem ss_exp (he : SE X Z W x a) (hs : swapsWith x none pos.line X.env = pure false) : SS X Z W (.Expr x pos) (.exp a) := by
  obtain ⟨t, p, q⟩ := he
  refine ⟨_, ps_expr p hs, fun vs ts σ ρ H D hn G h => ?_⟩
  have h : PostS Z W D vs ts ((ev a ρ).st fun _ ρ => .next ρ) := h
  exact q vs ts σ ρ H _ (nal_of hn) G (h.st.imp fun s ρ1 h1 v H1 G1 => h1 σ H1 G1.pop)
theorem own_ok {vs : List V} {ts : List Sl} {σ : L2.St} {ρ : Envr} {H : Hp} {v : V} {s : Sl} {P : Sl → Envr → Prop} (G : Good Z (v :: vs) (s :: ts) σ ρ H) (h : PostR Z W σ P (ownR s ρ)) : ∃ s' ρ', Good Z (v :: vs) (s' :: ts) σ ρ' H ∧ (∀ i, s' ≠ .ali i) ∧ P s' ρ' := by
  cases s with
  | ali i =>
    obtain ⟨x, ρ', e, h⟩ := PostR.fzR (s := .ali i) h
    exact ⟨_, _, G.fz e, fun j z => (nomatch z), h⟩
  | d x => exact ⟨_, _, G, fun j z => (nomatch z), h⟩
  | ol z xs => exact ⟨_, _, G, fun j z => (nomatch z), h⟩
  | od z t kvs => exact ⟨_, _, G, fun j z => (nomatch z), h⟩
  | oi z C fs => exact ⟨_, _, G, fun j z => (nomatch z), h⟩
  | raw u => exact ⟨_, _, G, fun j z => (nomatch z), h⟩
  | scr u => exact ⟨_, _, G, fun j z => (nomatch z), h⟩
theorem setS_ok {D : Ends} {vs : List V} {ts : List Sl} {ρ : Envr} {i : Nat} {s : Sl} (h : PostS Z W D vs ts (setS i s ρ)) : i < ρ.length ∧ ∀ σ' H', Good Z vs ts σ' (ρ.set i (some s)) H' → D.nx σ' H' := by
  unfold setS at h
  split at h
  · rename_i hi; exact ⟨hi, h⟩
  · exact h.elim
theorem Good.len {vs : List V} {ts : List Sl} {σ : L2.St} {ρ : Envr} {H : Hp} (G : Good Z vs ts σ ρ H) : ρ.length = σ.length := let ⟨_, _, g⟩ := G; g.len
theorem Good.bind {vs : List V} {ts : List Sl} {σ : L2.St} {ρ : Envr} {H : Hp} {v : V} {s : Sl} {i : Nat} (G : Good Z (v :: vs) (s :: ts) σ ρ H) (hi : i < ρ.length) (hs : ∀ j, s ≠ .ali j) (ha : Sl.ali i ∉ ts) : Good Z vs ts (σ.set i (some v)) (ρ.set i (some s)) H := by
  have l := G.len
  obtain ⟨S, O, g⟩ := G
  exact ⟨_, _, g.bind (by omega) hs ha⟩
theorem asg_sem {te : TE} {i : Nat} (q : ∀ (vs : List V) (ts : List Sl) (σ : L2.St) (ρ : Envr) (H : Hp) (Q : VK), noal a.own ts → Good Z vs ts σ ρ H →
    PostR Z W σ (fun s ρ' => ∀ v H', Good Z (v :: vs) (s :: ts) σ ρ' H' → Q v H') (ev a ρ) → te σ H Q) :
    ∀ (vs : List V) (ts : List Sl) (σ : L2.St) (ρ : Envr) (H : Hp) (D : Ends), (∀ i, Sl.ali i ∉ ts) → Good Z vs ts σ ρ H → PostS Z W D vs ts (ex (.asg i a) ρ) → tAsg te (gName i) D σ H := fun vs ts σ ρ H D hn G h => by
  have h : PostS Z W D vs ts ((ev a ρ).st fun s ρ => (ownR s ρ).st fun s ρ => setS i s ρ) := h
  refine q vs ts σ ρ H _ (nal_of hn) G (h.st.imp fun s ρ1 h1 v H1 G1 => ?_)
  obtain ⟨s', ρ2, G2, n2, h2⟩ := own_ok G1 h1.st
  obtain ⟨hi, h3⟩ := setS_ok h2
  exact h3 _ _ (G2.bind hi n2 (hn i))
include B in
theorem ss_asg {i : Nat} {n : Str} {pos' : Pos} (hi : X.N[i]? = some n) (hl : Loc X.env.scope n) (he : SE X Z W x a) (hs : swapsWith x (some (.Name n pos')) pos.line X.env = pure false) : SS X Z W (.Assign [.Name n pos'] x pos) (.asg i a) := by
  obtain ⟨t, p, q⟩ := he
  exact ⟨_, ps_set B.nd hi hl p hs (B.fnOr hl), asg_sem q⟩
include B in
theorem ss_asgLc {elt tg iter : Expr} {ifs : List Expr} {scope : Scope} {own : List (Str × Nat)} {spos : Pos} {t : Tg} {it : It} {c : Oe} {os : List Nat} {i : Nat} {n : Str} {pos' : Pos} (hi : SI X Z W tg iter it) (ok : BlkOk X.N X.env.scope scope own) (hos : own.map (·.2) = os)
    (hg : ∀ (s : Shared) (H : Hp) (C : Addr) (cl : List (Str × Addr)) (fp : List Addr), STg (X.blk s H scope (compEnvC scope cl C X.env) fp) Z tg t)
    (ht : ∀ (s : Shared) (H : Hp) (C : Addr) (cl : List (Str × Addr)) (fp : List Addr), SQ (X.blk s H scope (compEnvC scope cl C X.env) fp) Z W0 ifs c)
    (he : ∀ (s : Shared) (H : Hp) (C : Addr) (cl : List (Str × Addr)) (fp : List Addr), SE (X.blk s H scope (compEnvC scope cl C X.env) fp) Z W0 elt a)
    (nd : os.Nodup) (hsl : ∀ i ∈ t.slots, i ∈ os) (hs : ∀ x, foldedSetIterable iter X.env x = pure x) (hN : X.N[i]? = some n) (hl : X.env.scope.names.lookup n = some .local) (hsw : swapsWith (.ListComp elt [⟨tg, iter, ifs, 0⟩] scope pos) (some (.Name n pos')) spos.line X.env = pure true) :
    SS X Z W (.Assign [.Name n pos'] (.ListComp elt [⟨tg, iter, ifs, 0⟩] scope pos) spos) (.asg i (.comp a t it c os)) := by
  obtain ⟨wi, pi, si⟩ := hi
  have pc := ps_setLc (i := i) B.calm B.nd hN hl hsw pi ok (fun s H C cl fp => (hg s H C cl fp).u) (fun s H C cl fp => (ht s H C cl fp).u) (fun s H C cl fp => (he s H C cl fp).u) hs
  rw [hos] at pc
  exact ⟨_, pc, asg_sem (comp_sem nd hsl si)⟩
theorem ss_unp {tg : Expr} {t : Tg} (he : SE X Z W x a) (hg : STg X Z tg t) (hs : swapsWithSole [tg] x pos.line X.env = pure false) (hw : swappedStores [tg] x X.env = pure none) (h1 : (assignEach [tg] X.env).map (·.2) = [assign tg X.env]) :
    SS X Z W (.Assign [tg] x pos) (.unp t a) := by
  obtain ⟨te, p, q⟩ := he
  obtain ⟨g, pg, qg⟩ := hg
  refine ⟨_, ps_asg p pg hs hw h1, fun vs ts σ ρ H D hn G h => ?_⟩
  have h : PostS Z W D vs ts ((ev a ρ).st fun s ρ => (fzD s ρ).st fun d ρ => optS (bindT t d ρ)) := h
  refine q vs ts σ ρ H _ (nal_of hn) G (h.st.imp fun s ρ1 h1 v H1 G1 => ?_)
  obtain ⟨d, ρ2, e, h2⟩ := (h1.st (σ := σ)).fzD
  obtain ⟨S, O, g⟩ := G1.fz e
  have h3 : ∃ ρ3, bindT t d ρ2 = some ρ3 ∧ ∀ σ' H', Good Z vs ts σ' ρ3 H' → D.nx σ' H' := by
    cases eb : bindT t d ρ2 with
    | none => rw [eb] at h2; exact h2.elim
    | some ρ3 => rw [eb] at h2; exact ⟨ρ3, rfl, h2⟩
  obtain ⟨ρ3, eb, h3⟩ := h3
  exact qg S O vs ts σ ρ2 H1 v d _ ρ3 (nal_of hn) g.pop g.tmp.1 eb fun σ' O' _ G' => h3 σ' H1 ⟨_, _, G'⟩
/-! several names at once -/
def setsV : List Nat → List V → L2.St → L2.St
  | i :: is, v :: vs, σ => setsV is vs (σ.set i (some v))
  | _, _, σ => σ
def setsE : List Nat → List Sl → Envr → Envr
  | i :: is, s :: ss, ρ => setsE is ss (ρ.set i (some s))
  | _, _, ρ => ρ
theorem setsV_comm : ∀ {is : List Nat} {ws : List V} {σ : L2.St} {i : Nat} {v : Option V}, i ∉ is → setsV is ws (σ.set i v) = (setsV is ws σ).set i v
  | [], _, _, _, _, _ => rfl
  | _ :: _, [], _, _, _, _ => rfl
  | j :: is, w :: ws, σ, i, v, h => by
    show setsV is ws ((σ.set i v).set j (some w)) = _
    rw [List.set_comm v _ (fun e => h (by simp [e]))]
    exact setsV_comm (fun m => h (List.mem_cons_of_mem _ m))
theorem setsE_comm : ∀ {is : List Nat} {ws : List Sl} {σ : Envr} {i : Nat} {v : Option Sl}, i ∉ is → setsE is ws (σ.set i v) = (setsE is ws σ).set i v
  | [], _, _, _, _, _ => rfl
  | _ :: _, [], _, _, _, _ => rfl
  | j :: is, w :: ws, σ, i, v, h => by
    show setsE is ws ((σ.set i v).set j (some w)) = _
    rw [List.set_comm v _ (fun e => h (by simp [e]))]
    exact setsE_comm (fun m => h (List.mem_cons_of_mem _ m))
theorem setsE_len : ∀ {is : List Nat} {ss : List Sl} {ρ : Envr}, (setsE is ss ρ).length = ρ.length
  | [], _, _ => rfl
  | _ :: _, [], _ => rfl
  | i :: is, s :: ss, ρ => by
    show (setsE is ss (ρ.set i (some s))).length = _
    rw [setsE_len, List.length_set]
theorem binds_ok : ∀ {is : List Nat} {ws : List V} {ss : List Sl} {vs : List V} {ts : List Sl} {σ : L2.St} {ρ : Envr} {H : Hp}, is.Nodup → is.length = ws.length → ws.length = ss.length → (∀ i ∈ is, i < ρ.length) → (∀ i, Sl.ali i ∉ ss) → (∀ i, Sl.ali i ∉ ts) →
    Good Z (ws.reverse ++ vs) (ss.reverse ++ ts) σ ρ H → Good Z vs ts (setsV is ws σ) (setsE is ss ρ) H
  | [], [], [], vs, ts, σ, ρ, H, _, _, _, _, _, _, G => by simpa [setsV, setsE] using G
  | i :: is, w :: ws, s :: ss, vs, ts, σ, ρ, H, nd, l1, l2, hi, h1, h2, G => by
    obtain ⟨n1, n2⟩ := List.nodup_cons.mp nd
    have hs : ∀ j, s ≠ .ali j := fun j e => h1 j (by simp [e])
    have g1 : Good Z (w :: vs) (s :: ts) (setsV is ws σ) (setsE is ss ρ) H := binds_ok n2 (by simpa using l1) (by simpa using l2) (fun j m => hi j (List.mem_cons_of_mem _ m)) (fun j m => h1 j (List.mem_cons_of_mem _ m)) (nad h2 hs) (by simpa using G)
    have g2 := g1.bind (i := i) (by rw [setsE_len]; exact hi i List.mem_cons_self) hs (h2 i)
    rw [← setsV_comm n1, ← setsE_comm n1] at g2
    exact g2
theorem setsS_ok {D : Ends} {vs : List V} {ts : List Sl} : ∀ {is : List Nat} {ss : List Sl} {ρ : Envr}, PostS Z W D vs ts (setsS is ss ρ) → is.length = ss.length ∧ (∀ i ∈ is, i < ρ.length) ∧ ∀ σ' H', Good Z vs ts σ' (setsE is ss ρ) H' → D.nx σ' H'
  | [], [], ρ, h => ⟨rfl, fun i m => (nomatch m), h⟩
  | [], _ :: _, ρ, h => h.elim
  | _ :: _, [], ρ, h => h.elim
  | i :: is, s :: ss, ρ, h => by
    have h : PostS Z W D vs ts ((setS i s ρ).seq fun ρ => setsS is ss ρ) := h
    unfold setS at h
    split at h
    · rename_i hi
      obtain ⟨l, b, k⟩ := setsS_ok (is := is) (ss := ss) h
      refine ⟨by simp [l], fun j m => ?_, k⟩
      rcases List.mem_cons.mp m with e | m
      · subst e; exact hi
      · have := b j m; rw [List.length_set] at this; exact this
    · exact h.elim
theorem evW_na : ∀ {es : Es} {ρ ρ' : Envr} {ss : List Sl}, evW es ρ = .ok ss ρ' → ∀ i, Sl.ali i ∉ ss
  | .nil, ρ, ρ', ss, h, i => by cases h; exact fun m => nomatch m
  | .cons e es, ρ, ρ', ss, h, i => by
    have h : ((ev e ρ).bind fun s ρ => (ownR s ρ).bind fun s ρ => (evW es ρ).bind fun ss ρ => .ok (s :: ss) ρ) = R.ok ss ρ' := h
    cases e1 : ev e ρ with
    | raise C x ρ1 => rw [e1] at h; cases h
    | stuck => rw [e1] at h; cases h
    | ok s ρ1 =>
      rw [e1] at h
      have h : ((ownR s ρ1).bind fun s ρ => (evW es ρ).bind fun ss ρ => .ok (s :: ss) ρ) = R.ok ss ρ' := h
      cases e2 : ownR s ρ1 with
      | raise C x ρ1 => rw [e2] at h; cases h
      | stuck => rw [e2] at h; cases h
      | ok s2 ρ2 =>
        rw [e2] at h
        have h : ((evW es ρ2).bind fun ss ρ => .ok (s2 :: ss) ρ) = R.ok ss ρ' := h
        cases e3 : evW es ρ2 with
        | raise C x ρ1 => rw [e3] at h; cases h
        | stuck => rw [e3] at h; cases h
        | ok ss3 ρ3 =>
          rw [e3] at h
          cases h
          intro m
          rcases List.mem_cons.mp m with e | m
          · subst e
            cases s with
            | ali j =>
              have e2 : fzR (.ali j) ρ1 = .ok (.ali i) ρ2 := e2
              unfold fzR at e2
              split at e2 <;> cases e2
            | _ => cases e2
          · exact evW_na e3 i m
theorem st_own {S' : Type} {r : R S'} {P P' : S' → Envr → Prop} {σ : L2.St} (h : PostR Z W σ P r) (i : ∀ a ρ, r = .ok a ρ → P a ρ → P' a ρ) : PostR Z W σ P' r := by
  cases r with
  | ok a ρ => exact i a ρ rfl h
  | raise C x ρ => exact h
  | stuck => exact h
theorem par_sem {t : TA} {es : Es} {is : List Nat} {K : Ends → L2.St → List V → Hp → Prop} (nd : is.Nodup)
    (q : ∀ (vs : List V) (ts : List Sl) (σ : L2.St) (ρ : Envr) (H : Hp) (Q : List V → Hp → Prop), noal es.own ts → Good Z vs ts σ ρ H →
      PostR Z W σ (fun ss ρ' => ∀ ws H', ws.length = ss.length → Good Z (ws.reverse ++ vs) (ss.reverse ++ ts) σ ρ' H' → Q ws H') (evW es ρ) → t σ H Q)
    (hK : ∀ D σ ws H1, is.length = ws.length → (∀ H2, (H2 = H1 ∨ ∃ p, H1 p = none ∧ H2 = upd H1 p (.tup ws)) → D.nx (setsV is ws σ) H2) → K D σ ws H1) :
    ∀ (vs : List V) (ts : List Sl) (σ : L2.St) (ρ : Envr) (H : Hp) (D : Ends), (∀ i, Sl.ali i ∉ ts) → Good Z vs ts σ ρ H → PostS Z W D vs ts (ex (.par is es) ρ) → t σ H (K D σ) := fun vs ts σ ρ H D hn G h => by
  have h : PostS Z W D vs ts ((evW es ρ).st fun ss ρ => setsS is ss ρ) := h
  refine q vs ts σ ρ H _ (nal_of hn) G (st_own h.st fun ss ρ1 e1 h1 ws H1 l G1 => ?_)
  obtain ⟨l1, b1, k⟩ := setsS_ok h1
  have g2 := binds_ok nd (by rw [l1, l]) l b1 (evW_na e1) hn G1
  refine hK D σ ws H1 (by rw [l1, l]) fun H2 h2 => ?_
  rcases h2 with e | ⟨p, n, e⟩
  · subst e; exact k _ _ g2
  · subst e
    obtain ⟨S, O, g⟩ := g2
    exact k _ _ ⟨_, _, g.grow n⟩
include B in
theorem ss_par2 {i j : Nat} {n1 n2 : Str} {a b : Expr} {es : Es} {px py pt : Pos} {kt k2 : Nat} {pt2 : Pos} (hi : X.N[i]? = some n1) (hj : X.N[j]? = some n2) (hij : i ≠ j) (hx : X.env.scope.names.lookup n1 = some .local) (hy : X.env.scope.names.lookup n2 = some .local)
    (ha : SLs X Z W (evW es) [a, b] es) (hw : swappedStores [.Tuple [.Name n1 px, .Name n2 py] kt pt] (.Tuple [a, b] k2 pt2) X.env = pure (some [n1, n2]))
    (hs : swapsWithSole [.Tuple [.Name n1 px, .Name n2 py] kt pt] (.Tuple [a, b] k2 pt2) pos.line X.env = pure false) : SS X Z W (.Assign [.Tuple [.Name n1 px, .Name n2 py] kt pt] (.Tuple [a, b] k2 pt2) pos) (.par [i, j] es) := by
  obtain ⟨t, pa, q⟩ := ha
  refine ⟨_, ps_par B.calm B.nd hi hj hij hx hy pa hw hs, par_sem (t := t) (by simp [hij]) q fun D σ ws H1 l h => ?_⟩
  match ws, l with
  | [v, w], _ => exact ⟨v, w, rfl, h _ (.inl rfl)⟩
include B in
theorem ss_par3 {i j l : Nat} {n1 n2 n3 : Str} {a b c : Expr} {es : Es} {px py pz pt : Pos} {kt k2 : Nat} {pt2 : Pos} (hi : X.N[i]? = some n1) (hj : X.N[j]? = some n2) (hk : X.N[l]? = some n3) (hij : i ≠ j) (hil : i ≠ l) (hjl : j ≠ l)
    (hx : X.env.scope.names.lookup n1 = some .local) (hy : X.env.scope.names.lookup n2 = some .local) (hz : X.env.scope.names.lookup n3 = some .local)
    (ha : SLs X Z W (evW es) [a, b, c] es) (hw : swappedStores [.Tuple [.Name n1 px, .Name n2 py, .Name n3 pz] kt pt] (.Tuple [a, b, c] k2 pt2) X.env = pure (some [n1, n2, n3]))
    (hs : swapsWithSole [.Tuple [.Name n1 px, .Name n2 py, .Name n3 pz] kt pt] (.Tuple [a, b, c] k2 pt2) pos.line X.env = pure false) : SS X Z W (.Assign [.Tuple [.Name n1 px, .Name n2 py, .Name n3 pz] kt pt] (.Tuple [a, b, c] k2 pt2) pos) (.par [i, j, l] es) := by
  obtain ⟨t, pa, q⟩ := ha
  refine ⟨_, ps_par3 B.calm B.nd hi hj hk hij hil hjl hx hy hz pa hw hs, par_sem (t := t) (by simp [hij, hil, hjl]) q fun D σ ws H1 l h => ?_⟩
  match ws, l with
  | [v, w, u], _ => exact ⟨v, w, u, rfl, h _ (.inl rfl)⟩
def gNames : List Nat → TGs
  | [] => gNil
  | i :: is => gCons (gName i) (gNames is)
theorem gNames_ok : ∀ {is : List Nat} {ws : List V} {σ : L2.St} {H : Hp} {Q : L2.St → Hp → Prop}, is.length = ws.length → Q (setsV is ws σ) H → gNames is ws σ H Q
  | [], [], σ, H, Q, _, h => ⟨rfl, h⟩
  | i :: is, w :: ws, σ, H, Q, l, h => ⟨w, ws, rfl, gNames_ok (is := is) (by simpa using l) h⟩
/-- the names of a tuple of targets, with their places -/
inductive Nms (X : Cx) : List Expr → List Nat → Prop
  | nil : Nms X [] []
  | cons {n : Str} {p : Pos} {i : Nat} {es : List Expr} {is : List Nat} : X.N[i]? = some n → Loc X.env.scope n → Nms X es is → Nms X (.Name n p :: es) (i :: is)
include B in
theorem Nms.pgs : ∀ {es : List Expr} {is : List Nat}, Nms X es is → PGs X es (gNames is)
  | _, _, .nil => pgs_nil
  | _, _, .cons h1 h2 t => pgs_cons (pg_name B.nd h1 h2 (B.fnOr h2)) (Nms.pgs t) rfl
theorem Nms.len : ∀ {es : List Expr} {is : List Nat}, Nms X es is → (assignEach es X.env).length = is.length
  | _, _, .nil => rfl
  | _, _, .cons h1 h2 t => congrArg (· + 1) (Nms.len t)
theorem Nms.star : ∀ {es : List Expr} {is : List Nat}, Nms X es is → ∀ p ∈ assignEach es X.env, p.1 = false
  | _, _, .nil => fun p m => nomatch m
  | _, _, .cons (n := n) (p := pp) (es := es) h1 h2 t => fun p m => by
    have e : assignEach (.Name n pp :: es) X.env = (false, assign (.Name n pp) X.env) :: assignEach es X.env := rfl
    rw [e] at m
    rcases List.mem_cons.mp m with e | m
    · subst e; rfl
    · exact Nms.star t p m
include B in
theorem ss_parT {tgs xs : List Expr} {es : Es} {is : List Nat} {pt pt2 : Pos} {kt k2 : Nat} (hn : Nms X tgs is) (nd : is.Nodup) (hz : is.length ≤ sizeLine) (ha : SLs X Z W (evW es) xs es)
    (hw : swappedStores [.Tuple tgs kt pt] (.Tuple xs k2 pt2) X.env = pure none)
    (hs : swapsWithSole [.Tuple tgs kt pt] (.Tuple xs k2 pt2) pos.line X.env = pure false) (h1 : (assignEach [.Tuple tgs kt pt] X.env).map (·.2) = [assign (.Tuple tgs kt pt) X.env]) : SS X Z W (.Assign [.Tuple tgs kt pt] (.Tuple xs k2 pt2) pos) (.par is es) := by
  obtain ⟨t, pa, q⟩ := ha
  have pg := pg_tup (pos := pt) (k := kt) B.calm (hn.pgs B) hn.len (by rw [List.findIdx?_eq_none_iff]; exact hn.star)
  refine ⟨_, ps_asg (pe_tup pa) pg hs hw h1, fun vs ts σ ρ H D hna G h => ?_⟩
  refine par_sem (t := t) (K := fun D σ ws H1 => ws.length ≤ sizeLine ∧ ∀ q, H1 q = none → gTup X.K is.length (gNames is) (.ref q) σ (upd H1 q (.tup ws)) D.nx) nd q (fun D σ ws H1 l h => ⟨by omega, fun q n => ⟨q, ws, rfl, SqT.of upd_same, l.symm, gNames_ok l (h _ (.inr ⟨q, n, rfl⟩))⟩⟩) vs ts σ ρ H D hna G h
/-! a cell of a list -/
theorem PostS.grd {D : Ends} {vs : List V} {ts : List Sl} {b : Bool} {r : SR} (h : PostS Z W D vs ts (grdS b r)) : b = true ∧ PostS Z W D vs ts r := by
  unfold grdS at h
  split at h
  · rename_i e; exact ⟨e, h⟩
  · exact h.elim
theorem isOl_some {ρ : Envr} {i : Nat} (g0 : isOl ρ i = true) : ∃ z xs, ρ[i]? = some (some (.ol z xs)) := by
  unfold isOl at g0
  split at g0
  · rename_i z xs0 q; exact ⟨z, xs0, q⟩
  · cases g0
theorem sub_ok {D : Ends} {vs us : List V} {ts qs : List Sl} {σ : L2.St} {ρ : Envr} {H S : Hp} {O : OM} {i : Nat} {k d : Pw.D} {v kv dv : V} {f : Envr → SR} {Q : Hp → Prop} (hσ : σ[i]? = some (some v)) (G : GoodX Z S O us qs σ ρ H) (rk : Rp Z.K S kv k) (rd : Rp Z.K S dv d)
    (h : PostS Z W D vs ts ((setSub i k d ρ).seq f)) (hQ : ∀ ρ' H' O', GoodX Z S O' us qs σ ρ' H' → PostS Z W D vs ts (f ρ') → Q H') : rSetL v kv dv H Q := by
  unfold setSub at h
  split at h
  · rename_i z xs e
    obtain ⟨v', hσ', q, ev, oq, ⟨l, us, hq, ra⟩, zq⟩ := G.env i _ e
    rw [hσ] at hσ'; cases hσ'
    subst ev
    split at h
    · rename_i j
      split at h
      · rename_i n en
        cases rk
        refine ⟨q, us, j, n, rfl, rfl, hq, by rw [ra.length]; exact en, ?_⟩
        exact hQ _ _ _ (G.wr (sl := .ol z (xs.set n d)) (o := .lst (us.set n dv)) hσ oq ⟨_, hq⟩ ⟨q, rfl, oq, ⟨by rw [List.length_set]; exact l, _, upd_same, ra.set rd n⟩, zq⟩) h
      · exact h.elim
    · exact h.elim
  · exact h.elim
theorem seq_next {r : SR} : r.seq .next = r := by cases r <;> rfl
theorem ss_sub {i : Nat} {n : Str} {y : Expr} {b : E} {p2 p3 : Pos} (hN : X.N[i]? = some n) (hv : Vis X.env.scope n) (hd : (n == ("__debug__" : Str)) = false) (hcd : (n == ("__classdict__" : Str)) = false) (hk : SE X Z W y b) (he : SE X Z W x a)
    (hs : swapsWithSole [.Subscript (.Name n p2) y p3] x pos.line X.env = pure false) (hw : swappedStores [.Subscript (.Name n p2) y p3] x X.env = pure none)
    (h1 : (assignEach [.Subscript (.Name n p2) y p3] X.env).map (·.2) = [assign (.Subscript (.Name n p2) y p3) X.env])
    (ha : ∀ v, assign (.Subscript (.Name n p2) y p3) X.env v = (do
      let ov ← holding [v] (eval (.Name n p2) X.env)
      let iv ← holding [v, ov] (eval y X.env)
      standAt p3
      holding [v, ov, iv] (setItem ov iv v)
      release [v, ov, iv] [])) : SS X Z W (.Assign [.Subscript (.Name n p2) y p3] x pos) (.sub i b a) := by
  obtain ⟨te, p, q⟩ := he
  obtain ⟨tk, pk, qk⟩ := hk
  refine ⟨_, ps_asg p (pg_sub (pe_var hN hv hd hcd) pk set_list ha) hs hw h1, fun vs ts σ ρ H D hn G h => ?_⟩
  have h : PostS Z W D vs ts ((ev a ρ).st fun s ρ => (fzD s ρ).st fun d ρ => grdS (isOl ρ i) ((ev b ρ).st fun u ρ => (fzD u ρ).st fun j ρ => setSub i j d ρ)) := h
  refine q vs ts σ ρ H _ (nal_of hn) G (h.st.imp fun s ρ1 h1 v H1 G1 => ?_)
  obtain ⟨d, ρ2, e, h2⟩ := (h1.st (σ := σ)).fzD
  have G2 := G1.fz e
  have hn2 : ∀ i, Sl.ali i ∉ Sl.d d :: ts := nad hn fun j z => nomatch z
  obtain ⟨g0, h3⟩ := h2.grd
  obtain ⟨z, xs0, e0⟩ := isOl_some g0
  obtain ⟨S, O, g⟩ := id G2
  obtain ⟨v0, hσ, _⟩ := g.env i _ e0
  refine ⟨v0, hσ, qk (v :: vs) (.d d :: ts) σ ρ2 H1 _ (nal_of hn2) G2 (h3.st.imp fun u ρ3 h4 kv H2 G3 => ?_)⟩
  obtain ⟨j, ρ4, e4, h5⟩ := (h4.st (σ := σ)).fzD
  obtain ⟨S4, O4, g4⟩ := G3.fz e4
  have h5 : PostS Z W D vs ts ((setSub i j d ρ4).seq .next) := by rw [seq_next]; exact h5
  exact sub_ok hσ g4.pop.pop g4.tmp.1 g4.tmp.2.1 h5 fun ρ' H' O' g5 h6 => h6 σ H' ⟨_, _, g5⟩
theorem ss_unpSub {i j : Nat} {n m : Str} {y : Expr} {b : E} {p2 p3 p4 pt : Pos} {kt : Nat} (B : Body X Z W) (hN : X.N[i]? = some n) (hv : Vis X.env.scope n) (hd : (n == ("__debug__" : Str)) = false) (hcd : (n == ("__classdict__" : Str)) = false) (hM : X.N[j]? = some m) (hl : Loc X.env.scope m) (hk : SE X Z W y b) (he : SE X Z W x a)
    (hs : swapsWithSole [.Tuple [.Subscript (.Name n p2) y p3, .Name m p4] kt pt] x pos.line X.env = pure false) (hw : swappedStores [.Tuple [.Subscript (.Name n p2) y p3, .Name m p4] kt pt] x X.env = pure none)
    (ha : ∀ v, assign (.Subscript (.Name n p2) y p3) X.env v = (do
      let ov ← holding [v] (eval (.Name n p2) X.env)
      let iv ← holding [v, ov] (eval y X.env)
      standAt p3
      holding [v, ov, iv] (setItem ov iv v)
      release [v, ov, iv] [])) : SS X Z W (.Assign [.Tuple [.Subscript (.Name n p2) y p3, .Name m p4] kt pt] x pos) (.unpSub i b j a) := by
  obtain ⟨te, p, q⟩ := he
  obtain ⟨tk, pk, qk⟩ := hk
  have pg := pg_tup (pos := pt) (k := kt) B.calm (pgs_cons (pg_sub (pe_var (pos := p2) hN hv hd hcd) pk set_list ha) (pgs_cons (pg_name (pos := p4) B.nd hM hl (B.fnOr hl)) pgs_nil)) (n := 2)
  refine ⟨_, ps_asg p pg hs hw rfl, fun vs ts σ ρ H D hn G h => ?_⟩
  have h : PostS Z W D vs ts ((ev a ρ).st fun s ρ => (fzD s ρ).st fun d ρ => match d with
      | .tuple [a, b'] => grdS (isOl ρ i) ((ev b ρ).st fun u ρ => (fzD u ρ).st fun n ρ => (setSub i n a ρ).seq fun ρ => setS j (.d b') ρ)
      | _ => .stuck) := h
  refine q vs ts σ ρ H _ (nal_of hn) G (h.st.imp fun s ρ1 h1 v H1 G1 => ?_)
  obtain ⟨d, ρ2, e, h2⟩ := (h1.st (σ := σ)).fzD
  obtain ⟨S, O, g⟩ := G1.fz e
  split at h2
  · rename_i d1 d2
    obtain ⟨g0, h3⟩ := h2.grd
    obtain ⟨z, xs0, e0⟩ := isOl_some g0
    obtain ⟨v0, hσ, _⟩ := g.env i _ e0
    have r : Rp Z.K S v (.tuple [d1, d2]) := g.tmp.1
    cases r with
    | tup c1 c2 c3 =>
      cases c3 with
      | cons r1 c4 =>
        cases c4 with
        | cons r2 c5 =>
          cases c5
          refine ⟨_, _, rfl, by rw [B.K]; exact g.le.sqT c1, rfl, _, _, rfl, ?_⟩
          have hn2 : ∀ i, Sl.ali i ∉ Sl.d d2 :: .d d1 :: ts := nad (nad hn fun j z => nomatch z) fun j z => nomatch z
          refine ⟨v0, hσ, qk _ (.d d2 :: .d d1 :: ts) σ ρ2 H1 _ (nal_of hn2) ⟨_, _, (g.pop.pushD r1).pushD r2⟩ (h3.st.imp fun u ρ3 h4 kv H2 G3 => ?_)⟩
          obtain ⟨k, ρ4, e4, h5⟩ := (h4.st (σ := σ)).fzD
          obtain ⟨S4, O4, g4⟩ := G3.fz e4
          have r4 : Rp Z.K S4 _ d2 := g4.tmp.2.1
          refine sub_ok hσ g4.pop.pop g4.tmp.1 g4.tmp.2.2.1 h5 fun ρ' H' O' g5 h6 => ?_
          obtain ⟨hj, h7⟩ := setS_ok h6
          exact ⟨_, _, rfl, rfl, h7 _ _ (Good.bind ⟨_, _, g5.pop.pushD r4⟩ hj (fun j z => nomatch z) (hn j))⟩
  · exact h2.elim
/-! if, for, return -/
theorem ss_ifs {c : Expr} {b : E} {p q : List Stmt} {sl2 : Ss} (hc : ST X Z W c b) (hp : SSs X Z W p sl) (hq : SSs X Z W q sl2) : SS X Z W (.If c p q pos) (.ifs b sl sl2) := by
  obtain ⟨tc, pc, qc⟩ := hc
  obtain ⟨t, pp, qp⟩ := hp
  obtain ⟨t', pq, qq⟩ := hq
  refine ⟨_, ps_if pc pp pq, fun vs ts σ ρ H D hn G h => ?_⟩
  have e : ex (.ifs b sl sl2) ρ = ((ev b ρ).bind fun s ρ => testR s ρ).st fun t ρ => if t = true then exs sl ρ else exs sl2 ρ := by
    show ((ev b ρ).st fun s ρ => (testR s ρ).st fun t ρ => if t = true then exs sl ρ else exs sl2 ρ) = _
    cases ev b ρ <;> rfl
  rw [e] at h
  refine qc vs ts σ ρ H _ (nal_of hn) G (h.st.imp fun k ρ1 h1 H1 G1 => ?_)
  cases k with
  | true => exact qp vs ts σ ρ1 H1 D hn G1 h1
  | false => exact qq vs ts σ ρ1 H1 D hn G1 h1
include B in
theorem ss_for {tg iter : Expr} {t : Tg} {it : It} {body : List Stmt} (hi : SI X Z W tg iter it) (hg : STg X Z tg t) (hb : SSs X Z W body sl) (hs : ∀ x, foldedSetIterable iter X.env x = pure x) : SS X Z W (.For tg iter body [] pos) (.for_ t it sl) := by
  obtain ⟨wi, pi, si⟩ := hi
  obtain ⟨g, pg, qg⟩ := hg
  obtain ⟨tb, pb, qb⟩ := hb
  refine ⟨_, ps_for B.passes B.calm pi pg pb hs, fun vs ts σ ρ H D hn G h => ?_⟩
  have h : PostS Z W D vs ts ((evI it ρ).st fun items ρ => loopS (fun d ρ => (optS (bindT t d ρ)).seq fun ρ => exs sl ρ) items ρ) := h
  refine si vs ts σ ρ H _ (nal_of hn) G (h.st.imp fun items ρ1 h1 J hv hs' H1 wk G1 => ?_)
  obtain ⟨Gd, Y, w, hG, hY⟩ := wk.walk
  have hna : ∀ i, Sl.ali i ∉ hs' ++ ts := naA wk.ali hn
  refine for_it w (fun i σ H => ∃ ρi, Good Z (hv ++ vs) (hs' ++ ts) σ ρi H ∧ PostS Z W D vs ts (loopS (fun d ρ => (optS (bindT t d ρ)).seq fun ρ => exs sl ρ) (items.drop i) ρi)) ?_ ?_ ?_ ?_
  · exact ⟨ρ1, G1, h1⟩
  · rintro i σ2 H2 hi ⟨ρi, G2, _⟩
    exact hG _ _ _ _ _ G2
  · rintro i x σ2 H2 H3 hi ⟨ρi, ⟨S, O, g2⟩, h2⟩ y
    obtain ⟨d, ed, one⟩ := hY i x H2 H3 S O _ _ _ _ hi g2 y
    obtain ⟨S3, O3, g3⟩ := one.push g2
    have e : items.drop i = d :: items.drop (i + 1) := by
      rw [List.drop_eq_getElem_cons hi]
      have := List.getElem?_eq_getElem hi
      rw [ed] at this; cases this; rfl
    rw [e] at h2
    cases eb : bindT t d ρi with
    | none => unfold loopS at h2; rw [eb] at h2; exact h2.elim
    | some ρ2 =>
      refine qg S3 O3 _ _ σ2 ρi H3 x d _ ρ2 (nal_of hna) g3.pop g3.tmp.1 eb fun σ3 O4 _ g4 => ?_
      refine qb _ _ σ3 ρ2 H3 _ hna ⟨_, _, g4⟩ ?_
      have h2 : PostS Z W D vs ts (match (exs sl ρ2) with
          | .next ρ => loopS (fun d ρ => (optS (bindT t d ρ)).seq fun ρ => exs sl ρ) (items.drop (i + 1)) ρ
          | .cont ρ => loopS (fun d ρ => (optS (bindT t d ρ)).seq fun ρ => exs sl ρ) (items.drop (i + 1)) ρ
          | .brk ρ => .next ρ
          | r => r) := by
        unfold loopS at h2
        rw [eb] at h2
        exact h2
      cases ex : exs sl ρ2 with
      | next ρ3 => rw [ex] at h2; exact fun σ' H' G' => ⟨ρ3, G', h2⟩
      | cont ρ3 => rw [ex] at h2; exact fun σ' H' G' => ⟨ρ3, G', h2⟩
      | brk ρ3 => rw [ex] at h2; exact fun σ' H' G' => h2 σ' H' (Good.popN wk.len G')
      | ret r ρ3 => rw [ex] at h2; exact fun v σ' H' G' => h2 v σ' H' (Good.dropN wk.len G')
      | raise C x ρ3 => rw [ex] at h2; exact h2
      | stuck => rw [ex] at h2; exact h2
  · rintro σ2 H2 ⟨ρi, G2, h2⟩
    rw [List.drop_length] at h2
    exact h2 σ2 H2 (Good.popN wk.len G2)
theorem out_ok {vs : List V} {ts : List Sl} {σ : L2.St} {ρ : Envr} {H : Hp} {v : V} {s : Sl} {P : Sl → Envr → Prop} (hn : ∀ i, Sl.ali i ∉ ts) (G : Good Z (v :: vs) (s :: ts) σ ρ H) (h : PostR Z W σ P (outR s ρ)) : ∃ s' ρ', Good Z (v :: vs) (s' :: ts) σ ρ' H ∧ P s' ρ' := by
  cases s with
  | ali i =>
    obtain ⟨S, O, g⟩ := G
    have hv : σ[i]? = some (some v) := g.tmp.1
    have h : PostR Z W σ P (match ρ[i]? with
      | some (some (.ol none xs)) => R.ok (.ol none xs) (ρ.set i none)
      | some (some (.od none t kvs)) => R.ok (.od none t kvs) (ρ.set i none)
      | some (some (.oi none C fs)) => R.ok (.oi none C fs) (ρ.set i none)
      | some (some (.d x)) => R.ok (.d x) ρ
      | _ => .stuck) := h
    have mv : ∀ sl, ρ[i]? = some (some sl) → Good Z (v :: vs) (sl :: ts) σ (ρ.set i none) H := fun sl e => by
      have nsl : ∀ j, sl ≠ .ali j := fun j z => by
        subst z
        obtain ⟨_, _, f⟩ := g.env i _ e
        exact f
      have g2 := (g.pop.save hv e (hn i)).unset (i := i) (some v) (fun m => by
        rcases List.mem_cons.mp m with z | m
        · exact nsl i z.symm
        · exact hn i m)
      have e1 : ((σ.set i none).set i (some v)) = σ := set_back (.inl hv)
      rw [e1, List.set_set] at g2
      exact ⟨_, _, g2⟩
    split at h
    · rename_i xs e; exact ⟨_, _, mv _ e, h⟩
    · rename_i t kvs e; exact ⟨_, _, mv _ e, h⟩
    · rename_i C fs e; exact ⟨_, _, mv _ e, h⟩
    · rename_i x e
      obtain ⟨w, h1, h2⟩ := g.env i _ e
      rw [hv] at h1; cases h1
      exact ⟨_, _, ⟨_, _, g.pop.pushD h2⟩, h⟩
    · exact h.elim
  | d x => exact ⟨_, _, G, h⟩
  | ol z xs => exact ⟨_, _, G, h⟩
  | od z t kvs => exact ⟨_, _, G, h⟩
  | oi z C fs => exact ⟨_, _, G, h⟩
  | raw u => exact ⟨_, _, G, h⟩
  | scr u => exact ⟨_, _, G, h⟩
theorem ss_ret (he : SE X Z W x a) : SS X Z W (.Return (some x) pos) (.ret a) := by
  obtain ⟨t, p, q⟩ := he
  refine ⟨_, ps_ret p, fun vs ts σ ρ H D hn G h => ?_⟩
  have h : PostS Z W D vs ts ((ev a ρ).st fun s ρ => (outR s ρ).st fun s ρ => .ret s ρ) := h
  refine q vs ts σ ρ H _ (nal_of hn) G (h.st.imp fun s ρ1 h1 v H1 G1 => ?_)
  obtain ⟨s', ρ2, G2, h2⟩ := out_ok hn G1 (h1.st (σ := σ))
  exact h2 v σ H1 G2
end
end Pw
namespace Pw
open PySem PySem.Spec PyProof.Rows L2
/-! ### x op= e, while -/
def ipO (C : Int → Int → Prop) (f : Int → Int → Int) : TIp := fun x y H Q => ∃ i j, x = .int i ∧ y = .int j ∧ C i j ∧ Q (.int (f i j)) H
section
variable {X : Cx} {Z : Zx} {W : WX}
theorem pip_of {op : Operator} {C : Int → Int → Prop} {f : Int → Int → Int} (h : ∀ (s : Shared) (Q : Value → Shared → Prop) (i j : Int) (t u : Tok), C i j → Q (.int (f i j) s.toks) { s with toks := s.toks + 1 } → wpAny (model X.prog X.w) X.A (inplaceOp op (.int i t) (.int j u)) Q X.xe s) : PIp X op (ipO C f) := by
  rintro pins s σ H x y v u Q I r r' ⟨i, j, rfl, rfl, c, q⟩
  obtain ⟨t, rfl⟩ := r
  obtain ⟨t', rfl⟩ := r'
  exact h s _ i j t t' c ⟨.int _, H, I.tok _, ⟨_, rfl⟩, q⟩
theorem ipO_is {C : Int → Int → Prop} {f : Int → Int → Int} {g : Int → Int → Option D} (h : ∀ i j d, g i j = some d → C i j ∧ d = .int (f i j)) : Is2 X (ipO C f) (on2I g) :=
  is2I fun i j d H Q e k => by
    obtain ⟨c, rfl⟩ := h i j d e
    exact ⟨i, j, rfl, rfl, c, k _ fun _ _ => .int _⟩
def iopB : Operator → Bool
  | .Add | .Sub | .Mult | .FloorDiv | .Mod => true
  | _ => false
theorem iop_ok : ∀ op : Operator, iopB op = true → ∃ ti, PIp X op ti ∧ Is2 X ti (iopD op)
  | .Add, _ => ⟨_, pip_of (C := fun _ _ => True) (f := fun i j => i + j) fun s Q i j t u _ q => iadd_int q, ipO_is fun i j d e => ⟨trivial, (Option.some.inj e).symm⟩⟩
  | .Sub, _ => ⟨_, pip_of (C := fun _ _ => True) (f := fun i j => i - j) fun s Q i j t u _ q => isub_int q, ipO_is fun i j d e => ⟨trivial, (Option.some.inj e).symm⟩⟩
  | .Mult, _ => ⟨_, pip_of (C := fun i j => mulOk i j = true) (f := fun i j => i * j) fun s Q i j t u c q => imul_int q (mulOk.ok c), ipO_is fun i j d e => by
      split at e
      · rename_i h; exact ⟨h, (Option.some.inj e).symm⟩
      · cases e⟩
  | .FloorDiv, _ => ⟨_, pip_of (C := fun i j => 0 < j ∧ j.natAbs.log2 < 9000) (f := fun i j => i / j) fun s Q i j t u c q => ifloordiv_int (by omega) (by rw [Int.fdiv_eq_ediv_of_nonneg i (by omega)]; exact q) (.inl (PyProof.noPylong_of_log2 c.2)), ipO_is fun i j d e => by
      split at e
      · rename_i h; exact ⟨by simpa [divOk] using h, (Option.some.inj e).symm⟩
      · cases e⟩
  | .Mod, _ => ⟨_, pip_of (C := fun i j => 0 < j) (f := fun i j => i % j) fun s Q i j t u c q => imod_int (by omega) (by rw [Int.fmod_eq_emod_of_nonneg i (by omega)]; exact q), ipO_is fun i j d e => by
      split at e
      · rename_i h; exact ⟨h, (Option.some.inj e).symm⟩
      · cases e⟩
theorem op2_na {f : D → D → Option Rs} {s u : Sl} {σ : L2.St} {ρ : Envr} {P : Sl → Envr → Prop} (h : PostR Z W σ P (op2 f s u ρ)) : PostR Z W σ (fun r ρ => (∀ j, r ≠ .ali j) ∧ P r ρ) (op2 f s u ρ) := by
  unfold op2 at h ⊢
  cases e1 : view ρ s with
  | none => rw [e1] at h; exact h.elim
  | some x =>
    cases e2 : view ρ u with
    | none => rw [e1, e2] at h; exact h.elim
    | some y =>
      rw [e1, e2] at h
      dsimp only at h ⊢
      cases e3 : f x y with
      | none => rw [e3] at h; exact h.elim
      | some rs =>
        rw [e3] at h
        show (∀ j, slOf rs ≠ .ali j) ∧ P (slOf rs) ρ
        exact ⟨fun j => by cases rs <;> (intro z; cases z), h⟩
theorem ss_aug (B : Body X Z W) {x : Expr} {a : E} {i : Nat} {n : Str} {op : Operator} {pos pos' : Pos} (hi : X.N[i]? = some n) (hl : Loc X.env.scope n) (he : SE X Z W x a) (ho : iopB op = true) : SS X Z W (.AugAssign (.Name n pos') op x pos) (.aug i op a) := by
  obtain ⟨te, p, q⟩ := he
  obtain ⟨ti, pi, si⟩ := iop_ok (X := X) op ho
  refine ⟨_, ps_aug B.nd hi hl p pi (B.fnOr hl), fun vs ts σ ρ H D hn G h => ?_⟩
  have h : PostS Z W D vs ts ((varR i ρ).st fun s ρ => grdS (nal a.own s) ((ev a ρ).st fun u ρ => (op2 (iopD op) s u ρ).st fun s ρ => setS i s ρ)) := h
  obtain ⟨v, s, h1, G1, e1, h2⟩ := var_ok G (h.st (σ := σ))
  obtain ⟨g, h2⟩ := h2.grd
  refine ⟨v, h1, q (v :: vs) (s :: ts) σ ρ H _ ((nal_of hn).cons g) G1 (h2.st.imp fun u ρ2 h3 w H2 G2 => ?_)⟩
  refine two_ok B.K si G2 ((op2_na (h3.st (σ := σ))).imp fun r ρ3 ⟨na, h4⟩ z H3 G3 => ?_)
  obtain ⟨hi', h5⟩ := setS_ok h4
  exact h5 _ _ (G3.bind hi' na (hn i))
theorem ss_whl (B : Body X Z W) {x : Expr} {a : E} {body : List Stmt} {sl : Ss} {n : Envr → Nat} {pos : Pos} (hc : ST X Z W x a) (hb : SSs X Z W body sl) : SS X Z W (.While x body [] pos) (.whl n a sl) := by
  obtain ⟨tc, pc, qc⟩ := hc
  obtain ⟨tb, pb, qb⟩ := hb
  refine ⟨_, ps_while B.passes pc pb, fun vs ts σ ρ H D hn G h => ?_⟩
  have h : PostS Z W D vs ts (whileS (fun ρ => (ev a ρ).bind fun s ρ => testR s ρ) (fun ρ => exs sl ρ) (n ρ) ρ) := h
  refine ⟨fun m σ H => ∃ ρ, Good Z vs ts σ ρ H ∧ PostS Z W D vs ts (whileS (fun ρ => (ev a ρ).bind fun s ρ => testR s ρ) (fun ρ => exs sl ρ) m ρ), ⟨n ρ, ρ, G, h⟩, fun m σ1 H1 ⟨ρ1, G1, h1⟩ => ?_⟩
  cases m with
  | zero => exact h1.elim
  | succ m =>
    have h1 : PostS Z W D vs ts (((ev a ρ1).bind fun s ρ => testR s ρ).st fun b ρ => if b = true then match exs sl ρ with
      | .next ρ => whileS (fun ρ => (ev a ρ).bind fun s ρ => testR s ρ) (fun ρ => exs sl ρ) m ρ
      | .cont ρ => whileS (fun ρ => (ev a ρ).bind fun s ρ => testR s ρ) (fun ρ => exs sl ρ) m ρ
      | .brk ρ => .next ρ
      | r => r
    else .next ρ) := h1
    refine qc vs ts σ1 ρ1 H1 _ (nal_of hn) G1 (h1.st.imp fun b ρ2 h2 H2 G2 => ?_)
    cases b with
    | false => exact h2 σ1 H2 G2
    | true =>
      rw [if_pos rfl] at h2
      rw [if_pos rfl]
      refine ⟨fun σ' H' => ∃ ρ, Good Z vs ts σ' ρ H' ∧ PostS Z W D vs ts (whileS (fun ρ => (ev a ρ).bind fun s ρ => testR s ρ) (fun ρ => exs sl ρ) m ρ), fun σ' H' w => ⟨m, Nat.lt_succ_self m, w⟩, ?_⟩
      refine qb vs ts σ1 ρ2 H2 _ hn G2 ?_
      cases e : exs sl ρ2 with
      | next ρ3 => rw [e] at h2; exact fun σ' H' G' => ⟨ρ3, G', h2⟩
      | cont ρ3 => rw [e] at h2; exact fun σ' H' G' => ⟨ρ3, G', h2⟩
      | brk ρ3 => rw [e] at h2; exact fun σ' H' G' => h2 σ' H' G'
      | ret r ρ3 => rw [e] at h2; exact h2
      | raise C x ρ3 => rw [e] at h2; exact h2
      | stuck => rw [e] at h2; exact h2
end
end Pw
/-! Pw, part R: isinstance; methods that leave their object as it is. -/
namespace Pw
open PySem PySem.Spec PyProof.Rows L2
def Ty.nm : Ty → String
  | .lst => "list" | .tup => "tuple" | .str => "str" | .int => "int" | .bool => "bool" | .dict => "dict"
def tyOf : D → String
  | .none => "NoneType"
  | .bool _ => "bool"
  | .int _ => "int"
  | .str _ => "str"
  | .list _ => "list"
  | .tuple _ => "tuple"
  | .dict _ => "dict"
theorem kit_ok (c : Ty) : ∀ d : D, kitB (tyOf d) c.nm = some (tyIs d c)
  | .none => by cases c <;> decide +kernel
  | .bool z => by
    have e : tyIs (.bool z) c = tyIs (.bool true) c := by cases c <;> rfl
    rw [e]
    show kitB "bool" c.nm = _
    clear e
    cases c <;> decide +kernel
  | .int z => by
    have e : tyIs (.int z) c = tyIs (.int (0 : _)) c := by cases c <;> rfl
    rw [e]
    show kitB "int" c.nm = _
    clear e
    cases c <;> decide +kernel
  | .str z => by
    have e : tyIs (.str z) c = tyIs (.str Str.empty) c := by cases c <;> rfl
    rw [e]
    show kitB "str" c.nm = _
    clear e
    cases c <;> decide +kernel
  | .list z => by
    have e : tyIs (.list z) c = tyIs (.list []) c := by cases c <;> rfl
    rw [e]
    show kitB "list" c.nm = _
    clear e
    cases c <;> decide +kernel
  | .tuple z => by
    have e : tyIs (.tuple z) c = tyIs (.tuple []) c := by cases c <;> rfl
    rw [e]
    show kitB "tuple" c.nm = _
    clear e
    cases c <;> decide +kernel
  | .dict z => by
    have e : tyIs (.dict z) c = tyIs (.dict []) c := by cases c <;> rfl
    rw [e]
    show kitB "dict" c.nm = _
    clear e
    cases c <;> decide +kernel
theorem kits_ok {K : PySem.W.Frag} {d : D} : ∀ cs : List Ty, PySem.W.kitAny K (.type (tyOf d)) (cs.map fun c => .type c.nm) = some (cs.any (tyIs d))
  | [] => rfl
  | c :: cs => by
    refine kitAny_cons (kit_ty (kit_ok c d)) (fun h => ?_) fun h => ?_
    · rw [kits_ok cs, List.any_cons, h]; rfl
    · rw [List.any_cons, h]; rfl
theorem Rv.tyx {K : PySem.W.Frag} {S H : Hp} {v : V} {d : D} (r : Rv K S H v d) (l : Le S H) : TyX K H v (.type (tyOf d)) := by
  have r := r.rp l
  cases r with
  | non => exact .base .non
  | bl b => exact .base (.bl b)
  | int i => exact .base (.int i)
  | str z h => exact .base (.str z)
  | lst a b c => exact .base (.lst a)
  | tup a b c =>
    rcases a with (a | ⟨o, a⟩) | ⟨o, its, n, a1, a2, a3⟩
    · exact .base (.tup a)
    · exact .fTuple a
    · exact .kTuple a1 a2
  | dK a b c => exact .base (.dK a)
  | dT a b c => exact .base (.dT a)

theorem Ty.boot : ∀ c : Ty, bootBuiltins c.nm = some (.type c.nm) := by intro c; cases c <;> decide +kernel
theorem Ty.n1 : ∀ c : Ty, (Str.ofString c.nm) ≠ "__name__" := by intro c; cases c <;> decide +kernel
theorem Ty.n2 : ∀ c : Ty, ((Str.ofString c.nm) == ("__debug__" : Str)) = false := by intro c; cases c <;> decide +kernel
section
variable {X : Cx} {Z : Zx} {W : WX} {x y : Expr} {a b c : E} {pos p p2 tp : Pos}
/-- a class as a name -/
def TyN (X : Cx) (e : Expr) (c : Ty) : Prop := PE X e (tC (.ty c.nm))
theorem tyN {c : Ty} {n : Str} (hn : n = Str.ofString c.nm) (hg : Gl X n) (hm : X.mg n = none) : TyN X (.Name n pos) c := by
  subst hn
  exact pe_bltn hg hm c.boot rfl c.n1 c.n2
theorem se_isi {T : Ty} (A : At X Z W) (hm : X.mg "isinstance" = none) (hg : Gl X "isinstance") (ha : SE X Z W x a) (hy : TyN X y T)
    (hs : starEach [x, y] X.env = (false, eval x X.env) :: starEach [y] X.env) (hs2 : starEach [y] X.env = (false, eval y X.env) :: starEach [] X.env) (hpl : (backTo pos (starEach [y] X.env)).any (·.1) = false) :
    SE X Z W (.Call (.Name "isinstance" p) [x, y] [] pos) (.isi a [T]) ∧ ST X Z W (.Call (.Name "isinstance" p) [x, y] [] pos) (.isi a [T]) := by
  obtain ⟨t, pt, s⟩ := ha
  have pc := pe_callB (pos := pos) (p := p) (call_isi (X := X)) hg hm PyProof.Rows.boot_isinstance (pa_cons pt (pa_cons hy pa_nil hs2) hs) (by decide) (by decide) hs hpl
  have hsem : ∀ (vs : List V) (ts : List Sl) (σ : L2.St) (ρ : Envr) (H : Hp) (Q : VK), noal (E.isi a [T]).own ts → Good Z vs ts σ ρ H →
      PostR Z W σ (fun s ρ' => ∀ v H', Good Z (v :: vs) (s :: ts) σ ρ' H' → Q v H') (ev (.isi a [T]) ρ) → tCB (rIsi X.K) (tCons t (tCons (tC (.ty T.nm)) tNil)) σ H Q := fun vs ts σ ρ H Q hn G h => by
    have h : PostR Z W σ _ ((ev a ρ).bind fun s ρ => isiR [T] s ρ) := h
    refine s vs ts σ ρ H _ hn G (h.bind.imp fun u ρ1 h1 v H1 G1 => ?_)
    unfold isiR at h1
    cases e : view ρ1 u with
    | none => rw [e] at h1; exact h1.elim
    | some d =>
      rw [e] at h1
      obtain ⟨S, O, g⟩ := G1
      have r := g.rv g.tmp.1 e
      refine ⟨v, _, _, _, _, rfl, .ty T.nm, by rw [A.K]; exact r.tyx g.le, kit_ty (kit_ok T d), ?_⟩
      have := h1 (.bl (tyIs d T)) H1 ⟨_, _, by
        have e2 : [T].any (tyIs d) = tyIs d T := by simp
        rw [e2]; exact g.pop.pushD (.bl _)⟩
      exact this
  exact ⟨⟨_, pc, hsem⟩, st_val (pt_val pc) hsem⟩
/-- several classes, a tuple of names -/
inductive TyNs (X : Cx) : List Expr → List Ty → TA → Prop
  | nil : TyNs X [] [] tNil
  | cons {e : Expr} {es : List Expr} {c : Ty} {cs : List Ty} {t : TA} : TyN X e c → starEach (e :: es) X.env = (false, eval e X.env) :: starEach es X.env → TyNs X es cs t → TyNs X (e :: es) (c :: cs) (tCons (tC (.ty c.nm)) t)
theorem TyNs.pa : ∀ {es : List Expr} {cs : List Ty} {t : TA}, TyNs X es cs t → PA X es t
  | _, _, _, .nil => pa_nil
  | _, _, _, .cons h1 h2 h3 => pa_cons h1 h3.pa h2
theorem TyNs.run : ∀ {es : List Expr} {cs : List Ty} {t : TA} {σ : L2.St} {H : Hp} {Q : List V → Hp → Prop}, TyNs X es cs t → Q (cs.map fun c => .ty c.nm) H → t σ H Q
  | _, _, _, _, _, _, .nil, h => h
  | _, _, _, σ, H, Q, .cons h1 h2 h3, h => h3.run (Q := fun vs H => Q (_ :: vs) H) h
theorem clss : ∀ cs : List Ty, Paired ClsV (cs.map fun c => V.ty c.nm) (cs.map fun c => Value.type c.nm)
  | [] => .nil
  | c :: cs => .cons (.ty c.nm) (clss cs)
theorem se_isiT {Ts : List Ty} {es : List Expr} {tt : TA} {k : Nat} (A : At X Z W) (hm : X.mg "isinstance" = none) (hg : Gl X "isinstance") (ha : SE X Z W x a) (hy : TyNs X es Ts tt) (hz : Ts.length ≤ sizeLine)
    (hs : starEach [x, .Tuple es k tp] X.env = (false, eval x X.env) :: starEach [.Tuple es k tp] X.env) (hs2 : starEach [.Tuple es k tp] X.env = (false, eval (.Tuple es k tp) X.env) :: starEach [] X.env) (hpl : (backTo pos (starEach [.Tuple es k tp] X.env)).any (·.1) = false) :
    SE X Z W (.Call (.Name "isinstance" p) [x, .Tuple es k tp] [] pos) (.isi a Ts) ∧ ST X Z W (.Call (.Name "isinstance" p) [x, .Tuple es k tp] [] pos) (.isi a Ts) := by
  obtain ⟨t, pt, s⟩ := ha
  have pc := pe_callB (pos := pos) (p := p) (call_isiT (X := X)) hg hm PyProof.Rows.boot_isinstance (pa_cons pt (pa_cons (pe_tup hy.pa) pa_nil hs2) hs) (by decide) (by decide) hs hpl
  have hsem : ∀ (vs : List V) (ts : List Sl) (σ : L2.St) (ρ : Envr) (H : Hp) (Q : VK), noal (E.isi a Ts).own ts → Good Z vs ts σ ρ H →
      PostR Z W σ (fun s ρ' => ∀ v H', Good Z (v :: vs) (s :: ts) σ ρ' H' → Q v H') (ev (.isi a Ts) ρ) → tCB (rIsiT X.K) (tCons t (tCons (tTup tt) tNil)) σ H Q := fun vs ts σ ρ H Q hn G h => by
    have h : PostR Z W σ _ ((ev a ρ).bind fun s ρ => isiR Ts s ρ) := h
    refine s vs ts σ ρ H _ hn G (h.bind.imp fun u ρ1 h1 v H1 G1 => ?_)
    unfold isiR at h1
    cases e : view ρ1 u with
    | none => rw [e] at h1; exact h1.elim
    | some d =>
      rw [e] at h1
      obtain ⟨S, O, g⟩ := G1
      have r := g.rv g.tmp.1 e
      refine hy.run ⟨by rw [List.length_map]; exact hz, fun q nq => ?_⟩
      have ty2 : TyX X.K (upd H1 q (.tup (Ts.map fun c => .ty c.nm))) v (.type (tyOf d)) := by
        rw [A.K]
        have r2 : Rp Z.K (upd H1 q (.tup (Ts.map fun c => .ty c.nm))) v d := Rp.mono (Le.to_upd nq) _ _ (r.rp g.le)
        exact Rv.tyx (.inl r2) Le.refl
      refine ⟨v, q, _, _, _, _, rfl, upd_same, clss Ts, ty2, kits_ok Ts, ?_⟩
      exact h1 (.bl (Ts.any (tyIs d))) _ ⟨_, _, ((g.pop.grow nq).pushD (.bl _))⟩
  exact ⟨⟨_, pc, hsem⟩, st_val (pt_val pc) hsem⟩
/-! methods -/
def Mth.name : Mth → Str
  | .index => "index" | .join => "join"
def Mth.id : Mth → String
  | .index => "list.index" | .join => "str.join"
theorem Mth.slot : ∀ m : Mth, Slot m.ty m.name m.id
  | .index => PySem.F.slot_list_index
  | .join => PySem.F.slot_str_join
theorem Mth.type : ∀ m : Mth, typeOf (.builtin m.id) = pure (.type "method_descriptor")
  | .index => PySem.F.type_list_index
  | .join => PySem.F.type_str_join
theorem Mth.plain : ∀ m : Mth, PlainAttrs m.ty
  | .index => F.plainAttrs_list
  | .join => F.plainAttrs_str
def IsMe (X : Cx) (R : V → List V → Hp → VK → Prop) (m : Mth) : Prop := ∀ (S H : Hp) (v : V) (ws : List V) (x : D) (ds : List D) (Q : VK) (rs : Rs), Le S H → Rv X.K S H v x → RvA X.K S H ws ds → metD m x ds = some rs → OutK X.K S H Q rs → R v ws H Q
theorem met_ok (hu : X.A.units + 80 < cLine) : ∀ m : Mth, ∃ R, MtR X m.id R ∧ IsMe X R m
  | .join => by
    refine ⟨_, mt_join, fun S H v ws x ds Q rs l r ra e k => ?_⟩
    have e : metJ x ds = some rs := e
    unfold metJ at e
    split at e
    · rename_i a d _e
      cases ra with
      | cons r1 rt =>
        cases rt
        unfold joinD at e
        cases q : (seqD d).bind strsD with
        | none => rw [q] at e; cases e
        | some ys =>
          rw [q] at e
          dsimp only at e
          split at e
          · rename_i hc
            cases e
            have k2 : Q (.str (Txt.join a ys)) H := k.of (.str _ hc.2)
            cases d with
            | list xs =>
              obtain ⟨p, us, rfl, hp, r2, hl⟩ := r1.list l
              obtain ⟨e2, _⟩ := strs_rp r2 q
              subst e2
              exact ⟨a, p, ys, r.str.1, rfl, .inl (SqL.of hp), hc.1, k2⟩
            | tuple xs =>
              obtain ⟨p, us, rfl, hp, r2, hl, _⟩ := r1.tup l
              obtain ⟨e2, _⟩ := strs_rp r2 q
              subst e2
              exact ⟨a, p, ys, r.str.1, rfl, .inr hp, hc.1, k2⟩
            | _ => cases q
          · cases e
    · cases e
  | .index => by
    refine ⟨_, mt_indexD (by omega), fun S H v ws x ds Q rs l r ra e k => ?_⟩
    have e : metI x ds = some rs := e
    unfold metI at e
    split at e
    · rename_i xs d _e
      cases ra with
      | cons r1 rt =>
        cases rt
        unfold indexD at e
        split at e
        · rename_i hc
          cases q : xs.findIdx? (fun z => PyData.eqv z d) with
          | none => rw [q] at e; cases e
          | some j =>
            rw [q] at e
            cases e
            obtain ⟨hj, h1, h2⟩ := List.findIdx?_eq_some_iff_getElem.mp q
            have r0 := r.rp l
            obtain ⟨p, us, rfl, hp, r2, hl⟩ := r.list l
            have r1' := r1.rp l
            refine ⟨p, _, d, xs, j, xs[j], rfl, rfl, Rp.dp _ _ r0 (eqOk.nod hc.1), Rp.dp _ _ r1' (eqOk.nod hc.2), r0.shaped hc.1, r1'.shaped hc.2, List.getElem?_eq_getElem hj, h1, fun m z' hm hz => ?_, k.it⟩
            have hm' : m < xs.length := by omega
            rw [List.getElem?_eq_getElem hm'] at hz
            cases hz
            have := h2 m hm
            simpa using this
        · cases e
    · cases e
theorem Rv.tyV {K : PySem.W.Frag} {S H : Hp} {d : D} {m : Mth} {v : V} (r : Rv K S H v d) (l : Le S H) (h : metTy m d = true) : tyV K m.ty v H := by
  cases m with
  | index =>
    cases d with
    | list xs =>
      obtain ⟨p, us, rfl, hp, _⟩ := r.list l
      exact .inl ⟨rfl, us, SqL.of hp⟩
    | _ => cases h
  | join =>
    cases d with
    | str z => rw [r.str.1]; rfl
    | _ => cases h
theorem se_met {m : Mth} {n : Str} {apos : Pos} {xs : List Expr} {es : Es} (A : At X Z W) (hn : n = m.name) (ho : SE X Z W x a) (h : SLs X Z W (evL es) (y :: xs) es)
    (hbase : attributeBase x n X.env (eval x X.env) = eval x X.env)
    (hfew : ((backTo pos (starEach (y :: xs) X.env)).all (fun x => !x.1) && (backToKw pos (keywordEach [] X.env)).all (fun x => x.1.isSome)
      && decide ((y :: xs).length + ([] : List Keyword).length + (if ([] : List Keyword).isEmpty then 0 else 1) < 30)) = true)
    (hline : (apos.endLine == pos.line) = true) (hs : starEach (y :: xs) X.env = (false, eval y X.env) :: starEach xs X.env) (hpl : (backTo pos (starEach xs X.env)).any (·.1) = false) :
    SE X Z W (.Call (.Attribute x n apos) (y :: xs) [] pos) (.met m a es) ∧ ST X Z W (.Call (.Attribute x n apos) (y :: xs) [] pos) (.met m a es) := by
  subst hn
  obtain ⟨to, po, so⟩ := ho
  obtain ⟨t, pt, s⟩ := h
  obtain ⟨R, hc, hi⟩ := met_ok (X := X) A.hu m
  have pc := pe_bm m.plain m.slot m.type hc po pt hbase hfew hline hs hpl
  have hsem : ∀ (vs : List V) (ts : List Sl) (σ : L2.St) (ρ : Envr) (H : Hp) (Q : VK), noal (E.met m a es).own ts → Good Z vs ts σ ρ H →
      PostR Z W σ (fun s ρ' => ∀ v H', Good Z (v :: vs) (s :: ts) σ ρ' H' → Q v H') (ev (.met m a es) ρ) → tBM X.K m.ty R to t σ H Q := fun vs ts σ ρ H Q hn G h => by
    have hn : noal (a.own ++ es.own) ts := hn
    have h : PostR Z W σ _ ((ev a ρ).bind fun s ρ => grd (nal es.own s && hasTy m ρ s) ((evL es ρ).bind fun ss ρ => metR m s ss ρ)) := h
    refine so vs ts σ ρ H _ hn.l G (h.bind.imp fun u ρ1 h1 v H1 G1 => ?_)
    obtain ⟨g0, h1⟩ := h1.grd
    obtain ⟨g1, g2⟩ := (Bool.and_eq_true _ _).mp g0
    obtain ⟨S, O, g⟩ := id G1
    have ty : tyV X.K m.ty v H1 := by
      unfold hasTy at g2
      cases e : view ρ1 u with
      | none => rw [e] at g2; cases g2
      | some d => rw [e] at g2; rw [A.K]; exact (g.rv g.tmp.1 e).tyV g.le g2
    refine ⟨ty, s (v :: vs) (u :: ts) σ ρ1 H1 _ (hn.r.cons g1) G1 (h1.bind.imp fun ss ρ2 h2 ws H2 l G2 => ?_)⟩
    unfold metR at h2
    cases e0 : view ρ2 u with
    | none => rw [e0] at h2; exact h2.elim
    | some d0 =>
      cases e1 : views ρ2 ss with
      | none => rw [e0, e1] at h2; exact h2.elim
      | some ds =>
        rw [e0, e1] at h2
        dsimp only at h2
        cases e2 : metD m d0 ds with
        | none => rw [e2] at h2; exact h2.elim
        | some rs =>
          rw [e2] at h2
          obtain ⟨S, O, g⟩ := G2
          have r1 := g.rvA l e1
          have g3 := GoodX.popN (by simp [l]) g
          have r0 := g3.rv g3.tmp.1 e0
          rw [← A.K] at r1 r0
          refine hi S H2 v ws d0 ds Q rs g.le r0 r1 e2 ?_
          rw [A.K]
          exact g3.pop.out h2
  exact ⟨⟨_, pc, hsem⟩, st_val (pt_val pc) hsem⟩
end
end Pw
/-! Pw, part S: the checker for expressions. -/
namespace Pw
open PySem PySem.Spec PyProof.Rows L2
def nsB : Expr → Bool
  | .Starred _ _ => false
  | _ => true
theorem star1 {x : Expr} {xs : List Expr} {env : Env} (h : nsB x = true) : starEach (x :: xs) env = (false, eval x env) :: starEach xs env := by
  cases x <;> first | rfl | cases h
theorem starP {xs : List Expr} {env : Env} {pos : Pos} : xs.all nsB = true → (backTo pos (starEach xs env)).any (·.1) = false := by
  induction xs with
  | nil => intro _; rfl
  | cons x xs ih =>
    intro h
    obtain ⟨h1, h2⟩ := (Bool.and_eq_true _ _).mp (by simpa using h : (nsB x && xs.all nsB) = true)
    rw [star1 h1]
    show (false || (backTo pos (starEach xs env)).any (·.1)) = false
    rw [ih h2]; rfl
theorem starN {xs : List Expr} {env : Env} {pos : Pos} : xs.all nsB = true → (backTo pos (starEach xs env)).all (fun x => !x.1) = true := by
  induction xs with
  | nil => intro _; rfl
  | cons x xs ih =>
    intro h
    obtain ⟨h1, h2⟩ := (Bool.and_eq_true _ _).mp (by simpa using h : (nsB x && xs.all nsB) = true)
    rw [star1 h1]
    show (true && (backTo pos (starEach xs env)).all (fun x => !x.1)) = true
    rw [ih h2]; rfl
theorem fewOk {xs : List Expr} {env : Env} {pos : Pos} (h : xs.all nsB = true) (hl : xs.length < 30) : ((backTo pos (starEach xs env)).all (fun x => !x.1) && (backToKw pos (keywordEach [] env)).all (fun x => x.1.isSome)
      && decide (xs.length + ([] : List Keyword).length + (if ([] : List Keyword).isEmpty then 0 else 1) < 30)) = true := by
  rw [starN h]
  have : xs.length + ([] : List Keyword).length + (if ([] : List Keyword).isEmpty then 0 else 1) = xs.length := by simp
  rw [this, decide_eq_true hl]; rfl
def abB : Expr → Bool
  | .Call _ [] _ _ => false
  | _ => true
theorem attr_ok {x : Expr} {n : Str} {env : Env} {w : Sem Value} (h : abB x = true) : attributeBase x n env w = w := by
  cases x with
  | Call f xs k p =>
    cases xs with
    | nil => cases h
    | cons a b => cases f <;> rfl
  | _ => rfl
def setB : Expr → Bool
  | .Set _ _ _ => false
  | _ => true
theorem set_ok {x : Expr} {env : Env} (h : setB x = true) (v : Value) : foldedSetIterable x env v = pure v := by
  cases x <;> first | rfl | cases h
theorem mark_ok {op : CmpOp} {x : Expr} (h : setB x = true) : behindInMarks op x = false := by
  cases x <;> first | rfl | cases h
def glB (sc : Scope) (n : Str) : Bool := decide (sc.names.lookup n = some .globalImplicit)
def visB (sc : Scope) (n : Str) : Bool := decide (sc.names.lookup n = some .local) || decide (sc.names.lookup n = some .cell) || decide (sc.names.lookup n = some .free)
def varB (N : List Str) (sc : Scope) (i : Nat) (n : Str) : Bool := decide (N[i]? = some n) && (visB sc n && (!(n == ("__debug__" : Str)) && !(n == ("__classdict__" : Str))))
def ixB : Expr → Bool
  | .Slice _ _ _ _ => false
  | .Tuple _ _ _ => false
  | _ => true
def tyB (sc : Scope) : List Expr → List Ty → Bool
  | [], [] => true
  | .Name n _ :: es, c :: cs => decide (n = Str.ofString c.nm) && (glB sc n && tyB sc es cs)
  | _, _ => false
mutual
def tgB (N : List Str) (sc : Scope) (fnB : Str → Bool) : Tg → Expr → Bool
  | .nm i, x => match x with
    | .Name n _ => decide (N[i]? = some n) && (decide (sc.names.lookup n = some .local) || (decide (sc.names.lookup n = some .cell) && fnB n))
    | _ => false
  | .tp ts, x => match x with
    | .Tuple xs _ _ => tgsB N sc fnB ts xs
    | _ => false
def tgsB (N : List Str) (sc : Scope) (fnB : Str → Bool) : List Tg → List Expr → Bool
  | [], [] => true
  | t :: ts, x :: xs => nsB x && (tgB N sc fnB t x && tgsB N sc fnB ts xs)
  | _, _ => false
end
def cellB (sc : Scope) (n : Str) : Bool := sc.names.lookup n == some .cell
def ownN (N : List Str) (os : List Nat) : List (Str × Nat) := os.map fun i => (N.getD i Str.empty, i)
def blkB (N : List Str) (sc scope : Scope) (os : List Nat) : Bool :=
  decide (scope.kind = .function) && (scope.names.all (fun y => decide (scope.names.lookup y.1 = some y.2)) && (os.all (fun i => decide (i < N.length)) &&
    (scope.names.all (fun y => decide (y.2 ≠ .free) || decide (sc.names.lookup y.1 = some .cell) || decide (sc.names.lookup y.1 = some .free)) &&
      scope.names.all (fun y => !(decide (y.2 = .local) || decide (y.2 = .cell)) || decide (y.1 ∈ (ownN N os).map (·.1)) || decide (y.1 ∉ N)))))
theorem blk_ok {N : List Str} {sc scope : Scope} {os : List Nat} (h : blkB N sc scope os = true) : BlkOk N sc scope (ownN N os) := by
  unfold blkB at h
  simp only [Bool.and_eq_true, List.all_eq_true, Bool.or_eq_true, decide_eq_true_eq, Bool.not_eq_true', Bool.or_eq_false_iff, decide_eq_false_iff_not] at h
  obtain ⟨h1, h2, h3, h4, h5⟩ := h
  refine ⟨h1, h2, fun p hp => ?_, fun y hy e => ?_, fun y hy e => ?_⟩
  · obtain ⟨i, hi, rfl⟩ := List.mem_map.mp hp
    have := h3 i hi
    simp [List.getD_eq_getElem?_getD, this]
  · rcases h4 y hy with (k | k) | k
    · exact absurd e k
    · exact .inl k
    · exact .inr k
  · rcases h5 y hy with (k | k) | k
    · exact absurd e (fun e => e.elim k.1 k.2)
    · exact .inl k
    · exact .inr k
mutual
def ckE (N : List Str) (sc : Scope) (x : Expr) : E → Bool
  | .lit c => match x with
    | .Constant cst _ _ => litB c cst
    | _ => false
  | .glo n _ => match x with
    | .Name m _ => decide (m = n) && glB sc n
    | _ => false
  | .var i => match x with
    | .Name n _ => varB N sc i n
    | _ => false
  | .tup es => match x with
    | .Tuple xs _ _ => decide (xs.length ≤ 1000) && ckA N sc xs es
    | _ => false
  | .lst es => match x with
    | .List xs _ => decide (xs.length ≤ 1000) && ckA N sc xs es
    | _ => false
  | .dct ks es => match x with
    | .Dict keys xs _ => tkeys ks keys && (decide ks.Nodup && (decide (keys.length = xs.length) && (decide (keys ≠ []) && (decide (keys.length ≤ 15) && ckA N sc xs es))))
    | _ => false
  | .bin op a b => match x with
    | .BinOp y op' z _ => decide (op = op') && (ckE N sc y a && ckE N sc z b)
    | _ => false
  | .cmp op a b => match x with
    | .Compare y [op'] [z] _ => decide (op = op') && (setB z && (ckE N sc y a && ckE N sc z b))
    | _ => false
  | .chn p q a b c => match x with
    | .Compare y [p', q'] [z, w] _ => decide (p = p') && (decide (q = q') && (setB w && (ckE N sc y a && (ckE N sc z b && ckE N sc w c))))
    | _ => false
  | .and_ es => match x with
    | .BoolOp .And xs _ => ckL N sc xs es && decide (xs ≠ [])
    | _ => false
  | .or_ es => match x with
    | .BoolOp .Or xs _ => ckL N sc xs es && decide (xs ≠ [])
    | _ => false
  | .not_ a => match x with
    | .UnaryOp .Not y _ => ckE N sc y a
    | _ => false
  | .neg a => match x with
    | .UnaryOp .USub y _ => ckE N sc y a
    | _ => false
  | .ife c a b => match x with
    | .IfExp y z w _ => ckE N sc y c && (ckE N sc z a && ckE N sc w b)
    | _ => false
  | .idx a b => match x with
    | .Subscript y z _ => ixB z && (ckE N sc y a && ckE N sc z b)
    | _ => false
  | .slc a lo hi => match x with
    | .Subscript y (.Slice l h none _) _ => ckE N sc y a && (ckO N sc l lo && ckO N sc h hi)
    | _ => false
  | .sscr i lo hi => match x with
    | .Subscript (.Name n _) (.Slice l h none _) _ => varB N sc i n && (ckO N sc l lo && ckO N sc h hi)
    | _ => false
  | .call F es => match x with
    | .Call (.Name n _) xs [] _ => decide (n = F.name) && (glB sc n && (decide (xs ≠ []) && ckA N sc xs es))
    | _ => false
  | .blt b es => match x with
    | .Call (.Name n _) xs [] _ => decide (n = b.name) && (glB sc n && (decide (xs ≠ []) && ckA N sc xs es))
    | _ => false
  | .mut m i es => match x with
    | .Call (.Attribute (.Name n _) k ap) xs [] pos => decide (k = m.name) && (varB N sc i n && ((ap.endLine == pos.line) && (decide (xs.length < 30) && ckA N sc xs es)))
    | _ => false
  | .isi a Ts => match x with
    | .Call (.Name n _) [y, z] [] _ => decide (n = "isinstance") && (glB sc n && (nsB y && (nsB z && (ckE N sc y a && (match Ts, z with
      | [T], .Name m _ => decide (m = Str.ofString T.nm) && glB sc m
      | Ts, .Tuple zs _ _ => tyB sc zs Ts && decide (zs.length ≤ 1000)
      | _, _ => false)))))
    | _ => false
  | .met m a es => match x with
    | .Call (.Attribute y k ap) xs [] pos => decide (k = m.name) && (abB y && (ckE N sc y a && ((ap.endLine == pos.line) && (decide (xs ≠ []) && (decide (xs.length < 30) && ckA N sc xs es)))))
    | _ => false
  | .comp elt tg it c os => match x with
    | .ListComp y [⟨tx, iter, ifs, j⟩] scope _ => decide (j = 0) && (ckI N sc tx iter it && (blkB N sc scope os && (tgB N (relS scope sc) (cellB scope) tg tx && (ckQ N (relS scope sc) ifs c && (ckE N (relS scope sc) y elt && (decide os.Nodup && (decide (∀ i ∈ tg.slots, i ∈ os) && setB iter)))))))
    | _ => false
/-- words, none starred -/
def ckA (N : List Str) (sc : Scope) (xs : List Expr) : Es → Bool
  | .nil => match xs with
    | [] => true
    | _ => false
  | .cons e es => match xs with
    | x :: xs => nsB x && (ckE N sc x e && ckA N sc xs es)
    | [] => false
/-- words -/
def ckL (N : List Str) (sc : Scope) (xs : List Expr) : Es → Bool
  | .nil => match xs with
    | [] => true
    | _ => false
  | .cons e es => match xs with
    | x :: xs => ckE N sc x e && ckL N sc xs es
    | [] => false
def ckO (N : List Str) (sc : Scope) (x : Option Expr) : Oe → Bool
  | .non => match x with
    | none => true
    | _ => false
  | .som e => match x with
    | some x => ckE N sc x e
    | none => false
def ckQ (N : List Str) (sc : Scope) (xs : List Expr) : Oe → Bool
  | .non => match xs with
    | [] => true
    | _ => false
  | .som e => match xs with
    | [x] => ckE N sc x e
    | _ => false
def ckI (N : List Str) (sc : Scope) (tx x : Expr) : It → Bool
  | .val e => ckE N sc x e
  | .rng1 e => match x with
    | .Call (.Name n _) [y] [] _ => decide (n = "range") && (glB sc n && (nsB y && ckE N sc y e))
    | _ => false
  | .rng2 a b => match x with
    | .Call (.Name n _) [y, z] [] _ => decide (n = "range") && (glB sc n && (nsB y && (nsB z && (ckE N sc y a && ckE N sc z b))))
    | _ => false
  | .enm e => match tx, x with
    | .Tuple _ _ _, .Call (.Name n _) [y] [] _ => decide (n = "enumerate") && (glB sc n && (nsB y && ckE N sc y e))
    | _, _ => false
  | .zip a b => match tx, x with
    | .Tuple _ _ _, .Call (.Name n _) [y, z] [] _ => decide (n = "zip") && (glB sc n && (nsB y && (nsB z && (ckE N sc y a && ckE N sc z b))))
    | _, _ => false
  | .rev e => match x with
    | .Call (.Name n _) [y] [] _ => decide (n = "reversed") && (glB sc n && (nsB y && ckE N sc y e))
    | _ => false
end
mutual
def ndE : E → List Need
  | .lit _ | .var _ => []
  | .glo n d => [.glo n d]
  | .tup es | .lst es | .dct _ es | .and_ es | .or_ es | .mut _ _ es => ndA es
  | .bin _ a b | .cmp _ a b | .idx a b => ndE a ++ ndE b
  | .chn _ _ a b c | .ife a b c => ndE a ++ (ndE b ++ ndE c)
  | .not_ a | .neg a => ndE a
  | .slc a lo hi => ndE a ++ (ndO lo ++ ndO hi)
  | .sscr _ lo hi => ndO lo ++ ndO hi
  | .call F es => .fn F :: ndA es
  | .blt b es => .no b.name :: ndA es
  | .isi a Ts => .no "isinstance" :: (ndE a ++ Ts.map fun T => .no (Str.ofString T.nm))
  | .met _ a es => ndE a ++ ndA es
  | .comp elt _ it c _ => ndI it ++ (ndO c ++ ndE elt)
def ndA : Es → List Need
  | .nil => []
  | .cons e es => ndE e ++ ndA es
def ndO : Oe → List Need
  | .non => []
  | .som e => ndE e
def ndI : It → List Need
  | .val e => ndE e
  | .rng1 e => .no "range" :: ndE e
  | .rng2 a b => .no "range" :: (ndE a ++ ndE b)
  | .enm e => .no "enumerate" :: ndE e
  | .zip a b => .no "zip" :: (ndE a ++ ndE b)
  | .rev e => .no "reversed" :: ndE e
end
def HaveA (X : Cx) (Z : Zx) (l : List Need) : Prop := ∀ nd ∈ l, Have X Z nd
theorem HaveA.l {X : Cx} {Z : Zx} {a b : List Need} (h : HaveA X Z (a ++ b)) : HaveA X Z a := fun nd m => h nd (List.mem_append_left _ m)
theorem HaveA.r {X : Cx} {Z : Zx} {a b : List Need} (h : HaveA X Z (a ++ b)) : HaveA X Z b := fun nd m => h nd (List.mem_append_right _ m)
theorem HaveA.h {X : Cx} {Z : Zx} {a : Need} {b : List Need} (h : HaveA X Z (a :: b)) : Have X Z a := h a List.mem_cons_self
theorem HaveA.t {X : Cx} {Z : Zx} {a : Need} {b : List Need} (h : HaveA X Z (a :: b)) : HaveA X Z b := fun nd m => h nd (List.mem_cons_of_mem _ m)
theorem Have.blk {X : Cx} {Z : Zx} {nd : Need} (h : Have X Z nd) (s : Shared) (H : Hp) (scope : Scope) (cenv : Env) (fp : List Addr) : Have (X.blk s H scope cenv fp) Z nd := by
  cases nd with
  | fn F => obtain ⟨k, f, fd, ps, a, b, c, d, e, g⟩ := h; exact ⟨k, f, fd, ps, a, b, c, d, e, g⟩
  | glo x d => exact h
  | no x => exact h
/-- the place of a word -/
structure Plc (X : Cx) (Z : Zx) (W : WX) (N : List Str) (sc : Scope) : Prop where
  A : At X Z W
  N : X.N = N
  sc : X.env.scope = sc
section
variable {Z : Zx} {N : List Str}
theorem gl_ok {X : Cx} {W : WX} {sc : Scope} {n : Str} (C : Plc X Z W N sc) (h : glB sc n = true) : Gl X n := by
  have := of_decide_eq_true h
  rw [← C.sc] at this; exact this
theorem vis_ok {X : Cx} {W : WX} {sc : Scope} {n : Str} (C : Plc X Z W N sc) (h : visB sc n = true) : Vis X.env.scope n := by
  rw [C.sc]
  rcases (Bool.or_eq_true _ _).mp h with h | h
  · rcases (Bool.or_eq_true _ _).mp h with h | h
    · exact .inl (of_decide_eq_true h)
    · exact .inr (.inl (of_decide_eq_true h))
  · exact .inr (.inr (of_decide_eq_true h))
theorem var_facts {X : Cx} {W : WX} {sc : Scope} {i : Nat} {n : Str} (C : Plc X Z W N sc) (h : varB N sc i n = true) : X.N[i]? = some n ∧ Vis X.env.scope n ∧ (n == ("__debug__" : Str)) = false ∧ (n == ("__classdict__" : Str)) = false := by
  obtain ⟨h1, h⟩ := (Bool.and_eq_true _ _).mp h
  obtain ⟨h2, h⟩ := (Bool.and_eq_true _ _).mp h
  obtain ⟨h3, h4⟩ := (Bool.and_eq_true _ _).mp h
  exact ⟨by rw [C.N]; exact of_decide_eq_true h1, vis_ok C h2, by simpa using h3, by simpa using h4⟩
theorem Plc.blk {X : Cx} {W : WX} {sc : Scope} (C : Plc X Z W N sc) (s : Shared) (H : Hp) (scope : Scope) (K : Addr) (cl : List (Str × Addr)) (fp : List Addr) : Plc (X.blk s H scope (compEnvC scope cl K X.env) fp) Z W0 N (relS scope sc) :=
  ⟨C.A.blk _ _ _ _ _, C.N, by rw [← C.sc]; rfl⟩
theorem tyNs_ok {X : Cx} {W : WX} {sc : Scope} (C : Plc X Z W N sc) : ∀ {es : List Expr} {cs : List Ty}, tyB sc es cs = true → (∀ T ∈ cs, X.mg (Str.ofString T.nm) = none) → ∃ t, TyNs X es cs t
  | [], [], _, _ => ⟨_, .nil⟩
  | x :: es, c :: cs, h, hm => by
    cases x with
    | Name n p =>
      have h : (decide (n = Str.ofString c.nm) && (glB sc n && tyB sc es cs)) = true := h
      obtain ⟨h1, h⟩ := (Bool.and_eq_true _ _).mp h
      obtain ⟨h2, h3⟩ := (Bool.and_eq_true _ _).mp h
      obtain ⟨t, ht⟩ := tyNs_ok C h3 fun T m => hm T (List.mem_cons_of_mem _ m)
      have e := of_decide_eq_true h1
      exact ⟨_, .cons (tyN e (gl_ok C h2) (by rw [e]; exact hm c List.mem_cons_self)) (star1 rfl) ht⟩
    | _ => exact Bool.noConfusion (show false = true from h)
  | [], _ :: _, h, _ => Bool.noConfusion (show false = true from h)
  | x :: _, [], h, _ => by cases x <;> exact Bool.noConfusion (show false = true from h)
mutual
theorem tg_ok {X : Cx} {W : WX} {sc : Scope} {fnB : Str → Bool} (C : Plc X Z W N sc) (hf : ∀ n, fnB n = true → X.fn n = true) : ∀ (t : Tg) (x : Expr), tgB N sc fnB t x = true → STg X Z x t
  | .nm i, x, h => by
    cases x with
    | Name n p =>
      have h : (decide (N[i]? = some n) && (decide (sc.names.lookup n = some .local) || (decide (sc.names.lookup n = some .cell) && fnB n))) = true := by simpa [tgB] using h
      obtain ⟨h1, h⟩ := (Bool.and_eq_true _ _).mp h
      have hi : X.N[i]? = some n := by rw [C.N]; exact of_decide_eq_true h1
      rcases (Bool.or_eq_true _ _).mp h with h | h
      · have hl : X.env.scope.names.lookup n = some .local := by rw [C.sc]; exact of_decide_eq_true h
        exact stg_nm C.A.nd hi (.inl hl) (.inr hl)
      · obtain ⟨h2, h3⟩ := (Bool.and_eq_true _ _).mp h
        have hl : X.env.scope.names.lookup n = some .cell := by rw [C.sc]; exact of_decide_eq_true h2
        exact stg_nm C.A.nd hi (.inr hl) (.inl (hf n h3))
    | _ => simp [tgB] at h
  | .tp ts, x, h => by
    cases x with
    | Tuple xs k p =>
      have h : tgsB N sc fnB ts xs = true := by simpa [tgB] using h
      obtain ⟨h1, h2, h3⟩ := tgs_ok C hf ts xs h
      exact stg_tp C.A.calm C.A.K h1 h2 h3
    | _ => simp [tgB] at h
theorem tgs_ok {X : Cx} {W : WX} {sc : Scope} {fnB : Str → Bool} (C : Plc X Z W N sc) (hf : ∀ n, fnB n = true → X.fn n = true) : ∀ (ts : List Tg) (xs : List Expr), tgsB N sc fnB ts xs = true → STgs X Z xs ts ∧ (assignEach xs X.env).length = ts.length ∧ (assignEach xs X.env).findIdx? (·.1) = none
  | [], [], _ => ⟨stgs_nil, rfl, rfl⟩
  | t :: ts, x :: xs, h => by
    have h : (nsB x && (tgB N sc fnB t x && tgsB N sc fnB ts xs)) = true := by simpa [tgsB] using h
    obtain ⟨h1, h⟩ := (Bool.and_eq_true _ _).mp h
    obtain ⟨h2, h3⟩ := (Bool.and_eq_true _ _).mp h
    obtain ⟨k1, k2, k3⟩ := tgs_ok C hf ts xs h3
    have e : assignEach (x :: xs) X.env = (false, assign x X.env) :: assignEach xs X.env := by cases x <;> first | rfl | cases h1
    refine ⟨stgs_cons (tg_ok C hf t x h2) k1 (by rw [e]; rfl), by rw [e]; simp [k2], ?_⟩
    rw [e, List.findIdx?_cons, k3]; rfl
  | [], _ :: _, h => by simp [tgsB] at h
  | _ :: _, [], h => by simp [tgsB] at h
end
end
end Pw
/-! Pw, part T: what the checker lets by is so. -/
namespace Pw
open PySem PySem.Spec PyProof.Rows L2
theorem and2 {a b : Bool} (h : (a && b) = true) : a = true ∧ b = true := (Bool.and_eq_true _ _).mp h
theorem evA_len : ∀ {es : Es} {n : Nat}, (∀ ρ ds ρ', evA es ρ = .ok ds ρ' → ds.length = n) → ∀ {e : E} ρ ds ρ', evA (.cons e es) ρ = .ok ds ρ' → ds.length = n + 1 := fun {es n} ih e ρ ds ρ' h => by
  have h : ((ev e ρ).bind fun s ρ => (fzD s ρ).bind fun x ρ => (evA es ρ).bind fun ds ρ => .ok (x :: ds) ρ) = R.ok ds ρ' := h
  cases e1 : ev e ρ with
  | raise C x ρ1 => rw [e1] at h; cases h
  | stuck => rw [e1] at h; cases h
  | ok s ρ1 =>
    rw [e1] at h
    have h : ((fzD s ρ1).bind fun x ρ => (evA es ρ).bind fun ds ρ => .ok (x :: ds) ρ) = R.ok ds ρ' := h
    cases e2 : fzD s ρ1 with
    | raise C x ρ1 => rw [e2] at h; cases h
    | stuck => rw [e2] at h; cases h
    | ok x ρ2 =>
      rw [e2] at h
      have h : ((evA es ρ2).bind fun ds ρ => .ok (x :: ds) ρ) = R.ok ds ρ' := h
      cases e3 : evA es ρ2 with
      | raise C x ρ1 => rw [e3] at h; cases h
      | stuck => rw [e3] at h; cases h
      | ok ds3 ρ3 =>
        rw [e3] at h
        cases h
        simp [ih _ _ _ e3]
section
variable {X : Cx} {Z : Zx} {W : WX} {x : Expr} {xs : List Expr} {a : E} {es : Es}
/-- all that is to be said of words in a row -/
structure SAll (X : Cx) (Z : Zx) (W : WX) (xs : List Expr) (es : Es) : Prop where
  a : SA X Z W xs es
  l : SLs X Z W (evL es) xs es
  c : ∀ md, SLs X Z W (evC md es) xs es
  w : SLs X Z W (evW es) xs es
  ns : xs.all nsB = true
  len : ∀ ρ ds ρ', evA es ρ = .ok ds ρ' → ds.length = xs.length
  pd : ∀ pos keys ks, tkeys ks keys = true → keys.length = xs.length → SPs X Z W pos keys xs ks es
theorem tk1_ok {k : Str} {o : Option Expr} (h : tk1 k o = true) : ∃ j p, o = some (.Constant (.str k) j p) ∧ sOk k = true := by
  unfold tk1 at h
  split at h
  · rename_i k' j p
    obtain ⟨h1, h2⟩ := and2 h
    have e := of_decide_eq_true h1
    subst e
    exact ⟨j, p, rfl, h2⟩
  · cases h
theorem tkeys_cons {ks : List Str} {o : Option Expr} {r : List (Option Expr)} (h : tkeys ks (o :: r) = true) : ∃ k ks' j p, o = some (.Constant (.str k) j p) ∧ ks = k :: ks' ∧ sOk k = true ∧ tkeys ks' r = true := by
  cases ks with
  | nil => exact Bool.noConfusion (show false = true from h)
  | cons k ks =>
    obtain ⟨h1, h2⟩ := and2 h
    obtain ⟨j, p, e, h3⟩ := tk1_ok h1
    exact ⟨k, ks, j, p, e, rfl, h3, h2⟩
theorem tkeys_ok : ∀ {keys : List (Option Expr)} {ks : List Str}, tkeys ks keys = true → (∀ k ∈ ks, sOk k = true) ∧ keys.all (·.isSome) = true ∧ ks.length = keys.length
  | [], ks, h => by
    cases ks with
    | nil => exact ⟨fun _ h => (nomatch h), rfl, rfl⟩
    | cons _ _ => exact Bool.noConfusion (show false = true from h)
  | o :: r, ks, h => by
    obtain ⟨k, ks', j, p, rfl, rfl, h2, h3⟩ := tkeys_cons h
    obtain ⟨a, b, c⟩ := tkeys_ok h3
    refine ⟨fun k' m => ?_, by simpa using b, by simp [c]⟩
    rcases List.mem_cons.mp m with e | m
    · subst e; exact h2
    · exact a k' m
theorem SLs.stuck {f g : Envr → R (List Sl)} (h : SLs X Z W f xs es) (hg : ∀ ρ, g ρ = .stuck) : SLs X Z W g xs es := by
  obtain ⟨t, p, _⟩ := h
  exact ⟨t, p, fun vs ts σ ρ H Q hn G h => by rw [hg] at h; exact h.elim⟩
theorem sall_nil : SAll X Z W [] .nil := by
  refine ⟨sa_nil, sl_nil fun _ => rfl, fun md => ?_, sl_nil fun _ => rfl, rfl, fun ρ ds ρ' h => by cases h; rfl, fun pos keys ks h l => ?_⟩
  · cases md with
    | nil => exact sl_nil fun _ => rfl
    | cons m ms => exact (sl_nil (f := evL .nil) fun _ => rfl).stuck fun _ => rfl
  · cases keys with
    | nil =>
      cases ks with
      | nil => exact sp_nil
      | cons _ _ => exact Bool.noConfusion (show false = true from h)
    | cons _ _ => cases l
theorem grd_bind {α β : Type} {b : Bool} {r : R α} {f : α → Envr → R β} : (grd b r).bind f = grd b (r.bind f) := by cases b <;> rfl
theorem sall_cons (ha : SE X Z W x a) (h : SAll X Z W xs es) (hn : nsB x = true) : SAll X Z W (x :: xs) (.cons a es) := by
  have hs := star1 (xs := xs) (env := X.env) hn
  have hl : SLs X Z W (evL (.cons a es)) (x :: xs) (.cons a es) := by
    refine sl_cons (k := fun s ρ => grd (nal es.own s) (.ok s ρ)) (fun vs ts σ ρ H v s P G h => ?_) (fun ρ => ?_) ha h.l hs
    · obtain ⟨g, h⟩ := PostR.grd h
      exact ⟨s, ρ, G, g, h⟩
    · simp only [grd_bind]; rfl
  refine ⟨sa_cons ha h.a hs, hl, fun md => ?_, ?_, by simp [hn, h.ns], fun ρ ds ρ' e => by rw [evA_len (n := xs.length) h.len _ _ _ e]; rfl, fun pos keys ks hk l => ?_⟩
  · cases md with
    | nil => exact hl.stuck fun _ => rfl
    | cons m ms =>
      refine sl_cons (k := fun s ρ => if m = true then grd (nal es.own s) (.ok s ρ) else rawR s ρ) (fun vs ts σ ρ H v s P G h => ?_) (fun ρ => rfl) ha (h.c ms) hs
      cases m with
      | true =>
        rw [if_pos rfl] at h
        obtain ⟨g, h⟩ := PostR.grd h
        exact ⟨s, ρ, G, g, h⟩
      | false =>
        rw [if_neg (by decide)] at h
        have fzc : PostR Z W σ P (fzR s ρ) → ∃ s' ρ', Good Z (v :: vs) (s' :: ts) σ ρ' H ∧ nal es.own s' = true ∧ P s' ρ' := fun h => by
          obtain ⟨y, ρ', e, h⟩ := PostR.fzR h
          exact ⟨_, _, G.fz e, rfl, h⟩
        cases s with
        | raw u => exact ⟨_, _, G, rfl, h⟩
        | scr u => exact ⟨_, _, G, rfl, h⟩
        | d y => exact fzc h
        | ol z ys => exact fzc h
        | od z t kvs => exact fzc h
        | oi z C fs => exact fzc h
        | ali i => exact fzc h
  · refine sl_cons (k := ownR) (fun vs ts σ ρ H v s P G h => ?_) (fun ρ => rfl) ha h.w hs
    obtain ⟨s', ρ', G', n, h⟩ := own_ok G h
    refine ⟨s', ρ', G', ?_, h⟩
    cases s' with
    | ali j => exact absurd rfl (n j)
    | _ => rfl
  · cases keys with
    | nil => cases l
    | cons o r =>
      obtain ⟨k, ks', j, p, rfl, rfl, h2, h3⟩ := tkeys_cons hk
      exact sp_cons ha (h.pd pos r ks' h3 (by simpa using l))
end
theorem TyNs.len {X : Cx} : ∀ {es : List Expr} {cs : List Ty} {t : TA}, TyNs X es cs t → cs.length = es.length
  | _, _, _, .nil => rfl
  | _, _, _, .cons _ _ h => congrArg (· + 1) (TyNs.len h)
theorem fls {p : Prop} (h : false = true) : p := Bool.noConfusion h
variable {Z : Zx} {N : List Str}
mutual
theorem ckE_ok : ∀ (e : E) {X : Cx} {W : WX} {sc : Scope} {x : Expr}, ckE N sc x e = true → HaveA X Z (ndE e) → Plc X Z W N sc → SE X Z W x e ∧ ST X Z W x e
  | .lit c, X, W, sc, x, h, n, C => by
    cases x with
    | Constant cst j p => exact se_lit c h
    | _ => exact fls h
  | .glo m d, X, W, sc, x, h, n, C => by
    cases x with
    | Name k p =>
      obtain ⟨h1, h2⟩ := and2 h
      have e := of_decide_eq_true h1
      subst e
      exact se_glo (gl_ok C h2) n.h
    | _ => exact fls h
  | .var i, X, W, sc, x, h, n, C => by
    cases x with
    | Name k p =>
      obtain ⟨h1, h2, h3, h4⟩ := var_facts C h
      exact se_var h1 h2 h3 h4
    | _ => exact fls h
  | .tup es, X, W, sc, x, h, n, C => by
    cases x with
    | Tuple xs k p =>
      obtain ⟨h1, h2⟩ := and2 h
      have r := ckA_ok es h2 n C
      have hz : xs.length ≤ 1000 := of_decide_eq_true h1
      exact se_tup r.a fun ρ ds ρ' e => by rw [r.len ρ ds ρ' e, sizeLine_eq]; omega
    | _ => exact fls h
  | .lst es, X, W, sc, x, h, n, C => by
    cases x with
    | List xs p =>
      obtain ⟨h1, h2⟩ := and2 h
      have r := ckA_ok es h2 n C
      have hz : xs.length ≤ 1000 := of_decide_eq_true h1
      exact se_lst r.a fun ρ ds ρ' e => by rw [r.len ρ ds ρ' e, sizeLine_eq]; omega
    | _ => exact fls h
  | .dct ks es, X, W, sc, x, h, n, C => by
    cases x with
    | Dict keys xs p =>
      obtain ⟨h1, d1⟩ := and2 h
      obtain ⟨h2, d2⟩ := and2 d1
      obtain ⟨h3, d3⟩ := and2 d2
      obtain ⟨h4, d4⟩ := and2 d3
      obtain ⟨h5, h6⟩ := and2 d4
      have r := ckA_ok es h6 n C
      obtain ⟨k1, k2, k3⟩ := tkeys_ok h1
      exact se_dct (r.pd p keys ks h1 (of_decide_eq_true h3)) k1 (of_decide_eq_true h2) k2 (of_decide_eq_true h3) (of_decide_eq_true h4) (of_decide_eq_true h5) k3
    | _ => exact fls h
  | .bin op a b, X, W, sc, x, h, n, C => by
    cases x with
    | BinOp y op' z p =>
      obtain ⟨h1, g1⟩ := and2 h
      obtain ⟨h2, h3⟩ := and2 g1
      have e := of_decide_eq_true h1
      subst e
      exact se_bin C.A (ckE_ok a h2 (HaveA.l (b := ndE b) n) C).1 (ckE_ok b h3 (HaveA.r (a := ndE a) n) C).1
    | _ => exact fls h
  | .cmp op a b, X, W, sc, x, h, n, C => by
    cases x with
    | Compare y ops zs p =>
      match ops, zs, h with
      | [op'], [z], h =>
        obtain ⟨h1, g2⟩ := and2 h
        obtain ⟨h0, g3⟩ := and2 g2
        obtain ⟨h2, h3⟩ := and2 g3
        have e := of_decide_eq_true h1
        subst e
        exact se_cmp C.A (ckE_ok a h2 (HaveA.l (b := ndE b) n) C).1 (ckE_ok b h3 (HaveA.r (a := ndE a) n) C).1 (mark_ok h0)
      | [], _, h => exact fls h
      | _ :: _ :: _, _, h => exact fls h
      | [_], [], h => exact fls h
      | [_], _ :: _ :: _, h => exact fls h
    | _ => exact fls h
  | .chn p q a b c, X, W, sc, x, h, n, C => by
    cases x with
    | Compare y ops zs ps =>
      match ops, zs, h with
      | [p', q'], [z, w], h =>
        obtain ⟨h1, g4⟩ := and2 h
        have e := of_decide_eq_true h1
        subst e
        obtain ⟨h1', g5⟩ := and2 g4
        have e' := of_decide_eq_true h1'
        subst e'
        obtain ⟨h0, g6⟩ := and2 g5
        obtain ⟨h2, g7⟩ := and2 g6
        obtain ⟨h3, h4⟩ := and2 g7
        have n : HaveA X Z (ndE a ++ (ndE b ++ ndE c)) := n
        exact se_chn C.A (ckE_ok a h2 n.l C).1 (ckE_ok b h3 n.r.l C).1 (ckE_ok c h4 n.r.r C).1 (by show behindInMarks _ _ = false; exact mark_ok h0)
      | [], _, h => exact fls h
      | [_], _, h => exact fls h
      | _ :: _ :: _ :: _, _, h => exact fls h
      | [_, _], [], h => exact fls h
      | [_, _], [_], h => exact fls h
      | [_, _], _ :: _ :: _ :: _, h => exact fls h
    | _ => exact fls h
  | .and_ es, X, W, sc, x, h, n, C => by
    cases x with
    | BoolOp op xs p =>
      cases op with
      | And =>
        obtain ⟨h1, h2⟩ := and2 h
        exact se_and (ckL_ok es h1 n C (of_decide_eq_true h2) true p)
      | Or => exact fls h
    | _ => exact fls h
  | .or_ es, X, W, sc, x, h, n, C => by
    cases x with
    | BoolOp op xs p =>
      cases op with
      | Or =>
        obtain ⟨h1, h2⟩ := and2 h
        exact se_or (ckL_ok es h1 n C (of_decide_eq_true h2) false p)
      | And => exact fls h
    | _ => exact fls h
  | .not_ a, X, W, sc, x, h, n, C => by
    cases x with
    | UnaryOp op y p =>
      cases op with
      | Not =>
        have r := ckE_ok a (x := y) h n C
        exact se_not r.1 r.2
      | _ => exact fls h
    | _ => exact fls h
  | .neg a, X, W, sc, x, h, n, C => by
    cases x with
    | UnaryOp op y p =>
      cases op with
      | USub => exact se_neg (ckE_ok a (x := y) h n C).1
      | _ => exact fls h
    | _ => exact fls h
  | .ife c a b, X, W, sc, x, h, n, C => by
    cases x with
    | IfExp y z w p =>
      obtain ⟨h1, g8⟩ := and2 h
      obtain ⟨h2, h3⟩ := and2 g8
      have n : HaveA X Z (ndE c ++ (ndE a ++ ndE b)) := n
      exact se_ife (ckE_ok c h1 n.l C).2 (ckE_ok a h2 n.r.l C) (ckE_ok b h3 n.r.r C)
    | _ => exact fls h
  | .idx a b, X, W, sc, x, h, n, C => by
    cases x with
    | Subscript y z p =>
      obtain ⟨h1, g9⟩ := and2 h
      obtain ⟨h2, h3⟩ := and2 g9
      exact se_idx C.A (ckE_ok a h2 (HaveA.l (b := ndE b) n) C).1 (ckE_ok b h3 (HaveA.r (a := ndE a) n) C).1 (by cases z <;> first | (intro o i; rfl) | exact fls h1)
    | _ => exact fls h
  | .slc a lo hi, X, W, sc, x, h, n, C => by
    cases x with
    | Subscript y z p =>
      cases z with
      | Slice l u st p2 =>
        cases st with
        | none =>
          obtain ⟨h1, g10⟩ := and2 h
          obtain ⟨h2, h3⟩ := and2 g10
          have n : HaveA X Z (ndE a ++ (ndO lo ++ ndO hi)) := n
          exact se_slc C.A (ckE_ok a h1 n.l C).1 (ckO_ok lo h2 n.r.l C) (ckO_ok hi h3 n.r.r C)
        | some _ => exact fls h
      | _ => exact fls h
    | _ => exact fls h
  | .sscr i lo hi, X, W, sc, x, h, n, C => by
    cases x with
    | Subscript y z p =>
      cases y with
      | Name m p1 =>
        cases z with
        | Slice l u st p2 =>
          cases st with
          | none =>
            obtain ⟨h1, g11⟩ := and2 h
            obtain ⟨h2, h3⟩ := and2 g11
            obtain ⟨k1, k2, k3, k4⟩ := var_facts C h1
            have n : HaveA X Z (ndO lo ++ ndO hi) := n
            exact se_sscr C.A k1 k2 k3 k4 (ckO_ok lo h2 n.l C) (ckO_ok hi h3 n.r C)
          | some _ => exact fls h
        | _ => exact fls h
      | _ => exact fls h
    | _ => exact fls h
  | .call F es, X, W, sc, x, h, n, C => by
    cases x with
    | Call f xs ks p =>
      cases f with
      | Name m p1 =>
        cases ks with
        | nil =>
          obtain ⟨h1, g12⟩ := and2 h
          obtain ⟨h2, g13⟩ := and2 g12
          obtain ⟨h3, h4⟩ := and2 g13
          have r := ckA_ok es h4 (HaveA.t n) C
          cases xs with
          | nil => exact absurd rfl (of_decide_eq_true h3)
          | cons y ys =>
            obtain ⟨r1, r2⟩ := and2 (by simpa using r.ns : (nsB y && ys.all nsB) = true)
            exact se_call n.h (of_decide_eq_true h1) (gl_ok C h2) (r.c _) (star1 r1) (starP r2) C.A
        | cons _ _ => exact fls h
      | _ => exact fls h
    | _ => exact fls h
  | .blt b es, X, W, sc, x, h, n, C => by
    cases x with
    | Call f xs ks p =>
      cases f with
      | Name m p1 =>
        cases ks with
        | nil =>
          obtain ⟨h1, g14⟩ := and2 h
          obtain ⟨h2, g15⟩ := and2 g14
          obtain ⟨h3, h4⟩ := and2 g15
          have r := ckA_ok es h4 (HaveA.t n) C
          cases xs with
          | nil => exact absurd rfl (of_decide_eq_true h3)
          | cons y ys =>
            obtain ⟨r1, r2⟩ := and2 (by simpa using r.ns : (nsB y && ys.all nsB) = true)
            exact se_blt n.h (of_decide_eq_true h1) (gl_ok C h2) r.l (star1 r1) (starP r2) C.A
        | cons _ _ => exact fls h
      | _ => exact fls h
    | _ => exact fls h
  | .mut m i es, X, W, sc, x, h, n, C => by
    cases x with
    | Call f xs ks p =>
      cases f with
      | Attribute o k ap =>
        cases o with
        | Name v p1 =>
          cases ks with
          | nil =>
            obtain ⟨h1, g16⟩ := and2 h
            obtain ⟨h2, g17⟩ := and2 g16
            obtain ⟨h3, g18⟩ := and2 g17
            obtain ⟨h4, h5⟩ := and2 g18
            obtain ⟨k1, k2, k3, k4⟩ := var_facts C h2
            have r := ckA_ok es h5 n C
            cases xs with
            | nil =>
              cases es with
              | nil => exact se_mut0 k1 k2 k3 k4 (of_decide_eq_true h1) rfl h3 C.A
              | cons _ _ => exact fls h5
            | cons y ys =>
              have hl : (y :: ys).length < 30 := of_decide_eq_true h4
              obtain ⟨r1, r2⟩ := and2 (by simpa using r.ns : (nsB y && ys.all nsB) = true)
              exact se_mut k1 k2 k3 k4 (of_decide_eq_true h1) r.a rfl (fewOk r.ns hl) h3 (star1 r1) (starP r2) C.A
          | cons _ _ => exact fls h
        | _ => exact fls h
      | _ => exact fls h
    | _ => exact fls h
  | .isi a Ts, X, W, sc, x, h, n, C => by
    cases x with
    | Call f xs ks p =>
      cases f with
      | Name m p1 =>
        match xs, ks, h with
        | [y, z], [], h =>
          obtain ⟨h1, g19⟩ := and2 h
          obtain ⟨h2, g20⟩ := and2 g19
          obtain ⟨h3, g21⟩ := and2 g20
          obtain ⟨h4, g22⟩ := and2 g21
          obtain ⟨h5, h6⟩ := and2 g22
          have e := of_decide_eq_true h1
          subst e
          have n : HaveA X Z (.no "isinstance" :: (ndE a ++ Ts.map fun T => .no (Str.ofString T.nm))) := n
          have ra := (ckE_ok a h5 n.t.l C).1
          have hT : ∀ T ∈ Ts, X.mg (Str.ofString T.nm) = none := fun T m => n.t.r _ (List.mem_map.mpr ⟨T, m, rfl⟩)
          have one : ∀ {T : Ty}, Ts = [T] → ∀ {v : Str} {p2 : Pos}, z = .Name v p2 → (decide (v = Str.ofString T.nm) && glB sc v) = true → SE X Z W (.Call (.Name "isinstance" p1) [y, z] [] p) (.isi a Ts) ∧ ST X Z W (.Call (.Name "isinstance" p1) [y, z] [] p) (.isi a Ts) := fun eT v p2 ez h7 => by
            subst eT
            subst ez
            obtain ⟨h7, h8⟩ := and2 h7
            have e := of_decide_eq_true h7
            exact se_isi C.A n.h (gl_ok C h2) ra (tyN e (gl_ok C h8) (by rw [e]; exact hT _ List.mem_cons_self)) (star1 h3) (star1 h4) (starP (by simp [h4]))
          have many : ∀ {zs : List Expr} {k : Nat} {p2 : Pos}, z = .Tuple zs k p2 → (tyB sc zs Ts && decide (zs.length ≤ 1000)) = true → SE X Z W (.Call (.Name "isinstance" p1) [y, z] [] p) (.isi a Ts) ∧ ST X Z W (.Call (.Name "isinstance" p1) [y, z] [] p) (.isi a Ts) := fun {zs k p2} ez h7 => by
            subst ez
            obtain ⟨h7, h8⟩ := and2 h7
            obtain ⟨t, ht⟩ := tyNs_ok C h7 hT
            have hl : Ts.length = zs.length := TyNs.len ht
            exact se_isiT C.A n.h (gl_ok C h2) ra ht (by rw [hl, sizeLine_eq]; have := of_decide_eq_true h8; omega) (star1 h3) (star1 rfl) (starP rfl)
          cases z with
          | Name v p2 =>
            match hTs : Ts, h6 with
            | [T], h6 => exact hTs ▸ one hTs rfl h6
            | [], h6 => exact fls h6
            | _ :: _ :: _, h6 => exact fls h6
          | Tuple zs k p2 =>
            refine many rfl ?_
            match Ts, h6 with
            | [T], h6 => exact h6
            | [], h6 => exact h6
            | _ :: _ :: _, h6 => exact h6
          | _ =>
            match Ts, h6 with
            | [T], h6 => exact fls h6
            | [], h6 => exact fls h6
            | _ :: _ :: _, h6 => exact fls h6
        | [], _, h => exact fls h
        | [_], _, h => exact fls h
        | _ :: _ :: _ :: _, _, h => exact fls h
        | [_, _], _ :: _, h => exact fls h
      | _ => exact fls h
    | _ => exact fls h
  | .met m a es, X, W, sc, x, h, n, C => by
    cases x with
    | Call f xs ks p =>
      cases f with
      | Attribute o k ap =>
        cases ks with
        | nil =>
          obtain ⟨h1, g23⟩ := and2 h
          obtain ⟨h2, g24⟩ := and2 g23
          obtain ⟨h3, g25⟩ := and2 g24
          obtain ⟨h4, g26⟩ := and2 g25
          obtain ⟨h5, g27⟩ := and2 g26
          obtain ⟨h6, h7⟩ := and2 g27
          have r := ckA_ok es h7 (HaveA.r (a := ndE a) n) C
          cases xs with
          | nil => exact absurd rfl (of_decide_eq_true h5)
          | cons y ys =>
            have hl : (y :: ys).length < 30 := of_decide_eq_true h6
            obtain ⟨r1, r2⟩ := and2 (by simpa using r.ns : (nsB y && ys.all nsB) = true)
            exact se_met C.A (of_decide_eq_true h1) (ckE_ok a h3 (HaveA.l (b := ndA es) n) C).1 r.l (attr_ok h2) (fewOk r.ns hl) h4 (star1 r1) (starP r2)
        | cons _ _ => exact fls h
      | _ => exact fls h
    | _ => exact fls h
  | .comp elt tg it c os, X, W, sc, x, h, n, C => by
    cases x with
    | ListComp y gs scope p =>
      match gs, h with
      | [⟨tx, iter, ifs, j⟩], h =>
        obtain ⟨h0, g28⟩ := and2 h
        obtain ⟨h1, g29⟩ := and2 g28
        obtain ⟨h2, g30⟩ := and2 g29
        obtain ⟨h3, g31⟩ := and2 g30
        obtain ⟨h4, g32⟩ := and2 g31
        obtain ⟨h5, g33⟩ := and2 g32
        obtain ⟨h6, g34⟩ := and2 g33
        obtain ⟨h7, h8⟩ := and2 g34
        have e := of_decide_eq_true h0
        subst e
        have n : HaveA X Z (ndI it ++ (ndO c ++ ndE elt)) := n
        have nb : ∀ {l : List Need}, HaveA X Z l → ∀ s H C cl fp, HaveA (X.blk s H scope (compEnvC scope cl C X.env) fp) Z l := fun h s H C cl fp nd m => (h nd m).blk _ _ _ _ _
        exact se_comp (own := ownN N os) C.A (ckI_ok it h1 n.l C) (by rw [C.N, C.sc]; exact blk_ok h2) (by simp [ownN, List.map_map, Function.comp_def]) (fun s H K cl fp => tg_ok (C.blk s H scope K cl fp) (fun n h => h) tg tx h3)
          (fun s H K cl fp => ckQ_ok c h4 (nb n.r.l s H K cl fp) (C.blk s H scope K cl fp)) (fun s H K cl fp => (ckE_ok elt h5 (nb n.r.r s H K cl fp) (C.blk s H scope K cl fp)).1) (of_decide_eq_true h6) (of_decide_eq_true h7) (set_ok h8)
      | [], h => exact fls h
      | ⟨_, _, _, _⟩ :: _ :: _, h => exact fls h
    | _ => exact fls h
theorem ckA_ok : ∀ (es : Es) {X : Cx} {W : WX} {sc : Scope} {xs : List Expr}, ckA N sc xs es = true → HaveA X Z (ndA es) → Plc X Z W N sc → SAll X Z W xs es
  | .nil, X, W, sc, xs, h, n, C => by
    cases xs with
    | nil => exact sall_nil
    | cons _ _ => exact fls h
  | .cons e es, X, W, sc, xs, h, n, C => by
    cases xs with
    | nil => exact fls h
    | cons x xs =>
      obtain ⟨h1, g35⟩ := and2 h
      obtain ⟨h2, h3⟩ := and2 g35
      exact sall_cons (ckE_ok e h2 (HaveA.l (b := ndA es) n) C).1 (ckA_ok es h3 (HaveA.r (a := ndE e) n) C) h1
theorem ckL_ok : ∀ (es : Es) {X : Cx} {W : WX} {sc : Scope} {xs : List Expr}, ckL N sc xs es = true → HaveA X Z (ndA es) → Plc X Z W N sc → xs ≠ [] → ∀ k pos, SB X Z W k xs es pos
  | .nil, X, W, sc, xs, h, n, C => by
    cases xs with
    | nil => exact fun z => absurd rfl z
    | cons _ _ => exact fls h
  | .cons e es, X, W, sc, xs, h, n, C => by
    cases xs with
    | nil => exact fls h
    | cons x xs =>
      intro _ k pos
      obtain ⟨h1, h2⟩ := and2 h
      have r := ckE_ok e h1 (HaveA.l (b := ndA es) n) C
      cases xs with
      | nil =>
        cases es with
        | nil => exact sb_one r
        | cons _ _ => exact fls h2
      | cons y ys =>
        have r2 := ckL_ok es h2 (HaveA.r (a := ndE e) n) C (by simp) k pos
        cases es with
        | nil => exact fls h2
        | cons e2 es2 => exact sb_cons r r2
theorem ckO_ok : ∀ (o : Oe) {X : Cx} {W : WX} {sc : Scope} {x : Option Expr}, ckO N sc x o = true → HaveA X Z (ndO o) → Plc X Z W N sc → SO X Z W x o
  | .non, X, W, sc, x, h, n, C => by
    cases x with
    | none => exact so_none
    | some _ => exact fls h
  | .som e, X, W, sc, x, h, n, C => by
    cases x with
    | none => exact fls h
    | some x => exact so_some (ckE_ok e (x := x) h n C).1
theorem ckQ_ok : ∀ (o : Oe) {X : Cx} {W : WX} {sc : Scope} {xs : List Expr}, ckQ N sc xs o = true → HaveA X Z (ndO o) → Plc X Z W N sc → SQ X Z W xs o
  | .non, X, W, sc, xs, h, n, C => by
    cases xs with
    | nil => exact sq_nil
    | cons _ _ => exact fls h
  | .som e, X, W, sc, xs, h, n, C => by
    match xs, h with
    | [x], h => exact sq_one (ckE_ok e (x := x) h n C).2
    | [], h => exact fls h
    | _ :: _ :: _, h => exact fls h
theorem ckI_ok : ∀ (it : It) {X : Cx} {W : WX} {sc : Scope} {tx x : Expr}, ckI N sc tx x it = true → HaveA X Z (ndI it) → Plc X Z W N sc → SI X Z W tx x it
  | .val e, X, W, sc, tx, x, h, n, C => si_val C.A (ckE_ok e (x := x) h n C).1
  | .rng1 e, X, W, sc, tx, x, h, n, C => by
    cases x with
    | Call f xs ks p =>
      cases f with
      | Name m p1 =>
        match xs, ks, h with
        | [y], [], h =>
          obtain ⟨h1, g36⟩ := and2 h
          obtain ⟨h2, g37⟩ := and2 g36
          obtain ⟨h3, h4⟩ := and2 g37
          have q := of_decide_eq_true h1
          subst q
          exact si_rng1 C.A n.h (gl_ok C h2) (ckE_ok e h4 n.t C).1 (star1 h3)
        | [], _, h => exact fls h
        | _ :: _ :: _, _, h => exact fls h
        | [_], _ :: _, h => exact fls h
      | _ => exact fls h
    | _ => exact fls h
  | .rng2 a b, X, W, sc, tx, x, h, n, C => by
    cases x with
    | Call f xs ks p =>
      cases f with
      | Name m p1 =>
        match xs, ks, h with
        | [y, z], [], h =>
          obtain ⟨h1, g38⟩ := and2 h
          obtain ⟨h2, g39⟩ := and2 g38
          obtain ⟨h3, g40⟩ := and2 g39
          obtain ⟨h4, g41⟩ := and2 g40
          obtain ⟨h5, h6⟩ := and2 g41
          have q := of_decide_eq_true h1
          subst q
          have n : HaveA X Z (.no "range" :: (ndE a ++ ndE b)) := n
          exact si_rng2 C.A n.h (gl_ok C h2) (ckE_ok a h5 n.t.l C).1 (ckE_ok b h6 n.t.r C).1 (by rw [star1 h3, star1 h4]; rfl) (by rw [star1 h4]; rfl) rfl
        | [], _, h => exact fls h
        | [_], _, h => exact fls h
        | _ :: _ :: _ :: _, _, h => exact fls h
        | [_, _], _ :: _, h => exact fls h
      | _ => exact fls h
    | _ => exact fls h
  | .enm e, X, W, sc, tx, x, h, n, C => by
    cases tx with
    | Tuple es k tp =>
      cases x with
      | Call f xs ks p =>
        cases f with
        | Name m p1 =>
          match xs, ks, h with
          | [y], [], h =>
            obtain ⟨h1, g42⟩ := and2 h
            obtain ⟨h2, g43⟩ := and2 g42
            obtain ⟨h3, h4⟩ := and2 g43
            have q := of_decide_eq_true h1
            subst q
            exact si_enm C.A n.h (gl_ok C h2) (ckE_ok e h4 n.t C).1 (star1 h3)
          | [], _, h => exact fls h
          | _ :: _ :: _, _, h => exact fls h
          | [_], _ :: _, h => exact fls h
        | _ => exact fls h
      | _ => exact fls h
    | _ => exact fls h
  | .zip a b, X, W, sc, tx, x, h, n, C => by
    cases tx with
    | Tuple es k tp =>
      cases x with
      | Call f xs ks p =>
        cases f with
        | Name m p1 =>
          match xs, ks, h with
          | [y, z], [], h =>
            obtain ⟨h1, g44⟩ := and2 h
            obtain ⟨h2, g45⟩ := and2 g44
            obtain ⟨h3, g46⟩ := and2 g45
            obtain ⟨h4, g47⟩ := and2 g46
            obtain ⟨h5, h6⟩ := and2 g47
            have q := of_decide_eq_true h1
            subst q
            have n : HaveA X Z (.no "zip" :: (ndE a ++ ndE b)) := n
            exact si_zip C.A n.h (gl_ok C h2) (sa_cons (ckE_ok a h5 n.t.l C).1 (sa_cons (ckE_ok b h6 n.t.r C).1 sa_nil (star1 h4)) (star1 h3)) (star1 h3) (starP (by simp [h4]))
          | [], _, h => exact fls h
          | [_], _, h => exact fls h
          | _ :: _ :: _ :: _, _, h => exact fls h
          | [_, _], _ :: _, h => exact fls h
        | _ => exact fls h
      | _ => exact fls h
    | _ => exact fls h
  | .rev e, X, W, sc, tx, x, h, n, C => by
    cases x with
    | Call f xs ks p =>
      cases f with
      | Name m p1 =>
        match xs, ks, h with
        | [y], [], h =>
          obtain ⟨h1, g48⟩ := and2 h
          obtain ⟨h2, g49⟩ := and2 g48
          obtain ⟨h3, h4⟩ := and2 g49
          have q := of_decide_eq_true h1
          subst q
          exact si_rev C.A n.h (gl_ok C h2) (ckE_ok e h4 n.t C).1 (star1 h3)
        | [], _, h => exact fls h
        | _ :: _ :: _, _, h => exact fls h
        | [_], _ :: _, h => exact fls h
      | _ => exact fls h
    | _ => exact fls h
end
end Pw
/-! Pw, part U: the checker for statements; a def's promise. -/
namespace Pw
open PySem PySem.Spec PyProof.Rows L2
def cmpB : Expr → Bool
  | .ListComp _ _ _ _ => false
  | .SetComp _ _ _ _ => false
  | .DictComp _ _ _ _ _ => false
  | _ => true
theorem sw_no {x : Expr} {t : Option Expr} {l : Nat} {env : Env} (h : cmpB x = true) : swapsWith x t l env = pure false := by
  cases x <;> first | rfl | cases h
theorem sw_noS {x t : Expr} {l : Nat} {env : Env} (h : cmpB x = true) : swapsWithSole [t] x l env = pure false := sw_no h
def tupB : Expr → Bool
  | .Tuple _ _ _ => false
  | _ => true
theorem st_no {ts : List Expr} {x : Expr} {env : Env} (h : tupB x = true) : swappedStores ts x env = pure none := by
  cases x with
  | Tuple _ _ _ => cases h
  | _ => unfold swappedStores; split <;> first | rfl | (rename_i e; simp at e)
theorem sw_cell {elt : Expr} {gs : List Comprehension} {scope : Scope} {pos py : Pos} {y : Str} {l : Nat} {env : Env} (hy : env.scope.names.lookup y ≠ some .local) : swapsWith (.ListComp elt gs scope pos) (some (.Name y py)) l env = pure false := by
  have ky : (env.kindOf y == some .local) = false := by
    show (env.scope.names.lookup y == some .local) = false
    exact beq_eq_false_iff_ne.mpr hy
  unfold swapsWith
  simp only [ky, Bool.and_false, Bool.false_and]
/-- the names that two or three stores at once turn round; none: not told -/
def swD (sc : Scope) (ts vs : List Expr) : Option (Option (List Str)) :=
  if (!(ts.length == 2 || ts.length == 3) || vs.length != ts.length) = true then some none
  else if (vs.any fun | .Starred .. => true | _ => false) = true then some none
  else
    let line := (ts.head?.map (·.pos.line)).getD 0
    let names := ts.filterMap fun
      | .Name id pos => if sc.names.lookup id == some .local && pos.line == line then some id else none
      | _ => none
    if (names.length != ts.length || names.eraseDups.length != names.length) = true then some none
    else if vs.all (foldedForSure 8) = true then some none
    else if vs.all (constantsAlone 8) = true then none
    else some (some names)
theorem swD_ok {sc : Scope} {ts vs : List Expr} {k k2 : Nat} {p p2 : Pos} {env : Env} {r : Option (List Str)} (hs : env.scope = sc) (hk : sc.kind = .function) (h : swD sc ts vs = some r) : swappedStores [.Tuple ts k p] (.Tuple vs k2 p2) env = pure r := by
  subst hs
  have hb : (env.blockKind != .function) = false := by unfold Env.blockKind; rw [hk]; rfl
  unfold swappedStores
  unfold swD at h
  simp only [hb, Bool.or_false]
  by_cases c1 : (!(ts.length == 2 || ts.length == 3) || vs.length != ts.length) = true
  · rw [if_pos c1] at h
    cases h
    exact if_pos c1
  rw [if_neg c1] at h
  refine (if_neg c1).trans ?_
  split at h
  · rename_i c2
    cases h
    exact if_pos c2
  rename_i c2
  refine (if_neg c2).trans ?_
  dsimp only at h
  split at h
  · rename_i c3
    cases h
    exact if_pos c3
  rename_i c3
  refine (if_neg c3).trans ?_
  split at h
  · rename_i c4
    cases h
    exact if_pos c4
  rename_i c4
  refine (if_neg c4).trans ?_
  split at h
  · cases h
  rename_i c5
  cases h
  exact if_neg c5

def locB (sc : Scope) (n : Str) : Bool := decide (sc.names.lookup n = some .local) || decide (sc.names.lookup n = some .cell)
def nmsB (N : List Str) (sc : Scope) : List Expr → List Nat → Bool
  | [], [] => true
  | x :: xs, i :: is => match x with
    | .Name n _ => decide (N[i]? = some n) && (locB sc n && nmsB N sc xs is)
    | _ => false
  | _, _ => false
def nm1 : Expr → Option (Str × Pos)
  | .Name n p => some (n, p)
  | _ => none
theorem nm1_eq {x : Expr} {n : Str} {p : Pos} (h : nm1 x = some (n, p)) : x = .Name n p := by
  cases x with
  | Name m q => cases h; rfl
  | _ => cases h
def sub1 : Expr → Option (Expr × Expr × Pos)
  | .Subscript y z p => some (y, z, p)
  | _ => none
theorem sub1_eq {x y z : Expr} {p : Pos} (h : sub1 x = some (y, z, p)) : x = .Subscript y z p := by
  cases x with
  | Subscript m q r => cases h; rfl
  | _ => cases h
def tup1 : Expr → Option (List Expr × Nat × Pos)
  | .Tuple xs k p => some (xs, k, p)
  | _ => none
theorem tup1_eq {x : Expr} {xs : List Expr} {k : Nat} {p : Pos} (h : tup1 x = some (xs, k, p)) : x = .Tuple xs k p := by
  cases x with
  | Tuple m q r => cases h; rfl
  | _ => cases h
def lcB (sc : Scope) (N : List Str) (n : Str) (py : Pos) (y : Expr) : Bool :=
  match y with
  | .ListComp _ _ scope pos => decide (sc.names.lookup n ≠ some .local) || ((py.line == pos.line) && !(scope.names.any fun (m, k) => m == n && (k == .local || k == .cell)))
  | _ => false
def asgB (N : List Str) (sc : Scope) (i : Nat) (n : Str) (py : Pos) (y : Expr) (e : E) : Bool := decide (N[i]? = some n) && (locB sc n && (ckE N sc y e && (cmpB y || lcB sc N n py y)))
def par2B (sc : Scope) (ts xs : List Expr) : Bool :=
  match ts, xs with
  | [t1, t2], [_, _] => match nm1 t1, nm1 t2 with
    | some (n1, _), some (n2, _) => decide (sc.names.lookup n1 = some .local) && (decide (sc.names.lookup n2 = some .local) && decide (swD sc ts xs = some (some [n1, n2])))
    | _, _ => false
  | _, _ => false
def par3B (sc : Scope) (ts xs : List Expr) : Bool :=
  match ts, xs with
  | [t1, t2, t3], [_, _, _] => match nm1 t1, nm1 t2, nm1 t3 with
    | some (n1, _), some (n2, _), some (n3, _) => decide (sc.names.lookup n1 = some .local) && (decide (sc.names.lookup n2 = some .local) && (decide (sc.names.lookup n3 = some .local) && decide (swD sc ts xs = some (some [n1, n2, n3]))))
    | _, _, _ => false
  | _, _ => false
def parB (N : List Str) (sc : Scope) (ts xs : List Expr) (is : List Nat) (es : Es) : Bool :=
  nmsB N sc ts is && (decide is.Nodup && (decide (is.length ≤ 1000) && (ckA N sc xs es && (decide (swD sc ts xs = some none) || (par2B sc ts xs || par3B sc ts xs)))))
mutual
def ckS (N : List Str) (sc : Scope) (x : Stmt) : S → Bool
  | .dead => true
  | .pass => match x with
    | .Pass _ => true
    | _ => false
  | .brk => match x with
    | .Break _ => true
    | _ => false
  | .cont => match x with
    | .Continue _ => true
    | _ => false
  | .exp e => match x with
    | .Expr y _ => cmpB y && ckE N sc y e
    | _ => false
  | .asg i e => match x with
    | .Assign ts y _ => match ts with
      | [t] => match nm1 t with
        | some (n, py) => asgB N sc i n py y e
        | none => false
      | _ => false
    | _ => false
  | .unp t e => match x with
    | .Assign ts y _ => match ts with
      | [tx] => (!tupB tx) && (tupB y && (cmpB y && (tgB N sc (fun _ => true) t tx && ckE N sc y e)))
      | _ => false
    | _ => false
  | .par is es => match x with
    | .Assign ts y _ => match ts with
      | [t] => match tup1 t, tup1 y with
        | some (ts, _, _), some (xs, _, _) => parB N sc ts xs is es
        | _, _ => false
      | _ => false
    | _ => false
  | .sub i k e => match x with
    | .Assign ts y _ => match ts with
      | [t] => match sub1 t with
        | some (o, z, _) => match nm1 o with
          | some (n, _) => varB N sc i n && (ckE N sc z k && (ixB z && (cmpB y && ckE N sc y e)))
          | none => false
        | none => false
      | _ => false
    | _ => false
  | .unpSub i k j e => match x with
    | .Assign ts y _ => match ts with
      | [t] => match tup1 t with
        | some ([u, v], _, _) => match sub1 u, nm1 v with
          | some (o, z, _), some (m, _) => match nm1 o with
            | some (n, _) => varB N sc i n && (decide (N[j]? = some m) && (locB sc m && (ckE N sc z k && (ixB z && (tupB y && (cmpB y && ckE N sc y e))))))
            | none => false
          | _, _ => false
        | _ => false
      | _ => false
    | _ => false
  | .ifs c a b => match x with
    | .If y p q _ => ckE N sc y c && (ckSs N sc p a && ckSs N sc q b)
    | _ => false
  | .for_ t it b => match x with
    | .For tx y p q _ => decide (q = []) && (setB y && (ckI N sc tx y it && (tgB N sc (fun _ => true) t tx && ckSs N sc p b)))
    | _ => false
  | .ret e => match x with
    | .Return o _ => match o with
      | some y => ckE N sc y e
      | none => false
    | _ => false
  | .aug i op e => match x with
    | .AugAssign t o y _ => match nm1 t with
      | some (n, _) => decide (N[i]? = some n) && (locB sc n && (decide (o = op) && (iopB op && ckE N sc y e)))
      | none => false
    | _ => false
  | .whl _ c b => match x with
    | .While y p q _ => decide (q = []) && (ckE N sc y c && ckSs N sc p b)
    | _ => false
  | .raise _ _ => false
def ckSs (N : List Str) (sc : Scope) (xs : List Stmt) : Ss → Bool
  | .nil => match xs with
    | [] => true
    | _ => false
  | .cons st sl => match xs with
    | x :: xs => ckS N sc x st && ckSs N sc xs sl
    | [] => false
end
mutual
def ndS : S → List Need
  | .exp e | .asg _ e | .unp _ e | .ret e | .raise _ e | .aug _ _ e => ndE e
  | .par _ es => ndA es
  | .sub _ k e | .unpSub _ k _ e => ndE k ++ ndE e
  | .ifs c a b => ndE c ++ (ndSs a ++ ndSs b)
  | .for_ _ it b => ndI it ++ ndSs b
  | .whl _ c b => ndE c ++ ndSs b
  | .dead | .pass | .brk | .cont => []
def ndSs : Ss → List Need
  | .nil => []
  | .cons s ss => ndS s ++ ndSs ss
end
/-- the place of a statement -/
structure Bdy (X : Cx) (Z : Zx) (W : WX) (N : List Str) (sc : Scope) : Prop where
  B : Body X Z W
  C : Plc X Z W N sc
  kind : sc.kind = .function
  fn : ∀ x, X.fn x = true
variable {Z : Zx} {N : List Str}
theorem loc_ok {X : Cx} {W : WX} {sc : Scope} {n : Str} (C : Plc X Z W N sc) (h : locB sc n = true) : Loc X.env.scope n := by
  rw [C.sc]
  rcases (Bool.or_eq_true _ _).mp h with h | h
  · exact .inl (of_decide_eq_true h)
  · exact .inr (of_decide_eq_true h)
theorem nms_ok {X : Cx} {W : WX} {sc : Scope} (C : Plc X Z W N sc) : ∀ {xs : List Expr} {is : List Nat}, nmsB N sc xs is = true → Nms X xs is
  | [], [], _ => .nil
  | [], _ :: _, h => fls h
  | x :: _, [], h => fls h
  | x :: xs, i :: is, h => by
    cases x with
    | Name n p =>
      obtain ⟨h1, g1⟩ := and2 h
      obtain ⟨h2, h3⟩ := and2 g1
      exact .cons (by rw [C.N]; exact of_decide_eq_true h1) (loc_ok C h2) (nms_ok C h3)
    | _ => exact fls h
theorem sub_arm {o z : Expr} {p : Pos} {env : Env} (h : ixB z = true) (v : Value) : assign (.Subscript o z p) env v = (do
    let ov ← holding [v] (eval o env)
    let iv ← holding [v, ov] (eval z env)
    standAt p
    holding [v, ov, iv] (setItem ov iv v)
    release [v, ov, iv] []) := by
  cases z <;> first | rfl | exact fls h
theorem asg_ck {X : Cx} {W : WX} {sc : Scope} {i : Nat} {m : Str} {py p : Pos} {y : Expr} {e : E} (ce : ckE N sc y e = true → SE X Z W y e ∧ ST X Z W y e) (nc : ∀ elt tg it c os, e = .comp elt tg it c os → ckE N sc y e = true → HaveA X Z (ndI it ++ (ndO c ++ ndE elt))) (B : Bdy X Z W N sc)
    (h : asgB N sc i m py y e = true) : SS X Z W (.Assign [.Name m py] y p) (.asg i e) := by
  obtain ⟨h1, g1⟩ := and2 h
  obtain ⟨h2, g2⟩ := and2 g1
  obtain ⟨h3, h4⟩ := and2 g2
  have hi : X.N[i]? = some m := by rw [B.C.N]; exact of_decide_eq_true h1
  have hl := loc_ok B.C h2
  rcases (Bool.or_eq_true _ _).mp h4 with h5 | h5
  · exact ss_asg B.B hi hl (ce h3).1 (sw_no h5)
  · cases y with
    | ListComp z gs scope cp =>
      have h5 : (decide (sc.names.lookup m ≠ some .local) || ((py.line == cp.line) && !(scope.names.any fun (m', k) => m' == m && (k == .local || k == .cell)))) = true := h5
      by_cases hc : sc.names.lookup m = some .local
      · rcases (Bool.or_eq_true _ _).mp h5 with h6 | h6
        · exact absurd hc (of_decide_eq_true h6)
        obtain ⟨k2, k3⟩ := and2 h6
        have hloc : X.env.scope.names.lookup m = some .local := by rw [B.C.sc]; exact hc
        cases e with
        | comp elt tg it c os =>
          have n := nc elt tg it c os rfl h3
          match gs, h3 with
          | [⟨tx, iter, ifs, j⟩], h3 =>
            obtain ⟨h0, f1⟩ := and2 h3
            obtain ⟨q1, f2⟩ := and2 f1
            obtain ⟨q2, f3⟩ := and2 f2
            obtain ⟨q3, f4⟩ := and2 f3
            obtain ⟨q4, f5⟩ := and2 f4
            obtain ⟨q5, f6⟩ := and2 f5
            obtain ⟨q6, f7⟩ := and2 f6
            obtain ⟨q7, q8⟩ := and2 f7
            have ej := of_decide_eq_true h0
            subst ej
            have nb : ∀ {l : List Need}, HaveA X Z l → ∀ s H C cl fp, HaveA (X.blk s H scope (compEnvC scope cl C X.env) fp) Z l := fun h s H C cl fp nd m => (h nd m).blk _ _ _ _ _
            have C := B.C
            exact ss_asgLc (own := ownN N os) B.B (ckI_ok it q1 n.l C) (by rw [C.N, C.sc]; exact blk_ok q2) (by simp [ownN, List.map_map, Function.comp_def]) (fun s H K cl fp => tg_ok (C.blk s H scope K cl fp) (fun n h => h) tg tx q3)
              (fun s H K cl fp => ckQ_ok c q4 (nb n.r.l s H K cl fp) (C.blk s H scope K cl fp)) (fun s H K cl fp => (ckE_ok elt q5 (nb n.r.r s H K cl fp) (C.blk s H scope K cl fp)).1) (of_decide_eq_true q6) (of_decide_eq_true q7) (set_ok q8)
              hi hloc (sw_true (by rw [C.sc]; exact B.kind) hloc k2 (by simpa using k3))
          | [], h3 => exact fls h3
          | ⟨_, _, _, _⟩ :: _ :: _, h3 => exact fls h3
        | _ => exact fls h3
      · exact ss_asg B.B hi hl (ce h3).1 (sw_cell (by rw [B.C.sc]; exact hc))
    | _ => exact fls h5
theorem par_ck {X : Cx} {W : WX} {sc : Scope} {is : List Nat} {es : Es} {ts xs : List Expr} {k1 k2 : Nat} {p p1 p2 : Pos} (ca : ckA N sc xs es = true → SAll X Z W xs es) (B : Bdy X Z W N sc) (h : parB N sc ts xs is es = true) :
    SS X Z W (.Assign [.Tuple ts k1 p1] (.Tuple xs k2 p2) p) (.par is es) := by
  obtain ⟨h1, g1⟩ := and2 h
  obtain ⟨h2, g2⟩ := and2 g1
  obtain ⟨h3, g3⟩ := and2 g2
  obtain ⟨h4, h5⟩ := and2 g3
  have ra := ca h4
  have hn := nms_ok B.C h1
  have nd : is.Nodup := of_decide_eq_true h2
  rcases (Bool.or_eq_true _ _).mp h5 with h6 | h6
  · exact ss_parT B.B hn nd (by have := of_decide_eq_true h3; rw [sizeLine_eq]; omega) ra.w (swD_ok B.C.sc B.kind (of_decide_eq_true h6)) rfl rfl
  rcases (Bool.or_eq_true _ _).mp h6 with h7 | h7
  · unfold par2B at h7
    split at h7
    · rename_i t1 t2 a b
      split at h7
      · rename_i n1 q1 n2 q2 e1 e2
        obtain rfl := nm1_eq e1
        obtain rfl := nm1_eq e2
        obtain ⟨c1, g4⟩ := and2 h7
        obtain ⟨c2, c3⟩ := and2 g4
        cases hn with
        | cons a1 a2 t1 =>
          cases t1 with
          | cons b1 b2 t2 =>
            cases t2
            have hij := (List.nodup_cons.mp nd).1
            exact ss_par2 B.B a1 b1 (fun e => hij (by simp [e])) (by rw [B.C.sc]; exact of_decide_eq_true c1) (by rw [B.C.sc]; exact of_decide_eq_true c2) ra.w (swD_ok B.C.sc B.kind (of_decide_eq_true c3)) rfl
      · exact fls h7
    · exact fls h7
  · unfold par3B at h7
    split at h7
    · rename_i t1 t2 t3 a b c
      split at h7
      · rename_i n1 q1 n2 q2 n3 q3 e1 e2 e3
        obtain rfl := nm1_eq e1
        obtain rfl := nm1_eq e2
        obtain rfl := nm1_eq e3
        obtain ⟨c1, g4⟩ := and2 h7
        obtain ⟨c2, g5⟩ := and2 g4
        obtain ⟨c3, c4⟩ := and2 g5
        cases hn with
        | cons a1 a2 t1 =>
          cases t1 with
          | cons b1 b2 t2 =>
            cases t2 with
            | cons d1 d2 t3 =>
              cases t3
              have hij := (List.nodup_cons.mp nd).1
              have hjk := (List.nodup_cons.mp (List.nodup_cons.mp nd).2).1
              exact ss_par3 B.B a1 b1 d1 (fun e => hij (by simp [e])) (fun e => hij (by simp [e])) (fun e => hjk (by simp [e])) (by rw [B.C.sc]; exact of_decide_eq_true c1) (by rw [B.C.sc]; exact of_decide_eq_true c2) (by rw [B.C.sc]; exact of_decide_eq_true c3) ra.w (swD_ok B.C.sc B.kind (of_decide_eq_true c4)) rfl
      · exact fls h7
    · exact fls h7
mutual
theorem ckS_ok : ∀ (st : S) {X : Cx} {W : WX} {sc : Scope} {x : Stmt}, ckS N sc x st = true → HaveA X Z (ndS st) → Bdy X Z W N sc → SS X Z W x st
  | .dead, X, W, sc, x, h, n, B => ss_dead
  | .pass, X, W, sc, x, h, n, B => by
    cases x with
    | Pass p => exact ss_pass
    | _ => exact fls h
  | .brk, X, W, sc, x, h, n, B => by
    cases x with
    | Break p => exact ss_brk
    | _ => exact fls h
  | .cont, X, W, sc, x, h, n, B => by
    cases x with
    | Continue p => exact ss_cont
    | _ => exact fls h
  | .exp e, X, W, sc, x, h, n, B => by
    cases x with
    | Expr y p =>
      obtain ⟨h1, h2⟩ := and2 h
      exact ss_exp (ckE_ok e h2 n B.C).1 (sw_no h1)
    | _ => exact fls h
  | .asg i e, X, W, sc, x, h, n, B => by
    cases x with
    | Assign ts y p =>
      match ts, h with
      | [t], h =>
        cases q : nm1 t with
        | none => simp [ckS, q] at h
        | some np =>
          obtain ⟨m, py⟩ := np
          obtain rfl := nm1_eq q
          exact asg_ck (fun h => ckE_ok e h n B.C) (fun elt tg it c os ee h => by subst ee; exact n) B (by simpa [ckS, q] using h)
      | [], h => exact fls h
      | _ :: _ :: _, h => exact fls h
    | _ => exact fls h
  | .unp t e, X, W, sc, x, h, n, B => by
    cases x with
    | Assign ts y p =>
      match ts, h with
      | [tx], h =>
        obtain ⟨h1, g1⟩ := and2 h
        obtain ⟨h2, g2⟩ := and2 g1
        obtain ⟨h3, g3⟩ := and2 g2
        obtain ⟨h4, h5⟩ := and2 g3
        exact ss_unp (ckE_ok e h5 n B.C).1 (tg_ok B.C (fun n _ => B.fn n) t tx h4) (sw_noS h3) (st_no h2) (by cases tx <;> first | rfl | exact fls h1)
      | [], h => exact fls h
      | _ :: _ :: _, h => exact fls h
    | _ => exact fls h
  | .par is es, X, W, sc, x, h, n, B => by
    cases x with
    | Assign ts0 y p =>
      match ts0, h with
      | [t], h =>
        cases q : tup1 t with
        | none => simp [ckS, q] at h
        | some a =>
          cases q2 : tup1 y with
          | none => simp [ckS, q, q2] at h
          | some b =>
            obtain ⟨ts, k1, p1⟩ := a
            obtain ⟨xs, k2, p2⟩ := b
            obtain rfl := tup1_eq q
            obtain rfl := tup1_eq q2
            have h : parB N sc ts xs is es = true := by simpa [ckS, q, q2] using h
            exact par_ck (fun h => ckA_ok es h n B.C) B h
      | [], h => exact fls h
      | _ :: _ :: _, h => exact fls h
    | _ => exact fls h
  | .sub i k e, X, W, sc, x, h, n, B => by
    cases x with
    | Assign ts y p =>
      match ts, h with
      | [t], h =>
        cases q : sub1 t with
        | none => simp [ckS, q] at h
        | some a =>
          obtain ⟨o, z, p3⟩ := a
          cases q2 : nm1 o with
          | none => simp [ckS, q, q2] at h
          | some b =>
            obtain ⟨m, p2⟩ := b
            obtain rfl := sub1_eq q
            obtain rfl := nm1_eq q2
            have h : (varB N sc i m && (ckE N sc z k && (ixB z && (cmpB y && ckE N sc y e)))) = true := by simpa [ckS, q, q2] using h
            obtain ⟨h1, g1⟩ := and2 h
            obtain ⟨h2, g0⟩ := and2 g1
            obtain ⟨hz, g2⟩ := and2 g0
            obtain ⟨h3, h4⟩ := and2 g2
            obtain ⟨k1, k2, k3, k4⟩ := var_facts B.C h1
            have n : HaveA X Z (ndE k ++ ndE e) := n
            exact ss_sub k1 k2 k3 k4 (ckE_ok k h2 n.l B.C).1 (ckE_ok e h4 n.r B.C).1 (sw_noS h3) (by cases y <;> rfl) rfl (sub_arm hz)
      | [], h => exact fls h
      | _ :: _ :: _, h => exact fls h
    | _ => exact fls h
  | .unpSub i k j e, X, W, sc, x, h, n, B => by
    cases x with
    | Assign ts y p =>
      match ts, h with
      | [t], h =>
        cases q : tup1 t with
        | none => simp [ckS, q] at h
        | some a =>
          obtain ⟨xs, kt, pt⟩ := a
          match xs, q with
          | [u, v], q =>
            cases q1 : sub1 u with
            | none => simp [ckS, q, q1] at h
            | some a =>
              obtain ⟨o, z, p3⟩ := a
              cases q2 : nm1 v with
              | none => simp [ckS, q, q1, q2] at h
              | some b =>
                obtain ⟨m, p4⟩ := b
                cases q3 : nm1 o with
                | none => simp [ckS, q, q1, q2, q3] at h
                | some c =>
                  obtain ⟨m2, p2⟩ := c
                  obtain rfl := tup1_eq q
                  obtain rfl := sub1_eq q1
                  obtain rfl := nm1_eq q2
                  obtain rfl := nm1_eq q3
                  have h : (varB N sc i m2 && (decide (N[j]? = some m) && (locB sc m && (ckE N sc z k && (ixB z && (tupB y && (cmpB y && ckE N sc y e))))))) = true := by simpa [ckS, q, q1, q2, q3] using h
                  obtain ⟨h1, g1⟩ := and2 h
                  obtain ⟨h2, g2⟩ := and2 g1
                  obtain ⟨h3, g3⟩ := and2 g2
                  obtain ⟨h4, g0⟩ := and2 g3
                  obtain ⟨hz, g4⟩ := and2 g0
                  obtain ⟨h5, g5⟩ := and2 g4
                  obtain ⟨h6, h7⟩ := and2 g5
                  obtain ⟨k1, k2, k3, k4⟩ := var_facts B.C h1
                  have n : HaveA X Z (ndE k ++ ndE e) := n
                  exact ss_unpSub B.B k1 k2 k3 k4 (by rw [B.C.N]; exact of_decide_eq_true h2) (loc_ok B.C h3) (ckE_ok k h4 n.l B.C).1 (ckE_ok e h7 n.r B.C).1 (sw_noS h6) (st_no h5) (sub_arm hz)
          | [], q => simp [ckS, q] at h
          | [_], q => simp [ckS, q] at h
          | _ :: _ :: _ :: _, q => simp [ckS, q] at h
      | [], h => exact fls h
      | _ :: _ :: _, h => exact fls h
    | _ => exact fls h
  | .ifs c a b, X, W, sc, x, h, n, B => by
    cases x with
    | If y p q pos =>
      obtain ⟨h1, g1⟩ := and2 h
      obtain ⟨h2, h3⟩ := and2 g1
      have n : HaveA X Z (ndE c ++ (ndSs a ++ ndSs b)) := n
      exact ss_ifs (ckE_ok c h1 n.l B.C).2 (ckSs_ok a h2 n.r.l B) (ckSs_ok b h3 n.r.r B)
    | _ => exact fls h
  | .for_ t it b, X, W, sc, x, h, n, B => by
    cases x with
    | For tx y p q pos =>
      obtain ⟨h0, g0⟩ := and2 h
      obtain ⟨h1, g1⟩ := and2 g0
      obtain ⟨h2, g2⟩ := and2 g1
      obtain ⟨h3, h4⟩ := and2 g2
      have e0 := of_decide_eq_true h0
      subst e0
      exact ss_for B.B (ckI_ok it h2 (HaveA.l (b := ndSs b) n) B.C) (tg_ok B.C (fun n _ => B.fn n) t tx h3) (ckSs_ok b h4 (HaveA.r (a := ndI it) n) B) (set_ok h1)
    | _ => exact fls h
  | .ret e, X, W, sc, x, h, n, B => by
    cases x with
    | Return y p =>
      cases y with
      | some y => exact ss_ret (ckE_ok e (x := y) h n B.C).1
      | none => exact fls h
    | _ => exact fls h
  | .aug i op e, X, W, sc, x, h, n, B => by
    cases x with
    | AugAssign t o y p =>
      cases q : nm1 t with
      | none => simp [ckS, q] at h
      | some np =>
        obtain ⟨m, py⟩ := np
        obtain rfl := nm1_eq q
        have h : (decide (N[i]? = some m) && (locB sc m && (decide (o = op) && (iopB op && ckE N sc y e)))) = true := by simpa [ckS, q] using h
        obtain ⟨h1, g1⟩ := and2 h
        obtain ⟨h2, g2⟩ := and2 g1
        obtain ⟨h3, g3⟩ := and2 g2
        obtain ⟨h4, h5⟩ := and2 g3
        have e0 := of_decide_eq_true h3
        subst e0
        exact ss_aug B.B (by rw [B.C.N]; exact of_decide_eq_true h1) (loc_ok B.C h2) (ckE_ok e h5 n B.C).1 h4
    | _ => exact fls h
  | .whl m c b, X, W, sc, x, h, n, B => by
    cases x with
    | While y p q pos =>
      obtain ⟨h0, g0⟩ := and2 h
      obtain ⟨h1, h2⟩ := and2 g0
      have e0 := of_decide_eq_true h0
      subst e0
      exact ss_whl B.B (ckE_ok c h1 (HaveA.l (b := ndSs b) n) B.C).2 (ckSs_ok b h2 (HaveA.r (a := ndE c) n) B)
    | _ => exact fls h
  | .raise _ _, X, W, sc, x, h, n, B => by simp [ckS] at h
theorem ckSs_ok : ∀ (sl : Ss) {X : Cx} {W : WX} {sc : Scope} {xs : List Stmt}, ckSs N sc xs sl = true → HaveA X Z (ndSs sl) → Bdy X Z W N sc → SSs X Z W xs sl
  | .nil, X, W, sc, xs, h, n, B => by
    cases xs with
    | nil => exact sss_nil
    | cons _ _ => exact fls h
  | .cons st sl, X, W, sc, xs, h, n, B => by
    cases xs with
    | nil => exact fls h
    | cons x xs =>
      obtain ⟨h1, h2⟩ := and2 h
      exact sss_cons (ckS_ok st h1 (HaveA.l (b := ndSs sl) n) B) (ckSs_ok sl h2 (HaveA.r (a := ndS st) n) B)
end
end Pw
/-! Pw, part V: a def keeps its promise. -/
namespace Pw
open PySem PySem.Spec PyProof.Rows L2
def keepO (i : Nat) : Option Sl → Option Sl
  | some sl => if sl.z = some i then some sl else none
  | none => none
def outsOf (n : Nat) (ρ : Envr) : List (Option Sl) := (List.range n).map fun i => keepO i ((ρ[i]?).join)
def startE (n : Nat) (args : List Sl) : Envr := args.map some ++ List.replicate (n - args.length) none
def finF (md : List Bool) : SR → FR
  | .next ρ => .ok (.d .none) (outsOf md.length ρ)
  | .ret r ρ => if resOk r = true then .ok r (outsOf md.length ρ) else .stuck
  | .raise C x ρ => .raise C x (outsOf md.length ρ)
  | _ => .stuck
/-- what a def's text computes: n its slots, md its parameters' kinds -/
def semOf (n : Nat) (md : List Bool) (body : Ss) (args : List Sl) : FR := finF md (exs body (startE n args))
theorem keepO_some {i : Nat} {o : Option Sl} {sl : Sl} (h : keepO i o = some sl) : o = some sl ∧ sl.z = some i := by
  cases o with
  | none => cases h
  | some s =>
    have h : (if s.z = some i then some s else none) = some sl := h
    split at h
    · rename_i e; cases h; exact ⟨rfl, e⟩
    · cases h
theorem GoodX.pad {Z : Zx} {S H : Hp} {O : OM} {σ : L2.St} {ρ : Envr} (G : GoodX Z S O [] [] σ ρ H) (k : Nat) : GoodX Z S O [] [] (σ ++ List.replicate k none) (ρ ++ List.replicate k none) H := by
  refine ⟨G.le, G.own, G.liv, fun i sl e => ?_, trivial, G.keep, G.sh0, G.shf, G.iol, by simp [G.len]⟩
  have hi : i < ρ.length := by
    by_cases hi : i < ρ.length
    · exact hi
    · rw [List.getElem?_append_right (by omega), List.getElem?_replicate] at e
      split at e <;> cases e
  rw [List.getElem?_append_left hi] at e
  obtain ⟨v, h1, h2⟩ := G.env i sl e
  exact ⟨v, by rw [List.getElem?_append_left (by rw [← G.len]; exact hi)]; exact h1, h2⟩
theorem Good.fin {K : PySem.W.Frag} {cls : Str → Addr} {S0 H0 : Hp} {O0 : OM} {vs0 : List V} {md : List Bool} {vs : List V} {ts : List Sl} {σ : L2.St} {ρ : Envr} {H : Hp} (hl : vs0.length = md.length) (hn : ∀ i, Sl.ali i ∉ ts)
    (G : Good (entryZ K cls S0 H0 O0 vs0) vs ts σ ρ H) : Good (entryZ K cls S0 H0 O0 vs0) vs ts (vs0.map some) (outEnv md (outsOf md.length ρ)) H := by
  obtain ⟨S, O, g⟩ := G
  have el : (outEnv md (outsOf md.length ρ)).length = md.length := by simp [outEnv, outsOf]
  refine ⟨S, O, g.le, g.own, g.liv, fun i sl e => ?_, g.tmp.mv Le.refl (fun i v m => absurd m (hn i)) (fun _ _ _ _ _ a b => ⟨a, b⟩), g.keep, g.sh0, g.shf, g.iol, by rw [el, List.length_map, hl]⟩
  have hi : i < md.length := by
    have := (List.getElem?_eq_some_iff.mp e).1
    rw [el] at this; exact this
  have e2 : (if md[i] = true then keepO i ((ρ[i]?).join) else none) = some sl := by
    simp only [outEnv, outsOf, List.getElem?_map, List.getElem?_zip_eq_some, Option.map_eq_some_iff] at e
    obtain ⟨⟨b, o⟩, h1, h2⟩ := e
    obtain ⟨h3, a, h4, h5⟩ := h1
    rw [List.getElem?_range hi] at h4
    cases h4
    obtain ⟨h6, h7⟩ := List.getElem?_eq_some_iff.mp h3
    dsimp only at h7 h5 h2
    rw [h7, h5]
    exact h2
  split at e2
  · obtain ⟨e3, ez⟩ := keepO_some e2
    have e4 : ρ[i]? = some (some sl) := by
      cases q : ρ[i]? with
      | none => rw [q] at e3; cases e3
      | some u => rw [q] at e3; exact congrArg some e3
    obtain ⟨v', h1, h2⟩ := g.env i sl e4
    have top : ∀ p, (entryZ K cls S0 H0 O0 vs0).top i = some p → (vs0.map some)[i]? = some (some (.ref p)) := fun p hp => by
      have hp : (match vs0[i]? with | some (.ref p) => some p | _ => none) = some p := hp
      rw [List.getElem?_map]
      split at hp
      · rename_i q eq; cases hp; rw [eq]; rfl
      · cases hp
    cases sl with
    | ol z xs => cases ez; obtain ⟨p, rfl, a, b, c⟩ := id h2; exact ⟨_, top p c.1, h2⟩
    | od z t kvs => cases ez; obtain ⟨p, rfl, a, b, c⟩ := id h2; exact ⟨_, top p c.1, h2⟩
    | oi z C fs => cases ez; obtain ⟨p, dx, fvs, rfl, a, b, c, d, f⟩ := id h2; exact ⟨_, top p f.1, h2⟩
    | _ => cases ez
  · cases e2
/-- what a def keeps to, at a level -/
def FnK (P : Program) (w : World) (K : PySem.W.Frag) (mg : Str → Option Value) (base : Heap) (cls : Str → Addr) (k : Nat) (F : Fn) : Prop := ∃ (f : Addr) (fd : FuncData) (ps : List Str),
  FnG P w K mg base (CX P w) k f fd ps (spec K cls F) ∧ mg F.name = some (.ref f) ∧ PySem.W.keepIn K (.ref f) = true ∧ Binds K fd ps [] ∧ (F.name == ("__debug__" : Str)) = false
theorem FnK.mono {P : Program} {w : World} {K : PySem.W.Frag} {mg : Str → Option Value} {base : Heap} {cls : Str → Addr} {j k : Nat} {F : Fn} (h : FnK P w K mg base cls j F) (l : j ≤ k) : FnK P w K mg base cls k F := by
  obtain ⟨f, fd, ps, a, b, c, d, e⟩ := h
  exact ⟨f, fd, ps, a.mono l, b, c, d, e⟩
def NeedK (P : Program) (w : World) (K : PySem.W.Frag) (mg : Str → Option Value) (base : Heap) (cls : Str → Addr) (k : Nat) : Need → Prop
  | .fn F => FnK P w K mg base cls k F
  | .glo x d => ∃ v u, mg x = some u ∧ RelV v u ∧ (∀ S, Rp K S v d) ∧ (x == ("__debug__" : Str)) = false
  | .no x => mg x = none
theorem spec_len {K : PySem.W.Frag} {cls : Str → Addr} {F : Fn} {vs : List V} {H : Hp} {Q : VK} {E : XK} (h : spec K cls F vs H Q E) : vs.length = F.md.length := by
  obtain ⟨S, O, args, l, _⟩ := h
  exact l
section
variable {P : Program} {w : World} {K : PySem.W.Frag} {mg : Str → Option Value} {base : Heap} {cls : Str → Addr} {k : Nat} {f : Addr} {name qual : Str} {params : Arguments} {body : List Stmt} {scope : Scope} {dV kV doc pm cdv ct oc : Value} {an od : Option Addr} {osl : Array (Option Value)} {N ps : List Str} {F : Fn} {bd : Ss}
theorem fn_keeps (lk : K.lookup f = some ⟨oc, od, .func (PySem.W.fnOf name qual params body scope dV kV doc pm an cdv ct), osl⟩) (hcd : PySem.W.codeIn K cdv qual = true) (S : FnScope N ps scope) (hmd : F.md.length = ps.length)
    (hsem : F.sem = semOf N.length F.md bd) (ck : ckSs N scope body bd = true) (nd : ∀ n ∈ ndSs bd, NeedK P w K mg base cls k n) :
    FnG P w K mg base (CX P w) (k + 1) f (PySem.W.fnOf name qual params body scope dV kV doc pm an cdv ct) ps (spec K cls F) := by
  refine fnG_of lk hcd S (fun vs H Q E h => by rw [spec_len h, hmd]) fun A outer s H vs Q E hr hgd hsp => ?_
  obtain ⟨S0, O0, args, l1, l2, G, h⟩ := hsp
  have A1 : At (cxOf (CX P w) P w K mg base N qual scope f cdv A outer s H E) (entryZ K cls S0 H O0 vs) (fun c d _ H' => E c d H') :=
    ⟨rfl, rfl, S.nd, by have := hr.un; show (A.deeper (envOfC qual scope s.heap.objs.size f cdv)).units + 80 < cLine; omega, takes_of rfl rfl rfl rfl, hgd⟩
  have B : Bdy (cxOf (CX P w) P w K mg base N qual scope f cdv A outer s H E) (entryZ K cls S0 H O0 vs) (fun c d _ H' => E c d H') N scope :=
    ⟨⟨A1, passes_of rfl, fun _ _ => rfl⟩, ⟨A1, rfl, rfl⟩, S.kind, fun _ => rfl⟩
  have hv : HaveA (cxOf (CX P w) P w K mg base N qual scope f cdv A outer s H E) (entryZ K cls S0 H O0 vs) (ndSs bd) := fun n m => by
    have := nd n m
    cases n with
    | fn F2 =>
      obtain ⟨f2, fd2, ps2, a, b, c, d, e⟩ := this
      exact ⟨k, f2, fd2, ps2, a, hr, b, c, d, e⟩
    | glo x d => exact this
    | no x => exact this
  obtain ⟨t, pt, sem⟩ := ckSs_ok bd ck hv B
  refine ⟨t, pt, sem [] [] _ (startE N.length args) H _ (fun i m => nomatch m) ⟨S0, O0, ?_⟩ ?_⟩
  · have := G.pad (N.length - args.length)
    have e : N.length - args.length = N.length - vs.length := by omega
    show GoodX _ S0 O0 [] [] (vs.map some ++ List.replicate (N.length - vs.length) none) (args.map some ++ List.replicate (N.length - args.length) none) H
    rw [← e]; exact this
  · rw [hsem] at h
    unfold semOf at h
    cases e : exs bd (startE N.length args) with
    | next ρ =>
      rw [e] at h
      intro σ' H' ⟨S', O', g'⟩
      exact h .non H' (Good.fin l1 (fun i m => by simp at m) ⟨S', O', g'.pushD (x := .none) .non⟩)
    | ret r ρ =>
      rw [e] at h
      by_cases hok : resOk r = true
      · have e6 : finF F.md (.ret r ρ) = .ok r (outsOf F.md.length ρ) := if_pos hok
        rw [e6] at h
        intro v σ' H' g'
        refine h v H' (Good.fin l1 (fun i m => ?_) g')
        have e5 : Sl.ali i = r := by simpa using m
        subst e5
        cases hok
      · have e6 : finF F.md (.ret r ρ) = .stuck := if_neg hok
        rw [e6] at h
        exact h.elim
    | raise C x ρ =>
      rw [e] at h
      intro d v σ' H' g' hd
      exact h d v H' (Good.fin l1 (fun i m => by simp at m) g') hd
    | brk ρ => rw [e] at h; exact h.elim
    | cont ρ => rw [e] at h; exact h.elim
    | stuck => rw [e] at h; exact h.elim
/-- nothing promised -/
theorem fn_stuck {fd : FuncData} (hmd : F.md.length = ps.length) (h : ∀ args, F.sem args = .stuck) : FnG P w K mg base (CX P w) k f fd ps (spec K cls F) := by
  refine ⟨fun vs H Q E q => by rw [spec_len q, hmd], fun A outer s H args us vs Q E hr e0 hb r hsp => ?_⟩
  obtain ⟨S0, O0, as, l1, l2, G, q⟩ := hsp
  rw [h] at q
  exact q.elim
end
end Pw
/-! Pw, part W: a def from what the top has written; the law's own call. -/
namespace Pw
open PySem PySem.Spec PyProof.Rows L2
def scopeB (N P : List Str) (sc : Scope) : Bool :=
  decide (sc.kind = .function) && (!sc.isCoroutine && (!sc.isGenerator && (decide N.Nodup && (decide (N.take P.length = P) && ((P.all fun x => decide (sc.names.lookup x = some .local) || decide (sc.names.lookup x = some .cell)) && sc.names.all fun y => decide (y.2 ≠ .free))))))
theorem scope_ok {N P : List Str} {sc : Scope} (h : scopeB N P sc = true) : FnScope N P sc := by
  unfold scopeB at h
  simp only [Bool.and_eq_true, List.all_eq_true, Bool.or_eq_true, decide_eq_true_eq, Bool.not_eq_true'] at h
  obtain ⟨h1, h2, h3, h4, h5, h6, h7⟩ := h
  exact ⟨h1, h2, h3, h4, h5, h6, h7⟩
/-- a def as the top has written it -/
structure DefAt (K : PySem.W.Frag) (mg : Str → Option Value) (st : Stmt) (nm : Str) (f : Addr) : Prop where
  ex : ∃ (oc kV doc pm cdv ct : Value) (od an : Option Addr) (osl : Array (Option Value)), K.lookup f = some ⟨oc, od, .func (PySem.W.fnOf nm nm (defArgs st) (defBody st) (defScope st) .none kV doc pm an cdv ct), osl⟩ ∧ PySem.W.codeIn K cdv nm = true
  mg : mg nm = some (.ref f)
  kp : PySem.W.keepIn K (.ref f) = true
section
variable {P : Program} {w : World} {K : PySem.W.Frag} {mg : Str → Option Value} {base : Heap} {cls : Str → Addr} {k : Nat} {f : Addr} {nm : Str} {st : Stmt} {N ps : List Str} {F : Fn} {bd : Ss}
theorem fnk_of (D : DefAt K mg st nm f) (hn : F.name = nm) (S : scopeB N ps (defScope st) = true) (hmd : F.md.length = ps.length) (hsem : F.sem = semOf N.length F.md bd) (ck : ckSs N (defScope st) (defBody st) bd = true)
    (hb : ∀ (kV doc pm cdv ct : Value) (an : Option Addr) (us : List Value), us.length = ps.length → bindArgs (PySem.W.fnOf nm nm (defArgs st) (defBody st) (defScope st) .none kV doc pm an cdv ct) ⟨us, []⟩ = pure (ps.zip us)) (db : (nm == ("__debug__" : Str)) = false)
    (nd : ∀ n ∈ ndSs bd, NeedK P w K mg base cls k n) : FnK P w K mg base cls (k + 1) F := by
  obtain ⟨oc, kV, doc, pm, cdv, ct, od, an, osl, lk, hcd⟩ := D.ex
  exact ⟨f, _, ps, fn_keeps lk hcd (scope_ok S) hmd hsem ck nd, by rw [hn]; exact D.mg, D.kp, Binds.all (hb kV doc pm cdv ct an), by rw [hn]; exact db⟩
theorem fnk_stuck (D : DefAt K mg st nm f) (hn : F.name = nm) (hmd : F.md.length = ps.length) (hsem : ∀ args, F.sem args = .stuck)
    (hb : ∀ (kV doc pm cdv ct : Value) (an : Option Addr) (us : List Value), us.length = ps.length → bindArgs (PySem.W.fnOf nm nm (defArgs st) (defBody st) (defScope st) .none kV doc pm an cdv ct) ⟨us, []⟩ = pure (ps.zip us)) (db : (nm == ("__debug__" : Str)) = false) : FnK P w K mg base cls k F := by
  obtain ⟨oc, kV, doc, pm, cdv, ct, od, an, osl, lk, hcd⟩ := D.ex
  exact ⟨f, _, ps, fn_stuck hmd hsem, by rw [hn]; exact D.mg, D.kp, Binds.all (hb kV doc pm cdv ct an), by rw [hn]; exact db⟩
theorem an_c {Q : Need → Prop} {a : Need} {l : List Need} (h : Q a) (t : ∀ n ∈ l, Q n) : ∀ n ∈ a :: l, Q n := fun n m => (List.mem_cons.mp m).elim (fun e => e ▸ h) (t n)
theorem an_n {Q : Need → Prop} : ∀ n ∈ ([] : List Need), Q n := fun n m => nomatch m
/-- the law's call -/
theorem law_sp {H : Hp} {a : Addr} {ns : List Int} (hl : ns.length ≤ 63) (hS : SqL K H a (ns.map V.int)) (hmd : F.md = [false]) (h : ∃ outs, F.sem [.scr ns] = .ok (.d (.bool true)) outs) : spec K cls F [.ref a] H (fun v _ => v = .bl true) (fun _ _ _ => False) := by
  obtain ⟨outs, h⟩ := h
  refine ⟨H, fun _ => none, [.scr ns], by rw [hmd]; rfl, by rw [hmd]; rfl, ⟨Le.refl, fun p o e => (nomatch e), fun p o e => (nomatch e), fun i sl e => ?_, trivial, fun b o e _ => e, Le.refl, fun b h => .inl h, fun b ⟨w, e⟩ => (nomatch e), rfl⟩, ?_⟩
  · cases i with
    | zero => cases e; exact ⟨.ref a, rfl, a, rfl, hS, hl⟩
    | succ i => cases e
  · rw [h]
    rintro v H' ⟨S, O, g⟩
    have r : Rp K S v (.bool true) := g.tmp.1
    cases r
    rfl
end
theorem law_fn {P : Program} {w : World} {K : PySem.W.Frag} {mg : Str → Option Value} {cls : Str → Addr} {k : Nat} {f : Addr} {nm x : Str} {st : Stmt} {N : List Str} {F : Fn} {bd : Ss} (D : DefAt K mg st nm f) (S : scopeB N [x] (defScope st) = true) (hmd : F.md = [false]) (hsem : F.sem = semOf N.length F.md bd) (ck : ckSs N (defScope st) (defBody st) bd = true)
    (hb : ∀ (kV doc pm cdv ct : Value) (an : Option Addr) (u : Value), bindArgs (PySem.W.fnOf nm nm (defArgs st) (defBody st) (defScope st) .none kV doc pm an cdv ct) ⟨[u], []⟩ = pure [(x, u)]) :
    ∃ fd : FuncData, (∀ (s : Shared) (u : Value), BindsTo s fd ⟨[u], []⟩ [(x, u)]) ∧ ∀ base : Heap, (∀ n ∈ ndSs bd, NeedK P w K mg base cls k n) → FnG P w K mg base (CX P w) (k + 1) f fd [x] (spec K cls F) := by
  obtain ⟨oc, kV, doc, pm, cdv, ct, od, an, osl, lk, hcd⟩ := D.ex
  exact ⟨_, fun s u => .of_eq (hb kV doc pm cdv ct an u), fun base nd => fn_keeps lk hcd (scope_ok S) (by rw [hmd]; rfl) hsem ck nd⟩
/-- the end of a walk -/
theorem walk {l : PySem.W.OpenLaw} {q : Program} {loose : List Str} {XP : (Str → Option Value) → Heap → Prop} {YP : World → Heap → Prop} {d : DefRec} {K : Params → PySem.W.Frag} {F : Fn} {k : Nat} {x : Str} {cls : Str → Addr} (hn : l.most = some 63) (hdf : d.params.defaults = []) (hr : Room k callerA)
    (hY : ∀ (w : World) (h : Heap), YP w h → (K w.params).In h) (hmd : F.md = [false])
    (A : ∀ (w : World) (mg : Str → Option Value) (fa : Addr) (h : Heap), (K w.params).In h → h.Ns mainGlobals mg → mg d.name = some (.ref fa) →
      ∃ fd : FuncData, (∀ (s : Shared) (u : Value), BindsTo s fd ⟨[u], []⟩ [(x, u)]) ∧ ∀ base : Heap, (K w.params).In base → base.Ns mainGlobals mg → FnG l.prog w (K w.params) mg base (CX l.prog w) k fa fd [x] (spec (K w.params) cls F))
    (hlaw : ∀ ns : List Int, ns.length ≤ 63 → (∀ z ∈ ns, Builtin.Int.intBits z ≤ 1048576) → ∃ outs, F.sem [.scr ns] = .ok (.d (.bool true)) outs) :
    PySem.W.WalkO q loose XP YP l.row.toRowW d [] (fun f vs => PySem.call f vs) :=
  walkG (n := 63) (k := k) (x := x) (CX := fun w => CX l.prog w) (sp := fun w => spec (K w.params) cls F) hn (by rw [sizeLine_eq]; decide) hdf hr hY A (fun w H a ns hl hb hO hS => law_sp hl hS hmd (hlaw ns hl hb)) fun w H s e s' ⟨_, _, _, _, _, _, _, _, _, _, _, _, z⟩ => z
end Pw
/-! the bodies of the defs -/
namespace Pw
open PySem PySem.Spec PyProof.Rows L2
def N_law_folded : List Str := ["_law_script", "_law_size", "_law_cells", "_law_k", "_law_cell"]
def b_law_folded : Ss := (.cons (.asg 2 (.blt .list (.cons (.sscr 0 .non (.som (.var 1))) .nil)))
  (.cons (.for_ (.tp [.nm 3, .nm 4]) (.enm (.sscr 0 (.som (.var 1)) (.som (.lit (.int 63))))) (.cons (.sub 2 (.bin .Mod (.var 3) (.var 1)) (.bin .Add (.idx (.var 2) (.bin .Mod (.var 3) (.var 1))) (.bin .Mult (.var 4) (.bin .Add (.var 3) (.lit (.int 2))))))
  .nil))
  (.cons (.ret (.var 2))
  .nil)))
def F_law_folded : Fn := ⟨"_law_folded", [false, false], semOf 5 [false, false] b_law_folded⟩
def N_law_take : List Str := ["_law_box_here", "_law_size", "_law_found", "_law_step", "_law_once", "_law_twice"]
def b_law_take (g : List Sl → FR) : Ss := (.cons (.ifs (.cmp .Gt (.idx (.var 0) (.lit (.int 0))) (.lit (.int 0))) (.cons (.unpSub 0 (.lit (.int 0)) 2 (.blt .divmod (.cons (.idx (.var 0) (.lit (.int 0))) (.cons (.var 1) .nil))))
  (.cons (.ret (.var 2))
  .nil)) .nil)
  (.cons (.ifs (.cmp .Gt (.var 1) (.bin .Pow (.lit (.int 10)) (.lit (.int 7)))) (.cons (.ret (.bin .Mod (.bin .Add (.call ⟨"_law_take", [true, false], g⟩ (.cons (.var 0) (.cons (.bin .Pow (.lit (.int 10)) (.lit (.int 7))) .nil))) (.bin .Mult (.bin .Pow (.lit (.int 10)) (.lit (.int 7))) (.call ⟨"_law_take", [true, false], g⟩ (.cons (.var 0) (.cons (.bin .Add (.bin .FloorDiv (.bin .Sub (.var 1) (.lit (.int 1))) (.bin .Pow (.lit (.int 10)) (.lit (.int 7)))) (.lit (.int 1))) .nil))))) (.var 1)))
  .nil) .nil)
  (.cons (.sub 0 (.lit (.int 2)) (.bin .Add (.idx (.var 0) (.lit (.int 2))) (.lit (.int 1))))
  (.cons (.asg 3 (.bin .Add (.lit (.int 69621)) (.bin .Mult (.idx (.var 0) (.lit (.int 2))) (.idx (.var 0) (.lit (.int 2))))))
  (.cons (.asg 4 (.bin .Mod (.bin .Mult (.bin .Add (.idx (.var 0) (.lit (.int 1))) (.bin .Mult (.lit (.int 39373)) (.idx (.var 0) (.lit (.int 2))))) (.var 3)) (.lit (.int 2147483587))))
  (.cons (.asg 5 (.bin .Mod (.bin .Add (.bin .Mult (.var 4) (.bin .Add (.bin .Mod (.var 4) (.lit (.int 30011))) (.lit (.int 5)))) (.idx (.var 0) (.lit (.int 2)))) (.lit (.int 2147483563))))
  (.cons (.ret (.bin .Mod (.bin .FloorDiv (.bin .Mod (.bin .Mult (.var 5) (.bin .Add (.bin .Mod (.var 5) (.lit (.int 1013))) (.lit (.int 3)))) (.lit (.int 998244353))) (.lit (.int 16))) (.var 1)))
  .nil)))))))
def m_law_take : Nat → List Sl → FR
  | 0 => fun _ => .stuck
  | d + 1 => semOf 6 [true, false] (b_law_take (m_law_take d))
def F_law_take (d : Nat) : Fn := ⟨"_law_take", [true, false], m_law_take d⟩
def N_law_names : List Str := ["_law_box_here", "_law_many", "_law_letters", "_law_first", "_law_found", "_law_stem", "_law_step", "_law_longer", "_law_k", "_law_sign", "_law_turn"]
def b_law_names : Ss := (.cons (.par [2, 3, 4] (.cons (.lit (.str "abcdefghijklmnopqrstuvwxyz")) (.cons (.call (F_law_take 1) (.cons (.var 0) (.cons (.lit (.int 26)) .nil))) (.cons (.lst .nil) .nil))))
  (.cons (.asg 5 (.met .join (.lit (.str "")) (.cons (.comp (.idx (.var 2) (.call (F_law_take 1) (.cons (.var 0) (.cons (.lit (.int 26)) .nil)))) (.nm 10) (.rng1 (.call (F_law_take 1) (.cons (.var 0) (.cons (.lit (.int 6)) .nil)))) .non [10]) .nil)))
  (.cons (.par [6, 7] (.cons (.idx (.lst (.cons (.lit (.int 1)) (.cons (.lit (.int 3)) (.cons (.lit (.int 25)) .nil)))) (.call (F_law_take 1) (.cons (.var 0) (.cons (.lit (.int 3)) .nil)))) (.cons (.call (F_law_take 1) (.cons (.var 0) (.cons (.lit (.int 2)) .nil))) .nil)))
  (.cons (.for_ (.nm 8) (.rng1 (.var 1)) (.cons (.asg 9 (.idx (.var 2) (.bin .Mod (.bin .Add (.var 3) (.bin .Mult (.var 6) (.ife (.cmp .Eq (.var 7) (.lit (.int 1))) (.bin .FloorDiv (.var 8) (.lit (.int 2))) (.var 8)))) (.lit (.int 26)))))
  (.cons (.exp (.mut .append 4 (.cons (.bin .Add (.bin .Add (.var 5) (.var 9)) (.bin .Mult (.lit (.str "ab")) (.blt .int (.cons (.and_ (.cons (.cmp .Eq (.var 7) (.lit (.int 1))) (.cons (.cmp .Eq (.bin .Mod (.var 8) (.lit (.int 2))) (.lit (.int 1))) .nil))) .nil)))) .nil)))
  .nil)))
  (.cons (.ret (.var 4))
  .nil)))))
def F_law_names : Fn := ⟨"_law_names", [true, false], semOf 11 [true, false] b_law_names⟩
def b_law_order : Ss := (.cons (.par [2, 3] (.cons (.blt .list (.cons (.var 1) .nil)) (.cons (.lst .nil) .nil)))
  (.cons (.for_ (.nm 4) (.rng1 (.blt .len (.cons (.var 2) .nil))) (.cons (.exp (.mut .append 3 (.cons (.mut .popAt 2 (.cons (.call (F_law_take 1) (.cons (.var 0) (.cons (.blt .len (.cons (.var 2) .nil)) .nil))) .nil)) .nil)))
  .nil))
  (.cons (.ret (.var 3))
  .nil)))
def F_law_order : Fn := ⟨"_law_order", [true, false], semOf 5 [true, false] b_law_order⟩
def N_look_goers : List Str := ["evening", "goers", "place", "guest"]
def b_look_goers : Ss := (.cons (.for_ (.tp [.nm 2, .nm 3]) (.enm (.var 1)) (.cons (.ifs (.or_ (.cons (.cmp .NotIn (.var 3) (.idx (.var 0) (.lit (.int 1)))) (.cons (.cmp .In (.var 3) (.slc (.var 1) .non (.som (.var 2)))) .nil))) (.cons (.dead)
  .nil) .nil)
  .nil))
  .nil)
def F_look_goers : Fn := ⟨"look_goers", [false, false], semOf 4 [false, false] b_look_goers⟩
def N_is_seeker : List Str := ["evening", "guest", "rack", "guests", "lost"]
def b_is_seeker : Ss := (.cons (.unp (.tp [.nm 2, .nm 3, .nm 4]) (.var 0))
  (.cons (.ret (.and_ (.cons (.cmp .In (.var 1) (.var 3)) (.cons (.cmp .NotIn (.var 1) (.var 4)) (.cons (.cmp .In (.var 1) (.var 2)) .nil)))))
  .nil))
def F_is_seeker : Fn := ⟨"is_seeker", [false, false], semOf 5 [false, false] b_is_seeker⟩
def N_gone_by : List Str := ["evening", "goers", "own", "others", "gone", "guest", "coat"]
def b_gone_by : Ss := (.cons (.exp (.call F_look_goers (.cons (.var 0) (.cons (.var 1) .nil))))
  (.cons (.asg 2 (.comp (.var 5) (.nm 5) (.val (.var 1)) (.som (.call F_is_seeker (.cons (.var 0) (.cons (.var 5) .nil)))) [5]))
  (.cons (.asg 3 (.comp (.var 6) (.nm 6) (.val (.idx (.var 0) (.lit (.int 0)))) (.som (.cmp .NotIn (.var 6) (.var 2))) [6]))
  (.cons (.asg 4 (.bin .Add (.var 2) (.slc (.var 3) .non (.som (.bin .Sub (.blt .len (.cons (.var 1) .nil)) (.blt .len (.cons (.var 2) .nil)))))))
  (.cons (.ret (.comp (.var 6) (.nm 6) (.val (.idx (.var 0) (.lit (.int 0)))) (.som (.cmp .In (.var 6) (.var 4))) [6]))
  .nil)))))
def F_gone_by : Fn := ⟨"gone_by", [false, false], semOf 7 [false, false] b_gone_by⟩
def N_loose : List Str := ["evening", "coat"]
def b_loose : Ss := (.cons (.ret (.comp (.var 1) (.nm 1) (.val (.idx (.var 0) (.lit (.int 0)))) (.som (.not_ (.call F_is_seeker (.cons (.var 0) (.cons (.var 1) .nil))))) [1]))
  .nil)
def F_loose : Fn := ⟨"loose", [false], semOf 2 [false] b_loose⟩
def b_goes : Ss := (.cons (.exp (.call F_look_goers (.cons (.var 0) (.cons (.var 1) .nil))))
  (.cons (.par [2, 3] (.cons (.blt .list (.cons (.idx (.var 0) (.lit (.int 0))) .nil)) (.cons (.lst .nil) .nil)))
  (.cons (.for_ (.nm 4) (.val (.var 1)) (.cons (.asg 5 (.ife (.and_ (.cons (.call F_is_seeker (.cons (.var 0) (.cons (.var 4) .nil))) (.cons (.cmp .In (.var 4) (.var 2)) .nil))) (.var 4) (.idx (.var 2) (.lit (.int 0)))))
  (.cons (.exp (.mut .remove 2 (.cons (.var 5) .nil)))
  (.cons (.exp (.mut .append 3 (.cons (.tup (.cons (.var 4) (.cons (.var 5) .nil))) .nil)))
  .nil))))
  (.cons (.ret (.var 3))
  .nil))))
def F_goes : Fn := ⟨"goes", [false, false], semOf 6 [false, false] b_goes⟩
def b_hanging : Ss := (.cons (.asg 2 (.comp (.var 4) (.tp [.nm 3, .nm 4]) (.val (.call F_goes (.cons (.var 0) (.cons (.var 1) .nil)))) .non [3, 4]))
  (.cons (.ret (.comp (.var 4) (.nm 4) (.val (.idx (.var 0) (.lit (.int 0)))) (.som (.cmp .NotIn (.var 4) (.var 2))) [4]))
  .nil))
def F_hanging : Fn := ⟨"hanging", [false, false], semOf 5 [false, false] b_hanging⟩
def b_rest_of : Ss := (.cons (.unp (.tp [.nm 2, .nm 3, .nm 4]) (.var 0))
  (.cons (.asg 5 (.blt .tuple (.cons (.call F_hanging (.cons (.var 0) (.cons (.var 1) .nil))) .nil)))
  (.cons (.ret (.tup (.cons (.var 5) (.cons (.blt .tuple (.cons (.comp (.var 6) (.nm 6) (.val (.var 3)) (.som (.cmp .NotIn (.var 6) (.var 1))) [6]) .nil)) (.cons (.blt .tuple (.cons (.comp (.var 6) (.nm 6) (.val (.var 4)) (.som (.cmp .NotIn (.var 6) (.var 1))) [6]) .nil)) .nil)))))
  .nil)))
def F_rest_of : Fn := ⟨"rest_of", [false, false], semOf 7 [false, false] b_rest_of⟩
def b_law_seeks : Ss := (.cons (.ret (.and_ (.cons (.cmp .In (.var 1) (.idx (.var 0) (.lit (.int 1)))) (.cons (.cmp .In (.var 1) (.idx (.var 0) (.lit (.int 0)))) (.cons (.cmp .NotIn (.var 1) (.idx (.var 0) (.lit (.int 2)))) .nil)))))
  .nil)
def F_law_seeks : Fn := ⟨"_law_seeks", [false, false], semOf 2 [false, false] b_law_seeks⟩
def N_takers : List Str := ["evening", "guest"]
def b_takers : Ss := (.cons (.ret (.comp (.var 1) (.nm 1) (.val (.idx (.var 0) (.lit (.int 1)))) (.som (.not_ (.call F_is_seeker (.cons (.var 0) (.cons (.var 1) .nil))))) [1]))
  .nil)
def F_takers : Fn := ⟨"takers", [false], semOf 2 [false] b_takers⟩
def b_law_same (g : List Sl → FR) : Ss := (.cons (.ifs (.isi (.var 1) [.lst, .tup]) (.cons (.ifs (.or_ (.cons (.cmp .NotEq (.isi (.var 0) [.lst]) (.isi (.var 1) [.lst])) (.cons (.cmp .NotEq (.isi (.var 0) [.tup]) (.isi (.var 1) [.tup])) .nil))) (.cons (.ret (.lit (.bl false)))
  .nil) .nil)
  (.cons (.ret (.and_ (.cons (.cmp .Eq (.blt .len (.cons (.var 0) .nil)) (.blt .len (.cons (.var 1) .nil))) (.cons (.blt .all (.cons (.comp (.call ⟨"_law_same", [false, false], g⟩ (.cons (.var 2) (.cons (.var 3) .nil))) (.tp [.nm 2, .nm 3]) (.zip (.var 0) (.var 1)) .non [2, 3]) .nil)) .nil))))
  .nil)) .nil)
  (.cons (.ifs (.or_ (.cons (.cmp .Is (.var 1) (.lit .non)) (.cons (.isi (.var 1) [.str]) .nil))) (.cons (.ret (.and_ (.cons (.cmp .Eq (.var 0) (.var 1)) (.cons (.cmp .Eq (.isi (.var 0) [.str]) (.isi (.var 1) [.str])) .nil))))
  .nil) .nil)
  (.cons (.ret (.and_ (.cons (.isi (.var 0) [.int]) (.cons (.cmp .Eq (.isi (.var 0) [.bool]) (.isi (.var 1) [.bool])) (.cons (.cmp .Eq (.var 0) (.var 1)) .nil)))))
  .nil)))
def m_law_same : Nat → List Sl → FR
  | 0 => fun _ => .stuck
  | d + 1 => semOf 4 [false, false] (b_law_same (m_law_same d))
def F_law_same (d : Nat) : Fn := ⟨"_law_same", [false, false], m_law_same d⟩
def N_law_box : List Str := ["_law_script", "_law_k", "_law_cell"]
def b_law_box : Ss := (.cons (.asg 2 (.ife (.cmp .Lt (.var 1) (.blt .len (.cons (.var 0) .nil))) (.idx (.var 0) (.var 1)) (.lit (.int 0))))
  (.cons (.ret (.lst (.cons (.bin .Mult (.blt .abs (.cons (.var 2) .nil)) (.blt .int (.cons (.cmp .GtE (.blt .abs (.cons (.var 2) .nil)) (.bin .Pow (.lit (.int 10)) (.lit (.int 18)))) .nil))) (.cons (.bin .Mod (.bin .Mult (.bin .Add (.bin .Add (.bin .Mod (.var 2) (.lit (.int 2147483629))) (.bin .Mult (.lit (.int 15485863)) (.var 1))) (.lit (.int 43))) (.lit (.int 48271))) (.lit (.int 2147483647))) (.cons (.lit (.int 0)) .nil)))))
  .nil))
def F_law_box : Fn := ⟨"_law_box", [false, false], semOf 3 [false, false] b_law_box⟩
def N_seekers : List Str := ["evening", "guest"]
def b_seekers : Ss := (.cons (.ret (.comp (.var 1) (.nm 1) (.val (.idx (.var 0) (.lit (.int 1)))) (.som (.call F_is_seeker (.cons (.var 0) (.cons (.var 1) .nil)))) [1]))
  .nil)
def F_seekers : Fn := ⟨"seekers", [false], semOf 2 [false] b_seekers⟩
def N_hook_of : List Str := ["evening", "coat"]
def b_hook_of : Ss := (.cons (.ifs (.cmp .NotIn (.var 1) (.idx (.var 0) (.lit (.int 0)))) (.cons (.dead)
  .nil) .nil)
  (.cons (.ret (.bin .Add (.met .index (.blt .list (.cons (.idx (.var 0) (.lit (.int 0))) .nil)) (.cons (.var 1) .nil)) (.lit (.int 1))))
  .nil))
def F_hook_of : Fn := ⟨"hook_of", [false, false], semOf 2 [false, false] b_hook_of⟩
def N_loose_from : List Str := ["evening", "hook", "coat"]
def b_loose_from : Ss := (.cons (.ret (.blt .len (.cons (.comp (.var 2) (.nm 2) (.val (.call F_loose (.cons (.var 0) .nil))) (.som (.cmp .GtE (.call F_hook_of (.cons (.var 0) (.cons (.var 2) .nil))) (.var 1))) [2]) .nil)))
  .nil)
def F_loose_from : Fn := ⟨"loose_from", [false, false], semOf 3 [false, false] b_loose_from⟩
def b_first_then : Ss := (.cons (.asg 2 (.call F_gone_by (.cons (.var 0) (.cons (.var 1) .nil))))
  (.cons (.asg 3 (.comp (.var 4) (.nm 4) (.val (.idx (.var 0) (.lit (.int 0)))) (.som (.cmp .NotIn (.var 4) (.var 2))) [4]))
  (.cons (.ret (.ife (.cmp .NotEq (.var 3) (.lst .nil)) (.idx (.var 3) (.lit (.int 0))) (.lit .non)))
  .nil)))
def F_first_then : Fn := ⟨"first_then", [false, false], semOf 5 [false, false] b_first_then⟩
def b_still_own : Ss := (.cons (.asg 2 (.call F_gone_by (.cons (.var 0) (.cons (.var 1) .nil))))
  (.cons (.ret (.comp (.var 3) (.nm 3) (.val (.call F_seekers (.cons (.var 0) .nil))) (.som (.and_ (.cons (.cmp .NotIn (.var 3) (.var 1)) (.cons (.cmp .NotIn (.var 3) (.var 2)) .nil)))) [3]))
  .nil))
def F_still_own : Fn := ⟨"still_own", [false, false], semOf 4 [false, false] b_still_own⟩
def b_is_ahead : Ss := (.cons (.ret (.and_ (.cons (.call F_is_seeker (.cons (.var 0) (.cons (.var 1) .nil))) (.cons (.cmp .Lt (.call F_hook_of (.cons (.var 0) (.cons (.var 2) .nil))) (.call F_hook_of (.cons (.var 0) (.cons (.var 1) .nil)))) .nil))))
  .nil)
def F_is_ahead : Fn := ⟨"is_ahead", [false, false, false], semOf 3 [false, false, false] b_is_ahead⟩
def b_why_not : Ss := (.cons (.asg 2 (.comp (.var 3) (.tp [.nm 3, .nm 4]) (.val (.var 1)) (.som (.call F_is_ahead (.cons (.var 0) (.cons (.var 3) (.cons (.var 4) .nil))))) [3, 4]))
  (.cons (.ret (.ife (.cmp .NotEq (.var 2) (.lst .nil)) (.idx (.var 2) (.lit (.int 0))) (.lit .non)))
  .nil))
def F_why_not : Fn := ⟨"why_not", [false, false], semOf 5 [false, false] b_why_not⟩
def b_can_be : Ss := (.cons (.ret (.cmp .Is (.call F_why_not (.cons (.var 0) (.cons (.var 1) .nil))) (.lit .non)))
  .nil)
def F_can_be : Fn := ⟨"can_be", [false, false], semOf 2 [false, false] b_can_be⟩
def b_way_of : Ss := (.cons (.ret (.blt .tuple (.cons (.blt .sorted (.cons (.call F_goes (.cons (.var 0) (.cons (.var 1) .nil))) .nil)) .nil)))
  .nil)
def F_way_of : Fn := ⟨"way_of", [false, false], semOf 2 [false, false] b_way_of⟩
def b_right_in : Ss := (.cons (.ret (.comp (.var 1) (.tp [.nm 1, .nm 2]) (.val (.var 0)) (.som (.cmp .Eq (.var 1) (.var 2))) [1, 2]))
  .nil)
def F_right_in : Fn := ⟨"right_in", [false], semOf 3 [false] b_right_in⟩
def N_law_strewn : List Str := ["_law_box_here", "_law_some", "_law_left", "_law_found"]
def b_law_strewn : Ss := (.cons (.par [2, 3] (.cons (.blt .list (.cons (.var 1) .nil)) (.cons (.lst .nil) .nil)))
  (.cons (.whl (fun _ => 100000) (.cmp .NotEq (.var 2) (.lst .nil)) (.cons (.exp (.mut .append 3 (.cons (.mut .popAt 2 (.cons (.call (F_law_take 1) (.cons (.var 0) (.cons (.blt .len (.cons (.var 2) .nil)) .nil))) .nil)) .nil)))
  .nil))
  (.cons (.ret (.var 3))
  .nil)))
def F_law_strewn : Fn := ⟨"_law_strewn", [true, false], semOf 4 [true, false] b_law_strewn⟩
def N_law_night : List Str := ["_law_box_here", "_law_low", "_law_high", "_law_many", "_law_names_here", "_law_folk", "_law_strange", "_law_away", "_law_hung", "_law_way", "_law_gone", "_law_guest"]
def b_law_night : Ss := (.cons (.asg 3 (.bin .Add (.var 1) (.call (F_law_take 1) (.cons (.var 0) (.cons (.bin .Add (.bin .Sub (.var 2) (.var 1)) (.lit (.int 1))) .nil)))))
  (.cons (.asg 4 (.call F_law_strewn (.cons (.var 0) (.cons (.call F_law_names (.cons (.var 0) (.cons (.blt .min (.cons (.lit (.int 26)) (.cons (.bin .Add (.var 3) (.lit (.int 3))) .nil))) .nil))) .nil))))
  (.cons (.par [5, 6] (.cons (.slc (.var 4) .non (.som (.var 3))) (.cons (.slc (.var 4) (.som (.var 3)) .non) .nil)))
  (.cons (.asg 7 (.blt .min (.cons (.var 3) (.cons (.blt .len (.cons (.var 6) .nil)) (.cons (.idx (.lst (.cons (.lit (.int 0)) (.cons (.lit (.int 0)) (.cons (.lit (.int 1)) (.cons (.lit (.int 3)) .nil))))) (.call (F_law_take 1) (.cons (.var 0) (.cons (.lit (.int 4)) .nil)))) .nil)))))
  (.cons (.asg 8 (.call F_law_strewn (.cons (.var 0) (.cons (.bin .Add (.slc (.var 5) (.som (.var 7)) .non) (.slc (.var 6) .non (.som (.var 7)))) .nil))))
  (.cons (.par [9, 10] (.cons (.call (F_law_take 1) (.cons (.var 0) (.cons (.lit (.int 4)) .nil))) (.cons (.lst .nil) .nil)))
  (.cons (.for_ (.nm 11) (.val (.var 5)) (.cons (.ifs (.cmp .Eq (.call (F_law_take 1) (.cons (.var 0) (.cons (.idx (.lst (.cons (.lit (.int 9)) (.cons (.lit (.int 6)) (.cons (.lit (.int 3)) (.cons (.lit (.int 2)) .nil))))) (.var 9)) .nil))) (.lit (.int 0))) (.cons (.exp (.mut .append 10 (.cons (.var 11) .nil)))
  .nil) .nil)
  .nil))
  (.cons (.ret (.tup (.cons (.blt .tuple (.cons (.var 8) .nil)) (.cons (.blt .tuple (.cons (.blt .sorted (.cons (.var 5) .nil)) .nil)) (.cons (.blt .tuple (.cons (.blt .sorted (.cons (.var 10) .nil)) .nil)) .nil)))))
  .nil))))))))
def F_law_night : Fn := ⟨"_law_night", [true, false, false], semOf 12 [true, false, false] b_law_night⟩
def N_law_seeks_v1 : List Str := ["_law_night_here", "_law_name"]
def b_law_seeks_v1 : Ss := (.cons (.ret (.and_ (.cons (.cmp .In (.var 1) (.idx (.var 0) (.lit (.int 1)))) (.cons (.cmp .NotIn (.var 1) (.idx (.var 0) (.lit (.int 2)))) (.cons (.cmp .In (.var 1) (.idx (.var 0) (.lit (.int 0)))) .nil)))))
  .nil)
def F_law_seeks_v1 : Fn := ⟨"_law_seeks", [false, false], semOf 2 [false, false] b_law_seeks_v1⟩
def N_law_hopes : List Str := ["_law_night_here", "_law_guest"]
def b_law_hopes : Ss := (.cons (.ret (.comp (.var 1) (.nm 1) (.val (.idx (.var 0) (.lit (.int 1)))) (.som (.call F_law_seeks_v1 (.cons (.var 0) (.cons (.var 1) .nil)))) [1]))
  .nil)
def F_law_hopes : Fn := ⟨"_law_hopes", [false], semOf 2 [false] b_law_hopes⟩
def N_shares_of : List Str := ["evening", "guest", "hook"]
def b_shares_of : Ss := (.cons (.ifs (.cmp .NotIn (.var 1) (.call F_seekers (.cons (.var 0) .nil))) (.cons (.dead)
  .nil) .nil)
  (.cons (.asg 2 (.call F_hook_of (.cons (.var 0) (.cons (.var 1) .nil))))
  (.cons (.ret (.tup (.cons (.var 2) (.cons (.call F_loose_from (.cons (.var 0) (.cons (.var 2) .nil))) .nil))))
  .nil)))
def F_shares_of : Fn := ⟨"shares_of", [false, false], semOf 3 [false, false] b_shares_of⟩
def N_safe_ahead : List Str := ["evening", "guest", "hook", "many"]
def b_safe_ahead : Ss := (.cons (.unp (.tp [.nm 2, .nm 3]) (.call F_shares_of (.cons (.var 0) (.cons (.var 1) .nil))))
  (.cons (.ret (.ife (.cmp .Gt (.var 3) (.lit (.int 0))) (.bin .Sub (.var 2) (.lit (.int 1))) (.bin .Sub (.blt .len (.cons (.idx (.var 0) (.lit (.int 0))) .nil)) (.lit (.int 1)))))
  .nil))
def F_safe_ahead : Fn := ⟨"safe_ahead", [false, false], semOf 4 [false, false] b_safe_ahead⟩
def N_factorial_v1 : List Str := ["many", "found", "one"]
def b_factorial_v1 : Ss := (.cons (.asg 1 (.lit (.int 1)))
  (.cons (.for_ (.nm 2) (.rng2 (.lit (.int 2)) (.bin .Add (.var 0) (.lit (.int 1)))) (.cons (.aug 1 .Mult (.var 2))
  .nil))
  (.cons (.ret (.var 1))
  .nil)))
def F_factorial_v1 : Fn := ⟨"factorial", [false], semOf 3 [false] b_factorial_v1⟩
def N_sought_ahead : List Str := ["evening", "hook", "seeking", "coat"]
def b_sought_ahead : Ss := (.cons (.asg 2 (.call F_seekers (.cons (.var 0) .nil)))
  (.cons (.ret (.comp (.var 3) (.nm 3) (.val (.slc (.idx (.var 0) (.lit (.int 0))) .non (.som (.bin .Sub (.var 1) (.lit (.int 1)))))) (.som (.cmp .In (.var 3) (.var 2))) [3]))
  .nil))
def F_sought_ahead : Fn := ⟨"sought_ahead", [false, false], semOf 4 [false, false] b_sought_ahead⟩
def N_ways_to_take : List Str := ["size", "many", "found", "one"]
def b_ways_to_take : Ss := (.cons (.asg 2 (.lit (.int 1)))
  (.cons (.for_ (.nm 3) (.rng1 (.var 1)) (.cons (.asg 2 (.bin .FloorDiv (.bin .Mult (.var 2) (.bin .Sub (.var 0) (.var 3))) (.bin .Add (.var 3) (.lit (.int 1)))))
  .nil))
  (.cons (.ret (.var 2))
  .nil)))
def F_ways_to_take : Fn := ⟨"ways_to_take", [false, false], semOf 4 [false, false] b_ways_to_take⟩
def N_wrong_behind : List Str := ["evening", "guest", "many", "hook", "more", "size", "sought", "taking", "found", "own", "first", "rest", "some"]
def b_wrong_behind : Ss := (.cons (.unp (.tp [.nm 3, .nm 4]) (.call F_shares_of (.cons (.var 0) (.cons (.var 1) .nil))))
  (.cons (.par [5, 6, 7] (.cons (.blt .len (.cons (.idx (.var 0) (.lit (.int 0))) .nil)) (.cons (.blt .len (.cons (.call F_sought_ahead (.cons (.var 0) (.cons (.var 3) .nil))) .nil)) (.cons (.blt .len (.cons (.call F_takers (.cons (.var 0) .nil)) .nil)) .nil))))
  (.cons (.ifs (.not_ (.chn .LtE .Lt (.lit (.int 0)) (.var 2) (.var 5))) (.cons (.ret (.lit (.int 0)))
  .nil) .nil)
  (.cons (.asg 8 (.lit (.int 0)))
  (.cons (.for_ (.nm 9) (.rng1 (.bin .Add (.var 6) (.lit (.int 1)))) (.cons (.for_ (.nm 10) (.rng2 (.bin .Sub (.var 3) (.var 9)) (.bin .Add (.var 7) (.lit (.int 1)))) (.cons (.asg 11 (.bin .Sub (.bin .Sub (.var 2) (.var 9)) (.var 10)))
  (.cons (.ifs (.cmp .GtE (.var 11) (.lit (.int 0))) (.cons (.asg 12 (.bin .Mult (.call F_ways_to_take (.cons (.var 6) (.cons (.var 9) .nil))) (.call F_ways_to_take (.cons (.var 7) (.cons (.var 10) .nil)))))
  (.cons (.aug 8 .Add (.bin .Mult (.var 12) (.call F_ways_to_take (.cons (.bin .Sub (.bin .Sub (.bin .Sub (.var 5) (.lit (.int 1))) (.var 6)) (.var 7)) (.cons (.var 11) .nil)))))
  .nil)) .nil)
  .nil)))
  .nil))
  (.cons (.ret (.bin .Mult (.bin .Mult (.var 8) (.call F_factorial_v1 (.cons (.var 2) .nil))) (.call F_factorial_v1 (.cons (.bin .Sub (.bin .Sub (.var 5) (.lit (.int 1))) (.var 2)) .nil))))
  .nil))))))
def F_wrong_behind : Fn := ⟨"wrong_behind", [false, false, false], semOf 13 [false, false, false] b_wrong_behind⟩
def N_danger : List Str := ["evening", "guest", "hook", "many", "ahead"]
def b_danger : Ss := (.cons (.unp (.tp [.nm 2, .nm 3]) (.call F_shares_of (.cons (.var 0) (.cons (.var 1) .nil))))
  (.cons (.ifs (.cmp .Eq (.var 3) (.lit (.int 0))) (.cons (.ret (.lit .non))
  .nil) .nil)
  (.cons (.asg 4 (.call F_sought_ahead (.cons (.var 0) (.cons (.var 2) .nil))))
  (.cons (.ret (.blt .tuple (.cons (.blt .sorted (.cons (.bin .Add (.var 4) (.slc (.call F_takers (.cons (.var 0) .nil)) .non (.som (.bin .Sub (.var 2) (.blt .len (.cons (.var 4) .nil)))))) .nil)) .nil)))
  .nil))))
def F_danger : Fn := ⟨"danger", [false, false], semOf 5 [false, false] b_danger⟩
def N_shows_danger : List Str := ["evening", "guest", "thing", "hook", "many", "name", "one", "other"]
def b_shows_danger : Ss := (.cons (.unp (.tp [.nm 3, .nm 4]) (.call F_shares_of (.cons (.var 0) (.cons (.var 1) .nil))))
  (.cons (.ifs (.or_ (.cons (.cmp .Eq (.var 4) (.lit (.int 0))) (.cons (.not_ (.isi (.var 2) [.tup])) (.cons (.cmp .NotEq (.blt .len (.cons (.var 2) .nil)) (.var 3)) .nil)))) (.cons (.ret (.lit (.bl false)))
  .nil) .nil)
  (.cons (.ifs (.not_ (.blt .all (.cons (.comp (.and_ (.cons (.isi (.var 5) [.str]) (.cons (.cmp .In (.var 5) (.idx (.var 0) (.lit (.int 1)))) (.cons (.cmp .NotEq (.var 5) (.var 1)) .nil)))) (.nm 5) (.val (.var 2)) .non [5]) .nil))) (.cons (.ret (.lit (.bl false)))
  .nil) .nil)
  (.cons (.ret (.and_ (.cons (.blt .all (.cons (.comp (.cmp .Lt (.var 6) (.var 7)) (.tp [.nm 6, .nm 7]) (.zip (.var 2) (.slc (.var 2) (.som (.lit (.int 1))) .non)) .non [6, 7]) .nil)) (.cons (.cmp .In (.var 1) (.call F_gone_by (.cons (.var 0) (.cons (.var 2) .nil)))) .nil))))
  .nil))))
def F_shows_danger : Fn := ⟨"shows_danger", [false, false, false], semOf 8 [false, false, false] b_shows_danger⟩
def N_law_went : List Str := ["_law_night_here", "_law_row", "_law_left", "_law_found", "_law_guest", "_law_coat"]
def b_law_went : Ss := (.cons (.par [2, 3] (.cons (.blt .list (.cons (.idx (.var 0) (.lit (.int 0))) .nil)) (.cons (.lst .nil) .nil)))
  (.cons (.for_ (.nm 4) (.val (.var 1)) (.cons (.asg 5 (.ife (.and_ (.cons (.call F_law_seeks_v1 (.cons (.var 0) (.cons (.var 4) .nil))) (.cons (.cmp .In (.var 4) (.var 2)) .nil))) (.var 4) (.idx (.var 2) (.lit (.int 0)))))
  (.cons (.exp (.mut .remove 2 (.cons (.var 5) .nil)))
  (.cons (.exp (.mut .append 3 (.cons (.tup (.cons (.var 4) (.cons (.var 5) .nil))) .nil)))
  .nil))))
  (.cons (.ret (.blt .tuple (.cons (.blt .sorted (.cons (.var 3) .nil)) .nil)))
  .nil)))
def F_law_went : Fn := ⟨"_law_went", [false, false], semOf 6 [false, false] b_law_went⟩
def N_law_danger_right : List Str := ["_law_box_here", "_law_night_here", "_law_guest", "_law_safe", "_law_lot", "_law_fewer", "_law_name", "_law_coat"]
def b_law_danger_right : Ss := (.cons (.asg 4 (.call F_danger (.cons (.var 1) (.cons (.var 2) .nil))))
  (.cons (.ifs (.or_ (.cons (.cmp .Is (.var 4) (.lit .non)) (.cons (.cmp .NotEq (.blt .len (.cons (.var 4) .nil)) (.bin .Add (.var 3) (.lit (.int 1)))) (.cons (.cmp .IsNot (.call F_shows_danger (.cons (.var 1) (.cons (.var 2) (.cons (.var 4) .nil)))) (.lit (.bl true))) .nil)))) (.cons (.ret (.lit (.bl false)))
  .nil) .nil)
  (.cons (.ifs (.cmp .NotIn (.var 2) (.comp (.var 7) (.tp [.nm 6, .nm 7]) (.val (.call F_law_went (.cons (.var 1) (.cons (.call F_law_strewn (.cons (.var 0) (.cons (.var 4) .nil))) .nil)))) .non [6, 7])) (.cons (.ret (.lit (.bl false)))
  .nil) .nil)
  (.cons (.asg 5 (.slc (.call F_law_strewn (.cons (.var 0) (.cons (.var 4) .nil))) (.som (.lit (.int 1))) .non))
  (.cons (.ret (.cmp .NotIn (.var 2) (.comp (.var 7) (.tp [.nm 6, .nm 7]) (.val (.call F_law_went (.cons (.var 1) (.cons (.var 5) .nil)))) .non [6, 7])))
  .nil)))))
def F_law_danger_right : Fn := ⟨"_law_danger_right", [true, false, false, false], semOf 8 [true, false, false, false] b_law_danger_right⟩
def N_law_behind_v1 : List Str := ["_law_night_here", "_law_coat", "_law_at", "_law_other"]
def b_law_behind_v1 : Ss := (.cons (.asg 2 (.met .index (.blt .list (.cons (.idx (.var 0) (.lit (.int 0))) .nil)) (.cons (.var 1) .nil)))
  (.cons (.ret (.tup (.cons (.bin .Add (.var 2) (.lit (.int 1))) (.cons (.blt .len (.cons (.comp (.var 3) (.nm 3) (.val (.slc (.idx (.var 0) (.lit (.int 0))) (.som (.var 2)) .non)) (.som (.not_ (.call F_law_seeks_v1 (.cons (.var 0) (.cons (.var 3) .nil))))) [3]) .nil)) .nil))))
  .nil))
def F_law_behind_v1 : Fn := ⟨"_law_behind", [false, false], semOf 4 [false, false] b_law_behind_v1⟩
def N_wrong_many_v1 : List Str := ["evening", "wrong", "right", "top", "bottom", "guest", "hook", "many"]
def b_wrong_many_v1 : Ss := (.cons (.par [3, 4] (.cons (.call F_factorial_v1 (.cons (.blt .len (.cons (.idx (.var 0) (.lit (.int 0))) .nil)) .nil)) (.cons (.lit (.int 1)) .nil)))
  (.cons (.for_ (.nm 5) (.val (.var 1)) (.cons (.unp (.tp [.nm 6, .nm 7]) (.call F_shares_of (.cons (.var 0) (.cons (.var 5) .nil))))
  (.cons (.par [3, 4] (.cons (.bin .Mult (.var 3) (.var 7)) (.cons (.bin .Mult (.var 4) (.bin .Add (.var 6) (.var 7))) .nil)))
  .nil)))
  (.cons (.for_ (.nm 5) (.val (.var 2)) (.cons (.unp (.tp [.nm 6, .nm 7]) (.call F_shares_of (.cons (.var 0) (.cons (.var 5) .nil))))
  (.cons (.par [3, 4] (.cons (.bin .Mult (.var 3) (.var 6)) (.cons (.bin .Mult (.var 4) (.bin .Add (.var 6) (.var 7))) .nil)))
  .nil)))
  (.cons (.ret (.bin .FloorDiv (.var 3) (.var 4)))
  .nil))))
def F_wrong_many_v1 : Fn := ⟨"wrong_many", [false, false, false], semOf 8 [false, false, false] b_wrong_many_v1⟩
def N_law_product : List Str := ["_law_many", "_law_found", "_law_one"]
def b_law_product : Ss := (.cons (.asg 1 (.lit (.int 1)))
  (.cons (.for_ (.nm 2) (.rng1 (.var 0)) (.cons (.asg 1 (.bin .Mult (.var 1) (.bin .Add (.var 2) (.lit (.int 1)))))
  .nil))
  (.cons (.ret (.var 1))
  .nil)))
def F_law_product : Fn := ⟨"_law_product", [false], semOf 3 [false] b_law_product⟩
def N_law_guest_right_v1 : List Str := ["_law_box_here", "_law_night_here", "_law_guest", "_law_size", "_law_safe", "_law_more", "_law_told", "_law_many", "_law_one", "_law_other"]
def b_law_guest_right_v1 : Ss := (.cons (.par [3, 4, 5] (.cons (.blt .len (.cons (.idx (.var 1) (.lit (.int 0))) .nil)) (.cons (.call F_safe_ahead (.cons (.var 1) (.cons (.var 2) .nil))) (.cons (.idx (.call F_law_behind_v1 (.cons (.var 1) (.cons (.var 2) .nil))) (.lit (.int 1))) .nil))))
  (.cons (.asg 6 (.comp (.call F_wrong_behind (.cons (.var 1) (.cons (.var 2) (.cons (.var 7) .nil)))) (.nm 7) (.rng1 (.var 3)) .non [7]))
  (.cons (.ifs (.or_ (.cons (.cmp .NotEq (.blt .sum (.cons (.var 6) .nil)) (.call F_wrong_many_v1 (.cons (.var 1) (.cons (.lst (.cons (.var 2) .nil)) (.cons (.lst .nil) .nil))))) (.cons (.blt .any (.cons (.slc (.var 6) .non (.som (.bin .Add (.var 4) (.lit (.int 1))))) .nil)) .nil))) (.cons (.ret (.lit (.bl false)))
  .nil) .nil)
  (.cons (.ifs (.or_ (.cons (.blt .any (.cons (.comp (.cmp .Gt (.var 8) (.var 9)) (.tp [.nm 8, .nm 9]) (.zip (.var 6) (.slc (.var 6) (.som (.lit (.int 1))) .non)) .non [8, 9]) .nil)) (.cons (.cmp .Gt (.blt .max (.cons (.var 6) .nil)) (.call F_law_product (.cons (.bin .Sub (.var 3) (.lit (.int 1))) .nil))) .nil))) (.cons (.ret (.lit (.bl false)))
  .nil) .nil)
  (.cons (.ifs (.cmp .Eq (.var 5) (.lit (.int 0))) (.cons (.ret (.and_ (.cons (.cmp .Eq (.var 4) (.bin .Sub (.var 3) (.lit (.int 1)))) (.cons (.cmp .Is (.call F_danger (.cons (.var 1) (.cons (.var 2) .nil))) (.lit .non)) .nil))))
  .nil) .nil)
  (.cons (.ret (.and_ (.cons (.cmp .Gt (.idx (.var 6) (.bin .Add (.var 4) (.lit (.int 1)))) (.lit (.int 0))) (.cons (.call F_law_danger_right (.cons (.var 0) (.cons (.var 1) (.cons (.var 2) (.cons (.var 4) .nil))))) .nil))))
  .nil))))))
def F_law_guest_right_v1 : Fn := ⟨"_law_guest_right", [true, false, false], semOf 10 [true, false, false] b_law_guest_right_v1⟩
def N_law_right_v56 : List Str := ["_law_box_here", "_law_night_here", "_law_hopes_here", "_law_guest"]
def b_law_right_v56 : Ss := (.cons (.asg 1 (.call F_law_night (.cons (.var 0) (.cons (.lit (.int 3)) (.cons (.lit (.int 24)) .nil)))))
  (.cons (.asg 2 (.call F_law_strewn (.cons (.var 0) (.cons (.call F_law_hopes (.cons (.var 1) .nil)) .nil))))
  (.cons (.ret (.blt .all (.cons (.comp (.call F_law_guest_right_v1 (.cons (.var 0) (.cons (.var 1) (.cons (.var 3) .nil)))) (.nm 3) (.val (.slc (.var 2) .non (.som (.lit (.int 3))))) .non [3]) .nil)))
  .nil)))
def F_law_right_v56 : Fn := ⟨"_law_right", [true], semOf 4 [true] b_law_right_v56⟩
def N_law_v56 : List Str := ["_law_script", "_law_cells", "_law_k", "_law_box_here", "_law_turn"]
def b_law_v56 : Ss := (.cons (.asg 1 (.call F_law_folded (.cons (.var 0) (.cons (.lit (.int 2)) .nil))))
  (.cons (.for_ (.nm 2) (.rng1 (.blt .max (.cons (.lit (.int 1)) (.cons (.blt .len (.cons (.var 1) .nil)) .nil)))) (.cons (.asg 3 (.call F_law_box (.cons (.var 1) (.cons (.var 2) .nil))))
  (.cons (.ifs (.not_ (.blt .all (.cons (.comp (.call F_law_right_v56 (.cons (.var 3) .nil)) (.nm 4) (.rng1 (.lit (.int 2))) .non [4]) .nil))) (.cons (.ret (.lit (.bl false)))
  .nil) .nil)
  .nil)))
  (.cons (.ret (.lit (.bl true)))
  .nil)))
def F_law_v56 : Fn := ⟨"law", [false], semOf 5 [false] b_law_v56⟩
end Pw
/-! Pw, part X: reckoning with the small language, by what must hold ahead. -/
namespace Pw
open PySem PySem.Spec PyProof.Rows L2
abbrev Xc := Str → D → Envr → Prop
/-- what is wanted of a word, of words, of a walk -/
inductive wR {α : Type} (X : Xc) : R α → (α → Envr → Prop) → Prop
  | ok {a : α} {ρ : Envr} {P : α → Envr → Prop} (h : P a ρ) : wR X (.ok a ρ) P
  | raise {C : Str} {x : D} {ρ : Envr} {P : α → Envr → Prop} (h : X C x ρ) : wR X (.raise C x ρ) P
structure En where
  nx : Envr → Prop
  rt : Sl → Envr → Prop
  bk : Envr → Prop
  ct : Envr → Prop
  xs : Xc
def noX : Xc := fun _ _ _ => False
inductive wX : SR → En → Prop
  | next {D : En} {ρ : Envr} (h : D.nx ρ) : wX (.next ρ) D
  | brk {D : En} {ρ : Envr} (h : D.bk ρ) : wX (.brk ρ) D
  | cont {D : En} {ρ : Envr} (h : D.ct ρ) : wX (.cont ρ) D
  | ret {D : En} {s : Sl} {ρ : Envr} (h : D.rt s ρ) : wX (.ret s ρ) D
  | raise {D : En} {C : Str} {x : Pw.D} {ρ : Envr} (h : D.xs C x ρ) : wX (.raise C x ρ) D
section
variable {α β : Type} {X : Xc} {ρ : Envr} {a b c : E} {es : Es} {s u : Sl} {x y : D} {P : Sl → Envr → Prop}
theorem wR.bind {r : R α} {f : α → Envr → R β} {Q : β → Envr → Prop} (h : wR X r fun a ρ => wR X (f a ρ) Q) : wR X (r.bind f) Q := by
  cases h with
  | ok h => exact h
  | raise h => exact .raise h
theorem wR.mono {r : R α} {P Q : α → Envr → Prop} (h : wR X r P) (f : ∀ a ρ, P a ρ → Q a ρ) : wR X r Q := by
  cases h with
  | ok h => exact .ok (f _ _ h)
  | raise h => exact .raise h
theorem wR.bm {r : R α} {f : α → Envr → R β} {P : α → Envr → Prop} {Q : β → Envr → Prop} (h : wR X r P) (k : ∀ a ρ, P a ρ → wR X (f a ρ) Q) : wR X (r.bind f) Q := .bind (h.mono k)
theorem wR.grd {b : Bool} {r : R α} {Q : α → Envr → Prop} (hb : b = true) (h : wR X r Q) : wR X (grd b r) Q := by subst hb; exact h
theorem wR.mp {r : R α} {Q : α → Envr → Prop} (h : wR noX r Q) : ∃ a ρ, r = .ok a ρ ∧ Q a ρ := by
  cases h with
  | ok h => exact ⟨_, _, rfl, h⟩
  | raise h => exact h.elim
theorem w_lit {c : Lit} (h : P (.d c.d) ρ) : wR X (ev (.lit c) ρ) P := .ok h
theorem w_li {i : Int} (h : P (.d (.int i)) ρ) : wR X (ev (.lit (.int i)) ρ) P := .ok h
theorem w_ls {z : Str} (h : P (.d (.str z)) ρ) : wR X (ev (.lit (.str z)) ρ) P := .ok h
theorem w_lb {k : Bool} (h : P (.d (.bool k)) ρ) : wR X (ev (.lit (.bl k)) ρ) P := .ok h
theorem w_ln (h : P (.d .none) ρ) : wR X (ev (.lit .non) ρ) P := .ok h
theorem w_glo {n : Str} {d : D} (h : P (.d d) ρ) : wR X (ev (.glo n d) ρ) P := .ok h
theorem w_var {i : Nat} (e : varR i ρ = .ok s ρ) (h : P s ρ) : wR X (ev (.var i) ρ) P := by
  show wR X (varR i ρ) P; rw [e]; exact .ok h
theorem w_op2 {g : D → D → Option Rs} {rs : Rs} (h1 : view ρ s = some x) (h2 : view ρ u = some y) (h3 : g x y = some rs) (h : P (slOf rs) ρ) : wR X (op2 g s u ρ) P := by
  unfold op2; rw [h1, h2]; dsimp only; rw [h3]; exact .ok h
theorem w_bin {op : Operator} (h : wR X (ev a ρ) fun s ρ1 => nal b.own s = true ∧ wR X (ev b ρ1) fun u ρ2 => wR X (op2 (binD op) s u ρ2) P) : wR X (ev (.bin op a b) ρ) P :=
  wR.bm h fun s ρ1 ⟨n, h⟩ => .grd n (.bind h)
theorem w_cmp {op : CmpOp} (h : wR X (ev a ρ) fun s ρ1 => nal b.own s = true ∧ wR X (ev b ρ1) fun u ρ2 => wR X (op2 (cmpD op) s u ρ2) P) : wR X (ev (.cmp op a b) ρ) P :=
  wR.bm h fun s ρ1 ⟨n, h⟩ => .grd n (.bind h)
theorem w_idx (h : wR X (ev a ρ) fun s ρ1 => nal b.own s = true ∧ wR X (ev b ρ1) fun u ρ2 => wR X (op2 idxSeq s u ρ2) P) : wR X (ev (.idx a b) ρ) P :=
  wR.bm h fun s ρ1 ⟨n, h⟩ => .grd n (.bind h)
theorem w_test {b : Bool} {Q : Bool → Envr → Prop} (h : view ρ s = some (.bool b)) (q : Q b ρ) : wR X (testR s ρ) Q := by unfold testR truth; rw [h]; exact .ok q
theorem w_not (h : wR X (ev a ρ) fun s ρ1 => wR X (testR s ρ1) fun b ρ2 => P (.d (.bool (!b))) ρ2) : wR X (ev (.not_ a) ρ) P :=
  wR.bm h fun s ρ1 h => wR.bm h fun b ρ2 h => .ok h
theorem w_neg (h : wR X (ev a ρ) fun s ρ1 => ∃ i, view ρ1 s = some (.int i) ∧ P (.d (.int (-i))) ρ1) : wR X (ev (.neg a) ρ) P :=
  wR.bm h fun s ρ1 ⟨i, e, h⟩ => by show wR X (negR s ρ1) P; unfold negR; rw [e]; exact .ok h
theorem w_ife (h : wR X (ev c ρ) fun s ρ1 => wR X (testR s ρ1) fun t ρ2 => if t = true then wR X (ev a ρ2) P else wR X (ev b ρ2) P) : wR X (ev (.ife c a b) ρ) P :=
  wR.bm h fun s ρ1 h => wR.bm h fun t ρ2 h => by
    split at h
    · rename_i k; rw [if_pos k]; exact h
    · rename_i k; rw [if_neg k]; exact h
theorem w_fz {Q : D → Envr → Prop} {x : D} {ρ' : Envr} (h : fz ρ s = some (x, ρ')) (q : Q x ρ') : wR X (fzD s ρ) Q := by unfold fzD; rw [h]; exact .ok q
theorem w_anil {Q : List D → Envr → Prop} (h : Q [] ρ) : wR X (evA .nil ρ) Q := .ok h
theorem w_acons {Q : List D → Envr → Prop} (h : wR X (ev a ρ) fun s ρ1 => wR X (fzD s ρ1) fun x ρ2 => wR X (evA es ρ2) fun ds ρ3 => Q (x :: ds) ρ3) : wR X (evA (.cons a es) ρ) Q :=
  wR.bm h fun _ _ h => wR.bm h fun _ _ h => wR.bm h fun _ _ h => .ok h
theorem w_tup (h : wR X (evA es ρ) fun ds ρ => P (.d (.tuple ds)) ρ) : wR X (ev (.tup es) ρ) P := wR.bm h fun _ _ h => .ok h
theorem w_lst (h : wR X (evA es ρ) fun ds ρ => P (.ol none ds) ρ) : wR X (ev (.lst es) ρ) P := wR.bm h fun _ _ h => .ok h
theorem w_dct {ks : List Str} (h : wR X (evA es ρ) fun ds ρ => P (.od none false ((ks.map PyData.str).zip ds)) ρ) : wR X (ev (.dct ks es) ρ) P := wR.bm h fun _ _ h => .ok h
theorem w_ixk {kvs : List (Pw.D × Pw.D)} {z : Str} {d : Pw.D} (h1 : view ρ s = some (.dict kvs)) (h2 : view ρ u = some (.str z)) (h3 : dlk kvs (.inr z) = some d) (h : P (.d d) ρ) : wR X (op2 idxSeq s u ρ) P :=
  w_op2 (rs := .d d) h1 h2 (by show (dlk kvs (.inr z)).map _ = _; rw [h3]; rfl) h
theorem w_ownk {z : Option Nat} {t : Bool} {kvs : List (Pw.D × Pw.D)} (h : P (.od z t kvs) ρ) : wR X (ownR (.od z t kvs) ρ) P := .ok h
theorem w_lnil {Q : List Sl → Envr → Prop} (h : Q [] ρ) : wR X (evL .nil ρ) Q := .ok h
theorem w_lcons {Q : List Sl → Envr → Prop} (h : wR X (ev a ρ) fun s ρ1 => nal es.own s = true ∧ wR X (evL es ρ1) fun ss ρ2 => Q (s :: ss) ρ2) : wR X (evL (.cons a es) ρ) Q :=
  wR.bm h fun _ _ ⟨n, h⟩ => .grd n (wR.bm h fun _ _ h => .ok h)
theorem w_blt {bl : Blt} (h : wR X (evL es ρ) fun ss ρ1 => ∃ ds rs, views ρ1 ss = some ds ∧ bltD bl ds = some rs ∧ P (slOf rs) ρ1) : wR X (ev (.blt bl es) ρ) P :=
  wR.bm h fun ss ρ1 ⟨ds, rs, e2, e3, h⟩ => by
    show wR X (bltR bl ss ρ1) P
    unfold bltR; rw [e2]; dsimp only; rw [e3]; exact .ok h
theorem w_add {i j : Int} (h1 : view ρ s = some (.int i)) (h2 : view ρ u = some (.int j)) (h : P (.d (.int (i + j))) ρ) : wR X (op2 (binD .Add) s u ρ) P := w_op2 h1 h2 rfl h
theorem w_sb {i j : Int} (h1 : view ρ s = some (.int i)) (h2 : view ρ u = some (.int j)) (h : P (.d (.int (i - j))) ρ) : wR X (op2 (binD .Sub) s u ρ) P := w_op2 h1 h2 rfl h
theorem x_mul {i j : Int} (h : mulOk i j = true) : binD .Mult (.int i) (.int j) = some (.d (.int (i * j))) := by
  show (match mulI (.int i) (.int j) with | some r => some r | none => _) = _
  have : mulI (.int i) (.int j) = some (.d (.int (i * j))) := by show Option.map _ (if mulOk i j = true then _ else _) = _; rw [if_pos h]; rfl
  rw [this]
theorem w_mul {i j : Int} (h1 : view ρ s = some (.int i)) (h2 : view ρ u = some (.int j)) (hm : mulOk i j = true) (h : P (.d (.int (i * j))) ρ) : wR X (op2 (binD .Mult) s u ρ) P := w_op2 h1 h2 (x_mul hm) h
theorem w_mod {i j : Int} (h1 : view ρ s = some (.int i)) (h2 : view ρ u = some (.int j)) (hm : 0 < j) (h : P (.d (.int (i % j))) ρ) : wR X (op2 (binD .Mod) s u ρ) P :=
  w_op2 (rs := .d (.int (i % j))) h1 h2 (by show Option.map _ (if 0 < j then _ else _) = _; rw [if_pos hm]; rfl) h
theorem w_div {i j : Int} (h1 : view ρ s = some (.int i)) (h2 : view ρ u = some (.int j)) (hm : divOk j = true) (h : P (.d (.int (i / j))) ρ) : wR X (op2 (binD .FloorDiv) s u ρ) P :=
  w_op2 (rs := .d (.int (i / j))) h1 h2 (by show Option.map _ (if divOk j = true then _ else _) = _; rw [if_pos hm]; rfl) h
theorem w_pow {i j : Int} (h1 : view ρ s = some (.int i)) (h2 : view ρ u = some (.int j)) (hm : 0 ≤ j ∧ j ≤ 1000000 ∧ i.natAbs < 2 ^ 64) (h : P (.d (.int (i ^ j.toNat))) ρ) : wR X (op2 (binD .Pow) s u ρ) P :=
  w_op2 (rs := .d (.int (i ^ j.toNat))) h1 h2 (by show Option.map _ (if 0 ≤ j ∧ j ≤ 1000000 ∧ i.natAbs < 2 ^ 64 then _ else _) = _; rw [if_pos hm]; rfl) h
theorem w_gt {i j : Int} (h1 : view ρ s = some (.int i)) (h2 : view ρ u = some (.int j)) (h : P (.d (.bool (decide (j < i)))) ρ) : wR X (op2 (cmpD .Gt) s u ρ) P := w_op2 h1 h2 rfl h
theorem w_lt {i j : Int} (h1 : view ρ s = some (.int i)) (h2 : view ρ u = some (.int j)) (h : P (.d (.bool (decide (i < j)))) ρ) : wR X (op2 (cmpD .Lt) s u ρ) P := w_op2 h1 h2 rfl h
theorem w_ge {i j : Int} (h1 : view ρ s = some (.int i)) (h2 : view ρ u = some (.int j)) (h : P (.d (.bool (decide (j ≤ i)))) ρ) : wR X (op2 (cmpD .GtE) s u ρ) P := w_op2 h1 h2 rfl h
theorem w_le {i j : Int} (h1 : view ρ s = some (.int i)) (h2 : view ρ u = some (.int j)) (h : P (.d (.bool (decide (i ≤ j)))) ρ) : wR X (op2 (cmpD .LtE) s u ρ) P := w_op2 h1 h2 rfl h
theorem w_ixl {xs : List Pw.D} {i : Int} {n : Nat} {d : Pw.D} (h1 : view ρ s = some (.list xs)) (h2 : view ρ u = some (.int i)) (h3 : ixN xs.length i = some n) (h4 : xs[n]? = some d) (h : P (.d d) ρ) : wR X (op2 idxSeq s u ρ) P :=
  w_op2 (rs := .d d) h1 h2 (by show (atI xs i).map _ = _; unfold atI; rw [h3]; show Option.map _ (xs[n]?) = _; rw [h4]; rfl) h
theorem w_ixt {xs : List Pw.D} {i : Int} {n : Nat} {d : Pw.D} (h1 : view ρ s = some (.tuple xs)) (h2 : view ρ u = some (.int i)) (h3 : ixN xs.length i = some n) (h4 : xs[n]? = some d) (h : P (.d d) ρ) : wR X (op2 idxSeq s u ρ) P :=
  w_op2 (rs := .d d) h1 h2 (by show (atI xs i).map _ = _; unfold atI; rw [h3]; show Option.map _ (xs[n]?) = _; rw [h4]; rfl) h
theorem w_t {t : Bool} {p q : Prop} (h : t = true) (hp : p) : if t = true then p else q := by rw [if_pos h]; exact hp
theorem w_f {t : Bool} {p q : Prop} (h : t = false) (hq : q) : if t = true then p else q := by rw [if_neg (by rw [h]; decide)]; exact hq
theorem w_tf {t : Bool} {p q : Prop} (hp : t = true → p) (hq : t = false → q) : if t = true then p else q := by
  cases t with
  | true => rw [if_pos rfl]; exact hp rfl
  | false => rw [if_neg (by decide)]; exact hq rfl
theorem lt_log {n k : Nat} (h : n < 2 ^ k) (hk : 0 < k) : n.log2 < k := by
  by_cases e : n = 0
  · subst e; simpa using hk
  · exact (Nat.log2_lt e).mpr h
theorem mulOk_lt {i j : Int} (h : i.natAbs < 2 ^ 100) (h' : j.natAbs < 2 ^ 100) : mulOk i j = true := by
  have := lt_log h (by decide)
  have := lt_log h' (by decide)
  exact decide_eq_true (by omega)
/-! statements -/
variable {D : En}
theorem wX.st {r : R α} {f : α → Envr → SR} (h : wR D.xs r fun a ρ => wX (f a ρ) D) : wX (r.st f) D := by
  cases h with
  | ok h => exact h
  | raise h => exact .raise h
theorem wX.sm {r : R α} {f : α → Envr → SR} {P : α → Envr → Prop} (h : wR D.xs r P) (k : ∀ a ρ, P a ρ → wX (f a ρ) D) : wX (r.st f) D := wX.st (h.mono k)
theorem wX.seq {r : SR} {f : Envr → SR} (h : wX r ⟨fun ρ => wX (f ρ) D, D.rt, D.bk, D.ct, D.xs⟩) : wX (r.seq f) D := by
  cases h with
  | next h => exact h
  | brk h => exact .brk h
  | cont h => exact .cont h
  | ret h => exact .ret h
  | raise h => exact .raise h
theorem wX.mono {r : SR} {D E : En} (h : wX r D) (h1 : ∀ ρ, D.nx ρ → E.nx ρ) (h2 : ∀ s ρ, D.rt s ρ → E.rt s ρ) (h3 : ∀ ρ, D.bk ρ → E.bk ρ) (h4 : ∀ ρ, D.ct ρ → E.ct ρ) (h5 : ∀ C x ρ, D.xs C x ρ → E.xs C x ρ) : wX r E := by
  cases h with
  | next h => exact .next (h1 _ h)
  | brk h => exact .brk (h3 _ h)
  | cont h => exact .cont (h4 _ h)
  | ret h => exact .ret (h2 _ _ h)
  | raise h => exact .raise (h5 _ _ _ h)
variable {nx : Envr → Prop} {rt : Sl → Envr → Prop} {bk ct : Envr → Prop} {xx : Xc}
theorem w_nil (h : nx ρ) : wX (exs .nil ρ) ⟨nx, rt, bk, ct, xx⟩ := .next h
theorem w_cons {st : S} {sl : Ss} (h : wX (ex st ρ) ⟨fun ρ => wX (exs sl ρ) ⟨nx, rt, bk, ct, xx⟩, rt, bk, ct, xx⟩) : wX (exs (.cons st sl) ρ) ⟨nx, rt, bk, ct, xx⟩ := by
  exact wX.seq h
theorem w_brk (h : bk ρ) : wX (ex .brk ρ) ⟨nx, rt, bk, ct, xx⟩ := .brk h
theorem w_cont (h : ct ρ) : wX (ex .cont ρ) ⟨nx, rt, bk, ct, xx⟩ := .cont h
theorem w_pass (h : nx ρ) : wX (ex .pass ρ) ⟨nx, rt, bk, ct, xx⟩ := .next h
theorem w_exp (h : wR xx (ev a ρ) fun _ ρ => nx ρ) : wX (ex (.exp a) ρ) ⟨nx, rt, bk, ct, xx⟩ := wX.sm h fun _ _ h => .next h
theorem w_asg {i : Nat} (h : wR xx (ev a ρ) fun s ρ1 => wR xx (ownR s ρ1) fun s ρ2 => i < ρ2.length ∧ nx (ρ2.set i (some s))) : wX (ex (.asg i a) ρ) ⟨nx, rt, bk, ct, xx⟩ :=
  wX.sm h fun s ρ1 h => wX.sm h fun s2 ρ2 ⟨hi, h⟩ => by
    show wX (setS i s2 ρ2) ⟨nx, rt, bk, ct, xx⟩
    unfold setS; rw [if_pos hi]; exact .next h
theorem w_ret (h : wR xx (ev a ρ) fun s ρ1 => wR xx (outR s ρ1) fun s ρ2 => rt s ρ2) : wX (ex (.ret a) ρ) ⟨nx, rt, bk, ct, xx⟩ :=
  wX.sm h fun s ρ1 h => wX.sm h fun s2 ρ2 h => .ret h
theorem w_ifs {p q : Ss} (h : wR xx (ev a ρ) fun s ρ1 => wR xx (testR s ρ1) fun t ρ2 => if t = true then wX (exs p ρ2) ⟨nx, rt, bk, ct, xx⟩ else wX (exs q ρ2) ⟨nx, rt, bk, ct, xx⟩) : wX (ex (.ifs a p q) ρ) ⟨nx, rt, bk, ct, xx⟩ :=
  wX.sm h fun s ρ1 h => wX.sm h fun t ρ2 h => by
    split at h
    · rename_i k; rw [if_pos k]; exact h
    · rename_i k; rw [if_neg k]; exact h
theorem w_sub {i : Nat} {k e : E} (h : wR xx (ev e ρ) fun s ρ1 => wR xx (fzD s ρ1) fun d ρ2 => isOl ρ2 i = true ∧ wR xx (ev k ρ2) fun u ρ3 => wR xx (fzD u ρ3) fun j ρ4 => wX (setSub i j d ρ4) ⟨nx, rt, bk, ct, xx⟩) : wX (ex (.sub i k e) ρ) ⟨nx, rt, bk, ct, xx⟩ :=
  wX.sm h fun s ρ1 h => wX.sm h fun d ρ2 ⟨g, h⟩ => by
    show wX (grdS (isOl ρ2 i) _) ⟨nx, rt, bk, ct, xx⟩
    unfold grdS; rw [if_pos g]
    exact wX.sm h fun u ρ3 h => wX.sm h fun j ρ4 h => h
theorem w_unpSub {i j : Nat} {k e : E} (h : wR xx (ev e ρ) fun s ρ1 => wR xx (fzD s ρ1) fun d ρ2 => ∃ d1 d2, d = .tuple [d1, d2] ∧ isOl ρ2 i = true ∧ wR xx (ev k ρ2) fun u ρ3 => wR xx (fzD u ρ3) fun n ρ4 => wX (setSub i n d1 ρ4) ⟨fun ρ5 => wX (setS j (.d d2) ρ5) ⟨nx, rt, bk, ct, xx⟩, rt, bk, ct, xx⟩) : wX (ex (.unpSub i k j e) ρ) ⟨nx, rt, bk, ct, xx⟩ :=
  wX.sm h fun s ρ1 h => wX.sm h fun d ρ2 h => by
    obtain ⟨d1, d2, rfl, g, h⟩ := h
    show wX (grdS (isOl ρ2 i) _) ⟨nx, rt, bk, ct, xx⟩
    unfold grdS; rw [if_pos g]
    exact wX.sm h fun u ρ3 h => wX.sm h fun n ρ4 h => wX.seq h
theorem w_setSub {i : Nat} {z : Option Nat} {xs : List Pw.D} {j : Int} {n : Nat} {d : Pw.D} (h1 : ρ[i]? = some (some (.ol z xs))) (h2 : ixN xs.length j = some n) (h : nx (ρ.set i (some (.ol z (xs.set n d))))) : wX (setSub i (.int j) d ρ) ⟨nx, rt, bk, ct, xx⟩ := by
  unfold setSub; rw [h1]; dsimp only; rw [h2]; exact .next h
theorem w_setS {i : Nat} (hi : i < ρ.length) (h : nx (ρ.set i (some s))) : wX (setS i s ρ) ⟨nx, rt, bk, ct, xx⟩ := by unfold setS; rw [if_pos hi]; exact .next h
theorem w_aug {i : Nat} {op : Operator} (h : wR xx (varR i ρ) fun s ρ1 => nal a.own s = true ∧ wR xx (ev a ρ1) fun u ρ2 => wR xx (op2 (iopD op) s u ρ2) fun s ρ3 => i < ρ3.length ∧ nx (ρ3.set i (some s))) : wX (ex (.aug i op a) ρ) ⟨nx, rt, bk, ct, xx⟩ :=
  wX.sm h fun s ρ1 ⟨n, h⟩ => by
    show wX (grdS (nal a.own s) _) ⟨nx, rt, bk, ct, xx⟩
    unfold grdS; rw [if_pos n]
    exact wX.sm h fun u ρ2 h => wX.sm h fun w ρ3 ⟨hi, h⟩ => by
      show wX (setS i w ρ3) ⟨nx, rt, bk, ct, xx⟩
      unfold setS; rw [if_pos hi]; exact .next h
theorem w_raise {C : Str} (h : wR xx (ev a ρ) fun s ρ1 => wR xx (fzD s ρ1) fun d ρ2 => xx C d ρ2) : wX (ex (.raise C a) ρ) ⟨nx, rt, bk, ct, xx⟩ :=
  wX.sm h fun s ρ1 h => wX.sm h fun d ρ2 h => .raise h
/-- the ends of a def -/
structure FinS (s r : Sl) (a b : List (Option Sl)) : Prop where
  e : s = r
  o : a = b
structure FinR (C C' : Str) (x x' : Pw.D) (a b : List (Option Sl)) : Prop where
  c : C = C'
  e : x = x'
  o : a = b
/-- a def that hands back -/
theorem sem_eq {n : Nat} {md : List Bool} {body : Ss} {args : List Sl} {r : Sl} {outs : List (Option Sl)} (hr : resOk r = true)
    (key : wX (exs body (startE n args)) ⟨fun ρ => FinS (.d .none) r (outsOf md.length ρ) outs, fun s ρ => FinS s r (outsOf md.length ρ) outs, fun _ => False, fun _ => False, noX⟩) : semOf n md body args = .ok r outs := by
  unfold semOf
  generalize exs body (startE n args) = e at key
  cases key with
  | ret key => obtain ⟨e1, e2⟩ := key; subst e1 e2; exact if_pos hr
  | next key => obtain ⟨e1, e2⟩ := key; subst e1 e2; rfl
  | brk key => exact key.elim
  | cont key => exact key.elim
  | raise key => exact key.elim
theorem sem_of {n : Nat} {md : List Bool} {body : Ss} {args : List Sl} {Q : Sl → List (Option Sl) → Prop} (key : wX (exs body (startE n args)) ⟨fun ρ => Q (.d .none) (outsOf md.length ρ), fun s ρ => resOk s = true ∧ Q s (outsOf md.length ρ), fun _ => False, fun _ => False, noX⟩) :
    ∃ s o, Q s o ∧ semOf n md body args = .ok s o := by
  unfold semOf
  generalize exs body (startE n args) = e at key
  cases key with
  | ret key => exact ⟨_, _, key.2, if_pos key.1⟩
  | next key => exact ⟨_, _, key, rfl⟩
  | brk key => exact key.elim
  | cont key => exact key.elim
  | raise key => exact key.elim
theorem sem_raise {n : Nat} {md : List Bool} {body : Ss} {args : List Sl} {C : Str} {x : Pw.D} {outs : List (Option Sl)} (key : wX (exs body (startE n args)) ⟨fun _ => False, fun _ _ => False, fun _ => False, fun _ => False, fun C' x' ρ => FinR C' C x' x (outsOf md.length ρ) outs⟩) :
    semOf n md body args = .raise C x outs := by
  unfold semOf
  generalize exs body (startE n args) = e at key
  cases key with
  | ret key => exact key.elim
  | next key => exact key.elim
  | brk key => exact key.elim
  | cont key => exact key.elim
  | raise key => obtain ⟨e1, e2, e3⟩ := key; subst e1 e2 e3; rfl
end
end Pw
/-! Pw, part Y: reckoning, calls, loops, comprehensions. -/
namespace Pw
open PySem PySem.Spec PyProof.Rows L2
section
variable {α β : Type} {X : Xc} {ρ : Envr} {a b c : E} {es : Es} {s u : Sl} {x y : D} {P : Sl → Envr → Prop} {Q : List Sl → Envr → Prop}
theorem w_cnil (h : Q [] ρ) : wR X (evC [] .nil ρ) Q := .ok h
theorem w_cio {ms : List Bool} (h : wR X (ev a ρ) fun s ρ1 => nal es.own s = true ∧ wR X (evC ms es ρ1) fun ss ρ2 => Q (s :: ss) ρ2) : wR X (evC (true :: ms) (.cons a es) ρ) Q :=
  wR.bm h fun s ρ1 ⟨n, h⟩ => wR.bind (r := if true = true then grd (nal es.own s) (.ok s ρ1) else rawR s ρ1) (by
    rw [if_pos rfl]; unfold grd; rw [if_pos n]
    refine .ok ?_
    exact wR.bm h fun _ _ h => .ok h)
theorem w_cd {ms : List Bool} (h : wR X (ev a ρ) fun s ρ1 => wR X (rawR s ρ1) fun s ρ2 => wR X (evC ms es ρ2) fun ss ρ3 => Q (s :: ss) ρ3) : wR X (evC (false :: ms) (.cons a es) ρ) Q :=
  wR.bm h fun s ρ1 h => wR.bind (r := if false = true then grd (nal es.own s) (.ok s ρ1) else rawR s ρ1) (by
    rw [if_neg (by decide)]
    exact h.mono fun _ _ h => wR.bm h fun _ _ h => .ok h)
theorem w_call {F : Fn} (h : wR X (evC F.md es ρ) fun sls ρ1 => ∃ args r outs, (aliOf sls).Nodup ∧ argsIn ρ1 F.md 0 sls = some args ∧ F.sem args = .ok r outs ∧ resOk r = true ∧ outs.length = F.md.length ∧ P r (putOuts ρ1 sls outs)) : wR X (ev (.call F es) ρ) P :=
  wR.bm h fun sls ρ1 h => by
    obtain ⟨args, r, outs, nd, ea, es', hr, hl, h⟩ := h
    unfold callR
    rw [if_pos nd, ea]
    dsimp only
    rw [es']
    dsimp only
    rw [if_pos ⟨hr, hl⟩]
    exact .ok h
theorem w_callx {F : Fn} (h : wR X (evC F.md es ρ) fun sls ρ1 => ∃ args C x outs, (aliOf sls).Nodup ∧ argsIn ρ1 F.md 0 sls = some args ∧ F.sem args = .raise C x outs ∧ outs.length = F.md.length ∧ X C x (putOuts ρ1 sls outs)) : wR X (ev (.call F es) ρ) P :=
  wR.bm h fun sls ρ1 h => by
    obtain ⟨args, C, x, outs, nd, ea, es', hl, h⟩ := h
    unfold callR
    rw [if_pos nd, ea]
    dsimp only
    rw [es']
    dsimp only
    rw [if_pos hl]
    exact .raise h
theorem w_ownd (h : P (.d x) ρ) : wR X (ownR (.d x) ρ) P := .ok h
theorem w_ownl {z : Option Nat} {xs : List D} (h : P (.ol z xs) ρ) : wR X (ownR (.ol z xs) ρ) P := .ok h
theorem w_owna {i : Nat} (h : wR X (fzR (.ali i) ρ) P) : wR X (ownR (.ali i) ρ) P := h
theorem w_fzR {x : D} {ρ' : Envr} (h : fz ρ s = some (x, ρ')) (q : P (.d x) ρ') : wR X (fzR s ρ) P := by unfold fzR; rw [h]; exact .ok q
theorem w_rawd (h : P (.d x) ρ) : wR X (rawR (.d x) ρ) P := .ok h
theorem w_raws {ns : List Int} (h : P (.scr ns) ρ) : wR X (rawR (.scr ns) ρ) P := .ok h
theorem w_rawl {xs : List D} (h : P (.d (.list xs)) ρ) : wR X (rawR (.ol none xs) ρ) P := .ok h
theorem w_rawa {i : Nat} (h : wR X (fzR (.ali i) ρ) P) : wR X (rawR (.ali i) ρ) P := h
theorem w_outd (h : P (.d x) ρ) : wR X (outR (.d x) ρ) P := .ok h
theorem w_outl {xs : List D} (h : P (.ol none xs) ρ) : wR X (outR (.ol none xs) ρ) P := .ok h
theorem w_outa {i : Nat} {xs : List D} (e : ρ[i]? = some (some (.ol none xs))) (h : P (.ol none xs) (ρ.set i none)) : wR X (outR (.ali i) ρ) P := by
  unfold outR; dsimp only; rw [e]; exact .ok h
theorem w_wnil (h : Q [] ρ) : wR X (evW .nil ρ) Q := .ok h
theorem w_wcons (h : wR X (ev a ρ) fun s ρ1 => wR X (ownR s ρ1) fun s ρ2 => wR X (evW es ρ2) fun ss ρ3 => Q (s :: ss) ρ3) : wR X (evW (.cons a es) ρ) Q :=
  wR.bm h fun _ _ h => wR.bm h fun _ _ h => wR.bm h fun _ _ h => .ok h
theorem w_mut {m : Mut} {i : Nat} (h : isOl ρ i = true ∧ wR X (evA es ρ) fun ds ρ1 => ∃ z xs d xs', ρ1[i]? = some (some (.ol z xs)) ∧ mutD m xs ds = some (d, xs') ∧ P (.d d) (ρ1.set i (some (.ol z xs')))) : wR X (ev (.mut m i es) ρ) P :=
  wR.grd h.1 (wR.bm h.2 fun ds ρ1 h => by
    obtain ⟨z, xs, d, xs', e2, e3, h⟩ := h
    unfold mutR; rw [e2]; dsimp only; rw [e3]; exact .ok h)
theorem w_isi {Ts : List Ty} (h : wR X (ev a ρ) fun s ρ1 => ∃ x, view ρ1 s = some x ∧ P (.d (.bool (Ts.any (tyIs x)))) ρ1) : wR X (ev (.isi a Ts) ρ) P :=
  wR.bm h fun s ρ1 h => by
    obtain ⟨x, e2, h⟩ := h
    unfold isiR; rw [e2]; exact .ok h
theorem w_met {m : Mth} (h : wR X (ev a ρ) fun s ρ1 => nal es.own s = true ∧ hasTy m ρ1 s = true ∧ wR X (evL es ρ1) fun ss ρ2 => ∃ x ds rs, view ρ2 s = some x ∧ views ρ2 ss = some ds ∧ metD m x ds = some rs ∧ P (slOf rs) ρ2) : wR X (ev (.met m a es) ρ) P :=
  wR.bm h fun s ρ1 ⟨n1, n2, h⟩ => wR.grd (by rw [n1, n2]; rfl) (wR.bm h fun ss ρ2 h => by
    obtain ⟨x, ds, rs, e3, e4, e5, h⟩ := h
    unfold metR; rw [e3, e4]; dsimp only; rw [e5]; exact .ok h)
theorem w_b1 {k : Bool} (h : wR X (ev a ρ) P) : wR X (evB k (.cons a .nil) ρ) P := h
theorem w_bc {k : Bool} {e : E} (h : wR X (ev a ρ) fun s ρ1 => wR X (testR s ρ1) fun b ρ2 => if b = k then wR X (evB k (.cons e es) ρ2) P else P (.d (.bool b)) ρ2) : wR X (evB k (.cons a (.cons e es)) ρ) P :=
  wR.bm h fun s ρ1 h => wR.bm h fun t ρ2 h => by
    split at h
    · rename_i q; rw [if_pos q]; exact h
    · rename_i q; rw [if_neg q]; exact .ok h
theorem w_and (h : wR X (evB true es ρ) P) : wR X (ev (.and_ es) ρ) P := h
theorem w_or (h : wR X (evB false es ρ) P) : wR X (ev (.or_ es) ρ) P := h
theorem w_chn {p q : CmpOp} (h : wR X (ev a ρ) fun s ρ1 => nal (b.own ++ c.own) s = true ∧ wR X (ev b ρ1) fun u ρ2 => ∃ x y t, view ρ2 s = some x ∧ view ρ2 u = some y ∧ cmpD p x y = some (.d (.bool t)) ∧ if t = true then nal c.own u = true ∧ wR X (ev c ρ2) fun w ρ3 => wR X (op2 (cmpD q) u w ρ3) P else P (.d (.bool false)) ρ2) : wR X (ev (.chn p q a b c) ρ) P :=
  wR.bm h fun s ρ1 ⟨n, h⟩ => .grd n (wR.bm h fun u ρ2 h => by
    obtain ⟨x, y, t, e1, e2, e3, h⟩ := h
    unfold chnR; rw [e1, e2]; dsimp only; rw [e3]
    cases t with
    | true => rw [if_pos rfl] at h; exact .grd h.1 (.bind h.2)
    | false => rw [if_neg (by decide)] at h; exact .ok h)
theorem w_onon {Q : Option Int → Envr → Prop} (h : Q none ρ) : wR X (evO .non ρ) Q := .ok h
theorem w_osom {Q : Option Int → Envr → Prop} (h : wR X (ev a ρ) fun s ρ1 => ∃ i, view ρ1 s = some (.int i) ∧ Q (some i) ρ1) : wR X (evO (.som a) ρ) Q :=
  wR.bm h fun s ρ1 ⟨i, e2, h⟩ => by
    unfold partR partOf; rw [e2]; exact .ok h
theorem w_slc {lo hi : Oe} (h : wR X (ev a ρ) fun s ρ1 => nal (lo.own ++ hi.own) s = true ∧ wR X (evO lo ρ1) fun l ρ2 => wR X (evO hi ρ2) fun k ρ3 => ∃ x rs, view ρ3 s = some x ∧ sliceD x l k = some rs ∧ P (slOf rs) ρ3) : wR X (ev (.slc a lo hi) ρ) P :=
  wR.bm h fun s ρ1 ⟨n, h⟩ => wR.grd n (wR.bm h fun l ρ2 h => wR.bm h fun k ρ3 h => by
    obtain ⟨x, rs, e4, e5, h⟩ := h
    unfold slcR; rw [e4]; dsimp only; rw [e5]; exact .ok h)
theorem w_sscr {i : Nat} {lo hi : Oe} {ns : List Int} (e : scrOf ρ i = some ns) (h : wR X (evO lo ρ) fun l ρ2 => wR X (evO hi ρ2) fun k ρ3 => P (.ol none (cutD (ns.map .int) l k)) ρ3) : wR X (ev (.sscr i lo hi) ρ) P :=
  wR.bind (r := optR ρ (scrOf ρ i)) (by
    rw [e]
    exact .ok (wR.bm h fun l ρ2 h => wR.bm h fun k ρ3 h => .ok h))
/-! loops -/
variable {R : List D → Envr → Prop} {it : It} {t : Tg}
theorem w_loopS {f : D → Envr → SR} {D0 : En} (I : Nat → Envr → Prop) : ∀ (items : List D) (k : Nat) (ρ : Envr), (∀ i d ρ, k ≤ i → items[i - k]? = some d → I i ρ → wX (f d ρ) ⟨I (i + 1), D0.rt, D0.nx, I (i + 1), D0.xs⟩) → I k ρ → (∀ ρ, I (k + items.length) ρ → D0.nx ρ) → wX (loopS f items ρ) D0
  | [], k, ρ, _, h0, hd => .next (hd ρ h0)
  | d :: ds, k, ρ, hs, h0, hd => by
    have h1 := hs k d ρ (Nat.le_refl _) (by simp) h0
    have rest : ∀ ρ', I (k + 1) ρ' → wX (loopS f ds ρ') D0 := fun ρ' h => w_loopS I ds (k + 1) ρ' (fun i d' ρ2 hk e hI => hs i d' ρ2 (by omega) (by rw [show i - k = (i - (k + 1)) + 1 by omega]; exact e) hI) h fun ρ2 h2 => hd ρ2 (by rw [List.length_cons]; rw [show k + (ds.length + 1) = k + 1 + ds.length by omega]; exact h2)
    unfold loopS
    generalize f d ρ = e at h1
    cases h1 with
    | next h => exact rest _ h
    | cont h => exact rest _ h
    | brk h => exact .next h
    | ret h => exact .ret h
    | raise h => exact .raise h
theorem w_for {b : Ss} {nx : Envr → Prop} {rt : Sl → Envr → Prop} {bk ct : Envr → Prop} {xx : Xc} (h : wR xx (evI it ρ) fun items ρ1 => ∃ I : Nat → Envr → Prop, I 0 ρ1 ∧ (∀ i d ρ, items[i]? = some d → I i ρ → ∃ ρ', bindT t d ρ = some ρ' ∧ wX (exs b ρ') ⟨I (i + 1), rt, nx, I (i + 1), xx⟩) ∧ ∀ ρ, I items.length ρ → nx ρ) : wX (ex (.for_ t it b) ρ) ⟨nx, rt, bk, ct, xx⟩ :=
  wX.sm h fun items ρ1 h => by
    obtain ⟨I, h0, hs, hd⟩ := h
    refine w_loopS I items 0 ρ1 (fun i d ρ _ e hI => ?_) h0 fun ρ h => hd ρ (by rw [← Nat.zero_add items.length]; exact h)
    obtain ⟨ρ', eb, h⟩ := hs i d ρ e hI
    show wX ((optS (bindT t d ρ)).seq fun ρ => exs b ρ) _
    rw [eb]; exact h
theorem w_whileS {q : Envr → Pw.R Bool} {f : Envr → SR} {D0 : En} (I : Nat → Envr → Prop) : ∀ (n k : Nat) (ρ : Envr), k < n → (∀ k ρ, I k ρ → wR D0.xs (q ρ) fun b ρ' => if b = true then 0 < k ∧ wX (f ρ') ⟨I (k - 1), D0.rt, D0.nx, I (k - 1), D0.xs⟩ else D0.nx ρ') → I k ρ → wX (whileS q f n ρ) D0
  | 0, _, _, h, _, _ => absurd h (Nat.not_lt_zero _)
  | n + 1, k, ρ, hk, hs, h0 => by
    have h1 := hs k ρ h0
    unfold whileS
    refine wX.sm h1 fun b ρ' h => ?_
    split at h
    · rename_i hb
      rw [if_pos hb]
      obtain ⟨kp, h⟩ := h
      have rest : ∀ ρ', I (k - 1) ρ' → wX (whileS q f n ρ') D0 := fun ρ' h => w_whileS I n (k - 1) ρ' (by omega) hs h
      generalize f ρ' = e at h
      cases h with
      | next h => exact rest _ h
      | cont h => exact rest _ h
      | brk h => exact .next h
      | ret h => exact .ret h
      | raise h => exact .raise h
    · rename_i hb
      rw [if_neg hb]; exact .next h
theorem w_loopL {f : D → Envr → List D → Pw.R (List D)} {Q : List D → Envr → Prop} (I : Nat → Envr → List D → Prop) : ∀ (items : List D) (k : Nat) (ρ : Envr) (acc : List D), (∀ i d ρ acc, k ≤ i → items[i - k]? = some d → I i ρ acc → wR noX (f d ρ acc) fun acc' ρ' => I (i + 1) ρ' acc') → I k ρ acc → (∀ ρ acc, I (k + items.length) ρ acc → Q acc ρ) → wR noX (loopL f items ρ acc) Q
  | [], k, ρ, acc, _, h0, hd => .ok (hd ρ acc h0)
  | d :: ds, k, ρ, acc, hs, h0, hd => by
    have h1 := hs k d ρ acc (Nat.le_refl _) (by simp) h0
    unfold loopL
    refine wR.bm h1 fun acc' ρ' h1 => ?_
    exact w_loopL I ds (k + 1) ρ' acc' (fun i d' ρ2 acc2 hk e hI => hs i d' ρ2 acc2 (by omega) (by rw [show i - k = (i - (k + 1)) + 1 by omega]; exact e) hI) h1 fun ρ2 acc2 h2 => hd ρ2 acc2 (by rw [List.length_cons]; rw [show k + (ds.length + 1) = k + 1 + ds.length by omega]; exact h2)
theorem w_comp {el : E} {q : Oe} {own : List Nat} (h : wR X (evI it ρ) fun items ρ1 => ∃ I : Nat → Envr → List D → Prop, I 0 (wipeE ρ1 own) [] ∧
    (∀ i d ρ acc, items[i]? = some d → I i ρ acc → ∃ ρ', bindT t d ρ = some ρ' ∧ wR noX (evQ q ρ') fun b ρ2 => if b = true then wR noX (ev el ρ2) fun s ρ3 => wR noX (fzD s ρ3) fun y ρ4 => I (i + 1) (wipeE ρ4 own) (acc ++ [y]) else I (i + 1) (wipeE ρ2 own) acc) ∧
    ∀ ρ2 acc, I items.length ρ2 acc → P (.ol none acc) (backE ρ1 ρ2 own)) : wR X (ev (.comp el t it q own) ρ) P :=
  wR.bm h fun items ρ1 h => by
    obtain ⟨I, h0, hs, hd⟩ := h
    have k := w_loopL (f := turnR t own (fun ρ => evQ q ρ) fun ρ => ev el ρ) (Q := fun acc ρ2 => P (.ol none acc) (backE ρ1 ρ2 own)) I items 0 (wipeE ρ1 own) [] (fun i d ρ acc _ e hI => by
      obtain ⟨ρ', eb, h⟩ := hs i d ρ acc e hI
      unfold turnR
      rw [eb]
      refine wR.bm h fun b ρ2 h => ?_
      split at h
      · rename_i q
        rw [if_pos q]
        exact wR.bm h fun s ρ3 h => wR.bm h fun y ρ4 h => .ok h
      · rename_i q
        rw [if_neg q]
        exact .ok h) h0 (fun ρ acc h => hd ρ acc (by rw [← Nat.zero_add items.length]; exact h))
    obtain ⟨acc, ρ2, e2, h2⟩ := k.mp
    rw [e2]
    exact .ok h2
theorem w_qnon {Q : Bool → Envr → Prop} (h : Q true ρ) : wR X (evQ .non ρ) Q := .ok h
theorem w_qsom {Q : Bool → Envr → Prop} (h : wR X (ev a ρ) fun s ρ1 => wR X (testR s ρ1) Q) : wR X (evQ (.som a) ρ) Q := wR.bind h
theorem w_ival (h : wR X (ev a ρ) fun s ρ1 => wR X (fzD s ρ1) fun x ρ2 => ∃ items, itemsOf x = some items ∧ R items ρ2) : wR X (evI (.val a) ρ) R :=
  wR.bm h fun s ρ1 h => wR.bm h fun x ρ2 ⟨items, e3, h⟩ => by rw [e3]; exact .ok h
theorem w_irng1 (h : wR X (ev a ρ) fun s ρ1 => ∃ n, view ρ1 s = some (.int n) ∧ (-(2 ^ 62) ≤ n ∧ n ≤ 10000000) ∧ R (rngItems 0 n) ρ1) : wR X (evI (.rng1 a) ρ) R :=
  wR.bm h fun s ρ1 ⟨n, e2, hn, h⟩ => by unfold rng1R; rw [e2]; dsimp only; rw [if_pos hn]; exact .ok h
theorem w_irng2 (h : wR X (ev a ρ) fun s ρ1 => nal b.own s = true ∧ wR X (ev b ρ1) fun u ρ2 => ∃ m n, view ρ2 s = some (.int m) ∧ view ρ2 u = some (.int n) ∧ (-(2 ^ 61) ≤ m ∧ m < 2 ^ 61 ∧ -(2 ^ 61) ≤ n ∧ n < 2 ^ 61 ∧ n - m ≤ 10000000) ∧ R (rngItems m (n - m)) ρ2) : wR X (evI (.rng2 a b) ρ) R :=
  wR.bm h fun s ρ1 ⟨k, h⟩ => .grd k (wR.bm h fun u ρ2 ⟨m, n, e1, e2, hn, h⟩ => by unfold rng2R; rw [e1, e2]; dsimp only; rw [if_pos hn]; exact .ok h)
theorem w_ienm (h : wR X (ev a ρ) fun s ρ1 => wR X (fzD s ρ1) fun x ρ2 => ∃ xs, seqOf x = some xs ∧ R (enumItems xs) ρ2) : wR X (evI (.enm a) ρ) R :=
  wR.bm h fun s ρ1 h => wR.bm h fun x ρ2 ⟨items, e3, h⟩ => by rw [e3]; exact .ok h
theorem w_irev (h : wR X (ev a ρ) fun s ρ1 => wR X (fzD s ρ1) fun x ρ2 => ∃ xs, seqOf x = some xs ∧ R xs.reverse ρ2) : wR X (evI (.rev a) ρ) R :=
  wR.bm h fun s ρ1 h => wR.bm h fun x ρ2 ⟨items, e3, h⟩ => by rw [e3]; exact .ok h
theorem w_izip (h : wR X (ev a ρ) fun s ρ1 => wR X (fzD s ρ1) fun x ρ2 => wR X (ev b ρ2) fun u ρ3 => wR X (fzD u ρ3) fun y ρ4 => ∃ items, zipOf x y = some items ∧ R items ρ4) : wR X (evI (.zip a b) ρ) R :=
  wR.bm h fun s ρ1 h => wR.bm h fun x ρ2 h => wR.bm h fun u ρ3 h => wR.bm h fun y ρ4 ⟨items, e3, h⟩ => by rw [e3]; exact .ok h
/-! stores -/
variable {nx : Envr → Prop} {rt : Sl → Envr → Prop} {bk ct : Envr → Prop} {xx : Xc}
theorem w_par {is : List Nat} (h : wR xx (evW es ρ) fun ss ρ1 => wX (setsS is ss ρ1) ⟨nx, rt, bk, ct, xx⟩) : wX (ex (.par is es) ρ) ⟨nx, rt, bk, ct, xx⟩ := wX.st h
theorem w_ps0 (h : nx ρ) : wX (setsS [] [] ρ) ⟨nx, rt, bk, ct, xx⟩ := .next h
theorem w_psc {i : Nat} {is : List Nat} {s : Sl} {ss : List Sl} {D0 : En} (hi : i < ρ.length) (h : wX (setsS is ss (ρ.set i (some s))) D0) : wX (setsS (i :: is) (s :: ss) ρ) D0 := by
  show wX ((setS i s ρ).seq fun ρ => setsS is ss ρ) D0
  unfold setS; rw [if_pos hi]; exact h
theorem w_unp (h : wR xx (ev a ρ) fun s ρ1 => wR xx (fzD s ρ1) fun d ρ2 => ∃ ρ3, bindT t d ρ2 = some ρ3 ∧ nx ρ3) : wX (ex (.unp t a) ρ) ⟨nx, rt, bk, ct, xx⟩ :=
  wX.sm h fun s ρ1 h => wX.sm h fun d ρ2 ⟨ρ3, e3, h⟩ => by
    show wX (optS (bindT t d ρ2)) _
    rw [e3]; exact .next h
end
end Pw
/-! Pw, part Z: reckoning with data of known shapes. -/
namespace Pw
open PySem PySem.Spec PyProof.Rows L2
/-! ### shapes: no dicts, not deep -/
def shp (n : Nat) (d : D) : Prop := nod d = true ∧ d.depth ≤ n
def shpA (n : Nat) (ds : List D) : Prop := nodA ds = true ∧ PyData.depthAll ds ≤ n
theorem shp.str {n : Nat} {x : Str} : shp n (.str x) := ⟨by simp [nod], by simp [PyData.depth]⟩
theorem shp.int {n : Nat} {x : Int} : shp n (.int x) := ⟨by simp [nod], by simp [PyData.depth]⟩
theorem shp.bl {n : Nat} {x : Bool} : shp n (.bool x) := ⟨by simp [nod], by simp [PyData.depth]⟩
theorem shp.non {n : Nat} : shp n .none := ⟨by simp [nod], by simp [PyData.depth]⟩
theorem shp.lst {n : Nat} {xs : List D} (h : shpA n xs) : shp (n + 1) (.list xs) := ⟨by simpa [nod] using h.1, by have := h.2; simp only [PyData.depth]; omega⟩
theorem shp.tup {n : Nat} {xs : List D} (h : shpA n xs) : shp (n + 1) (.tuple xs) := ⟨by simpa [nod] using h.1, by have := h.2; simp only [PyData.depth]; omega⟩
theorem shpA.nil {n : Nat} : shpA n [] := ⟨by simp [nodA], by simp [PyData.depthAll]⟩
theorem shpA.cons {n : Nat} {d : D} {ds : List D} (h : shp n d) (t : shpA n ds) : shpA n (d :: ds) := ⟨by simp [nodA, h.1, t.1], by have := h.2; have := t.2; simp only [PyData.depthAll]; omega⟩
theorem shpA.of {n : Nat} : ∀ {ds : List D}, (∀ d ∈ ds, shp n d) → shpA n ds
  | [], _ => .nil
  | d :: ds, h => .cons (h d List.mem_cons_self) (shpA.of fun x m => h x (List.mem_cons_of_mem _ m))
theorem shpA.mem {n : Nat} : ∀ {ds : List D}, shpA n ds → ∀ d ∈ ds, shp n d
  | d :: ds, h, x, m => by
    have h1 : nod d = true ∧ nodA ds = true := by simpa [nodA] using h.1
    have h2 : max d.depth (PyData.depthAll ds) ≤ n := by simpa only [PyData.depthAll] using h.2
    rcases List.mem_cons.mp m with rfl | m
    · exact ⟨h1.1, by omega⟩
    · exact shpA.mem ⟨h1.2, by omega⟩ x m
theorem shpA.app {n : Nat} {a b : List D} (h : shpA n a) (h' : shpA n b) : shpA n (a ++ b) := .of fun d m => (List.mem_append.mp m).elim (h.mem d) (h'.mem d)
theorem shpA.map {n : Nat} {α : Type} {f : α → D} {xs : List α} (h : ∀ a, shp n (f a)) : shpA n (xs.map f) := .of fun d m => by
  obtain ⟨a, _, rfl⟩ := List.mem_map.mp m; exact h a
theorem shp.mono {n m : Nat} {d : D} (h : shp n d) (l : n ≤ m) : shp m d := ⟨h.1, Nat.le_trans h.2 l⟩
theorem shp.eqOk {d : D} (h : shp 60 d) : eqOk d = true := by
  unfold Pw.eqOk; rw [h.1, decide_eq_true h.2]; rfl
/-! ### equal as data, equal as such -/
def EqE {α : Type} [DecidableEq α] (enc : α → D) : Prop := (∀ x y, PyData.eqv (enc x) (enc y) = decide (x = y)) ∧ ∀ x, shp 50 (enc x)
theorem eqv_str (x y : Str) : PyData.eqv (.str x) (.str y) = decide (x = y) := by
  simp only [PyData.eqv]; by_cases h : x = y <;> simp [h]
theorem eqv_int (x y : Int) : PyData.eqv (.int x) (.int y) = decide (x = y) := by
  simp only [PyData.eqv]; by_cases h : x = y <;> simp [h]
theorem eqv_bl (x y : Bool) : PyData.eqv (.bool x) (.bool y) = decide (x = y) := by
  simp only [PyData.eqv]; cases x <;> cases y <;> rfl
theorem EqE.str : EqE PyData.str := ⟨eqv_str, fun _ => .str⟩
theorem EqE.int : EqE PyData.int := ⟨eqv_int, fun _ => .int⟩
theorem EqE.bl : EqE PyData.bool := ⟨eqv_bl, fun _ => .bl⟩
abbrev pr (p : Str × Str) : D := .tuple [.str p.1, .str p.2]
theorem EqE.pr : EqE pr := ⟨fun x y => by
  simp only [pr, PyData.eqv, PyData.eqvAll, Bool.and_true]
  by_cases h1 : x.1 = y.1 <;> by_cases h2 : x.2 = y.2 <;> simp [h1, h2, Prod.ext_iff], fun x => (shp.tup (n := 49) (.cons .str (.cons .str .nil)))⟩
theorem eqvAll_map {α : Type} [DecidableEq α] {enc : α → D} (h : ∀ x y, PyData.eqv (enc x) (enc y) = decide (x = y)) : ∀ xs ys : List α, PyData.eqvAll (xs.map enc) (ys.map enc) = decide (xs = ys)
  | [], [] => by simp [PyData.eqvAll]
  | [], y :: ys => by simp [PyData.eqvAll]
  | x :: xs, [] => by simp [PyData.eqvAll]
  | x :: xs, y :: ys => by
    simp only [List.map_cons, PyData.eqvAll, h, eqvAll_map h xs ys]
    by_cases h1 : x = y <;> by_cases h2 : xs = ys <;> simp [h1, h2]
theorem eqv_lst {α : Type} [DecidableEq α] {enc : α → D} (h : EqE enc) (xs ys : List α) : PyData.eqv (.list (xs.map enc)) (.list (ys.map enc)) = decide (xs = ys) := by
  simp only [PyData.eqv]; exact eqvAll_map h.1 xs ys
theorem eqv_tup {α : Type} [DecidableEq α] {enc : α → D} (h : EqE enc) (xs ys : List α) : PyData.eqv (.tuple (xs.map enc)) (.tuple (ys.map enc)) = decide (xs = ys) := by
  simp only [PyData.eqv]; exact eqvAll_map h.1 xs ys
mutual
theorem eqv_refl : ∀ d : D, nod d = true → PyData.eqv d d = true
  | .none, _ => by simp [PyData.eqv]
  | .bool _, _ => by simp [PyData.eqv]
  | .int _, _ => by simp [PyData.eqv]
  | .str _, _ => by simp [PyData.eqv]
  | .list xs, h => by simp only [PyData.eqv]; exact eqvA_refl xs (by simpa [nod] using h)
  | .tuple xs, h => by simp only [PyData.eqv]; exact eqvA_refl xs (by simpa [nod] using h)
  | .dict _, h => by simp [nod] at h
theorem eqvA_refl : ∀ ds : List D, nodA ds = true → PyData.eqvAll ds ds = true
  | [], _ => by simp [PyData.eqvAll]
  | d :: ds, h => by
    have h1 : nod d = true ∧ nodA ds = true := by simpa [nodA] using h
    simp only [PyData.eqvAll, eqv_refl d h1.1, eqvA_refl ds h1.2]; rfl
end
theorem any_eqv {α : Type} [DecidableEq α] {enc : α → D} (h : ∀ x y, PyData.eqv (enc x) (enc y) = decide (x = y)) (x : α) : ∀ xs : List α, ((xs.map enc).any fun z => PyData.eqv z (enc x)) = decide (x ∈ xs)
  | [] => by simp
  | y :: ys => by
    rw [List.map_cons, List.any_cons, any_eqv h x ys, h]
    by_cases e : y = x
    · simp [e]
    · have e' : ¬ x = y := fun z => e z.symm
      simp [e, e']
theorem dec_irr {p : Prop} (a b : Decidable p) : @decide p a = @decide p b := by cases Subsingleton.elim a b; rfl
section
variable {α : Type} [DecidableEq α] {X : Xc} {ρ : Envr} {a b c : E} {es : Es} {s u : Sl} {x y : D} {P : Sl → Envr → Prop} {enc : α → D} {xs ys : List α} {z w : α}
theorem in_l (h : EqE enc) : cmpD .In (enc z) (.list (xs.map enc)) = some (.d (.bool (decide (z ∈ xs)))) := by
  show ors (inL false) _ _ _ = _
  have e : inL false (enc z) (.list (xs.map enc)) = some (.d (.bool (decide (z ∈ xs)))) := by
    show (if eqOk (enc z) = true ∧ eqOk (.list (xs.map enc)) = true then bres (if false = true then _ else _) else none) = _
    rw [if_pos ⟨((h.2 z).mono (by decide)).eqOk, (shp.lst (n := 59) (.map fun a => (h.2 a).mono (by decide))).eqOk⟩, if_neg (by decide), any_eqv h.1]; rfl
  unfold ors; rw [e]
theorem nin_l (h : EqE enc) : cmpD .NotIn (enc z) (.list (xs.map enc)) = some (.d (.bool (!decide (z ∈ xs)))) := by
  show ors (inL true) _ _ _ = _
  have e : inL true (enc z) (.list (xs.map enc)) = some (.d (.bool (!decide (z ∈ xs)))) := by
    show (if eqOk (enc z) = true ∧ eqOk (.list (xs.map enc)) = true then bres (if true = true then _ else _) else none) = _
    rw [if_pos ⟨((h.2 z).mono (by decide)).eqOk, (shp.lst (n := 59) (.map fun a => (h.2 a).mono (by decide))).eqOk⟩, if_pos rfl, any_eqv h.1]; rfl
  unfold ors; rw [e]
theorem in_t (h : EqE enc) : cmpD .In (enc z) (.tuple (xs.map enc)) = some (.d (.bool (decide (z ∈ xs)))) := by
  show ors (inL false) (ors (inT false) (inS false)) (enc z) (.tuple (xs.map enc)) = _
  have e0 : inL false (enc z) (.tuple (xs.map enc)) = none := rfl
  have e : inT false (enc z) (.tuple (xs.map enc)) = some (.d (.bool (decide (z ∈ xs)))) := by
    show (if eqOk (enc z) = true ∧ eqOk (.tuple (xs.map enc)) = true then bres (if false = true then _ else _) else none) = _
    rw [if_pos ⟨((h.2 z).mono (by decide)).eqOk, (shp.tup (n := 59) (.map fun a => (h.2 a).mono (by decide))).eqOk⟩, if_neg (by decide), any_eqv h.1]; rfl
  unfold ors; rw [e0]; dsimp only; rw [e]
theorem nin_t (h : EqE enc) : cmpD .NotIn (enc z) (.tuple (xs.map enc)) = some (.d (.bool (!decide (z ∈ xs)))) := by
  show ors (inL true) (ors (inT true) (inS true)) (enc z) (.tuple (xs.map enc)) = _
  have e0 : inL true (enc z) (.tuple (xs.map enc)) = none := rfl
  have e : inT true (enc z) (.tuple (xs.map enc)) = some (.d (.bool (!decide (z ∈ xs)))) := by
    show (if eqOk (enc z) = true ∧ eqOk (.tuple (xs.map enc)) = true then bres (if true = true then _ else _) else none) = _
    rw [if_pos ⟨((h.2 z).mono (by decide)).eqOk, (shp.tup (n := 59) (.map fun a => (h.2 a).mono (by decide))).eqOk⟩, if_pos rfl, any_eqv h.1]; rfl
  unfold ors; rw [e0]; dsimp only; rw [e]
theorem w_inlS {z : Str} {xs : List Str} (h1 : view ρ s = some (.str z)) (h2 : view ρ u = some (.list (xs.map .str))) (h : P (.d (.bool (decide (z ∈ xs)))) ρ) : wR X (op2 (cmpD .In) s u ρ) P := w_op2 h1 h2 (in_l .str) h
theorem w_intS {z : Str} {xs : List Str} (h1 : view ρ s = some (.str z)) (h2 : view ρ u = some (.tuple (xs.map .str))) (h : P (.d (.bool (decide (z ∈ xs)))) ρ) : wR X (op2 (cmpD .In) s u ρ) P := w_op2 h1 h2 (in_t .str) h
theorem w_nilS {z : Str} {xs : List Str} (h1 : view ρ s = some (.str z)) (h2 : view ρ u = some (.list (xs.map .str))) (h : P (.d (.bool (!decide (z ∈ xs)))) ρ) : wR X (op2 (cmpD .NotIn) s u ρ) P := w_op2 h1 h2 (nin_l .str) h
theorem w_nitS {z : Str} {xs : List Str} (h1 : view ρ s = some (.str z)) (h2 : view ρ u = some (.tuple (xs.map .str))) (h : P (.d (.bool (!decide (z ∈ xs)))) ρ) : wR X (op2 (cmpD .NotIn) s u ρ) P := w_op2 h1 h2 (nin_t .str) h
theorem w_inlP {z : Str × Str} {xs : List (Str × Str)} (h1 : view ρ s = some (pr z)) (h2 : view ρ u = some (.list (xs.map pr))) (h : P (.d (.bool (decide (z ∈ xs)))) ρ) : wR X (op2 (cmpD .In) s u ρ) P := w_op2 h1 h2 (in_l .pr) (Eq.mp (congrArg (fun t => P (.d (.bool t)) ρ) (dec_irr _ _)) h)
theorem w_intP {z : Str × Str} {xs : List (Str × Str)} (h1 : view ρ s = some (pr z)) (h2 : view ρ u = some (.tuple (xs.map pr))) (h : P (.d (.bool (decide (z ∈ xs)))) ρ) : wR X (op2 (cmpD .In) s u ρ) P := w_op2 h1 h2 (in_t .pr) (Eq.mp (congrArg (fun t => P (.d (.bool t)) ρ) (dec_irr _ _)) h)
theorem w_nilP {z : Str × Str} {xs : List (Str × Str)} (h1 : view ρ s = some (pr z)) (h2 : view ρ u = some (.list (xs.map pr))) (h : P (.d (.bool (!decide (z ∈ xs)))) ρ) : wR X (op2 (cmpD .NotIn) s u ρ) P := w_op2 h1 h2 (nin_l .pr) (Eq.mp (congrArg (fun t => P (.d (.bool !t)) ρ) (dec_irr _ _)) h)
theorem w_nitP {z : Str × Str} {xs : List (Str × Str)} (h1 : view ρ s = some (pr z)) (h2 : view ρ u = some (.tuple (xs.map pr))) (h : P (.d (.bool (!decide (z ∈ xs)))) ρ) : wR X (op2 (cmpD .NotIn) s u ρ) P := w_op2 h1 h2 (nin_t .pr) (Eq.mp (congrArg (fun t => P (.d (.bool !t)) ρ) (dec_irr _ _)) h)
/-- == of data -/
theorem eq_of {t : Bool} (hx : shp 60 x) (hy : shp 60 y) (h : PyData.eqv x y = t) : cmpD .Eq x y = some (.d (.bool t)) := by
  show (if eqOk x = true ∧ eqOk y = true then bres (PyData.eqv x y) else none) = _
  rw [if_pos ⟨hx.eqOk, hy.eqOk⟩, h]; rfl
theorem ne_of {t : Bool} (hx : shp 60 x) (hy : shp 60 y) (h : PyData.eqv x y = t) : cmpD .NotEq x y = some (.d (.bool (!t))) := by
  show (if eqOk x = true ∧ eqOk y = true then bres (!PyData.eqv x y) else none) = _
  rw [if_pos ⟨hx.eqOk, hy.eqOk⟩, h]; rfl
theorem w_eqI {i j : Int} (h1 : view ρ s = some (.int i)) (h2 : view ρ u = some (.int j)) (h : P (.d (.bool (decide (i = j)))) ρ) : wR X (op2 (cmpD .Eq) s u ρ) P := w_op2 h1 h2 (eq_of .int .int (eqv_int i j)) h
theorem w_neI {i j : Int} (h1 : view ρ s = some (.int i)) (h2 : view ρ u = some (.int j)) (h : P (.d (.bool (!decide (i = j)))) ρ) : wR X (op2 (cmpD .NotEq) s u ρ) P := w_op2 h1 h2 (ne_of .int .int (eqv_int i j)) h
theorem w_eqS {i j : Str} (h1 : view ρ s = some (.str i)) (h2 : view ρ u = some (.str j)) (h : P (.d (.bool (decide (i = j)))) ρ) : wR X (op2 (cmpD .Eq) s u ρ) P := w_op2 h1 h2 (eq_of .str .str (eqv_str i j)) h
theorem w_neS {i j : Str} (h1 : view ρ s = some (.str i)) (h2 : view ρ u = some (.str j)) (h : P (.d (.bool (!decide (i = j)))) ρ) : wR X (op2 (cmpD .NotEq) s u ρ) P := w_op2 h1 h2 (ne_of .str .str (eqv_str i j)) h
theorem w_eqB {i j : Bool} (h1 : view ρ s = some (.bool i)) (h2 : view ρ u = some (.bool j)) (h : P (.d (.bool (decide (i = j)))) ρ) : wR X (op2 (cmpD .Eq) s u ρ) P := w_op2 h1 h2 (eq_of .bl .bl (eqv_bl i j)) h
theorem w_neB {i j : Bool} (h1 : view ρ s = some (.bool i)) (h2 : view ρ u = some (.bool j)) (h : P (.d (.bool (!decide (i = j)))) ρ) : wR X (op2 (cmpD .NotEq) s u ρ) P := w_op2 h1 h2 (ne_of .bl .bl (eqv_bl i j)) h
/-- the same data -/
theorem w_eqr {i j : D} (h1 : view ρ s = some i) (h2 : view ρ u = some j) (e : i = j) (hs : shp 60 i) (h : P (.d (.bool true)) ρ) : wR X (op2 (cmpD .Eq) s u ρ) P := by
  subst e; exact w_op2 h1 h2 (eq_of hs hs (eqv_refl _ hs.1)) h
theorem w_ner {i j : D} (h1 : view ρ s = some i) (h2 : view ρ u = some j) (e : i = j) (hs : shp 60 i) (h : P (.d (.bool false)) ρ) : wR X (op2 (cmpD .NotEq) s u ρ) P := by
  subst e; exact w_op2 h1 h2 (ne_of hs hs (eqv_refl _ hs.1)) h
/-- == of lists of alike things -/
theorem w_eql {β : Type} [DecidableEq β] {e : β → D} {xs ys : List β} (hE : EqE e) (h1 : view ρ s = some (.list (xs.map e))) (h2 : view ρ u = some (.list (ys.map e))) (h : P (.d (.bool (decide (xs = ys)))) ρ) : wR X (op2 (cmpD .Eq) s u ρ) P :=
  w_op2 h1 h2 (eq_of (shp.lst (n := 59) (.map fun a => (hE.2 a).mono (by decide))) (shp.lst (n := 59) (.map fun a => (hE.2 a).mono (by decide))) (eqv_lst hE xs ys)) h
theorem w_nel {β : Type} [DecidableEq β] {e : β → D} {xs ys : List β} (hE : EqE e) (h1 : view ρ s = some (.list (xs.map e))) (h2 : view ρ u = some (.list (ys.map e))) (h : P (.d (.bool (!decide (xs = ys)))) ρ) : wR X (op2 (cmpD .NotEq) s u ρ) P :=
  w_op2 h1 h2 (ne_of (shp.lst (n := 59) (.map fun a => (hE.2 a).mono (by decide))) (shp.lst (n := 59) (.map fun a => (hE.2 a).mono (by decide))) (eqv_lst hE xs ys)) h
/-- list.index -/
theorem index_of (hE : EqE enc) (hm : z ∈ xs) : metD .index (.list (xs.map enc)) [enc z] = some (.d (.int (xs.idxOf z : Int))) := by
  show (if eqOk (.list (xs.map enc)) = true ∧ eqOk (enc z) = true then ((xs.map enc).findIdx? fun y => PyData.eqv y (enc z)).map fun (j : Nat) => Rs.d (.int (j : Int)) else none) = _
  rw [if_pos ⟨(shp.lst (n := 59) (.map fun a => (hE.2 a).mono (by decide))).eqOk, ((hE.2 z).mono (by decide)).eqOk⟩]
  have : ((xs.map enc).findIdx? fun y => PyData.eqv y (enc z)) = some (xs.idxOf z) := by
    rw [List.findIdx?_map]
    have : ((fun y => PyData.eqv y (enc z)) ∘ enc) = fun y => y == z := by
      funext y; show PyData.eqv (enc y) (enc z) = _; rw [hE.1]; by_cases e : y = z <;> simp [e]
    rw [this]
    have h := List.idxOf_lt_length_of_mem hm
    rw [List.findIdx?_eq_some_iff_findIdx_eq]
    exact ⟨h, rfl⟩
  rw [this]; rfl
end
end Pw
/-! Pw, part Zb: sorted, slices, comprehensions that change nothing, joins, plain calls. -/
namespace Pw
open PySem PySem.Spec PyProof.Rows L2
/-! ### the order of texts -/
def sle (a b : Str) : Bool := decide (a.cps.toList ≤ b.cps.toList)
theorem Str.ext' {a b : Str} (h : a.cps.toList = b.cps.toList) : a = b := by
  obtain ⟨⟨a⟩⟩ := a; obtain ⟨⟨b⟩⟩ := b; exact congrArg (fun l => (⟨⟨l⟩⟩ : Str)) h
theorem sle_total (a b : Str) : (sle a b || sle b a) = true := by
  unfold sle; simp only [Bool.or_eq_true, decide_eq_true_eq]; exact List.le_total _ _
theorem sle_trans (a b c : Str) (h : sle a b = true) (h' : sle b c = true) : sle a c = true := by
  unfold sle at *; simp only [decide_eq_true_eq] at *; exact List.le_trans h h'
theorem sle_anti {a b : Str} (h : sle a b = true) (h' : sle b a = true) : a = b := by
  unfold sle at *; simp only [decide_eq_true_eq] at *; exact Str.ext' (List.le_antisymm h h')
/-- sorted texts -/
def sortS (xs : List Str) : List Str := xs.mergeSort sle
theorem sortS_perm (xs : List Str) : (sortS xs).Perm xs := List.mergeSort_perm _ _
theorem perm_sorted_eq {α : Type} {le : α → α → Bool} (anti : ∀ a b, le a b = true → le b a = true → a = b) : ∀ {xs ys : List α}, xs.Perm ys → xs.Pairwise (fun a b => le a b = true) → ys.Pairwise (fun a b => le a b = true) → xs = ys
  | [], ys, p, _, _ => (List.nil_perm.mp p).symm
  | x :: xs, [], p, _, _ => by have := p.length_eq; simp at this
  | x :: xs, y :: ys, p, hx, hy => by
    have hx' := List.pairwise_cons.mp hx
    have hy' := List.pairwise_cons.mp hy
    have e : x = y := by
      have h1 : x ∈ y :: ys := p.mem_iff.mp List.mem_cons_self
      have h2 : y ∈ x :: xs := p.mem_iff.mpr List.mem_cons_self
      rcases List.mem_cons.mp h1 with h1 | h1
      · exact h1
      · rcases List.mem_cons.mp h2 with h2 | h2
        · exact h2.symm
        · exact anti _ _ (hx'.1 y h2) (hy'.1 x h1)
    subst e
    rw [perm_sorted_eq anti (List.Perm.cons_inv p) hx'.2 hy'.2]
theorem sortS_pw (xs : List Str) : (sortS xs).Pairwise fun a b => sle a b = true := List.pairwise_mergeSort (fun a b c => sle_trans a b c) sle_total xs
theorem sortS_eq {xs ys : List Str} (p : xs.Perm ys) : sortS xs = sortS ys :=
  perm_sorted_eq (fun _ _ => sle_anti) ((sortS_perm xs).trans (p.trans (sortS_perm ys).symm)) (sortS_pw xs) (sortS_pw ys)
theorem dLe_str : (fun a b : Str => dLe (.str a) (.str b)) = sle := by
  have := PySem.W.dataLe_str (fun x : Str => x)
  funext a b
  have h := congrFun (congrFun this a) b
  exact h
theorem mergeSort_map {α β : Type} {f : α → β} {le : β → β → Bool} (xs : List α) : (xs.map f).mergeSort le = (xs.mergeSort fun a b => le (f a) (f b)).map f := by
  exact (List.map_mergeSort (r := fun a b => le (f a) (f b)) (s := le) (f := f) (fun a _ b _ => rfl)).symm
theorem alike_str (a b : Str) : PySem.W.alike (.str a) (.str b) = true := by simp [PySem.W.alike]
theorem sort_gen {α : Type} {f : α → D} {le : α → α → Bool} (hs : ∀ a, shp 50 (f a)) (ha : ∀ a b, PySem.W.alike (f a) (f b) = true) (hk : ∀ xs : List α, sortableB (xs.map f) = true) (hl : (fun a b => dLe (f a) (f b)) = le) (xs : List α) : sortD (.list (xs.map f)) = some (.l ((xs.mergeSort le).map f)) := by
  have hs : shpA 50 (xs.map f) := .map hs
  have h1 : allAlikeB (xs.map f) = true := by
    unfold allAlikeB
    simp only [List.all_map, List.all_eq_true, Function.comp]
    intro a _ b _; exact ha a b
  have h4 : ((xs.map f).all fun d => decide (d.depth ≤ 60)) = true := by
    rw [List.all_eq_true]; intro d hd; exact decide_eq_true (Nat.le_trans (hs.mem d hd).2 (by decide))
  show (if allAlikeB (xs.map f) = true ∧ sortableB (xs.map f) = true ∧ nodA (xs.map f) = true ∧ ((xs.map f).all fun d => decide (d.depth ≤ 60)) = true then some (Rs.l ((xs.map f).mergeSort dLe)) else none) = _
  rw [if_pos ⟨h1, hk xs, hs.1, h4⟩, mergeSort_map, hl]
theorem sort_str (xs : List Str) : sortD (.list (xs.map .str)) = some (.l ((sortS xs).map .str)) :=
  sort_gen (fun _ => .str) alike_str (fun xs => by unfold sortableB; rw [Bool.or_eq_true]; right; simp [List.all_map]) dLe_str xs
/-- pairs of texts -/
def ple (p q : Str × Str) : Bool := if p.1 = q.1 then sle p.2 q.2 else sle p.1 q.1
theorem not_dLt_str (a b : Str) : (!PySem.W.dataLt (.str b) (.str a)) = sle a b := by
  have h := congrFun (congrFun dLe_str a) b
  have e := congrFun (congrFun (PySem.W.dataLe_eq false (id : D → D)) (.str a)) (.str b)
  have e : dLe (.str a) (.str b) = !PySem.W.dataLt (.str b) (.str a) := e
  rw [← e, h]
theorem dLe_pr : (fun a b : Str × Str => dLe (pr a) (pr b)) = ple := by
  funext p q
  have e := congrFun (congrFun (PySem.W.dataLe_eq false (id : D → D)) (pr p)) (pr q)
  have e : dLe (pr p) (pr q) = !PySem.W.dataLt (pr q) (pr p) := e
  rw [e, PySem.W.dataLt_pair (alike_str _ _) (alike_str _ _), eqv_str, eqv_str]
  unfold ple
  by_cases h1 : p.1 = q.1
  · rw [h1]
    simp only [decide_true, if_true]
    by_cases h2 : q.2 = p.2
    · rw [h2]; simp [sle]
    · rw [if_neg (by simpa using h2), not_dLt_str]
  · have h1' : ¬ q.1 = p.1 := fun e => h1 e.symm
    rw [if_neg (by simpa using h1'), if_neg h1, not_dLt_str]
theorem alike_pr (a b : Str × Str) : PySem.W.alike (pr a) (pr b) = true := by simp [PySem.W.alike, PySem.W.alikeAll, pr]
def sortP (xs : List (Str × Str)) : List (Str × Str) := xs.mergeSort ple
theorem sort_pr (xs : List (Str × Str)) : sortD (.list (xs.map pr)) = some (.l ((sortP xs).map pr)) :=
  sort_gen (fun a => EqE.pr.2 a) alike_pr (fun xs => by unfold sortableB; rw [Bool.or_eq_true]; left; simp [List.all_map]) dLe_pr xs
theorem ple_total (a b : Str × Str) : (ple a b || ple b a) = true := by
  unfold ple
  by_cases h : a.1 = b.1
  · rw [if_pos h, if_pos h.symm]; exact sle_total _ _
  · rw [if_neg h, if_neg (Ne.symm h)]; exact sle_total _ _
theorem ple_anti (a b : Str × Str) (h : ple a b = true) (h' : ple b a = true) : a = b := by
  unfold ple at h h'
  by_cases e : a.1 = b.1
  · rw [if_pos e] at h; rw [if_pos e.symm] at h'; exact Prod.ext e (sle_anti h h')
  · rw [if_neg e] at h; rw [if_neg (Ne.symm e)] at h'; exact absurd (sle_anti h h') e
theorem ple_trans (a b c : Str × Str) (h : ple a b = true) (h' : ple b c = true) : ple a c = true := by
  unfold ple at *
  by_cases e : a.1 = b.1
  · rw [if_pos e] at h
    by_cases e2 : b.1 = c.1
    · rw [if_pos e2] at h'; rw [if_pos (e.trans e2)]; exact sle_trans _ _ _ h h'
    · rw [if_neg e2] at h'; rw [if_neg (by rw [e]; exact e2), e]; exact h'
  · rw [if_neg e] at h
    by_cases e2 : b.1 = c.1
    · rw [if_neg (by rw [← e2]; exact e), ← e2]; exact h
    · rw [if_neg e2] at h'
      by_cases e3 : a.1 = c.1
      · exact absurd (sle_anti h (by rw [e3]; exact h')) e
      · rw [if_neg e3]; exact sle_trans _ _ _ h h'
theorem sortP_perm (xs : List (Str × Str)) : (sortP xs).Perm xs := List.mergeSort_perm _ _
theorem sortP_pw (xs : List (Str × Str)) : (sortP xs).Pairwise fun a b => ple a b = true := List.pairwise_mergeSort (fun a b c => ple_trans a b c) ple_total xs
theorem sortP_eq {xs ys : List (Str × Str)} (p : xs.Perm ys) : sortP xs = sortP ys :=
  perm_sorted_eq ple_anti ((sortP_perm xs).trans (p.trans (sortP_perm ys).symm)) (sortP_pw xs) (sortP_pw ys)
/-! ### slices -/
def cut {α : Type} (xs : List α) (lo hi : Option Int) : List α := (xs.drop (HT.sIx xs.length 0 lo)).take (HT.sIx xs.length xs.length hi - HT.sIx xs.length 0 lo)
theorem cutD_map {α : Type} {f : α → D} (xs : List α) (lo hi : Option Int) : cutD (xs.map f) lo hi = (cut xs lo hi).map f := by
  unfold cutD cut; rw [List.length_map, List.map_take, List.map_drop]
theorem cut_to {α : Type} (xs : List α) (n : Nat) : cut xs none (some (n : Int)) = xs.take n := by
  unfold cut
  rw [HT.sIx_nat, HT.sIx_none, List.drop_zero, Nat.sub_zero]
  by_cases h : n ≤ xs.length
  · rw [Nat.min_eq_left h]
  · rw [Nat.min_eq_right (by omega), List.take_of_length_le (Nat.le_refl _), List.take_of_length_le (by omega)]
theorem cut_from {α : Type} (xs : List α) (n : Nat) : cut xs (some (n : Int)) none = xs.drop n := by
  unfold cut
  rw [HT.sIx_nat, HT.sIx_none]
  by_cases h : n ≤ xs.length
  · rw [Nat.min_eq_left h, List.take_of_length_le (by rw [List.length_drop]; omega)]
  · rw [Nat.min_eq_right (by omega), List.drop_of_length_le (by omega), List.drop_of_length_le (by omega), List.take_nil]
/-! ### comprehensions that change nothing -/
theorem back_wipe : ∀ (own : List Nat) (ρ ρ' : Envr), (∀ i, i ∉ own → ρ'[i]? = ρ[i]?) → ρ'.length = ρ.length → backE ρ ρ' own = ρ
  | [], ρ, ρ', h, hl => by
    show ρ' = ρ
    exact List.ext_getElem? fun i => h i (by simp)
  | v :: vs, ρ, ρ', h, hl => by
    show backE ρ (ρ'.set v (ρ.getD v none)) vs = ρ
    refine back_wipe vs ρ _ (fun i hi => ?_) (by simpa using hl)
    by_cases e : v = i
    · subst e
      rw [List.getElem?_set_self', List.getD_eq_getElem?_getD]
      by_cases q : v < ρ.length
      · rw [List.getElem?_eq_getElem q, List.getElem?_eq_getElem (by omega)]; rfl
      · rw [List.getElem?_eq_none (by omega), List.getElem?_eq_none (by omega)]; rfl
    · rw [List.getElem?_set_ne e]
      exact h i (by simp [hi, show i ≠ v from fun z => e z.symm])
theorem wipeE_len : ∀ (own : List Nat) (ρ : Envr), (wipeE ρ own).length = ρ.length
  | [], _ => rfl
  | v :: vs, ρ => by show ((wipeE ρ vs).set v none).length = _; rw [List.length_set]; exact wipeE_len vs ρ
theorem back_wipe' (own : List Nat) (ρ : Envr) : backE ρ (wipeE ρ own) own = ρ := back_wipe own ρ _ (fun i hi => wipeE_get hi) (wipeE_len own ρ)
section
variable {α β : Type} {X : Xc} {ρ : Envr} {a b c : E} {es : Es} {s u : Sl} {x y : D} {P : Sl → Envr → Prop} {it : It} {t : Tg}
structure CmT (b p : Bool) (A B : Envr) (K : Prop) : Prop where
  e : b = p
  w : A = B
  k : K
structure Fin1 (y f : D) (A B : Envr) : Prop where
  e : y = f
  w : A = B
structure Fin2 (y f : Sl) (A B : Envr) : Prop where
  e : y = f
  w : A = B
structure CmI (a b : List D) (K L : Prop) : Prop where
  e : a = b
  k : K
  l : L
/-- a list's items in their plain shape -/
inductive NormL (ds : List D) (K : List D → Prop) : Prop
  | mk {ys : List D} (e : ds = ys) (k : K ys) : NormL ds K
theorem nl_s (xs : List Str) : xs.map PyData.str = xs.map PyData.str := rfl
theorem nl_p (xs : List (Str × Str)) : xs.map pr = xs.map pr := rfl
theorem nl_i (xs : List Int) : xs.map PyData.int = xs.map PyData.int := rfl
theorem nl_sc {α : Type} (h : α → Str) (xs : List α) : (xs.map fun z => PyData.str (h z)) = (xs.map h).map .str := by rw [List.map_map]; rfl
theorem nl_pc {α : Type} (h k : α → Str) (xs : List α) : (xs.map fun z => PyData.tuple [.str (h z), .str (k z)]) = (xs.map fun z => (h z, k z)).map pr := by rw [List.map_map]; rfl
theorem nl_ic {α : Type} (h : α → Int) (xs : List α) : (xs.map fun z => PyData.int (h z)) = (xs.map h).map .int := by rw [List.map_map]; rfl
theorem nl_b {α : Type} (h : α → Bool) (xs : List α) : (xs.map fun z => PyData.bool (h z)) = xs.map fun z => PyData.bool (h z) := rfl
/-- a list written out, of texts or of pairs of texts -/
class UnS (ds : List D) (xs : outParam (List Str)) : Prop where
  e : ds = xs.map .str
instance (x : Str) : UnS [.str x] [x] := ⟨rfl⟩
instance (x : Str) (y : D) (ds : List D) (xs : List Str) [h : UnS (y :: ds) xs] : UnS (.str x :: y :: ds) (x :: xs) := ⟨by rw [h.e]; rfl⟩
class UnP (ds : List D) (xs : outParam (List (Str × Str))) : Prop where
  e : ds = xs.map pr
instance (x x' : Str) : UnP [.tuple [.str x, .str x']] [(x, x')] := ⟨rfl⟩
instance (x x' : Str) (y : D) (ds : List D) (xs : List (Str × Str)) [h : UnP (y :: ds) xs] : UnP (.tuple [.str x, .str x'] :: y :: ds) ((x, x') :: xs) := ⟨by rw [h.e]; rfl⟩
inductive UnL (ds : List D) (K : List D → Prop) : Prop
  | s {xs : List Str} [h : UnS ds xs] (k : K (xs.map .str)) : UnL ds K
  | p {xs : List (Str × Str)} [h : UnP ds xs] (k : K (xs.map pr)) : UnL ds K
  | n (k : K ds) : UnL ds K
theorem UnL.out {ds : List D} {K : List D → Prop} (h : UnL ds K) : K ds := by
  cases h with
  | s k => rename_i h; rw [h.e]; exact k
  | p k => rename_i h; rw [h.e]; exact k
  | n k => exact k
theorem w_lstU {X : Xc} {ρ : Envr} {es : Es} {P : Sl → Envr → Prop} (h : wR X (evA es ρ) fun ds ρ => UnL ds fun ds => P (.ol none ds) ρ) : wR X (ev (.lst es) ρ) P := w_lst (h.mono fun _ _ h => h.out)
structure AndJ (K L : Prop) : Prop where
  k : K
  l : L
mutual
/-- nothing in it changes anything -/
def E.pur : E → Bool
  | .lit _ | .glo _ _ | .var _ => true
  | .tup es | .lst es | .dct _ es | .and_ es | .or_ es | .blt _ es => es.pur
  | .call F es => !F.md.contains true && es.pur
  | .mut _ _ _ => false
  | .bin _ a b | .cmp _ a b | .idx a b => a.pur && b.pur
  | .chn _ _ a b c | .ife a b c => a.pur && (b.pur && c.pur)
  | .not_ a | .neg a | .isi a _ => a.pur
  | .met _ a es => a.pur && es.pur
  | .slc a lo hi => a.pur && (lo.pur && hi.pur)
  | .sscr _ lo hi => lo.pur && hi.pur
  | .comp elt _ it c own => elt.pur && (it.pur && c.pur)
def Es.pur : Es → Bool
  | .nil => true
  | .cons e es => e.pur && es.pur
def Oe.pur : Oe → Bool
  | .non => true
  | .som e => e.pur
def It.pur : It → Bool
  | .val e | .rng1 e | .enm e | .rev e => e.pur
  | .rng2 a b | .zip a b => a.pur && b.pur
end
theorem w_cm {el : E} {q : E} {own : List Nat} {xs : List α} {enc : α → D} {p : α → Bool} {f : α → D} (hp : (q.pur && el.pur) = true) (h : wR X (evI it ρ) fun items ρ1 => CmI items (xs.map enc)
    (∀ z, z ∈ xs → ∃ ρ', bindT t (enc z) (wipeE ρ1 own) = some ρ' ∧ wR noX (ev q ρ') fun s ρ2 => wR noX (testR s ρ2) fun b ρ2 => CmT b (p z) (wipeE ρ2 own) (wipeE ρ1 own) (b = true → wR noX (ev el ρ2) fun s ρ3 => wR noX (fzD s ρ3) fun y ρ4 => Fin1 y (f z) (wipeE ρ4 own) (wipeE ρ1 own)))
    (NormL ((xs.filter p).map f) fun ds => P (.ol none ds) ρ1)) : wR X (ev (.comp el t it (.som q) own) ρ) P := by
  refine w_comp (h.mono fun items ρ1 ⟨hi, hs, hp⟩ => ?_)
  subst hi
  refine ⟨fun i ρ2 acc => ρ2 = wipeE ρ1 own ∧ acc = ((xs.take i).filter p).map f, ⟨rfl, by simp⟩, fun i d ρ2 acc e ⟨h1, h2⟩ => ?_, fun ρ2 acc ⟨h1, h2⟩ => ?_⟩
  · subst h1 h2
    rw [List.getElem?_map] at e
    obtain ⟨z, ez, rfl⟩ := Option.map_eq_some_iff.mp e
    obtain ⟨ρ', eb, h⟩ := hs z (List.mem_of_getElem? ez)
    refine ⟨ρ', eb, w_qsom (h.mono fun s ρ3 h => h.mono fun b ρ3 ⟨e1, e2, h⟩ => ?_)⟩
    have et : xs.take (i + 1) = xs.take i ++ [z] := by rw [List.take_add_one, ez]; rfl
    cases b with
    | true =>
      rw [if_pos rfl]
      refine (h rfl).mono fun s ρ4 h => h.mono fun y ρ5 ⟨e3, e4⟩ => ⟨e4, ?_⟩
      rw [et, List.filter_append, List.map_append, List.filter_cons, if_pos e1.symm, e3]; rfl
    | false =>
      rw [if_neg (by decide)]
      refine ⟨e2, ?_⟩
      rw [et, List.filter_append, List.map_append, List.filter_cons, if_neg (by rw [← e1]; decide)]; simp
  · subst h1 h2
    rw [List.length_map, List.take_length, back_wipe']; cases hp with | mk e k => rw [e]; exact k
theorem w_cm0 {el : E} {own : List Nat} {xs : List α} {enc : α → D} {f : α → D} (hp : el.pur = true) (h : wR X (evI it ρ) fun items ρ1 => CmI items (xs.map enc)
    (∀ z, z ∈ xs → ∃ ρ', bindT t (enc z) (wipeE ρ1 own) = some ρ' ∧ wR noX (ev el ρ') fun s ρ3 => wR noX (fzD s ρ3) fun y ρ4 => Fin1 y (f z) (wipeE ρ4 own) (wipeE ρ1 own))
    (NormL (xs.map f) fun ds => P (.ol none ds) ρ1)) : wR X (ev (.comp el t it .non own) ρ) P := by
  refine w_comp (h.mono fun items ρ1 ⟨hi, hs, hp⟩ => ?_)
  subst hi
  refine ⟨fun i ρ2 acc => ρ2 = wipeE ρ1 own ∧ acc = (xs.take i).map f, ⟨rfl, by simp⟩, fun i d ρ2 acc e ⟨h1, h2⟩ => ?_, fun ρ2 acc ⟨h1, h2⟩ => ?_⟩
  · subst h1 h2
    rw [List.getElem?_map] at e
    obtain ⟨z, ez, rfl⟩ := Option.map_eq_some_iff.mp e
    obtain ⟨ρ', eb, h⟩ := hs z (List.mem_of_getElem? ez)
    refine ⟨ρ', eb, w_qnon ?_⟩
    have et : xs.take (i + 1) = xs.take i ++ [z] := by rw [List.take_add_one, ez]; rfl
    rw [if_pos rfl]
    refine h.mono fun s ρ4 h => h.mono fun y ρ5 ⟨e3, e4⟩ => ⟨e4, ?_⟩
    rw [et, List.map_append, e3]; rfl
  · subst h1 h2
    rw [List.length_map, List.take_length, back_wipe']; cases hp with | mk e k => rw [e]; exact k
/-! ### joins -/
theorem w_andJ {e : E} {b2 : Bool} (h : wR X (ev a ρ) fun s ρ1 => wR X (testR s ρ1) fun b1 ρ2 => AndJ (b1 = true → wR X (evB true (.cons e es) ρ2) fun s ρ3 => Fin2 s (.d (.bool b2)) ρ3 ρ2) (P (.d (.bool (b1 && b2))) ρ2)) : wR X (evB true (.cons a (.cons e es)) ρ) P :=
  w_bc (h.mono fun s ρ1 h => h.mono fun b1 ρ2 ⟨h, hp⟩ => by
    cases b1 with
    | true => rw [if_pos rfl]; exact (h rfl).mono fun s ρ3 ⟨e1, e2⟩ => by subst e1 e2; exact hp
    | false => rw [if_neg (by decide)]; exact hp)
theorem w_orJ {e : E} {b2 : Bool} (h : wR X (ev a ρ) fun s ρ1 => wR X (testR s ρ1) fun b1 ρ2 => AndJ (b1 = false → wR X (evB false (.cons e es) ρ2) fun s ρ3 => Fin2 s (.d (.bool b2)) ρ3 ρ2) (P (.d (.bool (b1 || b2))) ρ2)) : wR X (evB false (.cons a (.cons e es)) ρ) P :=
  w_bc (h.mono fun s ρ1 h => h.mono fun b1 ρ2 ⟨h, hp⟩ => by
    cases b1 with
    | true => rw [if_neg (by decide)]; exact hp
    | false => rw [if_pos rfl]; exact (h rfl).mono fun s ρ3 ⟨e1, e2⟩ => by subst e1 e2; exact hp)
/-- if .. else .. of alike things: enc of the one or the other -/
theorem w_ifeJ {enc : α → D} {v w : α} (h : wR X (ev c ρ) fun s ρ1 => wR X (testR s ρ1) fun t ρ2 => (t = true → wR X (ev a ρ2) fun s ρ3 => Fin2 s (.d (enc v)) ρ3 ρ2) ∧ (t = false → wR X (ev b ρ2) fun s ρ3 => Fin2 s (.d (enc w)) ρ3 ρ2) ∧ P (.d (enc (if t = true then v else w))) ρ2) : wR X (ev (.ife c a b) ρ) P :=
  w_ife (h.mono fun s ρ1 h => h.mono fun t ρ2 ⟨h1, h2, hp⟩ => by
    cases t with
    | true => rw [if_pos rfl]; rw [if_pos rfl] at hp; exact (h1 rfl).mono fun s ρ3 ⟨e1, e2⟩ => by subst e1 e2; exact hp
    | false => rw [if_neg (by decide)]; rw [if_neg (by decide)] at hp; exact (h2 rfl).mono fun s ρ3 ⟨e1, e2⟩ => by subst e1 e2; exact hp)
/-! ### plain calls: nothing that may change is handed in -/
inductive Got1 (F : Fn) (P : Sl → Envr → Prop) (ρ : Envr) : Sl → Prop
  | d {x1 r : D} (e : F.sem [.d x1] = .ok (.d r) [none]) (h : P (.d r) ρ) : Got1 F P ρ (.d x1)
  | l {x1 : D} {r : List D} (e : F.sem [.d x1] = .ok (.ol none r) [none]) (h : P (.ol none r) ρ) : Got1 F P ρ (.d x1)
theorem w_c1 {F : Fn} {a1 : E} (hm : F.md = [false]) (h : wR X (ev a1 ρ) fun s ρ1 => wR X (rawR s ρ1) fun s1 ρ2 => Got1 F P ρ2 s1) : wR X (ev (.call F (.cons a1 .nil)) ρ) P := by
  refine w_call ?_
  rw [hm]
  refine w_cd (h.mono fun s ρ1 g1 => g1.mono fun s1 ρ2 h1 => w_cnil ?_)
  cases h1 with
  | d e h => exact ⟨_, _, [none], by simp [aliOf], rfl, e, rfl, rfl, h⟩
  | l e h => exact ⟨_, _, [none], by simp [aliOf], rfl, e, rfl, rfl, h⟩
inductive Got2 (F : Fn) (P : Sl → Envr → Prop) (ρ : Envr) : Sl → Sl → Prop
  | d {x1 x2 r : D} (e : F.sem [.d x1, .d x2] = .ok (.d r) [none, none]) (h : P (.d r) ρ) : Got2 F P ρ (.d x1) (.d x2)
  | l {x1 x2 : D} {r : List D} (e : F.sem [.d x1, .d x2] = .ok (.ol none r) [none, none]) (h : P (.ol none r) ρ) : Got2 F P ρ (.d x1) (.d x2)
theorem w_c2 {F : Fn} {a1 a2 : E} (hm : F.md = [false, false]) (h : wR X (ev a1 ρ) fun s ρ1 => wR X (rawR s ρ1) fun s1 ρ2 => wR X (ev a2 ρ2) fun s ρ3 => wR X (rawR s ρ3) fun s2 ρ4 => Got2 F P ρ4 s1 s2) : wR X (ev (.call F (.cons a1 (.cons a2 .nil))) ρ) P := by
  refine w_call ?_
  rw [hm]
  refine w_cd (h.mono fun s ρ1 g1 => g1.mono fun s1 ρ2 h1 => w_cd (h1.mono fun s ρ3 g2 => g2.mono fun s2 ρ4 h2 => w_cnil ?_))
  cases h2 with
  | d e h => exact ⟨_, _, [none, none], by simp [aliOf], rfl, e, rfl, rfl, h⟩
  | l e h => exact ⟨_, _, [none, none], by simp [aliOf], rfl, e, rfl, rfl, h⟩
inductive Got3 (F : Fn) (P : Sl → Envr → Prop) (ρ : Envr) : Sl → Sl → Sl → Prop
  | d {x1 x2 x3 r : D} (e : F.sem [.d x1, .d x2, .d x3] = .ok (.d r) [none, none, none]) (h : P (.d r) ρ) : Got3 F P ρ (.d x1) (.d x2) (.d x3)
  | l {x1 x2 x3 : D} {r : List D} (e : F.sem [.d x1, .d x2, .d x3] = .ok (.ol none r) [none, none, none]) (h : P (.ol none r) ρ) : Got3 F P ρ (.d x1) (.d x2) (.d x3)
theorem w_c3 {F : Fn} {a1 a2 a3 : E} (hm : F.md = [false, false, false]) (h : wR X (ev a1 ρ) fun s ρ1 => wR X (rawR s ρ1) fun s1 ρ2 => wR X (ev a2 ρ2) fun s ρ3 => wR X (rawR s ρ3) fun s2 ρ4 => wR X (ev a3 ρ4) fun s ρ5 => wR X (rawR s ρ5) fun s3 ρ6 => Got3 F P ρ6 s1 s2 s3) : wR X (ev (.call F (.cons a1 (.cons a2 (.cons a3 .nil)))) ρ) P := by
  refine w_call ?_
  rw [hm]
  refine w_cd (h.mono fun s ρ1 g1 => g1.mono fun s1 ρ2 h1 => w_cd (h1.mono fun s ρ3 g2 => g2.mono fun s2 ρ4 h2 => w_cd (h2.mono fun s ρ5 g3 => g3.mono fun s3 ρ6 h3 => w_cnil ?_)))
  cases h3 with
  | d e h => exact ⟨_, _, [none, none, none], by simp [aliOf], rfl, e, rfl, rfl, h⟩
  | l e h => exact ⟨_, _, [none, none, none], by simp [aliOf], rfl, e, rfl, rfl, h⟩
inductive Got4 (F : Fn) (P : Sl → Envr → Prop) (ρ : Envr) : Sl → Sl → Sl → Sl → Prop
  | d {x1 x2 x3 x4 r : D} (e : F.sem [.d x1, .d x2, .d x3, .d x4] = .ok (.d r) [none, none, none, none]) (h : P (.d r) ρ) : Got4 F P ρ (.d x1) (.d x2) (.d x3) (.d x4)
  | l {x1 x2 x3 x4 : D} {r : List D} (e : F.sem [.d x1, .d x2, .d x3, .d x4] = .ok (.ol none r) [none, none, none, none]) (h : P (.ol none r) ρ) : Got4 F P ρ (.d x1) (.d x2) (.d x3) (.d x4)
theorem w_c4 {F : Fn} {a1 a2 a3 a4 : E} (hm : F.md = [false, false, false, false]) (h : wR X (ev a1 ρ) fun s ρ1 => wR X (rawR s ρ1) fun s1 ρ2 => wR X (ev a2 ρ2) fun s ρ3 => wR X (rawR s ρ3) fun s2 ρ4 => wR X (ev a3 ρ4) fun s ρ5 => wR X (rawR s ρ5) fun s3 ρ6 => wR X (ev a4 ρ6) fun s ρ7 => wR X (rawR s ρ7) fun s4 ρ8 => Got4 F P ρ8 s1 s2 s3 s4) : wR X (ev (.call F (.cons a1 (.cons a2 (.cons a3 (.cons a4 .nil))))) ρ) P := by
  refine w_call ?_
  rw [hm]
  refine w_cd (h.mono fun s ρ1 g1 => g1.mono fun s1 ρ2 h1 => w_cd (h1.mono fun s ρ3 g2 => g2.mono fun s2 ρ4 h2 => w_cd (h2.mono fun s ρ5 g3 => g3.mono fun s3 ρ6 h3 => w_cd (h3.mono fun s ρ7 g4 => g4.mono fun s4 ρ8 h4 => w_cnil ?_))))
  cases h4 with
  | d e h => exact ⟨_, _, [none, none, none, none], by simp [aliOf], rfl, e, rfl, rfl, h⟩
  | l e h => exact ⟨_, _, [none, none, none, none], by simp [aliOf], rfl, e, rfl, rfl, h⟩
inductive Got5 (F : Fn) (P : Sl → Envr → Prop) (ρ : Envr) : Sl → Sl → Sl → Sl → Sl → Prop
  | d {x1 x2 x3 x4 x5 r : D} (e : F.sem [.d x1, .d x2, .d x3, .d x4, .d x5] = .ok (.d r) [none, none, none, none, none]) (h : P (.d r) ρ) : Got5 F P ρ (.d x1) (.d x2) (.d x3) (.d x4) (.d x5)
  | l {x1 x2 x3 x4 x5 : D} {r : List D} (e : F.sem [.d x1, .d x2, .d x3, .d x4, .d x5] = .ok (.ol none r) [none, none, none, none, none]) (h : P (.ol none r) ρ) : Got5 F P ρ (.d x1) (.d x2) (.d x3) (.d x4) (.d x5)
theorem w_c5 {F : Fn} {a1 a2 a3 a4 a5 : E} (hm : F.md = [false, false, false, false, false]) (h : wR X (ev a1 ρ) fun s ρ1 => wR X (rawR s ρ1) fun s1 ρ2 => wR X (ev a2 ρ2) fun s ρ3 => wR X (rawR s ρ3) fun s2 ρ4 => wR X (ev a3 ρ4) fun s ρ5 => wR X (rawR s ρ5) fun s3 ρ6 => wR X (ev a4 ρ6) fun s ρ7 => wR X (rawR s ρ7) fun s4 ρ8 => wR X (ev a5 ρ8) fun s ρ9 => wR X (rawR s ρ9) fun s5 ρ10 => Got5 F P ρ10 s1 s2 s3 s4 s5) : wR X (ev (.call F (.cons a1 (.cons a2 (.cons a3 (.cons a4 (.cons a5 .nil)))))) ρ) P := by
  refine w_call ?_
  rw [hm]
  refine w_cd (h.mono fun s ρ1 g1 => g1.mono fun s1 ρ2 h1 => w_cd (h1.mono fun s ρ3 g2 => g2.mono fun s2 ρ4 h2 => w_cd (h2.mono fun s ρ5 g3 => g3.mono fun s3 ρ6 h3 => w_cd (h3.mono fun s ρ7 g4 => g4.mono fun s4 ρ8 h4 => w_cd (h4.mono fun s ρ9 g5 => g5.mono fun s5 ρ10 h5 => w_cnil ?_)))))
  cases h5 with
  | d e h => exact ⟨_, _, [none, none, none, none, none], by simp [aliOf], rfl, e, rfl, rfl, h⟩
  | l e h => exact ⟨_, _, [none, none, none, none, none], by simp [aliOf], rfl, e, rfl, rfl, h⟩
/-! ### built-ins over alike things -/
theorem bools_map (p : α → Bool) : ∀ xs : List α, bools (xs.map fun a => .bool (p a)) = some (xs.map p)
  | [] => rfl
  | x :: xs => by
    show (bools (xs.map fun a => .bool (p a))).map _ = _
    rw [bools_map p xs]; rfl
theorem all_map (p : α → Bool) (xs : List α) : bltD .all [.list (xs.map fun a => .bool (p a))] = some (.d (.bool (xs.all p))) := by
  show (bools (xs.map fun a => .bool (p a))).map _ = _
  rw [bools_map]; simp
theorem any_map (p : α → Bool) (xs : List α) : bltD .any [.list (xs.map fun a => .bool (p a))] = some (.d (.bool (xs.any p))) := by
  show orN (one anyD) (one anyID) [.list (xs.map fun a => .bool (p a))] = _
  have e : one anyD [.list (xs.map fun a => .bool (p a))] = some (.d (.bool (xs.any p))) := by
    show (bools (xs.map fun a => .bool (p a))).map _ = _
    rw [bools_map]; simp
  unfold orN; rw [e]
theorem ints_map (p : α → Int) : ∀ xs : List α, intsD (xs.map fun a => .int (p a)) = some (xs.map p)
  | [] => rfl
  | x :: xs => by
    show (intsD (xs.map fun a => .int (p a))).map _ = _
    rw [ints_map p xs]; rfl
theorem sum_map (p : α → Int) (xs : List α) : bltD .sum [.list (xs.map fun a => .int (p a))] = some (.d (.int (xs.map p).sum)) := by
  show (intsD (xs.map fun a => .int (p a))).map _ = _
  rw [ints_map]; rfl
theorem anyI_map (p : α → Int) : ∀ (xs : List α), bltD .any [.list (xs.map fun a => .int (p a))] = some (.d (.bool (xs.any fun a => p a != 0)))
  | [] => rfl
  | x :: xs => by
    show orN (one anyD) (one anyID) [.list (.int (p x) :: xs.map fun a => .int (p a))] = _
    have e : one anyD [.list (.int (p x) :: xs.map fun a => .int (p a))] = none := rfl
    unfold orN; rw [e]
    show (intsD ((x :: xs).map fun a => .int (p a))).map _ = _
    rw [ints_map]; simp [List.any_map, Function.comp_def]
theorem maxI_map (p : α → Int) (x : α) (xs : List α) : bltD .max [.list ((x :: xs).map fun a => .int (p a))] = some (.d (.int (maxL (p x) (xs.map p)))) := by
  show (match intsD ((x :: xs).map fun a => .int (p a)) with | some (n :: ns) => some (Rs.d (.int (maxL n ns))) | _ => none) = _
  rw [ints_map]; rfl
theorem enum_map {f : α → D} (xs : List α) : enumItems (xs.map f) = xs.zipIdx.map fun p => .tuple [.int (p.2 : Int), f p.1] := by
  unfold enumItems
  rw [List.zipIdx_map, List.map_map]; rfl
theorem zip_map {f : α → D} {g : β → D} (xs : List α) (ys : List β) : zipItems (xs.map f) (ys.map g) = (xs.zip ys).map fun p => .tuple [f p.1, g p.2] := by
  unfold zipItems
  rw [List.zip_map, List.map_map]; rfl
end
end Pw
namespace Pw
open PySem PySem.Spec PyProof.Rows L2
/-! ### built-ins and slices over alike things, as steps -/
structure AllT {α : Type} (o : Option D) (xs : List α) (p : α → Bool) (K : Prop) : Prop where
  e : o = some (.list (xs.map fun a => .bool (p a)))
  k : K
structure SumT {α : Type} (o : Option D) (xs : List α) (p : α → Int) (K : Prop) : Prop where
  e : o = some (.list (xs.map fun a => .int (p a)))
  k : K
inductive SortT (o : Option D) (P : Sl → Envr → Prop) (ρ : Envr) : Prop
  | s {xs : List Str} (e : o = some (.list (xs.map .str))) (h : P (.ol none ((sortS xs).map .str)) ρ) : SortT o P ρ
  | p {xs : List (Str × Str)} (e : o = some (.list (xs.map pr))) (h : P (.ol none ((sortP xs).map pr)) ρ) : SortT o P ρ
inductive SlcG (o : Option D) (P : Sl → Envr → Prop) (ρ : Envr) : Option Int → Option Int → Prop
  | lto {α : Type} {xs : List α} {f : α → D} {n : Nat} (e : o = some (.list (xs.map f))) (h : P (.ol none ((xs.take n).map f)) ρ) : SlcG o P ρ none (some (n : Int))
  | tto {α : Type} {xs : List α} {f : α → D} {n : Nat} (e : o = some (.tuple (xs.map f))) (h : P (.d (.tuple ((xs.take n).map f))) ρ) : SlcG o P ρ none (some (n : Int))
  | lfr {α : Type} {xs : List α} {f : α → D} {n : Nat} (e : o = some (.list (xs.map f))) (h : P (.ol none ((xs.drop n).map f)) ρ) : SlcG o P ρ (some (n : Int)) none
  | tfr {α : Type} {xs : List α} {f : α → D} {n : Nat} (e : o = some (.tuple (xs.map f))) (h : P (.d (.tuple ((xs.drop n).map f))) ρ) : SlcG o P ρ (some (n : Int)) none
  | lm {α : Type} {xs : List α} {f : α → D} {l k : Option Int} (e : o = some (.list (xs.map f))) (h : P (.ol none ((cut xs l k).map f)) ρ) : SlcG o P ρ l k
  | tm {α : Type} {xs : List α} {f : α → D} {l k : Option Int} (e : o = some (.tuple (xs.map f))) (h : P (.d (.tuple ((cut xs l k).map f))) ρ) : SlcG o P ρ l k
  | an {x : D} {rs : Rs} {l k : Option Int} (e : o = some x) (e' : sliceD x l k = some rs) (h : P (slOf rs) ρ) : SlcG o P ρ l k
section
variable {α : Type} {X : Xc} {ρ : Envr} {a : E} {P : Sl → Envr → Prop} {lo hi : Oe}
theorem w_ball {xs : List α} {p : α → Bool} (h : wR X (ev a ρ) fun s ρ1 => AllT (view ρ1 s) xs p (P (.d (.bool (xs.all p))) ρ1)) : wR X (ev (.blt .all (.cons a .nil)) ρ) P :=
  w_blt (w_lcons (h.mono fun s ρ1 ⟨e, h⟩ => ⟨by cases s <;> rfl, w_lnil ⟨[_], _, by show (match view ρ1 s, views ρ1 [] with | some d, some ds => some (d :: ds) | _, _ => none) = _; rw [e]; rfl, all_map p xs, h⟩⟩))
theorem w_bany {xs : List α} {p : α → Bool} (h : wR X (ev a ρ) fun s ρ1 => AllT (view ρ1 s) xs p (P (.d (.bool (xs.any p))) ρ1)) : wR X (ev (.blt .any (.cons a .nil)) ρ) P :=
  w_blt (w_lcons (h.mono fun s ρ1 ⟨e, h⟩ => ⟨by cases s <;> rfl, w_lnil ⟨[_], _, by show (match view ρ1 s, views ρ1 [] with | some d, some ds => some (d :: ds) | _, _ => none) = _; rw [e]; rfl, any_map p xs, h⟩⟩))
theorem w_bsum {xs : List α} {p : α → Int} (h : wR X (ev a ρ) fun s ρ1 => SumT (view ρ1 s) xs p (P (.d (.int (xs.map p).sum)) ρ1)) : wR X (ev (.blt .sum (.cons a .nil)) ρ) P :=
  w_blt (w_lcons (h.mono fun s ρ1 ⟨e, h⟩ => ⟨by cases s <;> rfl, w_lnil ⟨[_], _, by show (match view ρ1 s, views ρ1 [] with | some d, some ds => some (d :: ds) | _, _ => none) = _; rw [e]; rfl, sum_map p xs, h⟩⟩))
theorem w_bsort (h : wR X (ev a ρ) fun s ρ1 => SortT (view ρ1 s) P ρ1) : wR X (ev (.blt .sorted (.cons a .nil)) ρ) P :=
  w_blt (w_lcons (h.mono fun s ρ1 h => ⟨by cases s <;> rfl, w_lnil (by
    cases h with
    | s e h => exact ⟨[.list _], _, by show (match view ρ1 s, views ρ1 [] with | some d, some ds => some (d :: ds) | _, _ => none) = _; rw [e]; rfl, sort_str _, h⟩
    | p e h => exact ⟨[.list _], _, by show (match view ρ1 s, views ρ1 [] with | some d, some ds => some (d :: ds) | _, _ => none) = _; rw [e]; rfl, sort_pr _, h⟩)⟩))
theorem w_slg (h : wR X (ev a ρ) fun s ρ1 => nal (lo.own ++ hi.own) s = true ∧ wR X (evO lo ρ1) fun l ρ2 => wR X (evO hi ρ2) fun k ρ3 => SlcG (view ρ3 s) P ρ3 l k) : wR X (ev (.slc a lo hi) ρ) P :=
  w_slc (h.mono fun s ρ1 ⟨n, h⟩ => ⟨n, h.mono fun l ρ2 g => g.mono fun k ρ3 g2 => by
    cases g2 with
    | lto e h => exact ⟨_, _, e, rfl, by rw [cutD_map, cut_to]; exact h⟩
    | tto e h => exact ⟨_, _, e, rfl, by rw [cutD_map, cut_to]; exact h⟩
    | lfr e h => exact ⟨_, _, e, rfl, by rw [cutD_map, cut_from]; exact h⟩
    | tfr e h => exact ⟨_, _, e, rfl, by rw [cutD_map, cut_from]; exact h⟩
    | lm e h => exact ⟨_, _, e, rfl, by rw [cutD_map]; exact h⟩
    | tm e h => exact ⟨_, _, e, rfl, by rw [cutD_map]; exact h⟩
    | an e e' h => exact ⟨_, _, e, e', h⟩⟩)
end
end Pw
namespace Pw
open PySem PySem.Spec PyProof.Rows L2
theorem ixN_nat {n k : Nat} (h : k < n) : ixN n (k : Int) = some k := by
  unfold ixN; rw [if_pos (by omega), if_pos (by omega)]; rfl
theorem ix_l {α : Type} {f : α → D} {xs : List α} {k : Nat} {x : α} (h : xs[k]? = some x) : idxSeq (.list (xs.map f)) (.int (k : Int)) = some (.d (f x)) := by
  show (atI (xs.map f) (k : Int)).map _ = _
  unfold atI
  rw [ixN_nat (by have := (List.getElem?_eq_some_iff.mp h).1; simpa using this)]
  show Option.map _ ((xs.map f)[k]?) = _
  rw [List.getElem?_map, h]; rfl
theorem ix_t {α : Type} {f : α → D} {xs : List α} {k : Nat} {x : α} (h : xs[k]? = some x) : idxSeq (.tuple (xs.map f)) (.int (k : Int)) = some (.d (f x)) := by
  show (atI (xs.map f) (k : Int)).map _ = _
  unfold atI
  rw [ixN_nat (by have := (List.getElem?_eq_some_iff.mp h).1; simpa using this)]
  show Option.map _ ((xs.map f)[k]?) = _
  rw [List.getElem?_map, h]; rfl
theorem perm_eraseIdx {α : Type} : ∀ (xs : List α) (k : Nat) (h : k < xs.length), (xs[k] :: xs.eraseIdx k).Perm xs
  | x :: xs, 0, _ => List.Perm.refl _
  | x :: xs, k + 1, h => by
    have hk : k < xs.length := by simpa using h
    exact (List.Perm.swap x xs[k] (xs.eraseIdx k)).trans (List.Perm.cons x (perm_eraseIdx xs k hk))
theorem w_sscrM {X : Xc} {ρ : Envr} {P : Sl → Envr → Prop} {i : Nat} {lo hi : Oe} {ns : List Int} (e : scrOf ρ i = some ns) (h : wR X (evO lo ρ) fun l ρ2 => wR X (evO hi ρ2) fun k ρ3 => P (.ol none ((cut ns l k).map .int)) ρ3) : wR X (ev (.sscr i lo hi) ρ) P :=
  w_sscr e (h.mono fun l ρ2 h => h.mono fun k ρ3 h => by rw [cutD_map]; exact h)
theorem cut_len {α : Type} (xs : List α) (a b : Nat) : cut xs (some (a : Int)) (some (b : Int)) = (xs.drop (min a xs.length)).take (min b xs.length - min a xs.length) := by
  unfold cut; rw [HT.sIx_nat, HT.sIx_nat]
inductive IdxG (o : Option D) (K : Int → Prop) : Prop
  | nat {n : Nat} (e : o = some (.int (n : Int))) (k : K (n : Int)) : IdxG o K
  | int {i : Int} (e : o = some (.int i)) (k : K i) : IdxG o K
theorem w_osomG {X : Xc} {ρ : Envr} {a : E} {Q : Option Int → Envr → Prop} (h : wR X (ev a ρ) fun s ρ1 => IdxG (view ρ1 s) fun i => Q (some i) ρ1) : wR X (evO (.som a) ρ) Q :=
  w_osom (h.mono fun s ρ1 h => by
    cases h with
    | nat e k => exact ⟨_, e, k⟩
    | int e k => exact ⟨_, e, k⟩)
inductive OutG (o : Option Rs) (P : Sl → Envr → Prop) (ρ : Envr) : Prop
  | d {x : D} (e : o = some (.d x)) (h : P (.d x) ρ) : OutG o P ρ
  | l {xs : List D} (e : o = some (.l xs)) (h : P (.ol none xs) ρ) : OutG o P ρ
  | k {t : Bool} {kvs : List (D × D)} (e : o = some (.k t kvs)) (h : P (.od none t kvs) ρ) : OutG o P ρ
theorem OutG.ex {o : Option Rs} {P : Sl → Envr → Prop} {ρ : Envr} (h : OutG o P ρ) : ∃ rs, o = some rs ∧ P (slOf rs) ρ := by
  cases h with
  | d e h => exact ⟨_, e, h⟩
  | l e h => exact ⟨_, e, h⟩
  | k e h => exact ⟨_, e, h⟩
structure VwG {α : Type} (o : Option α) (K : α → Prop) : Prop where
  ex : ∃ d, o = some d ∧ K d
theorem VwG.mk' {α : Type} {o : Option α} {K : α → Prop} {d : α} (e : o = some d) (k : K d) : VwG o K := ⟨d, e, k⟩
section
variable {X : Xc} {ρ : Envr} {a : E} {es : Es} {P : Sl → Envr → Prop} {s u : Sl}
theorem w_bltg {bl : Blt} (h : wR X (evL es ρ) fun ss ρ1 => VwG (views ρ1 ss) fun ds => OutG (bltD bl ds) P ρ1) : wR X (ev (.blt bl es) ρ) P :=
  w_blt (h.mono fun ss ρ1 ⟨ds, e, h⟩ => by obtain ⟨rs, e', h⟩ := h.ex; exact ⟨ds, rs, e, e', h⟩)
theorem w_metg {m : Mth} (h : wR X (ev a ρ) fun s ρ1 => nal es.own s = true ∧ hasTy m ρ1 s = true ∧ wR X (evL es ρ1) fun ss ρ2 => VwG (view ρ2 s) fun x => VwG (views ρ2 ss) fun ds => OutG (metD m x ds) P ρ2) : wR X (ev (.met m a es) ρ) P :=
  w_met (h.mono fun s ρ1 ⟨n, t, h⟩ => ⟨n, t, h.mono fun ss ρ2 ⟨x, e, ⟨ds, e', h⟩⟩ => by obtain ⟨rs, e'', h⟩ := h.ex; exact ⟨x, ds, rs, e, e', e'', h⟩⟩)
theorem w_opg {f : D → D → Option Rs} (h : VwG (view ρ s) fun x => VwG (view ρ u) fun y => OutG (f x y) P ρ) : wR X (op2 f s u ρ) P := by
  obtain ⟨x, e, ⟨y, e', h⟩⟩ := h
  obtain ⟨rs, e'', h⟩ := h.ex
  exact w_op2 e e' e'' h
end
end Pw
namespace Pw
open PySem PySem.Spec PyProof.Rows L2
section
variable {α : Type} {X : Xc} {ρ : Envr} {e : E} {es : Es} {s u : Sl} {P : Sl → Envr → Prop} {D0 : En} {r : SR} {f : D → D → Option Rs}
theorem g_x (h : wX r D0) : wX r D0 := h
theorem g_ev (h : wR X (ev e ρ) P) : wR X (ev e ρ) P := h
theorem g_op (h : wR X (op2 f s u ρ) P) : wR X (op2 f s u ρ) P := h
theorem g_r {r : R α} {P : α → Envr → Prop} (h : wR X r P) : wR X r P := h
end
end Pw
/-! plain law: guests go -/
namespace Pm
variable {α : Type} [DecidableEq α]
/-- who takes what -/
def tk (s : α → Bool) (l : List α) (g : α) : α := if s g && decide (g ∈ l) then g else l.headD g
/-- what hangs when some have gone -/
def lf (s : α → Bool) : List α → List α → List α
  | l, [] => l
  | l, g :: gs => lf s (l.erase (tk s l g)) gs
/-- the pairs -/
def wt (s : α → Bool) : List α → List α → List (α × α)
  | _, [] => []
  | l, g :: gs => (g, tk s l g) :: wt s (l.erase (tk s l g)) gs
/-- coats taken -/
def ct (s : α → Bool) (l gs : List α) : List α := (wt s l gs).map Prod.snd
section
variable {s : α → Bool} {l gs hs : List α} {g h : α}
theorem tk_mem (hl : l ≠ []) : tk s l g ∈ l := by
  unfold tk
  split
  · rename_i h; simp at h; exact h.2
  · cases l with
    | nil => exact absurd rfl hl
    | cons x t => simp
theorem tk_own (h1 : s g = true) (h2 : g ∈ l) : tk s l g = g := by unfold tk; simp [h1, h2]
theorem tk_not (h : ¬ (s g = true ∧ g ∈ l)) : tk s l g = l.headD g := by
  unfold tk; rw [if_neg]; simpa using h
theorem wt_len : ∀ (gs l : List α), (wt s l gs).length = gs.length
  | [], _ => rfl
  | g :: gs, l => by simp [wt, wt_len gs]
theorem wt_fst : ∀ (gs l : List α), (wt s l gs).map Prod.fst = gs
  | [], _ => rfl
  | g :: gs, l => by simp [wt, wt_fst gs]
theorem lf_app : ∀ (gs hs l : List α), lf s l (gs ++ hs) = lf s (lf s l gs) hs
  | [], _, _ => rfl
  | g :: gs, hs, l => by simp only [List.cons_append, lf]; exact lf_app gs hs _
theorem wt_app : ∀ (gs hs l : List α), wt s l (gs ++ hs) = wt s l gs ++ wt s (lf s l gs) hs
  | [], _, _ => rfl
  | g :: gs, hs, l => by simp only [List.cons_append, wt, lf]; rw [wt_app gs hs]
theorem lf_len : ∀ (gs l : List α), gs.length ≤ l.length → (lf s l gs).length = l.length - gs.length
  | [], _, _ => rfl
  | g :: gs, l, h => by
    have hl : l ≠ [] := by intro e; subst e; simp at h
    have : (l.erase (tk s l g)).length = l.length - 1 := List.length_erase_of_mem (tk_mem hl)
    simp only [lf, List.length_cons] at *
    rw [lf_len gs _ (by omega), this]; omega
theorem lf_sub : ∀ (gs l : List α), (lf s l gs).Sublist l
  | [], l => List.Sublist.refl l
  | g :: gs, l => (lf_sub gs _).trans List.erase_sublist
theorem lf_nodup (h : l.Nodup) : (lf s l gs).Nodup := h.sublist (lf_sub gs l)
/-- taken and left are all -/
theorem ct_perm : ∀ (gs l : List α), gs.length ≤ l.length → (ct s l gs ++ lf s l gs).Perm l
  | [], l, _ => List.Perm.refl l
  | g :: gs, l, h => by
    have hl : l ≠ [] := by intro e; subst e; simp at h
    have e1 : (l.erase (tk s l g)).length = l.length - 1 := List.length_erase_of_mem (tk_mem hl)
    have := ct_perm gs (l.erase (tk s l g)) (by simp at h; omega)
    refine (List.Perm.cons (tk s l g) this).trans ?_
    exact (List.perm_cons_erase (tk_mem hl)).symm
theorem ct_nodup (hn : l.Nodup) (h : gs.length ≤ l.length) : (ct s l gs).Nodup := by
  have := (ct_perm (s := s) gs l h).nodup_iff.mpr hn
  exact (List.nodup_append.mp this).1
theorem lf_mem (hn : l.Nodup) (h : gs.length ≤ l.length) (c : α) : c ∈ lf s l gs ↔ c ∈ l ∧ c ∉ ct s l gs := by
  have p := ct_perm (s := s) gs l h
  have nd := List.nodup_append.mp (p.nodup_iff.mpr hn)
  rw [← p.mem_iff, List.mem_append]
  constructor
  · intro hc; exact ⟨.inr hc, fun h2 => nd.2.2 c h2 c hc rfl⟩
  · rintro ⟨h1 | h1, h2⟩
    · exact absurd h1 h2
    · exact h1
/-- a sublist of a list without doubles is what its members filter -/
theorem sub_filter : ∀ {l m : List α}, m.Sublist l → l.Nodup → m = l.filter fun c => decide (c ∈ m)
  | [], m, h, _ => by have := List.sublist_nil.mp h; subst this; rfl
  | x :: l, m, h, hn => by
    have hx := (List.nodup_cons.mp hn).1
    have hn' := (List.nodup_cons.mp hn).2
    by_cases hm : x ∈ m
    · cases m with
      | nil => simp at hm
      | cons y m =>
        have hxy : y = x := by
          cases h with
          | cons _ h => exact absurd (h.subset hm) hx
          | cons_cons _ h => rfl
        subst hxy
        have h' : m.Sublist l := by
          cases h with
          | cons _ h => exact absurd (h.subset List.mem_cons_self) hx
          | cons_cons _ h => exact h
        have ih := sub_filter h' hn'
        rw [List.filter_cons, if_pos (by simp)]
        congr 1
        rw [ih]
        refine List.filter_congr fun c hc => ?_
        have : c ≠ y := by intro e; subst e; exact hx hc
        rw [← ih]; simp [this]
    · have h' : m.Sublist l := by
        cases h with
        | cons _ h => exact h
        | cons_cons _ h => exact absurd List.mem_cons_self hm
      have ih := sub_filter h' hn'
      rw [List.filter_cons, if_neg (by simpa using hm)]
      exact ih
theorem lf_filter (hn : l.Nodup) (h : gs.length ≤ l.length) : lf s l gs = l.filter fun c => !decide (c ∈ ct s l gs) := by
  rw [sub_filter (lf_sub (s := s) gs l) hn]
  refine List.filter_congr fun c hc => ?_
  have := lf_mem (s := s) hn h c
  simp [this, hc]
/-- two exchanged -/
theorem swap (hn : l.Nodup) (h2 : 2 ≤ l.length) (hne : g ≠ h) : lf s l [g, h] = lf s l [h, g] ∧ (ct s l [g, h]).Perm (ct s l [h, g]) := by
  match l, h2 with
  | x :: y :: t, _ =>
    have hxy : x ≠ y := by intro e; subst e; simp at hn
    simp only [lf, ct, wt, List.map]
    by_cases hg : s g = true ∧ g ∈ x :: y :: t
    · by_cases hh : s h = true ∧ h ∈ x :: y :: t
      · rw [tk_own hg.1 hg.2, tk_own hh.1 hh.2, tk_own hh.1 ((List.mem_erase_of_ne (Ne.symm hne)).mpr hh.2), tk_own hg.1 ((List.mem_erase_of_ne hne).mpr hg.2)]
        exact ⟨List.erase_comm .., List.Perm.swap h g []⟩
      · have hh' : ¬ (s h = true ∧ h ∈ (x :: y :: t).erase g) := fun ⟨a, b⟩ => hh ⟨a, List.mem_of_mem_erase b⟩
        rw [tk_own hg.1 hg.2, tk_not hh, tk_not hh']
        by_cases hx : g = x
        · subst hx
          have e : tk s (y :: t) g = y := tk_not (l := y :: t) (fun ⟨_, b⟩ => (List.nodup_cons.mp hn).1 b)
          simp only [List.erase_cons_head, List.headD_cons]
          rw [e]
          simp
        · have hg' : g ∈ (x :: y :: t).erase x := (List.mem_erase_of_ne hx).mpr hg.2
          have e : (x :: y :: t).erase g = x :: (y :: t).erase g := by rw [List.erase_cons_tail]; simpa using Ne.symm hx
          rw [e]
          simp only [List.headD_cons, List.erase_cons_head] at hg' ⊢
          rw [tk_own hg.1 hg']
          exact ⟨rfl, List.Perm.swap x g []⟩
    · have hg0 := hg
      by_cases hh : s h = true ∧ h ∈ x :: y :: t
      · have hg' : ¬ (s g = true ∧ g ∈ (x :: y :: t).erase h) := fun ⟨a, b⟩ => hg ⟨a, List.mem_of_mem_erase b⟩
        rw [tk_not hg, tk_own hh.1 hh.2, tk_not hg']
        by_cases hx : h = x
        · subst hx
          have e : tk s (y :: t) h = y := tk_not (l := y :: t) (fun ⟨_, b⟩ => (List.nodup_cons.mp hn).1 b)
          simp only [List.erase_cons_head, List.headD_cons]
          rw [e]
          simp
        · have hh' : h ∈ (x :: y :: t).erase x := (List.mem_erase_of_ne hx).mpr hh.2
          have e : (x :: y :: t).erase h = x :: (y :: t).erase h := by rw [List.erase_cons_tail]; simpa using Ne.symm hx
          rw [e]
          simp only [List.headD_cons, List.erase_cons_head] at hh' ⊢
          rw [tk_own hh.1 hh']
          exact ⟨rfl, List.Perm.swap h x []⟩
      · rw [tk_not hg, tk_not hh]
        simp only [List.headD_cons, List.erase_cons_head]
        have e1 : tk s (y :: t) h = y := tk_not (l := y :: t) (fun ⟨a, b⟩ => hh ⟨a, List.mem_cons_of_mem _ b⟩)
        have e2 : tk s (y :: t) g = y := tk_not (l := y :: t) (fun ⟨a, b⟩ => hg ⟨a, List.mem_cons_of_mem _ b⟩)
        rw [e1, e2]
        simp
/-! what is gone, by a set -/
def own (s : α → Bool) (l gs : List α) : List α := gs.filter fun g => s g && decide (g ∈ l)
def gone (s : α → Bool) (l gs : List α) : List α := own s l gs ++ (l.filter fun c => !decide (c ∈ own s l gs)).take (gs.length - (own s l gs).length)
theorem own_le : (own s l gs).length ≤ gs.length := List.length_filter_le _ _
theorem own_mem : h ∈ own s l gs ↔ h ∈ gs ∧ s h = true ∧ h ∈ l := by unfold own; simp
theorem gone_ct : ∀ (gs l : List α), l.Nodup → gs.Nodup → gs.length ≤ l.length → ∀ c, c ∈ gone s l gs ↔ c ∈ ct s l gs
  | [], l, _, _, _, c => by simp [gone, own, ct, wt]
  | g :: gs, l, hn, hg, hl, c => by
    have hgn := (List.nodup_cons.mp hg).1
    have hg' := (List.nodup_cons.mp hg).2
    have hl0 : l ≠ [] := by intro e; subst e; simp at hl
    have el : (l.erase (tk s l g)).length = l.length - 1 := List.length_erase_of_mem (tk_mem hl0)
    have ih := gone_ct gs (l.erase (tk s l g)) (hn.erase _) hg' (by simp at hl; omega) c
    have goal : c ∈ gone s l (g :: gs) ↔ c = tk s l g ∨ c ∈ gone s (l.erase (tk s l g)) gs := by
      by_cases h : s g = true ∧ g ∈ l
      · rw [tk_own h.1 h.2]
        have e1 : own s l (g :: gs) = g :: own s (l.erase g) gs := by
          unfold own
          rw [List.filter_cons, if_pos (by simpa using h)]
          congr 1
          refine List.filter_congr fun x hx => ?_
          have : x ≠ g := by intro e; subst e; exact hgn hx
          have m : (x ∈ l.erase g) ↔ (x ∈ l) := List.mem_erase_of_ne this
          simp [m]
        have e2 : (l.filter fun c => !decide (c ∈ g :: own s (l.erase g) gs)) = (l.erase g).filter fun c => !decide (c ∈ own s (l.erase g) gs) := by
          rw [hn.erase_eq_filter g, List.filter_filter]
          refine List.filter_congr fun x hx => ?_
          by_cases q : x = g <;> simp [q]
        unfold gone
        rw [e1, e2]
        simp
      · rw [tk_not h]
        match l, hl0 with
        | x :: t, _ =>
          have hxt := (List.nodup_cons.mp hn).1
          simp only [List.headD_cons, List.erase_cons_head]
          have e1 : own s (x :: t) (g :: gs) = own s (x :: t) gs := by
            unfold own; rw [List.filter_cons, if_neg (by simpa using h)]
          by_cases hx : x ∈ own s (x :: t) gs
          · have hx' := own_mem.mp hx
            have m : ∀ z, z ∈ own s t gs ↔ z ∈ own s (x :: t) gs ∧ z ≠ x := by
              intro z; rw [own_mem, own_mem]
              constructor
              · rintro ⟨a, b, d⟩; exact ⟨⟨a, b, List.mem_cons_of_mem _ d⟩, fun e => by subst e; exact hxt d⟩
              · rintro ⟨⟨a, b, d⟩, e⟩; exact ⟨a, b, (List.mem_cons.mp d).resolve_left e⟩
            have p : (own s (x :: t) gs).Perm (x :: own s t gs) := by
              refine (List.perm_ext_iff_of_nodup ?_ ?_).mpr fun z => ?_
              · exact hg'.sublist List.filter_sublist
              · refine List.nodup_cons.mpr ⟨fun q => hxt (own_mem.mp q).2.2, hg'.sublist List.filter_sublist⟩
              · rw [List.mem_cons, m]
                constructor
                · intro q; by_cases z = x <;> simp_all
                · rintro (rfl | q)
                  · exact hx
                  · exact q.1
            have e2 : ((x :: t).filter fun c => !decide (c ∈ own s (x :: t) gs)) = t.filter fun c => !decide (c ∈ own s t gs) := by
              rw [List.filter_cons, if_neg (by simpa using hx)]
              refine List.filter_congr fun z hz => ?_
              have : z ≠ x := by intro e; subst e; exact hxt hz
              simp [m, this]
            have e3 := p.length_eq
            unfold gone
            rw [e1, e2, List.mem_append, List.mem_append, p.mem_iff, List.mem_cons, e3]
            rw [show (g :: gs).length - (x :: own s t gs).length = gs.length - (own s t gs).length by simp]
            constructor
            · rintro ((a | a) | a)
              · exact .inl a
              · exact .inr (.inl a)
              · exact .inr (.inr a)
            · rintro (a | a | a)
              · exact .inl (.inl a)
              · exact .inl (.inr a)
              · exact .inr a
          · have e4 : own s (x :: t) gs = own s t gs := by
              unfold own
              refine List.filter_congr fun z hz => ?_
              by_cases q : z = x
              · subst q
                have : ¬ (s z = true) := fun w => hx (own_mem.mpr ⟨hz, w, List.mem_cons_self⟩)
                simp [this]
              · simp [q]
            have e2 : ((x :: t).filter fun c => !decide (c ∈ own s t gs)) = x :: t.filter fun c => !decide (c ∈ own s t gs) := by
              rw [List.filter_cons, if_pos]; rw [e4] at hx; simpa using hx
            unfold gone
            rw [e1, e4, e2]
            have := own_le (s := s) (l := t) (gs := gs)
            rw [show (g :: gs).length - (own s t gs).length = (gs.length - (own s t gs).length) + 1 by simp; omega]
            rw [List.take_succ_cons, List.mem_append, List.mem_append, List.mem_cons]
            constructor
            · rintro (a | a | a)
              · exact .inr (.inl a)
              · exact .inl a
              · exact .inr (.inr a)
            · rintro (a | a | a)
              · exact .inr (.inl a)
              · exact .inl a
              · exact .inr (.inr a)
    rw [goal, ih]
    simp [ct, wt]
theorem gone_perm (hn : l.Nodup) (hg : gs.Nodup) (hl : gs.length ≤ l.length) : (ct s l gs).Perm (l.filter fun c => decide (c ∈ gone s l gs)) := by
  refine (List.perm_ext_iff_of_nodup (ct_nodup hn hl) (hn.sublist List.filter_sublist)).mpr fun c => ?_
  rw [← gone_ct gs l hn hg hl c]
  simp only [List.mem_filter, decide_eq_true_eq]
  constructor
  · intro h
    refine ⟨?_, h⟩
    unfold gone at h
    rcases List.mem_append.mp h with h | h
    · exact (own_mem.mp h).2.2
    · exact (List.mem_filter.mp (List.mem_of_mem_take h)).1
  · exact fun h => h.2
theorem own_perm (p : gs.Perm hs) : (own s l gs).Perm (own s l hs) := p.filter _
/-- a set tells what is gone -/
theorem gone_set (p : gs.Perm hs) (c : α) : c ∈ gone s l gs ↔ c ∈ gone s l hs := by
  have po := own_perm (s := s) (l := l) p
  have e : (l.filter fun c => !decide (c ∈ own s l gs)) = l.filter fun c => !decide (c ∈ own s l hs) :=
    List.filter_congr fun x _ => by
      have m : (x ∈ own s l gs) ↔ (x ∈ own s l hs) := po.mem_iff
      simp [m]
  unfold gone
  rw [e, List.mem_append, List.mem_append, po.mem_iff, p.length_eq, po.length_eq]
theorem own_gone {c : α} : ∀ (p l : List α), s c = true → c ∈ p → l.Nodup → c ∉ lf s l p
  | g :: p, l, hs, hc, hn, hm => by
    have sub := lf_sub (s := s) p (l.erase (tk s l g))
    by_cases h : c = g
    · subst h
      by_cases hl : c ∈ l
      · rw [lf, tk_own hs hl] at hm
        exact (hn.mem_erase_iff.mp ((lf_sub (s := s) p (l.erase c)).subset hm)).1 rfl
      · exact hl (List.mem_of_mem_erase (sub.subset hm))
    · exact own_gone p _ hs ((List.mem_cons.mp hc).resolve_left h) (hn.erase _) hm
theorem sub_idx : ∀ {l t : List α} {x y : α}, (x :: t).Sublist l → l.Nodup → y ∈ t → l.idxOf x < l.idxOf y
  | [], t, x, y, h, _, _ => by cases h
  | z :: l, t, x, y, h, hn, hy => by
    have hz := (List.nodup_cons.mp hn).1
    have hn' := (List.nodup_cons.mp hn).2
    cases h with
    | cons _ h =>
      have h1 : x ≠ z := by intro e; subst e; exact hz (h.subset List.mem_cons_self)
      have h2 : y ≠ z := by intro e; subst e; exact hz (h.subset (List.mem_cons_of_mem _ hy))
      have := sub_idx h hn' hy
      simp only [List.idxOf_cons, beq_false_of_ne (Ne.symm h1), beq_false_of_ne (Ne.symm h2), cond_false]
      omega
    | cons_cons _ h =>
      have h2 : y ≠ z := by intro e; subst e; exact hz (h.subset hy)
      simp only [List.idxOf_cons, beq_self_eq_true, beq_false_of_ne (Ne.symm h2), cond_false, cond_true]
      omega
end
end Pm
/-! what the defs compute -/
namespace Pw
open PySem PySem.Spec PyProof.Rows L2
-- SPECS: is_seeker_ok:2d loose_ok:1l takers_ok:1l law_seeks_ok:2d
set_option hygiene false
local macro_rules | `(tactic| trivial) => `(tactic| (repeat (first | ((with_reducible refine g_ev ?_); first | ((with_reducible apply w_var); rfl) | with_reducible refine w_bin ?_ | with_reducible refine w_cmp ?_ | with_reducible refine w_idx ?_ | with_reducible refine w_li ?_ | with_reducible refine w_ls ?_ | with_reducible refine w_lb ?_ | with_reducible refine w_ln ?_ | with_reducible refine w_glo ?_ | with_reducible refine w_not ?_ | with_reducible refine w_tup ?_ | with_reducible refine w_lstU ?_ | with_reducible refine w_bsort ?_ | with_reducible refine w_and ?_ | with_reducible refine w_or ?_ | with_reducible refine w_slg ?_ | with_reducible refine w_isi ?_ | with_reducible refine w_metg ?_ | with_reducible refine w_mut ?_ | with_reducible refine w_neg ?_ | with_reducible refine w_dct ?_ | (with_reducible refine w_c1 rfl ?_) | (with_reducible refine w_c2 rfl ?_) | (with_reducible refine w_c3 rfl ?_) | (with_reducible refine w_c4 rfl ?_) | (with_reducible refine w_c5 rfl ?_) | with_reducible apply w_ball | with_reducible apply w_bany | with_reducible apply w_bsum | with_reducible refine w_bltg ?_ | ((with_reducible apply w_cm); rfl) | ((with_reducible apply w_cm0); rfl) | ((with_reducible apply w_sscrM); rfl)) | ((with_reducible refine g_op ?_); first | ((with_reducible apply w_add); rfl; rfl) | ((with_reducible apply w_sb); rfl; rfl) | ((with_reducible apply w_gt); rfl; rfl) | ((with_reducible apply w_lt); rfl; rfl) | ((with_reducible apply w_ge); rfl; rfl) | ((with_reducible apply w_le); rfl; rfl) | ((with_reducible apply w_eqI); rfl; rfl) | ((with_reducible apply w_neI); rfl; rfl) | ((with_reducible apply w_eqS); rfl; rfl) | ((with_reducible apply w_neS); rfl; rfl) | ((with_reducible apply w_eqB); rfl; rfl) | ((with_reducible apply w_neB); rfl; rfl) | ((with_reducible apply w_inlS); rfl; rfl) | ((with_reducible apply w_intS); rfl; rfl) | ((with_reducible apply w_nilS); rfl; rfl) | ((with_reducible apply w_nitS); rfl; rfl) | ((with_reducible apply w_inlP); rfl; rfl) | ((with_reducible apply w_intP); rfl; rfl) | ((with_reducible apply w_nilP); rfl; rfl) | ((with_reducible apply w_nitP); rfl; rfl) | ((with_reducible apply w_ixk); rfl; rfl; rfl) | ((with_reducible apply w_ixl); rfl; rfl; rfl; rfl) | ((with_reducible apply w_ixt); rfl; rfl; rfl; rfl) | ((with_reducible apply w_mul); rfl; rfl; (exact mulOk_lt (by omega) (by omega))) | ((with_reducible apply w_mod); rfl; rfl; decide) | ((with_reducible apply w_mod); rfl; rfl; omega) | ((with_reducible apply w_div); rfl; rfl; decide) | ((with_reducible apply w_pow); rfl; rfl; decide) | ((with_reducible apply w_nel EqE.str); rfl; rfl) | ((with_reducible apply w_nel EqE.pr); rfl; rfl) | ((with_reducible apply w_eql EqE.str); rfl; rfl) | ((with_reducible apply w_eql EqE.pr); rfl; rfl) | with_reducible refine w_opg ?_) | ((with_reducible refine g_x ?_); first | with_reducible refine w_cons ?_ | with_reducible refine w_asg ?_ | with_reducible refine w_ret ?_ | with_reducible refine w_nil ?_ | with_reducible refine w_exp ?_ | with_reducible refine w_ifs ?_ | with_reducible refine w_par ?_ | with_reducible refine w_unp ?_ | with_reducible refine w_sub ?_ | with_reducible refine w_unpSub ?_ | with_reducible refine w_ps0 ?_ | with_reducible refine w_aug ?_ | with_reducible refine w_pass ?_ | (with_reducible refine w_psc (Nat.le_of_ble_eq_true rfl) ?_) | ((with_reducible apply w_setSub); rfl; rfl) | (with_reducible refine w_setS (Nat.le_of_ble_eq_true rfl) ?_)) | ((with_reducible refine g_r ?_); first | ((with_reducible apply w_izipV); rfl; rfl) | ((with_reducible apply w_test); rfl) | ((with_reducible apply w_fz); rfl) | ((with_reducible apply w_varR); rfl) | with_reducible apply w_andJ | with_reducible apply w_orJ | ((with_reducible apply w_fzR); rfl) | ((with_reducible apply w_outa); rfl) | with_reducible refine w_acons ?_ | with_reducible refine w_anil ?_ | with_reducible refine w_lcons ?_ | with_reducible refine w_lnil ?_ | with_reducible refine w_wcons ?_ | with_reducible refine w_wnil ?_ | with_reducible refine w_b1 ?_ | with_reducible refine w_onon ?_ | with_reducible refine w_osomG ?_ | with_reducible refine w_ownd ?_ | with_reducible refine w_ownl ?_ | with_reducible refine w_ownk ?_ | with_reducible refine w_owna ?_ | with_reducible refine w_rawd ?_ | with_reducible refine w_rawl ?_ | with_reducible refine w_raws ?_ | with_reducible refine w_rawa ?_ | with_reducible refine w_outd ?_ | with_reducible refine w_outl ?_ | with_reducible refine w_ival ?_ | with_reducible refine w_irng1 ?_ | with_reducible refine w_irng2 ?_ | with_reducible refine w_ienm ?_ | with_reducible refine w_izip ?_ | with_reducible refine w_irev ?_ | with_reducible refine w_qnon ?_ | with_reducible refine w_qsom ?_) | ((with_reducible refine CmT.mk ?_ ?_ (fun hb => ?_)); rfl; rfl) | ((with_reducible refine Fin1.mk ?_ ?_); rfl; rfl) | ((with_reducible refine CmI.mk (zip_map _ _) (fun z hz => Exists.intro _ (And.intro ?_ ?_)) ?_); rfl) | ((with_reducible refine CmI.mk (enum_map _) (fun z hz => Exists.intro _ (And.intro ?_ ?_)) ?_); rfl) | ((with_reducible apply CmI.mk); rfl; (intro z hz; (with_reducible apply Exists.intro); (with_reducible apply And.intro); rfl)) | with_reducible refine NormL.mk (nl_s _) ?_ | with_reducible refine NormL.mk (nl_p _) ?_ | with_reducible refine NormL.mk (nl_i _) ?_ | with_reducible refine NormL.mk (nl_b _ _) ?_ | with_reducible refine NormL.mk (nl_sc _ _) ?_ | with_reducible refine NormL.mk (nl_pc _ _ _) ?_ | with_reducible refine NormL.mk (nl_ic _ _) ?_ | ((with_reducible apply NormL.mk); rfl) | (with_reducible refine @UnL.s _ _ _ inferInstance ?_) | (with_reducible refine @UnL.p _ _ _ inferInstance ?_) | with_reducible refine UnL.n ?_ | with_reducible refine AndJ.mk (fun hb => ?_) ?_ | ((with_reducible refine Fin2.mk ?_ ?_); rfl; rfl) | ((with_reducible refine FinS.mk ?_ ?_); rfl; rfl) | ((with_reducible refine FinR.mk ?_ ?_ ?_); rfl; rfl; rfl) | ((with_reducible apply AllT.mk); rfl) | ((with_reducible apply SumT.mk); rfl) | ((with_reducible apply SortT.s); rfl) | ((with_reducible apply SortT.p); rfl) | ((with_reducible apply SlcG.tto); rfl) | ((with_reducible apply SlcG.lto); rfl) | ((with_reducible apply SlcG.tfr); rfl) | ((with_reducible apply SlcG.lfr); rfl) | ((with_reducible apply SlcG.tm); rfl) | ((with_reducible apply SlcG.lm); rfl) | ((with_reducible apply SlcG.an); rfl; rfl) | ((with_reducible apply IdxG.nat); rfl) | ((with_reducible apply IdxG.int); rfl) | ((with_reducible apply VwG.mk'); rfl) | ((with_reducible apply OutG.d); rfl) | ((with_reducible apply OutG.l); rfl) | (with_reducible refine Got2.d (is_seeker_ok ..) ?_) | (with_reducible refine Got1.l (loose_ok ..) ?_) | (with_reducible refine Got1.l (takers_ok ..) ?_) | (with_reducible refine Got2.d (law_seeks_ok ..) ?_) | ((with_reducible apply And.intro); rfl) | ((with_reducible apply And.intro); (exact Nat.le_of_ble_eq_true rfl)) | ((with_reducible apply Exists.intro); (with_reducible apply And.intro); rfl) | ((with_reducible apply Exists.intro); (with_reducible apply Exists.intro); (with_reducible apply And.intro); rfl; (with_reducible apply And.intro); rfl))))
/-- an evening as data -/
abbrev eD (r g l : List Str) : D := .tuple [.tuple (r.map .str), .tuple (g.map .str), .tuple (l.map .str)]
def sk (r g l : List Str) (x : Str) : Bool := decide (x ∈ g) && (!decide (x ∈ l) && decide (x ∈ r))
section
variable (r g l : List Str) (x : Str)
theorem is_seeker_ok : F_is_seeker.sem [.d (eD r g l), .d (.str x)] = .ok (.d (.bool (sk r g l x))) [none, none] := by
  refine sem_eq rfl ?_
  unfold b_is_seeker
  trivial
theorem law_seeks_ok : F_law_seeks.sem [.d (eD r g l), .d (.str x)] = .ok (.d (.bool (sk r g l x))) [none, none] := by
  refine sem_eq rfl ?_
  unfold b_law_seeks
  trivial
  refine ⟨congrArg (fun t => Sl.d (.bool t)) ?_, rfl⟩
  unfold sk
  cases decide (x ∈ g) <;> cases decide (x ∈ l) <;> cases decide (x ∈ r) <;> rfl
theorem loose_ok : F_loose.sem [.d (eD r g l)] = .ok (.ol none ((r.filter fun x => !sk r g l x).map .str)) [none] := by
  refine sem_eq rfl ?_
  unfold b_loose
  trivial
theorem takers_ok : F_takers.sem [.d (eD r g l)] = .ok (.ol none ((g.filter fun x => !sk r g l x).map .str)) [none] := by
  refine sem_eq rfl ?_
  unfold b_takers
  trivial
end
end Pw
/-! Pw, part Zc: calls with a box of draws; a draw. -/
namespace Pw
open PySem PySem.Spec PyProof.Rows L2
set_option hygiene false
local macro_rules | `(tactic| trivial) => `(tactic| (repeat (first | ((with_reducible refine g_ev ?_); first | ((with_reducible apply w_var); rfl) | with_reducible refine w_bin ?_ | with_reducible refine w_cmp ?_ | with_reducible refine w_idx ?_ | with_reducible refine w_li ?_ | with_reducible refine w_ls ?_ | with_reducible refine w_lb ?_ | with_reducible refine w_ln ?_ | with_reducible refine w_glo ?_ | with_reducible refine w_not ?_ | with_reducible refine w_tup ?_ | with_reducible refine w_lstU ?_ | with_reducible refine w_bsort ?_ | with_reducible refine w_and ?_ | with_reducible refine w_or ?_ | with_reducible refine w_slg ?_ | with_reducible refine w_isi ?_ | with_reducible refine w_metg ?_ | with_reducible refine w_mut ?_ | with_reducible refine w_neg ?_ | with_reducible refine w_dct ?_ | (with_reducible refine w_c1 rfl ?_) | (with_reducible refine w_c2 rfl ?_) | (with_reducible refine w_c3 rfl ?_) | (with_reducible refine w_c4 rfl ?_) | (with_reducible refine w_c5 rfl ?_) | with_reducible apply w_ball | with_reducible apply w_bany | with_reducible apply w_bsum | with_reducible refine w_bltg ?_ | ((with_reducible apply w_cm); rfl) | ((with_reducible apply w_cm0); rfl) | ((with_reducible apply w_sscrM); rfl)) | ((with_reducible refine g_op ?_); first | ((with_reducible apply w_add); rfl; rfl) | ((with_reducible apply w_sb); rfl; rfl) | ((with_reducible apply w_gt); rfl; rfl) | ((with_reducible apply w_lt); rfl; rfl) | ((with_reducible apply w_ge); rfl; rfl) | ((with_reducible apply w_le); rfl; rfl) | ((with_reducible apply w_eqI); rfl; rfl) | ((with_reducible apply w_neI); rfl; rfl) | ((with_reducible apply w_eqS); rfl; rfl) | ((with_reducible apply w_neS); rfl; rfl) | ((with_reducible apply w_eqB); rfl; rfl) | ((with_reducible apply w_neB); rfl; rfl) | ((with_reducible apply w_inlS); rfl; rfl) | ((with_reducible apply w_intS); rfl; rfl) | ((with_reducible apply w_nilS); rfl; rfl) | ((with_reducible apply w_nitS); rfl; rfl) | ((with_reducible apply w_inlP); rfl; rfl) | ((with_reducible apply w_intP); rfl; rfl) | ((with_reducible apply w_nilP); rfl; rfl) | ((with_reducible apply w_nitP); rfl; rfl) | ((with_reducible apply w_ixk); rfl; rfl; rfl) | ((with_reducible apply w_ixl); rfl; rfl; rfl; rfl) | ((with_reducible apply w_ixt); rfl; rfl; rfl; rfl) | ((with_reducible apply w_mul); rfl; rfl; (exact mulOk_lt (by omega) (by omega))) | ((with_reducible apply w_mod); rfl; rfl; decide) | ((with_reducible apply w_mod); rfl; rfl; omega) | ((with_reducible apply w_div); rfl; rfl; decide) | ((with_reducible apply w_pow); rfl; rfl; decide) | ((with_reducible apply w_nel EqE.str); rfl; rfl) | ((with_reducible apply w_nel EqE.pr); rfl; rfl) | ((with_reducible apply w_eql EqE.str); rfl; rfl) | ((with_reducible apply w_eql EqE.pr); rfl; rfl) | with_reducible refine w_opg ?_) | ((with_reducible refine g_x ?_); first | with_reducible refine w_cons ?_ | with_reducible refine w_asg ?_ | with_reducible refine w_ret ?_ | with_reducible refine w_nil ?_ | with_reducible refine w_exp ?_ | with_reducible refine w_ifs ?_ | with_reducible refine w_par ?_ | with_reducible refine w_unp ?_ | with_reducible refine w_sub ?_ | with_reducible refine w_unpSub ?_ | with_reducible refine w_ps0 ?_ | with_reducible refine w_aug ?_ | with_reducible refine w_pass ?_ | (with_reducible refine w_psc (Nat.le_of_ble_eq_true rfl) ?_) | ((with_reducible apply w_setSub); rfl; rfl) | (with_reducible refine w_setS (Nat.le_of_ble_eq_true rfl) ?_)) | ((with_reducible refine g_r ?_); first | ((with_reducible apply w_izipV); rfl; rfl) | ((with_reducible apply w_test); rfl) | ((with_reducible apply w_fz); rfl) | ((with_reducible apply w_varR); rfl) | with_reducible apply w_andJ | with_reducible apply w_orJ | ((with_reducible apply w_fzR); rfl) | ((with_reducible apply w_outa); rfl) | with_reducible refine w_acons ?_ | with_reducible refine w_anil ?_ | with_reducible refine w_lcons ?_ | with_reducible refine w_lnil ?_ | with_reducible refine w_wcons ?_ | with_reducible refine w_wnil ?_ | with_reducible refine w_b1 ?_ | with_reducible refine w_onon ?_ | with_reducible refine w_osomG ?_ | with_reducible refine w_ownd ?_ | with_reducible refine w_ownl ?_ | with_reducible refine w_ownk ?_ | with_reducible refine w_owna ?_ | with_reducible refine w_rawd ?_ | with_reducible refine w_rawl ?_ | with_reducible refine w_raws ?_ | with_reducible refine w_rawa ?_ | with_reducible refine w_outd ?_ | with_reducible refine w_outl ?_ | with_reducible refine w_ival ?_ | with_reducible refine w_irng1 ?_ | with_reducible refine w_irng2 ?_ | with_reducible refine w_ienm ?_ | with_reducible refine w_izip ?_ | with_reducible refine w_irev ?_ | with_reducible refine w_qnon ?_ | with_reducible refine w_qsom ?_) | ((with_reducible refine CmT.mk ?_ ?_ (fun hb => ?_)); rfl; rfl) | ((with_reducible refine Fin1.mk ?_ ?_); rfl; rfl) | ((with_reducible refine CmI.mk (zip_map _ _) (fun z hz => Exists.intro _ (And.intro ?_ ?_)) ?_); rfl) | ((with_reducible refine CmI.mk (enum_map _) (fun z hz => Exists.intro _ (And.intro ?_ ?_)) ?_); rfl) | ((with_reducible apply CmI.mk); rfl; (intro z hz; (with_reducible apply Exists.intro); (with_reducible apply And.intro); rfl)) | with_reducible refine NormL.mk (nl_s _) ?_ | with_reducible refine NormL.mk (nl_p _) ?_ | with_reducible refine NormL.mk (nl_i _) ?_ | with_reducible refine NormL.mk (nl_b _ _) ?_ | with_reducible refine NormL.mk (nl_sc _ _) ?_ | with_reducible refine NormL.mk (nl_pc _ _ _) ?_ | with_reducible refine NormL.mk (nl_ic _ _) ?_ | ((with_reducible apply NormL.mk); rfl) | (with_reducible refine @UnL.s _ _ _ inferInstance ?_) | (with_reducible refine @UnL.p _ _ _ inferInstance ?_) | with_reducible refine UnL.n ?_ | with_reducible refine AndJ.mk (fun hb => ?_) ?_ | ((with_reducible refine Fin2.mk ?_ ?_); rfl; rfl) | ((with_reducible refine FinS.mk ?_ ?_); rfl; rfl) | ((with_reducible refine FinR.mk ?_ ?_ ?_); rfl; rfl; rfl) | ((with_reducible apply AllT.mk); rfl) | ((with_reducible apply SumT.mk); rfl) | ((with_reducible apply SortT.s); rfl) | ((with_reducible apply SortT.p); rfl) | ((with_reducible apply SlcG.tto); rfl) | ((with_reducible apply SlcG.lto); rfl) | ((with_reducible apply SlcG.tfr); rfl) | ((with_reducible apply SlcG.lfr); rfl) | ((with_reducible apply SlcG.tm); rfl) | ((with_reducible apply SlcG.lm); rfl) | ((with_reducible apply SlcG.an); rfl; rfl) | ((with_reducible apply IdxG.nat); rfl) | ((with_reducible apply IdxG.int); rfl) | ((with_reducible apply VwG.mk'); rfl) | ((with_reducible apply OutG.d); rfl) | ((with_reducible apply OutG.l); rfl) | ((with_reducible apply And.intro); rfl) | ((with_reducible apply And.intro); (exact Nat.le_of_ble_eq_true rfl)) | ((with_reducible apply Exists.intro); (with_reducible apply And.intro); rfl) | ((with_reducible apply Exists.intro); (with_reducible apply Exists.intro); (with_reducible apply And.intro); rfl; (with_reducible apply And.intro); rfl))))
section
variable {X : Xc} {ρ : Envr} {P : Sl → Envr → Prop} {F : Fn} {i : Nat} {a2 a3 a4 : E}
theorem io_arg {k : Nat} {z : Option Nat} {xs : List D} (e : ρ[i]? = some (some (.ol z xs))) : argIn ρ true k (.ali i) = some (.ol (some k) xs) := by
  show (match (ρ[i]?).join with | some (.ol _ xs) => some (Sl.ol (some k) xs) | some (.od _ t kvs) => some (.od (some k) t kvs) | some (.oi _ C fs) => some (.oi (some k) C fs) | _ => none) = _
  rw [e]; rfl
theorem io_put {z : Option Nat} {xs xs' : List D} {k : Option Nat} {r : List Sl} {os : List (Option Sl)} (e : ρ[i]? = some (some (.ol z xs))) : putOuts ρ (.ali i :: r) (some (.ol k xs') :: os) = putOuts (ρ.set i (some (.ol z xs'))) r os := by
  show putOuts (ρ.set i (reflag ((ρ[i]?).join) (.ol k xs'))) r os = _
  rw [e]; rfl
theorem w_io1 (hm : F.md = [true]) (h0 : varR i ρ = .ok (.ali i) ρ) (h : ∃ z xs r xs', ρ[i]? = some (some (.ol z xs)) ∧ F.sem [.ol (some 0) xs] = .ok r [some (.ol (some 0) xs')] ∧ resOk r = true ∧ P r (ρ.set i (some (.ol z xs')))) : wR X (ev (.call F (.cons (.var i) .nil)) ρ) P := by
  obtain ⟨z, xs, r, xs', er, es, hr, h⟩ := h
  refine w_call ?_
  rw [hm]
  refine w_cio (w_var h0 ⟨rfl, w_cnil ?_⟩)
  refine ⟨[.ol (some 0) xs], r, _, by simp [aliOf], ?_, es, hr, rfl, ?_⟩
  · show (match argIn ρ true 0 (.ali i), argsIn ρ [] 1 [] with | some a, some as => some (a :: as) | _, _ => none) = _
    rw [io_arg er]; rfl
  · rw [io_put er]; exact h
theorem w_io2 (hm : F.md = [true, false]) (h0 : varR i ρ = .ok (.ali i) ρ) (hn : nal (Es.cons a2 .nil).own (.ali i) = true)
    (h : wR X (ev a2 ρ) fun s ρ1 => wR X (rawR s ρ1) fun s2 ρ2 => ∃ z xs x2 r xs', ρ2[i]? = some (some (.ol z xs)) ∧ s2 = .d x2 ∧ F.sem [.ol (some 0) xs, .d x2] = .ok r [some (.ol (some 0) xs'), none] ∧ resOk r = true ∧ P r (ρ2.set i (some (.ol z xs')))) : wR X (ev (.call F (.cons (.var i) (.cons a2 .nil))) ρ) P := by
  refine w_call ?_
  rw [hm]
  refine w_cio (w_var h0 ⟨hn, w_cd (h.mono fun s ρ1 g => g.mono fun s2 ρ2 h => w_cnil ?_)⟩)
  obtain ⟨z, xs, x2, r, xs', er, rfl, es, hr, h⟩ := h
  refine ⟨[.ol (some 0) xs, .d x2], r, _, by simp [aliOf], ?_, es, hr, rfl, ?_⟩
  · show (match argIn ρ2 true 0 (.ali i), argsIn ρ2 [false] 1 [.d x2] with | some a, some as => some (a :: as) | _, _ => none) = _
    rw [io_arg er]; rfl
  · rw [io_put er]; exact h
theorem w_io3 (hm : F.md = [true, false, false]) (h0 : varR i ρ = .ok (.ali i) ρ) (hn : nal (Es.cons a2 (.cons a3 .nil)).own (.ali i) = true)
    (h : wR X (ev a2 ρ) fun s ρ1 => wR X (rawR s ρ1) fun s2 ρ2 => wR X (ev a3 ρ2) fun s ρ3 => wR X (rawR s ρ3) fun s3 ρ4 => ∃ z xs x2 x3 r xs', ρ4[i]? = some (some (.ol z xs)) ∧ s2 = .d x2 ∧ s3 = .d x3 ∧ F.sem [.ol (some 0) xs, .d x2, .d x3] = .ok r [some (.ol (some 0) xs'), none, none] ∧ resOk r = true ∧ P r (ρ4.set i (some (.ol z xs')))) : wR X (ev (.call F (.cons (.var i) (.cons a2 (.cons a3 .nil)))) ρ) P := by
  refine w_call ?_
  rw [hm]
  refine w_cio (w_var h0 ⟨hn, w_cd (h.mono fun s ρ1 g => g.mono fun s2 ρ2 g => w_cd (g.mono fun s ρ3 g => g.mono fun s3 ρ4 h => w_cnil ?_))⟩)
  obtain ⟨z, xs, x2, x3, r, xs', er, rfl, rfl, es, hr, h⟩ := h
  refine ⟨[.ol (some 0) xs, .d x2, .d x3], r, _, by simp [aliOf], ?_, es, hr, rfl, ?_⟩
  · show (match argIn ρ4 true 0 (.ali i), argsIn ρ4 [false, false] 1 [.d x2, .d x3] with | some a, some as => some (a :: as) | _, _ => none) = _
    rw [io_arg er]; rfl
  · rw [io_put er]; exact h
theorem w_io4 (hm : F.md = [true, false, false, false]) (h0 : varR i ρ = .ok (.ali i) ρ) (hn : nal (Es.cons a2 (.cons a3 (.cons a4 .nil))).own (.ali i) = true)
    (h : wR X (ev a2 ρ) fun s ρ1 => wR X (rawR s ρ1) fun s2 ρ2 => wR X (ev a3 ρ2) fun s ρ3 => wR X (rawR s ρ3) fun s3 ρ4 => wR X (ev a4 ρ4) fun s ρ5 => wR X (rawR s ρ5) fun s4 ρ6 => ∃ z xs x2 x3 x4 r xs', ρ6[i]? = some (some (.ol z xs)) ∧ s2 = .d x2 ∧ s3 = .d x3 ∧ s4 = .d x4 ∧ F.sem [.ol (some 0) xs, .d x2, .d x3, .d x4] = .ok r [some (.ol (some 0) xs'), none, none, none] ∧ resOk r = true ∧ P r (ρ6.set i (some (.ol z xs')))) : wR X (ev (.call F (.cons (.var i) (.cons a2 (.cons a3 (.cons a4 .nil))))) ρ) P := by
  refine w_call ?_
  rw [hm]
  refine w_cio (w_var h0 ⟨hn, w_cd (h.mono fun s ρ1 g => g.mono fun s2 ρ2 g => w_cd (g.mono fun s ρ3 g => g.mono fun s3 ρ4 g => w_cd (g.mono fun s ρ5 g => g.mono fun s4 ρ6 h => w_cnil ?_)))⟩)
  obtain ⟨z, xs, x2, x3, x4, r, xs', er, rfl, rfl, rfl, es, hr, h⟩ := h
  refine ⟨[.ol (some 0) xs, .d x2, .d x3, .d x4], r, _, by simp [aliOf], ?_, es, hr, rfl, ?_⟩
  · show (match argIn ρ6 true 0 (.ali i), argsIn ρ6 [false, false, false] 1 [.d x2, .d x3, .d x4] with | some a, some as => some (a :: as) | _, _ => none) = _
    rw [io_arg er]; rfl
  · rw [io_put er]; exact h
end
/-- a box of draws -/
def Bx (m : Int) (xs : List D) : Prop := ∃ a b c : Int, xs = [.int a, .int b, .int c] ∧ 0 ≤ a ∧ (0 ≤ b ∧ b < 2 ^ 31) ∧ (0 ≤ c ∧ c ≤ m)
theorem Bx.mono {m m' : Int} {xs : List D} (h : Bx m xs) (l : m ≤ m') : Bx m' xs := by
  obtain ⟨a, b, c, e, h1, h2, h3⟩ := h
  exact ⟨a, b, c, e, h1, h2, h3.1, by omega⟩
theorem take_ok {xs : List D} {n m : Int} (hB : Bx m xs) (hm : m ≤ 1000000) (hn : 0 < n ∧ n ≤ 10000000) : ∃ (r : Nat) (xs' : List D), (r : Int) < n ∧ Bx (m + 1) xs' ∧ (F_law_take 1).sem [.ol (some 0) xs, .d (.int n)] = .ok (.d (.int (r : Int))) [some (.ol (some 0) xs'), none] := by
  obtain ⟨a, b, c, rfl, ha, hb, hc⟩ := hB
  obtain ⟨s, o, ⟨r, xs', h1, h2, h3, h4⟩, e⟩ := sem_of (n := 6) (md := [true, false]) (body := b_law_take (m_law_take 0)) (args := [.ol (some 0) [.int a, .int b, .int c], .d (.int n)]) (Q := fun s o => ∃ (r : Int) (xs' : List D), (0 ≤ r ∧ r < n) ∧ Bx (m + 1) xs' ∧ s = .d (.int r) ∧ o = [some (.ol (some 0) xs'), none]) (by
    unfold b_law_take
    trivial
    refine w_tf (fun h => ?_) fun h => ?_
    · have h : 0 < a := of_decide_eq_true h
      trivial
      refine OutG.d (if_pos (⟨hn.1, by omega⟩ : 0 < n ∧ n < 1073741824)) ?_
      trivial
      exact ⟨a % n, _, ⟨Int.emod_nonneg _ (by omega), Int.emod_lt_of_pos _ hn.1⟩, ⟨a / n, b, c, rfl, Int.ediv_nonneg ha (by omega), hb, hc.1, by omega⟩, rfl, rfl⟩
    · have hp : 0 ≤ (c + 1) * (c + 1) := Int.mul_nonneg (by omega) (by omega)
      have hq : (c + 1) * (c + 1) ≤ 1000001 * 1000001 := Int.mul_le_mul (by omega) (by omega) (by omega) (by omega)
      trivial
      refine w_f (decide_eq_false (by show ¬ ((10 : Int) ^ 7 < n); omega)) ?_
      trivial
      exact ⟨_, _, ⟨Int.emod_nonneg _ (by omega), Int.emod_lt_of_pos _ hn.1⟩, ⟨a, b, c + 1, rfl, ha, hb, by omega, by omega⟩, rfl, rfl⟩)
  refine ⟨r.toNat, xs', by omega, h2, ?_⟩
  rw [Int.toNat_of_nonneg h1.1]
  subst h3 h4
  exact e
/-- a draw -/
theorem w_take {X : Xc} {ρ : Envr} {P : Sl → Envr → Prop} {i : Nat} {e : E} (h0 : varR i ρ = .ok (.ali i) ρ) (hn : nal (Es.cons e .nil).own (.ali i) = true) (h : wR X (ev e ρ) fun s ρ1 => ∃ (n m : Int) (z : Option Nat) (xs : List D), s = .d (.int n) ∧ ρ1[i]? = some (some (.ol z xs)) ∧ Bx m xs ∧ m ≤ 1000000 ∧ (0 < n ∧ n ≤ 10000000) ∧
    ∀ (r : Nat) xs', (r : Int) < n → Bx (m + 1) xs' → P (.d (.int r)) (ρ1.set i (some (.ol z xs')))) : wR X (ev (.call (F_law_take 1) (.cons (.var i) (.cons e .nil))) ρ) P := by
  refine w_io2 rfl h0 hn (h.mono fun s ρ1 ⟨n, m, z, xs, e1, e2, hB, hm, hn', h⟩ => ?_)
  subst e1
  obtain ⟨r, xs', h1, h2, h3⟩ := take_ok hB hm hn'
  exact w_rawd ⟨z, xs, .int n, _, xs', e2, rfl, h3, rfl, h r xs' h1 h2⟩
end Pw
/-! what the program computes: goings -/
namespace Pw
open PySem PySem.Spec PyProof.Rows L2
-- SPECS: is_seeker_ok:2d loose_ok:1l takers_ok:1l law_seeks_ok:2d look_goers_ok:2d goes_ok:2l hanging_ok:2l
set_option hygiene false
local macro_rules | `(tactic| trivial) => `(tactic| (repeat (first | ((with_reducible refine g_ev ?_); first | ((with_reducible apply w_var); rfl) | with_reducible refine w_bin ?_ | with_reducible refine w_cmp ?_ | with_reducible refine w_idx ?_ | with_reducible refine w_li ?_ | with_reducible refine w_ls ?_ | with_reducible refine w_lb ?_ | with_reducible refine w_ln ?_ | with_reducible refine w_glo ?_ | with_reducible refine w_not ?_ | with_reducible refine w_tup ?_ | with_reducible refine w_lstU ?_ | with_reducible refine w_bsort ?_ | with_reducible refine w_and ?_ | with_reducible refine w_or ?_ | with_reducible refine w_slg ?_ | with_reducible refine w_isi ?_ | with_reducible refine w_metg ?_ | with_reducible refine w_mut ?_ | with_reducible refine w_neg ?_ | with_reducible refine w_dct ?_ | (with_reducible refine w_c1 rfl ?_) | (with_reducible refine w_c2 rfl ?_) | (with_reducible refine w_c3 rfl ?_) | (with_reducible refine w_c4 rfl ?_) | (with_reducible refine w_c5 rfl ?_) | with_reducible apply w_ball | with_reducible apply w_bany | with_reducible apply w_bsum | with_reducible refine w_bltg ?_ | ((with_reducible apply w_cm); rfl) | ((with_reducible apply w_cm0); rfl) | ((with_reducible apply w_sscrM); rfl)) | ((with_reducible refine g_op ?_); first | ((with_reducible apply w_add); rfl; rfl) | ((with_reducible apply w_sb); rfl; rfl) | ((with_reducible apply w_gt); rfl; rfl) | ((with_reducible apply w_lt); rfl; rfl) | ((with_reducible apply w_ge); rfl; rfl) | ((with_reducible apply w_le); rfl; rfl) | ((with_reducible apply w_eqI); rfl; rfl) | ((with_reducible apply w_neI); rfl; rfl) | ((with_reducible apply w_eqS); rfl; rfl) | ((with_reducible apply w_neS); rfl; rfl) | ((with_reducible apply w_eqB); rfl; rfl) | ((with_reducible apply w_neB); rfl; rfl) | ((with_reducible apply w_inlS); rfl; rfl) | ((with_reducible apply w_intS); rfl; rfl) | ((with_reducible apply w_nilS); rfl; rfl) | ((with_reducible apply w_nitS); rfl; rfl) | ((with_reducible apply w_inlP); rfl; rfl) | ((with_reducible apply w_intP); rfl; rfl) | ((with_reducible apply w_nilP); rfl; rfl) | ((with_reducible apply w_nitP); rfl; rfl) | ((with_reducible apply w_ixk); rfl; rfl; rfl) | ((with_reducible apply w_ixl); rfl; rfl; rfl; rfl) | ((with_reducible apply w_ixt); rfl; rfl; rfl; rfl) | ((with_reducible apply w_mul); rfl; rfl; (exact mulOk_lt (by omega) (by omega))) | ((with_reducible apply w_mod); rfl; rfl; decide) | ((with_reducible apply w_mod); rfl; rfl; omega) | ((with_reducible apply w_div); rfl; rfl; decide) | ((with_reducible apply w_pow); rfl; rfl; decide) | ((with_reducible apply w_nel EqE.str); rfl; rfl) | ((with_reducible apply w_nel EqE.pr); rfl; rfl) | ((with_reducible apply w_eql EqE.str); rfl; rfl) | ((with_reducible apply w_eql EqE.pr); rfl; rfl) | with_reducible refine w_opg ?_) | ((with_reducible refine g_x ?_); first | with_reducible refine w_cons ?_ | with_reducible refine w_asg ?_ | with_reducible refine w_ret ?_ | with_reducible refine w_nil ?_ | with_reducible refine w_exp ?_ | with_reducible refine w_ifs ?_ | with_reducible refine w_par ?_ | with_reducible refine w_unp ?_ | with_reducible refine w_sub ?_ | with_reducible refine w_unpSub ?_ | with_reducible refine w_ps0 ?_ | with_reducible refine w_aug ?_ | with_reducible refine w_pass ?_ | (with_reducible refine w_psc (Nat.le_of_ble_eq_true rfl) ?_) | ((with_reducible apply w_setSub); rfl; rfl) | (with_reducible refine w_setS (Nat.le_of_ble_eq_true rfl) ?_)) | ((with_reducible refine g_r ?_); first | ((with_reducible apply w_izipV); rfl; rfl) | ((with_reducible apply w_test); rfl) | ((with_reducible apply w_fz); rfl) | ((with_reducible apply w_varR); rfl) | with_reducible apply w_andJ | with_reducible apply w_orJ | ((with_reducible apply w_fzR); rfl) | ((with_reducible apply w_outa); rfl) | with_reducible refine w_acons ?_ | with_reducible refine w_anil ?_ | with_reducible refine w_lcons ?_ | with_reducible refine w_lnil ?_ | with_reducible refine w_wcons ?_ | with_reducible refine w_wnil ?_ | with_reducible refine w_b1 ?_ | with_reducible refine w_onon ?_ | with_reducible refine w_osomG ?_ | with_reducible refine w_ownd ?_ | with_reducible refine w_ownl ?_ | with_reducible refine w_ownk ?_ | with_reducible refine w_owna ?_ | with_reducible refine w_rawd ?_ | with_reducible refine w_rawl ?_ | with_reducible refine w_raws ?_ | with_reducible refine w_rawa ?_ | with_reducible refine w_outd ?_ | with_reducible refine w_outl ?_ | with_reducible refine w_ival ?_ | with_reducible refine w_irng1 ?_ | with_reducible refine w_irng2 ?_ | with_reducible refine w_ienm ?_ | with_reducible refine w_izip ?_ | with_reducible refine w_irev ?_ | with_reducible refine w_qnon ?_ | with_reducible refine w_qsom ?_) | ((with_reducible refine CmT.mk ?_ ?_ (fun hb => ?_)); rfl; rfl) | ((with_reducible refine Fin1.mk ?_ ?_); rfl; rfl) | ((with_reducible refine CmI.mk (zip_map _ _) (fun z hz => Exists.intro _ (And.intro ?_ ?_)) ?_); rfl) | ((with_reducible refine CmI.mk (enum_map _) (fun z hz => Exists.intro _ (And.intro ?_ ?_)) ?_); rfl) | ((with_reducible apply CmI.mk); rfl; (intro z hz; (with_reducible apply Exists.intro); (with_reducible apply And.intro); rfl)) | with_reducible refine NormL.mk (nl_s _) ?_ | with_reducible refine NormL.mk (nl_p _) ?_ | with_reducible refine NormL.mk (nl_i _) ?_ | with_reducible refine NormL.mk (nl_b _ _) ?_ | with_reducible refine NormL.mk (nl_sc _ _) ?_ | with_reducible refine NormL.mk (nl_pc _ _ _) ?_ | with_reducible refine NormL.mk (nl_ic _ _) ?_ | ((with_reducible apply NormL.mk); rfl) | (with_reducible refine @UnL.s _ _ _ inferInstance ?_) | (with_reducible refine @UnL.p _ _ _ inferInstance ?_) | with_reducible refine UnL.n ?_ | with_reducible refine AndJ.mk (fun hb => ?_) ?_ | ((with_reducible refine Fin2.mk ?_ ?_); rfl; rfl) | ((with_reducible refine FinS.mk ?_ ?_); rfl; rfl) | ((with_reducible refine FinR.mk ?_ ?_ ?_); rfl; rfl; rfl) | ((with_reducible apply AllT.mk); rfl) | ((with_reducible apply SumT.mk); rfl) | ((with_reducible apply SortT.s); rfl) | ((with_reducible apply SortT.p); rfl) | ((with_reducible apply SlcG.tto); rfl) | ((with_reducible apply SlcG.lto); rfl) | ((with_reducible apply SlcG.tfr); rfl) | ((with_reducible apply SlcG.lfr); rfl) | ((with_reducible apply SlcG.tm); rfl) | ((with_reducible apply SlcG.lm); rfl) | ((with_reducible apply SlcG.an); rfl; rfl) | ((with_reducible apply IdxG.nat); rfl) | ((with_reducible apply IdxG.int); rfl) | ((with_reducible apply VwG.mk'); rfl) | ((with_reducible apply OutG.d); rfl) | ((with_reducible apply OutG.l); rfl) | (with_reducible refine Got2.d (is_seeker_ok ..) ?_) | (with_reducible refine Got1.l (loose_ok ..) ?_) | (with_reducible refine Got1.l (takers_ok ..) ?_) | (with_reducible refine Got2.d (law_seeks_ok ..) ?_) | (with_reducible refine Got2.d (look_goers_ok ..) ?_) | (with_reducible refine Got2.l (goes_ok ..) ?_) | (with_reducible refine Got2.l (hanging_ok ..) ?_) | ((with_reducible apply And.intro); rfl) | ((with_reducible apply And.intro); (exact Nat.le_of_ble_eq_true rfl)) | ((with_reducible apply Exists.intro); (with_reducible apply And.intro); rfl) | ((with_reducible apply Exists.intro); (with_reducible apply Exists.intro); (with_reducible apply And.intro); rfl; (with_reducible apply And.intro); rfl))))
theorem app_ok' {xs : List D} {d : D} (h : xs.length < 16777216) : mutD .append xs [d] = some (.none, xs ++ [d]) := by
  show (if xs.length < sizeLine then some (PyData.none, xs ++ [d]) else none) = _
  rw [sizeLine_eq, if_pos h]
theorem eraseIdx_idx : ∀ (xs : List Str) (z : Str), z ∈ xs → ∃ j, (xs.findIdx? fun y => y.cps.toList == z.cps.toList) = some j ∧ xs.eraseIdx j = xs.erase z
  | x :: xs, z, h => by
    rw [List.findIdx?_cons]
    by_cases e : x = z
    · subst e
      exact ⟨0, by simp, by simp⟩
    · have e' : ¬ x.cps.toList = z.cps.toList := fun q => e (Str.ext' q)
      obtain ⟨j, h1, h2⟩ := eraseIdx_idx xs z ((List.mem_cons.mp h).resolve_left (fun q => e q.symm))
      refine ⟨j + 1, ?_, ?_⟩
      · have hb : (x.cps.toList == z.cps.toList) = false := beq_false_of_ne e'
        show (if (x.cps.toList == z.cps.toList) = true then some 0 else Option.map (fun i => i + 1) _) = _
        rw [hb, if_neg (by decide), h1]; rfl
      rw [List.eraseIdx_cons_succ, h2, List.erase_cons_tail (by simpa using e)]
theorem strsD_map' : ∀ xs : List Str, strsD (xs.map .str) = some xs
  | [] => rfl
  | x :: xs => by show (strsD (xs.map .str)).map (x :: ·) = _; rw [strsD_map' xs]; rfl
theorem map_eraseIdx2 {α β : Type} {f : α → β} : ∀ (xs : List α) (k : Nat), (xs.map f).eraseIdx k = (xs.eraseIdx k).map f
  | [], _ => rfl
  | x :: xs, 0 => rfl
  | x :: xs, k + 1 => by simp [map_eraseIdx2 xs k]
theorem rem_ok {xs : List Str} {z : Str} (h : z ∈ xs) : mutD .remove (xs.map .str) [.str z] = some (.none, (xs.erase z).map .str) := by
  obtain ⟨j, h1, h2⟩ := eraseIdx_idx xs z h
  show (match strsD (xs.map .str) with
    | some (ys : List Str) => (ys.findIdx? fun y : Str => y.cps.toList == z.cps.toList).map fun j => (PyData.none, (xs.map PyData.str).eraseIdx j)
    | none => none) = _
  rw [strsD_map']
  dsimp only
  rw [h1, ← h2, ← map_eraseIdx2]; rfl
theorem map_get {α : Type} {f : α → D} {xs : List α} {i : Nat} {d : D} (h : (xs.map f)[i]? = some d) : ∃ x, xs[i]? = some x ∧ d = f x := by
  rw [List.getElem?_map] at h
  obtain ⟨x, h1, h2⟩ := Option.map_eq_some_iff.mp h
  exact ⟨x, h1, h2.symm⟩
theorem take_snoc {α : Type} {xs : List α} {i : Nat} {x : α} (h : xs[i]? = some x) : xs.take (i + 1) = xs.take i ++ [x] := by rw [List.take_add_one, h]; rfl
section
variable {r g l gs : List Str}
theorem look_goers_ok (hg : ∀ x ∈ gs, x ∈ g) (hn : gs.Nodup) : F_look_goers.sem [.d (eD r g l), .d (.tuple (gs.map .str))] = .ok (.d .none) [none, none] := by
  refine sem_eq rfl ?_
  unfold b_look_goers
  trivial
  refine w_for ?_
  trivial
  rw [enum_map]
  refine ⟨fun i ρ => ∃ tv tw, ρ = [some (.d (eD r g l)), some (.d (.tuple (gs.map .str))), tv, tw], ⟨_, _, rfl⟩, ?_, ?_⟩
  · rintro i x ρ hx ⟨tv, tw, rfl⟩
    obtain ⟨⟨y, j⟩, hj, rfl⟩ := map_get hx
    rw [List.getElem?_zipIdx] at hj
    obtain ⟨y', hy, e⟩ := Option.map_eq_some_iff.mp hj
    have e1 : y' = y ∧ i = j := by simpa [Nat.zero_add] using e
    obtain ⟨rfl, rfl⟩ := e1
    refine ⟨_, rfl, ?_⟩
    trivial
    refine w_f ?_ ?_
    · have h1 : y' ∈ g := hg y' (List.mem_of_getElem? hy)
      have h2 : y' ∉ gs.take i := by
        intro h
        obtain ⟨hi, e⟩ := List.getElem?_eq_some_iff.mp hy
        obtain ⟨k, hk, e2⟩ := List.getElem_of_mem h
        rw [List.length_take] at hk
        rw [List.getElem_take] at e2
        exact (List.pairwise_iff_getElem.mp hn) k i (by omega) hi (by omega) (e2.trans e.symm)
      simp [h1, h2]
    · trivial
      exact ⟨_, _, rfl⟩
  · rintro ρ ⟨tv, tw, rfl⟩
    trivial
theorem goes_ok (hg : ∀ x ∈ gs, x ∈ g) (hn : gs.Nodup) (hl : gs.length ≤ r.length) (hs : r.length ≤ 1000000) : F_goes.sem [.d (eD r g l), .d (.tuple (gs.map .str))] = .ok (.ol none ((Pm.wt (sk r g l) r gs).map pr)) [none, none] := by
  refine sem_eq rfl ?_
  unfold b_goes
  trivial
  refine Got2.d (look_goers_ok hg hn) ?_
  trivial
  refine w_for ?_
  trivial
  refine ⟨fun i ρ => ∃ tv tw, ρ = [some (.d (eD r g l)), some (.d (.tuple (gs.map .str))), some (.ol none ((Pm.lf (sk r g l) r (gs.take i)).map .str)), some (.ol none ((Pm.wt (sk r g l) r (gs.take i)).map pr)), tv, tw], ⟨_, _, rfl⟩, ?_, ?_⟩
  · rintro i x ρ hx ⟨tv, tw, rfl⟩
    obtain ⟨y, hy, rfl⟩ := map_get hx
    have hi := (List.getElem?_eq_some_iff.mp hy).1
    have hlen : (Pm.lf (sk r g l) r (gs.take i)).length = r.length - i := by
      rw [Pm.lf_len _ _ (by rw [List.length_take]; omega), List.length_take, Nat.min_eq_left (by omega)]
    have hne : Pm.lf (sk r g l) r (gs.take i) ≠ [] := by intro e; rw [e] at hlen; simp at hlen; omega
    refine ⟨_, rfl, ?_⟩
    trivial
    refine w_ifeJ (enc := .str) (v := y) (w := (Pm.lf (sk r g l) r (gs.take i)).headD y) ?_
    trivial
    refine ⟨fun _ => ?_, fun _ => ?_, ?_⟩
    · trivial
    · trivial
      refine OutG.d (ix_l (k := 0) (x := (Pm.lf (sk r g l) r (gs.take i)).headD y) ?_) ?_
      · cases e : Pm.lf (sk r g l) r (gs.take i) with
        | nil => exact absurd e hne
        | cons a t => rfl
      trivial
    · have et : (if (sk r g l y && decide (y ∈ Pm.lf (sk r g l) r (gs.take i))) = true then y else (Pm.lf (sk r g l) r (gs.take i)).headD y) = Pm.tk (sk r g l) (Pm.lf (sk r g l) r (gs.take i)) y := rfl
      rw [et]
      trivial
      refine ⟨_, _, _, _, rfl, rem_ok (Pm.tk_mem hne), ?_⟩
      trivial
      refine ⟨_, _, _, _, rfl, app_ok' ?_, ?_⟩
      · rw [List.length_map, Pm.wt_len, List.length_take]; omega
      trivial
      exact ⟨_, _, by rw [take_snoc hy, Pm.lf_app, Pm.wt_app, List.map_append]; rfl⟩
  · rintro ρ ⟨tv, tw, rfl⟩
    trivial
    refine ⟨?_, rfl⟩
    rw [List.length_map, List.take_length]
theorem hanging_ok (hg : ∀ x ∈ gs, x ∈ g) (hn : gs.Nodup) (hl : gs.length ≤ r.length) (hs : r.length ≤ 1000000) (hr : r.Nodup) : F_hanging.sem [.d (eD r g l), .d (.tuple (gs.map .str))] = .ok (.ol none ((Pm.lf (sk r g l) r gs).map .str)) [none, none] := by
  refine sem_eq rfl ?_
  unfold b_hanging
  trivial
  refine Got2.l (goes_ok hg hn hl hs) ?_
  trivial
  refine ⟨?_, rfl⟩
  rw [Pm.lf_filter hr hl]
  rfl
theorem rest_of_ok (hg : ∀ x ∈ gs, x ∈ g) (hn : gs.Nodup) (hl : gs.length ≤ r.length) (hs : r.length ≤ 1000000) (hr : r.Nodup) : F_rest_of.sem [.d (eD r g l), .d (.tuple (gs.map .str))] = .ok (.d (eD (Pm.lf (sk r g l) r gs) (g.filter fun x => !decide (x ∈ gs)) (l.filter fun x => !decide (x ∈ gs)))) [none, none] := by
  refine sem_eq rfl ?_
  unfold b_rest_of
  trivial
  refine Got2.l (hanging_ok hg hn hl hs hr) ?_
  trivial
theorem listAdd {α : Type} {f : α → D} {xs ys : List α} (h : xs.length + ys.length ≤ 16777216) : binD .Add (.list (xs.map f)) (.list (ys.map f)) = some (.l ((xs ++ ys).map f)) := by
  show (match addI (.list (xs.map f)) (.list (ys.map f)) with | some r => some r | none => _) = _
  show (match addS (.list (xs.map f)) (.list (ys.map f)) with | some r => some r | none => _) = _
  show (match addL (.list (xs.map f)) (.list (ys.map f)) with | some r => some r | none => _) = _
  have : addL (.list (xs.map f)) (.list (ys.map f)) = some (.l (xs.map f ++ ys.map f)) := if_pos (by rw [sizeLine_eq, List.length_map, List.length_map]; exact h)
  rw [this, List.map_append]
theorem tupAdd {α : Type} {f : α → D} {xs ys : List α} (h : xs.length + ys.length ≤ 16777216) : binD .Add (.tuple (xs.map f)) (.tuple (ys.map f)) = some (.d (.tuple ((xs ++ ys).map f))) := by
  have e1 : addI (.tuple (xs.map f)) (.tuple (ys.map f)) = none := rfl
  have e2 : addS (.tuple (xs.map f)) (.tuple (ys.map f)) = none := rfl
  have e3 : addL (.tuple (xs.map f)) (.tuple (ys.map f)) = none := rfl
  have e4 : addT (.tuple (xs.map f)) (.tuple (ys.map f)) = some (.d (.tuple (xs.map f ++ ys.map f))) := if_pos (by rw [sizeLine_eq, List.length_map, List.length_map]; exact h)
  show ors addI (ors addS (ors addL addT)) (.tuple (xs.map f)) (.tuple (ys.map f)) = _
  simp only [ors, e1, e2, e3, e4, List.map_append]
theorem own_sk : gs.filter (sk r g l) = Pm.own (sk r g l) r gs := by
  unfold Pm.own
  refine List.filter_congr fun x _ => ?_
  unfold sk
  by_cases h : x ∈ r <;> simp [h]
theorem gone_by_ok (hg : ∀ x ∈ gs, x ∈ g) (hn : gs.Nodup) (hs : r.length + gs.length ≤ 1000000) : F_gone_by.sem [.d (eD r g l), .d (.tuple (gs.map .str))] = .ok (.ol none ((r.filter fun c => decide (c ∈ Pm.gone (sk r g l) r gs)).map .str)) [none, none] := by
  refine sem_eq rfl ?_
  unfold b_gone_by
  trivial
  refine Got2.d (look_goers_ok hg hn) ?_
  trivial
  rw [own_sk]
  have e1 : (((gs.map PyData.str).length : Nat) : Int) - (((Pm.own (sk r g l) r gs).map PyData.str).length : Nat) = ((gs.length - (Pm.own (sk r g l) r gs).length : Nat) : Int) := by
    have := Pm.own_le (s := sk r g l) (l := r) (gs := gs)
    rw [List.length_map, List.length_map]; omega
  rw [e1, cut_to]
  refine OutG.l (listAdd ?_) ?_
  · have := Pm.own_le (s := sk r g l) (l := r) (gs := gs)
    have := List.length_filter_le (fun c => !decide (c ∈ Pm.own (sk r g l) r gs)) r
    rw [List.length_take]; omega
  trivial
end
end Pw
/-! what the program computes: seekers, hooks, ways -/
namespace Pw
open PySem PySem.Spec PyProof.Rows L2
-- SPECS: is_seeker_ok:2d loose_ok:1l takers_ok:1l law_seeks_ok:2d seekers_ok:1l
set_option hygiene false
local macro_rules | `(tactic| trivial) => `(tactic| (repeat (first | ((with_reducible refine g_ev ?_); first | ((with_reducible apply w_var); rfl) | with_reducible refine w_bin ?_ | with_reducible refine w_cmp ?_ | with_reducible refine w_idx ?_ | with_reducible refine w_li ?_ | with_reducible refine w_ls ?_ | with_reducible refine w_lb ?_ | with_reducible refine w_ln ?_ | with_reducible refine w_glo ?_ | with_reducible refine w_not ?_ | with_reducible refine w_tup ?_ | with_reducible refine w_lstU ?_ | with_reducible refine w_bsort ?_ | with_reducible refine w_and ?_ | with_reducible refine w_or ?_ | with_reducible refine w_slg ?_ | with_reducible refine w_isi ?_ | with_reducible refine w_metg ?_ | with_reducible refine w_mut ?_ | with_reducible refine w_neg ?_ | with_reducible refine w_dct ?_ | (with_reducible refine w_c1 rfl ?_) | (with_reducible refine w_c2 rfl ?_) | (with_reducible refine w_c3 rfl ?_) | (with_reducible refine w_c4 rfl ?_) | (with_reducible refine w_c5 rfl ?_) | with_reducible apply w_ball | with_reducible apply w_bany | with_reducible apply w_bsum | with_reducible refine w_bltg ?_ | ((with_reducible apply w_cm); rfl) | ((with_reducible apply w_cm0); rfl) | ((with_reducible apply w_sscrM); rfl)) | ((with_reducible refine g_op ?_); first | ((with_reducible apply w_add); rfl; rfl) | ((with_reducible apply w_sb); rfl; rfl) | ((with_reducible apply w_gt); rfl; rfl) | ((with_reducible apply w_lt); rfl; rfl) | ((with_reducible apply w_ge); rfl; rfl) | ((with_reducible apply w_le); rfl; rfl) | ((with_reducible apply w_eqI); rfl; rfl) | ((with_reducible apply w_neI); rfl; rfl) | ((with_reducible apply w_eqS); rfl; rfl) | ((with_reducible apply w_neS); rfl; rfl) | ((with_reducible apply w_eqB); rfl; rfl) | ((with_reducible apply w_neB); rfl; rfl) | ((with_reducible apply w_inlS); rfl; rfl) | ((with_reducible apply w_intS); rfl; rfl) | ((with_reducible apply w_nilS); rfl; rfl) | ((with_reducible apply w_nitS); rfl; rfl) | ((with_reducible apply w_inlP); rfl; rfl) | ((with_reducible apply w_intP); rfl; rfl) | ((with_reducible apply w_nilP); rfl; rfl) | ((with_reducible apply w_nitP); rfl; rfl) | ((with_reducible apply w_ixk); rfl; rfl; rfl) | ((with_reducible apply w_ixl); rfl; rfl; rfl; rfl) | ((with_reducible apply w_ixt); rfl; rfl; rfl; rfl) | ((with_reducible apply w_mul); rfl; rfl; (exact mulOk_lt (by omega) (by omega))) | ((with_reducible apply w_mod); rfl; rfl; decide) | ((with_reducible apply w_mod); rfl; rfl; omega) | ((with_reducible apply w_div); rfl; rfl; decide) | ((with_reducible apply w_pow); rfl; rfl; decide) | ((with_reducible apply w_nel EqE.str); rfl; rfl) | ((with_reducible apply w_nel EqE.pr); rfl; rfl) | ((with_reducible apply w_eql EqE.str); rfl; rfl) | ((with_reducible apply w_eql EqE.pr); rfl; rfl) | with_reducible refine w_opg ?_) | ((with_reducible refine g_x ?_); first | with_reducible refine w_cons ?_ | with_reducible refine w_asg ?_ | with_reducible refine w_ret ?_ | with_reducible refine w_nil ?_ | with_reducible refine w_exp ?_ | with_reducible refine w_ifs ?_ | with_reducible refine w_par ?_ | with_reducible refine w_unp ?_ | with_reducible refine w_sub ?_ | with_reducible refine w_unpSub ?_ | with_reducible refine w_ps0 ?_ | with_reducible refine w_aug ?_ | with_reducible refine w_pass ?_ | (with_reducible refine w_psc (Nat.le_of_ble_eq_true rfl) ?_) | ((with_reducible apply w_setSub); rfl; rfl) | (with_reducible refine w_setS (Nat.le_of_ble_eq_true rfl) ?_)) | ((with_reducible refine g_r ?_); first | ((with_reducible apply w_izipV); rfl; rfl) | ((with_reducible apply w_test); rfl) | ((with_reducible apply w_fz); rfl) | ((with_reducible apply w_varR); rfl) | with_reducible apply w_andJ | with_reducible apply w_orJ | ((with_reducible apply w_fzR); rfl) | ((with_reducible apply w_outa); rfl) | with_reducible refine w_acons ?_ | with_reducible refine w_anil ?_ | with_reducible refine w_lcons ?_ | with_reducible refine w_lnil ?_ | with_reducible refine w_wcons ?_ | with_reducible refine w_wnil ?_ | with_reducible refine w_b1 ?_ | with_reducible refine w_onon ?_ | with_reducible refine w_osomG ?_ | with_reducible refine w_ownd ?_ | with_reducible refine w_ownl ?_ | with_reducible refine w_ownk ?_ | with_reducible refine w_owna ?_ | with_reducible refine w_rawd ?_ | with_reducible refine w_rawl ?_ | with_reducible refine w_raws ?_ | with_reducible refine w_rawa ?_ | with_reducible refine w_outd ?_ | with_reducible refine w_outl ?_ | with_reducible refine w_ival ?_ | with_reducible refine w_irng1 ?_ | with_reducible refine w_irng2 ?_ | with_reducible refine w_ienm ?_ | with_reducible refine w_izip ?_ | with_reducible refine w_irev ?_ | with_reducible refine w_qnon ?_ | with_reducible refine w_qsom ?_) | ((with_reducible refine CmT.mk ?_ ?_ (fun hb => ?_)); rfl; rfl) | ((with_reducible refine Fin1.mk ?_ ?_); rfl; rfl) | ((with_reducible refine CmI.mk (zip_map _ _) (fun z hz => Exists.intro _ (And.intro ?_ ?_)) ?_); rfl) | ((with_reducible refine CmI.mk (enum_map _) (fun z hz => Exists.intro _ (And.intro ?_ ?_)) ?_); rfl) | ((with_reducible apply CmI.mk); rfl; (intro z hz; (with_reducible apply Exists.intro); (with_reducible apply And.intro); rfl)) | with_reducible refine NormL.mk (nl_s _) ?_ | with_reducible refine NormL.mk (nl_p _) ?_ | with_reducible refine NormL.mk (nl_i _) ?_ | with_reducible refine NormL.mk (nl_b _ _) ?_ | with_reducible refine NormL.mk (nl_sc _ _) ?_ | with_reducible refine NormL.mk (nl_pc _ _ _) ?_ | with_reducible refine NormL.mk (nl_ic _ _) ?_ | ((with_reducible apply NormL.mk); rfl) | (with_reducible refine @UnL.s _ _ _ inferInstance ?_) | (with_reducible refine @UnL.p _ _ _ inferInstance ?_) | with_reducible refine UnL.n ?_ | with_reducible refine AndJ.mk (fun hb => ?_) ?_ | ((with_reducible refine Fin2.mk ?_ ?_); rfl; rfl) | ((with_reducible refine FinS.mk ?_ ?_); rfl; rfl) | ((with_reducible refine FinR.mk ?_ ?_ ?_); rfl; rfl; rfl) | ((with_reducible apply AllT.mk); rfl) | ((with_reducible apply SumT.mk); rfl) | ((with_reducible apply SortT.s); rfl) | ((with_reducible apply SortT.p); rfl) | ((with_reducible apply SlcG.tto); rfl) | ((with_reducible apply SlcG.lto); rfl) | ((with_reducible apply SlcG.tfr); rfl) | ((with_reducible apply SlcG.lfr); rfl) | ((with_reducible apply SlcG.tm); rfl) | ((with_reducible apply SlcG.lm); rfl) | ((with_reducible apply SlcG.an); rfl; rfl) | ((with_reducible apply IdxG.nat); rfl) | ((with_reducible apply IdxG.int); rfl) | ((with_reducible apply VwG.mk'); rfl) | ((with_reducible apply OutG.d); rfl) | ((with_reducible apply OutG.l); rfl) | (with_reducible refine Got2.d (is_seeker_ok ..) ?_) | (with_reducible refine Got1.l (loose_ok ..) ?_) | (with_reducible refine Got1.l (takers_ok ..) ?_) | (with_reducible refine Got2.d (law_seeks_ok ..) ?_) | (with_reducible refine Got1.l (seekers_ok ..) ?_) | ((with_reducible apply And.intro); rfl) | ((with_reducible apply And.intro); (exact Nat.le_of_ble_eq_true rfl)) | ((with_reducible apply Exists.intro); (with_reducible apply And.intro); rfl) | ((with_reducible apply Exists.intro); (with_reducible apply Exists.intro); (with_reducible apply And.intro); rfl; (with_reducible apply And.intro); rfl))))
section
variable {r g l gs : List Str} {x : Str}
theorem not_in_fil {p : Str → Bool} : (r.filter fun c => !decide (c ∈ r.filter p)) = r.filter fun c => !p c := List.filter_congr fun c h => by
  cases q : p c <;> simp [h, q]
theorem seekers_ok : F_seekers.sem [.d (eD r g l)] = .ok (.ol none ((g.filter (sk r g l)).map .str)) [none] := by
  refine sem_eq rfl ?_
  unfold b_seekers
  trivial
theorem hook_of_ok (h : x ∈ r) : F_hook_of.sem [.d (eD r g l), .d (.str x)] = .ok (.d (.int ((r.idxOf x : Nat) + 1 : Int))) [none, none] := by
  refine sem_eq rfl ?_
  unfold b_hook_of
  trivial
  refine w_f (by simp [h]) ?_
  trivial
  refine OutG.d (index_of .str h) ?_
  trivial
theorem loose_from_ok {k : Int} : F_loose_from.sem [.d (eD r g l), .d (.int k)] = .ok (.d (.int ((((r.filter fun x => !sk r g l x).filter fun c => decide (k ≤ (r.idxOf c : Nat) + 1)).length : Nat) : Int))) [none, none] := by
  refine sem_eq rfl ?_
  unfold b_loose_from
  trivial
  · refine Got2.d (hook_of_ok (List.mem_filter.mp hz).1) ?_
    trivial
  · trivial
    exact ⟨by rw [List.length_map], rfl⟩
/-- a name, or None -/
def oS : Option Str → D
  | some c => .str c
  | none => .none
theorem w_nenil {X : Xc} {ρ : Envr} {s u : Sl} {P : Sl → Envr → Prop} {α : Type} {f : α → D} {xs : List α} (hf : ∀ a, shp 50 (f a)) (h1 : view ρ s = some (.list (xs.map f))) (h2 : view ρ u = some (.list [])) (h : P (.d (.bool (!xs.isEmpty))) ρ) : wR X (op2 (cmpD .NotEq) s u ρ) P :=
  w_op2 h1 h2 (ne_of (t := xs.isEmpty) ((shp.lst (shpA.map hf)).mono (by decide)) ((shp.lst (n := 1) .nil).mono (by decide)) (by cases xs <;> simp [PyData.eqv, PyData.eqvAll])) h
/-- xs[0] if xs != [] else None -/
theorem w_first {X : Xc} {ρ : Envr} {P : Sl → Envr → Prop} {i : Nat} {xs : List Str} (h0 : varR i ρ = .ok (.ali i) ρ) (h1 : view ρ (.ali i) = some (.list (xs.map .str))) (h : P (.d (oS xs.head?)) ρ) :
    wR X (ev (.ife (.cmp .NotEq (.var i) (.lst .nil)) (.idx (.var i) (.lit (.int 0))) (.lit .non)) ρ) P := by
  refine w_ifeJ (enc := oS) (v := xs.head?) (w := none) ?_
  refine w_cmp (w_var h0 ⟨by simp [nal, E.own, Es.own], w_lst (w_anil (w_nenil (fun _ => .str) h1 rfl (w_test rfl ⟨fun ht => ?_, fun _ => w_ln ⟨rfl, rfl⟩, ?_⟩)))⟩)
  · refine w_idx (w_var h0 ⟨rfl, w_li ?_⟩)
    cases xs with
    | nil => cases ht
    | cons x t => exact w_op2 h1 rfl (ix_l (k := 0) (x := x) rfl) ⟨rfl, rfl⟩
  · cases xs <;> exact h
theorem first_then_ok (hg : ∀ x ∈ gs, x ∈ g) (hn : gs.Nodup) (hs : r.length + gs.length ≤ 1000000) : F_first_then.sem [.d (eD r g l), .d (.tuple (gs.map .str))] = .ok (.d (oS (r.filter fun c => !decide (c ∈ Pm.gone (sk r g l) r gs)).head?)) [none, none] := by
  refine sem_eq rfl ?_
  unfold b_first_then
  trivial
  refine Got2.l (gone_by_ok hg hn hs) ?_
  trivial
  refine w_first rfl rfl ?_
  trivial
  refine ⟨?_, rfl⟩
  rw [not_in_fil]
theorem still_own_ok (hg : ∀ x ∈ gs, x ∈ g) (hn : gs.Nodup) (hs : r.length + gs.length ≤ 1000000) : F_still_own.sem [.d (eD r g l), .d (.tuple (gs.map .str))] = .ok (.ol none ((g.filter fun x => sk r g l x && (!decide (x ∈ gs) && !decide (x ∈ Pm.gone (sk r g l) r gs))).map .str)) [none, none] := by
  refine sem_eq rfl ?_
  unfold b_still_own
  trivial
  refine Got2.l (gone_by_ok hg hn hs) ?_
  trivial
  refine ⟨?_, rfl⟩
  rw [List.filter_filter]
  refine congrArg (fun t => Sl.ol none (List.map PyData.str t)) (List.filter_congr fun x _ => ?_)
  cases h : sk r g l x
  · simp
  · have hr : x ∈ r := by
      unfold sk at h; simp at h; exact h.2.2
    simp [hr]
theorem way_of_ok (hg : ∀ x ∈ gs, x ∈ g) (hn : gs.Nodup) (hl : gs.length ≤ r.length) (hs : r.length ≤ 1000000) : F_way_of.sem [.d (eD r g l), .d (.tuple (gs.map .str))] = .ok (.d (.tuple ((sortP (Pm.wt (sk r g l) r gs)).map pr))) [none, none] := by
  refine sem_eq rfl ?_
  unfold b_way_of
  trivial
  refine Got2.l (goes_ok hg hn hl hs) ?_
  trivial
def ahd (r g l : List Str) (p : Str × Str) : Bool := sk r g l p.1 && decide (r.idxOf p.2 < r.idxOf p.1)
theorem is_ahead_ok {p : Str × Str} (h : p.2 ∈ r) : F_is_ahead.sem [.d (eD r g l), .d (.str p.1), .d (.str p.2)] = .ok (.d (.bool (ahd r g l p))) [none, none, none] := by
  refine sem_eq rfl ?_
  unfold b_is_ahead
  trivial
  · refine Got2.d (hook_of_ok h) ?_
    trivial
    refine Got2.d (hook_of_ok (x := p.1) ?_) ?_
    · unfold sk at hb; simp at hb; exact hb.2.2
    trivial
  · trivial
    refine ⟨?_, rfl⟩
    unfold ahd
    refine congrArg (fun t => Sl.d (.bool (sk r g l p.1 && t))) (decide_eq_decide.mpr ?_)
    omega
theorem why_not_ok {w : List (Str × Str)} (hw : ∀ p ∈ w, p.2 ∈ r) : F_why_not.sem [.d (eD r g l), .d (.tuple (w.map pr))] = .ok (.d (oS ((w.filter (ahd r g l)).map Prod.fst).head?)) [none, none] := by
  refine sem_eq rfl ?_
  unfold b_why_not
  trivial
  · refine Got3.d (is_ahead_ok (p := z) (hw z hz)) ?_
    trivial
  · trivial
    refine w_first rfl rfl ?_
    trivial
theorem is_non (o : Option Str) : cmpD .Is (oS o) .none = some (.d (.bool o.isNone)) := by cases o <;> rfl
theorem can_be_ok {w : List (Str × Str)} (hw : ∀ p ∈ w, p.2 ∈ r) : F_can_be.sem [.d (eD r g l), .d (.tuple (w.map pr))] = .ok (.d (.bool !(w.any (ahd r g l)))) [none, none] := by
  refine sem_eq rfl ?_
  unfold b_can_be
  trivial
  refine Got2.d (why_not_ok hw) ?_
  trivial
  refine OutG.d (is_non _) ?_
  trivial
  refine ⟨congrArg (fun t => Sl.d (.bool t)) ?_, rfl⟩
  rw [List.head?_map, Option.isNone_map]
  induction w with
  | nil => rfl
  | cons p t ih =>
    cases q : ahd r g l p
    · rw [List.filter_cons_of_neg (by simp [q]), ih fun p m => hw p (List.mem_cons_of_mem _ m)]; simp [q]
    · simp [q]
theorem right_in_ok {w : List (Str × Str)} : F_right_in.sem [.d (.tuple (w.map pr))] = .ok (.ol none (((w.filter fun p => decide (p.1 = p.2)).map Prod.fst).map .str)) [none] := by
  refine sem_eq rfl ?_
  unfold b_right_in
  trivial
end
end Pw
/-! what the shared helpers of the laws compute: alike -/
namespace Pw
open PySem PySem.Spec PyProof.Rows L2
set_option hygiene false
local macro_rules | `(tactic| trivial) => `(tactic| (repeat (first | ((with_reducible refine g_ev ?_); first | ((with_reducible apply w_var); rfl) | with_reducible refine w_bin ?_ | with_reducible refine w_cmp ?_ | with_reducible refine w_idx ?_ | with_reducible refine w_li ?_ | with_reducible refine w_ls ?_ | with_reducible refine w_lb ?_ | with_reducible refine w_ln ?_ | with_reducible refine w_glo ?_ | with_reducible refine w_not ?_ | with_reducible refine w_tup ?_ | with_reducible refine w_lstU ?_ | with_reducible refine w_bsort ?_ | with_reducible refine w_and ?_ | with_reducible refine w_or ?_ | with_reducible refine w_slg ?_ | with_reducible refine w_isi ?_ | with_reducible refine w_metg ?_ | with_reducible refine w_mut ?_ | with_reducible refine w_neg ?_ | with_reducible refine w_dct ?_ | (with_reducible refine w_c1 rfl ?_) | (with_reducible refine w_c2 rfl ?_) | (with_reducible refine w_c3 rfl ?_) | (with_reducible refine w_c4 rfl ?_) | (with_reducible refine w_c5 rfl ?_) | with_reducible apply w_ball | with_reducible apply w_bany | with_reducible apply w_bsum | with_reducible refine w_bltg ?_ | ((with_reducible apply w_cm); rfl) | ((with_reducible apply w_cm0); rfl) | ((with_reducible apply w_sscrM); rfl)) | ((with_reducible refine g_op ?_); first | ((with_reducible apply w_add); rfl; rfl) | ((with_reducible apply w_sb); rfl; rfl) | ((with_reducible apply w_gt); rfl; rfl) | ((with_reducible apply w_lt); rfl; rfl) | ((with_reducible apply w_ge); rfl; rfl) | ((with_reducible apply w_le); rfl; rfl) | ((with_reducible apply w_eqI); rfl; rfl) | ((with_reducible apply w_neI); rfl; rfl) | ((with_reducible apply w_eqS); rfl; rfl) | ((with_reducible apply w_neS); rfl; rfl) | ((with_reducible apply w_eqB); rfl; rfl) | ((with_reducible apply w_neB); rfl; rfl) | ((with_reducible apply w_inlS); rfl; rfl) | ((with_reducible apply w_intS); rfl; rfl) | ((with_reducible apply w_nilS); rfl; rfl) | ((with_reducible apply w_nitS); rfl; rfl) | ((with_reducible apply w_inlP); rfl; rfl) | ((with_reducible apply w_intP); rfl; rfl) | ((with_reducible apply w_nilP); rfl; rfl) | ((with_reducible apply w_nitP); rfl; rfl) | ((with_reducible apply w_ixk); rfl; rfl; rfl) | ((with_reducible apply w_ixl); rfl; rfl; rfl; rfl) | ((with_reducible apply w_ixt); rfl; rfl; rfl; rfl) | ((with_reducible apply w_mul); rfl; rfl; (exact mulOk_lt (by omega) (by omega))) | ((with_reducible apply w_mod); rfl; rfl; decide) | ((with_reducible apply w_mod); rfl; rfl; omega) | ((with_reducible apply w_div); rfl; rfl; decide) | ((with_reducible apply w_pow); rfl; rfl; decide) | ((with_reducible apply w_nel EqE.str); rfl; rfl) | ((with_reducible apply w_nel EqE.pr); rfl; rfl) | ((with_reducible apply w_eql EqE.str); rfl; rfl) | ((with_reducible apply w_eql EqE.pr); rfl; rfl) | with_reducible refine w_opg ?_) | ((with_reducible refine g_x ?_); first | with_reducible refine w_cons ?_ | with_reducible refine w_asg ?_ | with_reducible refine w_ret ?_ | with_reducible refine w_nil ?_ | with_reducible refine w_exp ?_ | with_reducible refine w_ifs ?_ | with_reducible refine w_par ?_ | with_reducible refine w_unp ?_ | with_reducible refine w_sub ?_ | with_reducible refine w_unpSub ?_ | with_reducible refine w_ps0 ?_ | with_reducible refine w_aug ?_ | with_reducible refine w_pass ?_ | (with_reducible refine w_psc (Nat.le_of_ble_eq_true rfl) ?_) | ((with_reducible apply w_setSub); rfl; rfl) | (with_reducible refine w_setS (Nat.le_of_ble_eq_true rfl) ?_)) | ((with_reducible refine g_r ?_); first | ((with_reducible apply w_izipV); rfl; rfl) | ((with_reducible apply w_test); rfl) | ((with_reducible apply w_fz); rfl) | ((with_reducible apply w_varR); rfl) | with_reducible apply w_andJ | with_reducible apply w_orJ | ((with_reducible apply w_fzR); rfl) | ((with_reducible apply w_outa); rfl) | with_reducible refine w_acons ?_ | with_reducible refine w_anil ?_ | with_reducible refine w_lcons ?_ | with_reducible refine w_lnil ?_ | with_reducible refine w_wcons ?_ | with_reducible refine w_wnil ?_ | with_reducible refine w_b1 ?_ | with_reducible refine w_onon ?_ | with_reducible refine w_osomG ?_ | with_reducible refine w_ownd ?_ | with_reducible refine w_ownl ?_ | with_reducible refine w_ownk ?_ | with_reducible refine w_owna ?_ | with_reducible refine w_rawd ?_ | with_reducible refine w_rawl ?_ | with_reducible refine w_raws ?_ | with_reducible refine w_rawa ?_ | with_reducible refine w_outd ?_ | with_reducible refine w_outl ?_ | with_reducible refine w_ival ?_ | with_reducible refine w_irng1 ?_ | with_reducible refine w_irng2 ?_ | with_reducible refine w_ienm ?_ | with_reducible refine w_izip ?_ | with_reducible refine w_irev ?_ | with_reducible refine w_qnon ?_ | with_reducible refine w_qsom ?_) | ((with_reducible refine CmT.mk ?_ ?_ (fun hb => ?_)); rfl; rfl) | ((with_reducible refine Fin1.mk ?_ ?_); rfl; rfl) | ((with_reducible refine CmI.mk (zip_map _ _) (fun z hz => Exists.intro _ (And.intro ?_ ?_)) ?_); rfl) | ((with_reducible refine CmI.mk (enum_map _) (fun z hz => Exists.intro _ (And.intro ?_ ?_)) ?_); rfl) | ((with_reducible apply CmI.mk); rfl; (intro z hz; (with_reducible apply Exists.intro); (with_reducible apply And.intro); rfl)) | with_reducible refine NormL.mk (nl_s _) ?_ | with_reducible refine NormL.mk (nl_p _) ?_ | with_reducible refine NormL.mk (nl_i _) ?_ | with_reducible refine NormL.mk (nl_b _ _) ?_ | with_reducible refine NormL.mk (nl_sc _ _) ?_ | with_reducible refine NormL.mk (nl_pc _ _ _) ?_ | with_reducible refine NormL.mk (nl_ic _ _) ?_ | ((with_reducible apply NormL.mk); rfl) | (with_reducible refine @UnL.s _ _ _ inferInstance ?_) | (with_reducible refine @UnL.p _ _ _ inferInstance ?_) | with_reducible refine UnL.n ?_ | with_reducible refine AndJ.mk (fun hb => ?_) ?_ | ((with_reducible refine Fin2.mk ?_ ?_); rfl; rfl) | ((with_reducible refine FinS.mk ?_ ?_); rfl; rfl) | ((with_reducible refine FinR.mk ?_ ?_ ?_); rfl; rfl; rfl) | ((with_reducible apply AllT.mk); rfl) | ((with_reducible apply SumT.mk); rfl) | ((with_reducible apply SortT.s); rfl) | ((with_reducible apply SortT.p); rfl) | ((with_reducible apply SlcG.tto); rfl) | ((with_reducible apply SlcG.lto); rfl) | ((with_reducible apply SlcG.tfr); rfl) | ((with_reducible apply SlcG.lfr); rfl) | ((with_reducible apply SlcG.tm); rfl) | ((with_reducible apply SlcG.lm); rfl) | ((with_reducible apply SlcG.an); rfl; rfl) | ((with_reducible apply IdxG.nat); rfl) | ((with_reducible apply IdxG.int); rfl) | ((with_reducible apply VwG.mk'); rfl) | ((with_reducible apply OutG.d); rfl) | ((with_reducible apply OutG.l); rfl) | ((with_reducible apply And.intro); rfl) | ((with_reducible apply And.intro); (exact Nat.le_of_ble_eq_true rfl)) | ((with_reducible apply Exists.intro); (with_reducible apply And.intro); rfl) | ((with_reducible apply Exists.intro); (with_reducible apply Exists.intro); (with_reducible apply And.intro); rfl; (with_reducible apply And.intro); rfl))))
theorem same_body {g : List Sl → FR} {d : D} (hs : shp 60 d) (hg : ∀ xs, (d = .list xs ∨ d = .tuple xs) → ∀ x ∈ xs, g [.d x, .d x] = .ok (.d (.bool true)) [none, none]) : semOf 4 [false, false] (b_law_same g) [.d d, .d d] = .ok (.d (.bool true)) [none, none] := by
  refine sem_eq rfl ?_
  unfold b_law_same
  cases d with
  | none =>
    trivial
    refine w_f rfl ?_
    trivial
    refine w_t rfl ?_
    trivial
  | str x =>
    trivial
    refine w_f rfl ?_
    trivial
    refine w_t rfl ?_
    trivial
    exact ⟨congrArg (fun t => Sl.d (.bool t)) (by simp), rfl⟩
  | bool x =>
    trivial
    refine w_f rfl ?_
    trivial
    refine w_f rfl ?_
    trivial
    exact ⟨congrArg (fun t => Sl.d (.bool t)) (by simp [tyIs]), rfl⟩
  | int x =>
    trivial
    refine w_f rfl ?_
    trivial
    refine w_f rfl ?_
    trivial
    exact ⟨congrArg (fun t => Sl.d (.bool t)) (by simp [tyIs]), rfl⟩
  | list xs =>
    trivial
    refine w_t rfl ?_
    trivial
    refine w_f (by simp [tyIs]) ?_
    trivial
    have e := List.of_mem_zip hz
    have e2 : z.1 = z.2 := by
      obtain ⟨i, hi, e⟩ := List.getElem_of_mem hz
      rw [List.getElem_zip] at e
      rw [← e]
    have eg : g [.d z.1, .d z.2] = .ok (.d (.bool true)) [none, none] := by rw [← e2]; exact hg xs (.inl rfl) z.1 e.1
    refine Got2.d eg ?_
    trivial
    exact ⟨congrArg (fun t => Sl.d (.bool t)) (by simp), rfl⟩
  | tuple xs =>
    trivial
    refine w_t rfl ?_
    trivial
    refine w_f (by simp [tyIs]) ?_
    trivial
    have e := List.of_mem_zip hz
    have e2 : z.1 = z.2 := by
      obtain ⟨i, hi, e⟩ := List.getElem_of_mem hz
      rw [List.getElem_zip] at e
      rw [← e]
    have eg : g [.d z.1, .d z.2] = .ok (.d (.bool true)) [none, none] := by rw [← e2]; exact hg xs (.inr rfl) z.1 e.1
    refine Got2.d eg ?_
    trivial
    exact ⟨congrArg (fun t => Sl.d (.bool t)) (by simp), rfl⟩
  | dict kvs => exact absurd hs.1 (by simp [nod])
theorem shp.inv_l {n : Nat} {xs : List D} (h : shp n (.list xs)) : ∃ k, n = k + 1 ∧ shpA k xs := by
  have h1 : nodA xs = true := by simpa [nod] using h.1
  have h2 : PyData.depthAll xs + 1 ≤ n := by simpa only [PyData.depth] using h.2
  exact ⟨n - 1, by omega, h1, by omega⟩
theorem shp.inv_t {n : Nat} {xs : List D} (h : shp n (.tuple xs)) : ∃ k, n = k + 1 ∧ shpA k xs := by
  have h1 : nodA xs = true := by simpa [nod] using h.1
  have h2 : PyData.depthAll xs + 1 ≤ n := by simpa only [PyData.depth] using h.2
  exact ⟨n - 1, by omega, h1, by omega⟩
theorem same_at : ∀ (n : Nat) (d : D), n ≤ 50 → shp n d → (F_law_same (n + 1)).sem [.d d, .d d] = .ok (.d (.bool true)) [none, none]
  | n, d, hn, h => same_body (h.mono (by omega)) fun xs e x hx => by
    rcases e with rfl | rfl
    · obtain ⟨k, rfl, h2⟩ := h.inv_l
      exact same_at k x (by omega) (shpA.mem h2 x hx)
    · obtain ⟨k, rfl, h2⟩ := h.inv_t
      exact same_at k x (by omega) (shpA.mem h2 x hx)
/-- what is the same is told alike -/
theorem same_ok {d : D} (h : shp 6 d) : (F_law_same 7).sem [.d d, .d d] = .ok (.d (.bool true)) [none, none] := same_at 6 d (by decide) h
end Pw
/-! what the shared helpers of the laws compute: box, folded, order -/
namespace Pw
open PySem PySem.Spec PyProof.Rows L2
set_option hygiene false
local macro_rules | `(tactic| trivial) => `(tactic| (repeat (first | ((with_reducible refine g_ev ?_); first | ((with_reducible apply w_var); rfl) | with_reducible refine w_bin ?_ | with_reducible refine w_cmp ?_ | with_reducible refine w_idx ?_ | with_reducible refine w_li ?_ | with_reducible refine w_ls ?_ | with_reducible refine w_lb ?_ | with_reducible refine w_ln ?_ | with_reducible refine w_glo ?_ | with_reducible refine w_not ?_ | with_reducible refine w_tup ?_ | with_reducible refine w_lstU ?_ | with_reducible refine w_bsort ?_ | with_reducible refine w_and ?_ | with_reducible refine w_or ?_ | with_reducible refine w_slg ?_ | with_reducible refine w_isi ?_ | with_reducible refine w_metg ?_ | with_reducible refine w_mut ?_ | with_reducible refine w_neg ?_ | with_reducible refine w_dct ?_ | (with_reducible refine w_c1 rfl ?_) | (with_reducible refine w_c2 rfl ?_) | (with_reducible refine w_c3 rfl ?_) | (with_reducible refine w_c4 rfl ?_) | (with_reducible refine w_c5 rfl ?_) | with_reducible apply w_ball | with_reducible apply w_bany | with_reducible apply w_bsum | with_reducible refine w_bltg ?_ | ((with_reducible apply w_cm); rfl) | ((with_reducible apply w_cm0); rfl) | ((with_reducible apply w_sscrM); rfl)) | ((with_reducible refine g_op ?_); first | ((with_reducible apply w_add); rfl; rfl) | ((with_reducible apply w_sb); rfl; rfl) | ((with_reducible apply w_gt); rfl; rfl) | ((with_reducible apply w_lt); rfl; rfl) | ((with_reducible apply w_ge); rfl; rfl) | ((with_reducible apply w_le); rfl; rfl) | ((with_reducible apply w_eqI); rfl; rfl) | ((with_reducible apply w_neI); rfl; rfl) | ((with_reducible apply w_eqS); rfl; rfl) | ((with_reducible apply w_neS); rfl; rfl) | ((with_reducible apply w_eqB); rfl; rfl) | ((with_reducible apply w_neB); rfl; rfl) | ((with_reducible apply w_inlS); rfl; rfl) | ((with_reducible apply w_intS); rfl; rfl) | ((with_reducible apply w_nilS); rfl; rfl) | ((with_reducible apply w_nitS); rfl; rfl) | ((with_reducible apply w_inlP); rfl; rfl) | ((with_reducible apply w_intP); rfl; rfl) | ((with_reducible apply w_nilP); rfl; rfl) | ((with_reducible apply w_nitP); rfl; rfl) | ((with_reducible apply w_ixk); rfl; rfl; rfl) | ((with_reducible apply w_ixl); rfl; rfl; rfl; rfl) | ((with_reducible apply w_ixt); rfl; rfl; rfl; rfl) | ((with_reducible apply w_mul); rfl; rfl; (exact mulOk_lt (by omega) (by omega))) | ((with_reducible apply w_mod); rfl; rfl; decide) | ((with_reducible apply w_mod); rfl; rfl; omega) | ((with_reducible apply w_div); rfl; rfl; decide) | ((with_reducible apply w_pow); rfl; rfl; decide) | ((with_reducible apply w_nel EqE.str); rfl; rfl) | ((with_reducible apply w_nel EqE.pr); rfl; rfl) | ((with_reducible apply w_eql EqE.str); rfl; rfl) | ((with_reducible apply w_eql EqE.pr); rfl; rfl) | with_reducible refine w_opg ?_) | ((with_reducible refine g_x ?_); first | with_reducible refine w_cons ?_ | with_reducible refine w_asg ?_ | with_reducible refine w_ret ?_ | with_reducible refine w_nil ?_ | with_reducible refine w_exp ?_ | with_reducible refine w_ifs ?_ | with_reducible refine w_par ?_ | with_reducible refine w_unp ?_ | with_reducible refine w_sub ?_ | with_reducible refine w_unpSub ?_ | with_reducible refine w_ps0 ?_ | with_reducible refine w_aug ?_ | with_reducible refine w_pass ?_ | (with_reducible refine w_psc (Nat.le_of_ble_eq_true rfl) ?_) | ((with_reducible apply w_setSub); rfl; rfl) | (with_reducible refine w_setS (Nat.le_of_ble_eq_true rfl) ?_)) | ((with_reducible refine g_r ?_); first | ((with_reducible apply w_izipV); rfl; rfl) | ((with_reducible apply w_test); rfl) | ((with_reducible apply w_fz); rfl) | ((with_reducible apply w_varR); rfl) | with_reducible apply w_andJ | with_reducible apply w_orJ | ((with_reducible apply w_fzR); rfl) | ((with_reducible apply w_outa); rfl) | with_reducible refine w_acons ?_ | with_reducible refine w_anil ?_ | with_reducible refine w_lcons ?_ | with_reducible refine w_lnil ?_ | with_reducible refine w_wcons ?_ | with_reducible refine w_wnil ?_ | with_reducible refine w_b1 ?_ | with_reducible refine w_onon ?_ | with_reducible refine w_osomG ?_ | with_reducible refine w_ownd ?_ | with_reducible refine w_ownl ?_ | with_reducible refine w_ownk ?_ | with_reducible refine w_owna ?_ | with_reducible refine w_rawd ?_ | with_reducible refine w_rawl ?_ | with_reducible refine w_raws ?_ | with_reducible refine w_rawa ?_ | with_reducible refine w_outd ?_ | with_reducible refine w_outl ?_ | with_reducible refine w_ival ?_ | with_reducible refine w_irng1 ?_ | with_reducible refine w_irng2 ?_ | with_reducible refine w_ienm ?_ | with_reducible refine w_izip ?_ | with_reducible refine w_irev ?_ | with_reducible refine w_qnon ?_ | with_reducible refine w_qsom ?_) | ((with_reducible refine CmT.mk ?_ ?_ (fun hb => ?_)); rfl; rfl) | ((with_reducible refine Fin1.mk ?_ ?_); rfl; rfl) | ((with_reducible refine CmI.mk (zip_map _ _) (fun z hz => Exists.intro _ (And.intro ?_ ?_)) ?_); rfl) | ((with_reducible refine CmI.mk (enum_map _) (fun z hz => Exists.intro _ (And.intro ?_ ?_)) ?_); rfl) | ((with_reducible apply CmI.mk); rfl; (intro z hz; (with_reducible apply Exists.intro); (with_reducible apply And.intro); rfl)) | with_reducible refine NormL.mk (nl_s _) ?_ | with_reducible refine NormL.mk (nl_p _) ?_ | with_reducible refine NormL.mk (nl_i _) ?_ | with_reducible refine NormL.mk (nl_b _ _) ?_ | with_reducible refine NormL.mk (nl_sc _ _) ?_ | with_reducible refine NormL.mk (nl_pc _ _ _) ?_ | with_reducible refine NormL.mk (nl_ic _ _) ?_ | ((with_reducible apply NormL.mk); rfl) | (with_reducible refine @UnL.s _ _ _ inferInstance ?_) | (with_reducible refine @UnL.p _ _ _ inferInstance ?_) | with_reducible refine UnL.n ?_ | with_reducible refine AndJ.mk (fun hb => ?_) ?_ | ((with_reducible refine Fin2.mk ?_ ?_); rfl; rfl) | ((with_reducible refine FinS.mk ?_ ?_); rfl; rfl) | ((with_reducible refine FinR.mk ?_ ?_ ?_); rfl; rfl; rfl) | ((with_reducible apply AllT.mk); rfl) | ((with_reducible apply SumT.mk); rfl) | ((with_reducible apply SortT.s); rfl) | ((with_reducible apply SortT.p); rfl) | ((with_reducible apply SlcG.tto); rfl) | ((with_reducible apply SlcG.lto); rfl) | ((with_reducible apply SlcG.tfr); rfl) | ((with_reducible apply SlcG.lfr); rfl) | ((with_reducible apply SlcG.tm); rfl) | ((with_reducible apply SlcG.lm); rfl) | ((with_reducible apply SlcG.an); rfl; rfl) | ((with_reducible apply IdxG.nat); rfl) | ((with_reducible apply IdxG.int); rfl) | ((with_reducible apply VwG.mk'); rfl) | ((with_reducible apply OutG.d); rfl) | ((with_reducible apply OutG.l); rfl) | ((with_reducible apply And.intro); rfl) | ((with_reducible apply And.intro); (exact Nat.le_of_ble_eq_true rfl)) | ((with_reducible apply Exists.intro); (with_reducible apply And.intro); rfl) | ((with_reducible apply Exists.intro); (with_reducible apply Exists.intro); (with_reducible apply And.intro); rfl; (with_reducible apply And.intro); rfl))))
/-! numbers of so many bits -/
def bt (n : Nat) (z : Int) : Prop := z.natAbs < 2 ^ n
theorem bt.mono {n m : Nat} {z : Int} (h : bt n z) (l : n ≤ m) : bt m z := Nat.lt_of_lt_of_le h (Nat.pow_le_pow_right (by decide) l)
theorem bt.add {n : Nat} {a b : Int} (h : bt n a) (h' : bt n b) : bt (n + 1) (a + b) := by
  unfold bt at *
  have := Int.natAbs_add_le a b
  rw [Nat.pow_succ]; omega
theorem bt.mul {n m : Nat} {a b : Int} (h : bt n a) (h' : bt m b) : bt (n + m) (a * b) := by
  unfold bt at *
  rw [Int.natAbs_mul, Nat.pow_add]
  exact Nat.mul_lt_mul'' h h'
theorem bt.log {n : Nat} {z : Int} (h : bt n z) (hn : 0 < n) : z.natAbs.log2 < n := lt_log h hn
theorem bt.mulOk {n m : Nat} {a b : Int} (h : bt n a) (h' : bt m b) (hn : 0 < n) (hm : 0 < m) (l : n + m ≤ 100000000) : mulOk a b = true := by
  have := h.log hn
  have := h'.log hm
  exact decide_eq_true (by omega)
theorem bt.of {n : Nat} {z : Int} (h : Builtin.Int.intBits z ≤ n) : bt n z := by
  unfold bt
  unfold Builtin.Int.intBits at h
  by_cases e : z = 0
  · subst e; exact Nat.two_pow_pos n
  · rw [if_neg (by simpa using e)] at h
    have h2 : z.natAbs ≠ 0 := by omega
    have := (Nat.log2_lt h2 (k := n)).mp (by omega)
    exact this
theorem bt.zero {n : Nat} : bt n 0 := Nat.two_pow_pos n
theorem bt.small {z : Int} (h : -1024 < z ∧ z < 1024) : bt 10 z := by unfold bt; omega
/-- list stores -/
theorem app_ok {xs : List D} {d : D} (h : xs.length < 16777216) : mutD .append xs [d] = some (.none, xs ++ [d]) := by
  show (if xs.length < sizeLine then some (PyData.none, xs ++ [d]) else none) = _
  rw [sizeLine_eq, if_pos h]
theorem map_eraseIdx' {α β : Type} {f : α → β} : ∀ (xs : List α) (k : Nat), (xs.map f).eraseIdx k = (xs.eraseIdx k).map f
  | [], _ => rfl
  | x :: xs, 0 => rfl
  | x :: xs, k + 1 => by simp [map_eraseIdx' xs k]
theorem pop_ok {α : Type} {xs : List α} {f : α → D} {k : Nat} (h : k < xs.length) : mutD .popAt (xs.map f) [.int k] = some (f xs[k], (xs.eraseIdx k).map f) := by
  show ((ixN (xs.map f).length (k : Int)).bind fun k => ((xs.map f)[k]?).map fun d => (d, (xs.map f).eraseIdx k)) = _
  rw [ixN_nat (by simpa using h)]
  show (((xs.map f)[k]?).map fun d => (d, (xs.map f).eraseIdx k)) = _
  rw [List.getElem?_map, List.getElem?_eq_getElem h, map_eraseIdx']; rfl
theorem box_ok {n : Nat} {cells : List Int} (hc : ∀ z ∈ cells, bt n z) (hn : n ≤ 90000000) (k : Nat) (hk : k < 64) : ∃ xs, Bx 0 xs ∧ F_law_box.sem [.d (.list (cells.map .int)), .d (.int k)] = .ok (.ol none xs) [none, none] := by
  obtain ⟨s, o, ⟨xs, h1, h2, h3⟩, e⟩ := sem_of (n := 3) (md := [false, false]) (body := b_law_box) (args := [.d (.list (cells.map .int)), .d (.int k)]) (Q := fun s o => ∃ xs : List D, Bx 0 xs ∧ s = .ol none xs ∧ o = [none, none]) (by
    unfold b_law_box
    trivial
    refine w_ifeJ (enc := .int) (v := cells.getD k 0) (w := 0) ?_
    trivial
    refine ⟨fun h => ?_, fun _ => ?_, ?_⟩
    · trivial
      have h : (k : Int) < ((cells.map PyData.int).length : Nat) := of_decide_eq_true h
      have h : k < cells.length := by simpa using h
      refine OutG.d (ix_l (x := cells.getD k 0) ?_) ?_
      · rw [List.getD_eq_getElem?_getD, List.getElem?_eq_getElem h]; rfl
      · trivial
    · trivial
    · have hz : bt (n + 1) (if decide ((k : Int) < ((cells.map PyData.int).length : Nat)) = true then cells.getD k 0 else 0) := by
        split
        · rename_i h
          have h : (k : Int) < ((cells.map PyData.int).length : Nat) := of_decide_eq_true h
          have h : k < cells.length := by simpa using h
          rw [List.getD_eq_getElem?_getD, List.getElem?_eq_getElem h]
          exact (hc _ (List.getElem_mem h)).mono (by omega)
        · exact bt.zero
      generalize (if decide ((k : Int) < ((cells.map PyData.int).length : Nat)) = true then cells.getD k 0 else 0) = z at hz ⊢
      trivial
      have ha : bt (n + 1) (if z < 0 then -z else z) := by
        split
        · unfold bt at *; rw [Int.natAbs_neg]; exact hz
        · exact hz
      refine OutG.d (x_mul (ha.mulOk (m := 10) (bt.small ?_) (by omega) (by omega) (by omega))) ?_
      · split <;> omega
      have h1 : 0 ≤ (if z < 0 then -z else z) * (if decide ((10 : Int) ^ Int.toNat 18 ≤ if z < 0 then -z else z) = true then 1 else 0) := Int.mul_nonneg (by split <;> omega) (by split <;> omega)
      trivial
      exact ⟨_, ⟨_, _, 0, rfl, h1, ⟨Int.emod_nonneg _ (by decide), by have := Int.emod_lt_of_pos ((z % 2147483629 + 15485863 * ↑k + 43) * 48271) (show (0 : Int) < 2147483647 by decide); omega⟩, by omega, by omega⟩, rfl, rfl⟩)
  exact ⟨xs, h1, by subst h2 h3; exact e⟩
theorem Bx.nn {m : Int} {xs : List D} (h : Bx m xs) : 0 ≤ m := by obtain ⟨a, b, c, e, h1, h2, h3⟩ := h; omega
/-- the first numbers, those behind added on -/
theorem folded_ok {ns : List Int} {n : Nat} (hn : 0 < n ∧ n < 63) (hl : ns.length ≤ 63) (hb : ∀ z ∈ ns, Builtin.Int.intBits z ≤ 1048576) : ∃ cells : List Int, cells.length ≤ n ∧ (∀ z ∈ cells, bt 2000000 z) ∧ F_law_folded.sem [.scr ns, .d (.int n)] = .ok (.ol none (cells.map .int)) [none, none] := by
  have hb : ∀ z ∈ ns, bt 1048576 z := fun z hz => bt.of (hb z hz)
  obtain ⟨s, o, ⟨cells, h1, h2, h3, h4⟩, e⟩ := sem_of (n := 5) (md := [false, false]) (body := b_law_folded) (args := [.scr ns, .d (.int n)]) (Q := fun s o => ∃ cells : List Int, cells.length ≤ n ∧ (∀ z ∈ cells, bt 2000000 z) ∧ s = .ol none (cells.map .int) ∧ o = [none, none]) (by
    unfold b_law_folded
    trivial
    rw [cut_to]
    refine w_for ?_
    trivial
    rw [enum_map]
    refine ⟨fun i ρ => ∃ (cells : List Int) (tv tw : Option Sl), ρ = [some (.scr ns), some (.d (.int n)), some (.ol none (cells.map .int)), tv, tw] ∧ cells.length = min n ns.length ∧ (∀ z ∈ cells, bt (1048600 + i) z), ?_, ?_, ?_⟩
    · exact ⟨ns.take n, none, none, rfl, List.length_take, fun z hz => (hb z (List.mem_of_mem_take hz)).mono (by omega)⟩
    · rintro i x ρ hx ⟨cells, tv, tw, rfl, hc, hz⟩
      rw [List.getElem?_map] at hx
      obtain ⟨⟨c, j⟩, hj, rfl⟩ := Option.map_eq_some_iff.mp hx
      rw [List.getElem?_zipIdx] at hj
      obtain ⟨c', hc', e⟩ := Option.map_eq_some_iff.mp hj
      rw [cut_len] at hc'
      have hi := (List.getElem?_eq_some_iff.mp hc').1
      have hcm : c' ∈ ns := List.mem_of_mem_drop (List.mem_of_mem_take (List.mem_of_getElem? hc'))
      rw [List.length_take, List.length_drop] at hi
      have e1 : c' = c ∧ i = j := by simpa [Nat.zero_add] using e
      obtain ⟨rfl, rfl⟩ := e1
      have hn2 : n < ns.length := by omega
      have hi2 : i < 63 := by omega
      have hlt : i % n < cells.length := by rw [hc, Nat.min_eq_left (by omega)]; exact Nat.mod_lt _ hn.1
      refine ⟨_, rfl, ?_⟩
      trivial
      refine OutG.d (ix_l (k := i % n) (List.getElem?_eq_getElem hlt)) ?_
      trivial
      have b1 : bt 10 (((i : Nat) : Int) + 2) := bt.small (by omega)
      have b2 : bt (1048576 + 10) (c' * (((i : Nat) : Int) + 2)) := (hb c' hcm).mul b1
      refine OutG.d (x_mul ((hb c' hcm).mulOk b1 (by omega) (by omega) (by omega))) ?_
      trivial
      refine w_setSub (n := i % n) rfl (ixN_nat (by simpa using hlt)) ?_
      trivial
      refine ⟨cells.set (i % n) (cells[i % n] + c' * (i + 2)), _, _, by rw [List.map_set]; rfl, by rw [List.length_set, hc], fun z hm => ?_⟩
      rcases List.mem_or_eq_of_mem_set hm with hm | rfl
      · exact (hz z hm).mono (by omega)
      · exact ((hz _ (List.getElem_mem hlt)).add (b2.mono (by omega))).mono (by omega)
    · rintro ρ ⟨cells, tv, tw, rfl, hc, hz⟩
      rw [List.length_map, List.length_zipIdx, cut_len, List.length_take] at hz
      trivial
      exact ⟨cells, by rw [hc]; exact Nat.min_le_left _ _, fun z hm => (hz z hm).mono (by omega), rfl, rfl⟩)
  exact ⟨cells, h1, h2, by subst h3 h4; exact e⟩
/-- in a drawn order -/
theorem order_ok {α : Type} {f : α → D} {bx : List D} {m : Int} {ys : List α} (hB : Bx m bx) (hm : m + ys.length ≤ 1000000) {d : D} (hd : d = .list (ys.map f) ∨ d = .tuple (ys.map f)) :
    ∃ (zs : List α) (bx' : List D), zs.Perm ys ∧ Bx (m + ys.length) bx' ∧ F_law_order.sem [.ol (some 0) bx, .d d] = .ok (.ol none (zs.map f)) [some (.ol (some 0) bx'), none] := by
  obtain ⟨s, o, ⟨zs, bx', h1, h2, h3, h4⟩, e⟩ := sem_of (n := 5) (md := [true, false]) (body := b_law_order) (args := [.ol (some 0) bx, .d d]) (Q := fun s o => ∃ (zs : List α) (bx' : List D), zs.Perm ys ∧ Bx (m + ys.length) bx' ∧ s = .ol none (zs.map f) ∧ o = [some (.ol (some 0) bx'), none]) (by
    have hm0 := hB.nn
    unfold b_law_order
    trivial
    have e1 : bltD .list [d] = some (.l (ys.map f)) := by rcases hd with rfl | rfl <;> rfl
    refine OutG.l e1 ?_
    trivial
    refine w_for ?_
    trivial
    refine ⟨⟨by omega, by simp; omega⟩, ?_⟩
    refine ⟨fun i ρ => ∃ (bx : List D) (lf fd : List α) (tv : Option Sl), ρ = [some (.ol (some 0) bx), some (.d d), some (.ol none (lf.map f)), some (.ol none (fd.map f)), tv] ∧ Bx (m + i) bx ∧ (fd ++ lf).Perm ys ∧ lf.length + i = ys.length, ?_, ?_, ?_⟩
    · exact ⟨bx, ys, [], none, rfl, by simpa using hB, by simp, by simp⟩
    · rintro i x ρ hx ⟨bx, lf, fd, tv, rfl, hB, hp, hl⟩
      have hi : i < ys.length := by
        have := (List.getElem?_eq_some_iff.mp hx).1
        simpa [rngItems] using this
      refine ⟨_, rfl, ?_⟩
      trivial
      refine w_take rfl rfl ?_
      trivial
      refine ⟨_, m + i, _, _, rfl, rfl, hB, by omega, by simp; omega, fun r bx' hr hB' => ?_⟩
      trivial
      have hr : r < lf.length := by simpa using hr
      refine ⟨_, _, _, _, rfl, pop_ok hr, ?_⟩
      trivial
      refine ⟨_, _, _, _, rfl, app_ok ?_, ?_⟩
      · have := hp.length_eq; simp at *; omega
      · trivial
        refine ⟨bx', lf.eraseIdx r, fd ++ [lf[r]], _, by simp; rfl, by simpa [Int.add_assoc] using hB', ?_, ?_⟩
        · refine List.Perm.trans ?_ hp
          rw [List.append_assoc]
          exact List.Perm.append_left _ (perm_eraseIdx lf r hr)
        · rw [List.length_eraseIdx, if_pos hr]; omega
    · rintro ρ ⟨bx', lf, fd, tv, rfl, hB', hp, hl⟩
      have hlf : lf = [] := List.eq_nil_of_length_eq_zero (by simp only [rngItems, List.length_map, List.length_range, Int.toNat_natCast] at hl; omega)
      subst hlf
      trivial
      exact ⟨fd, bx', by simpa using hp, by simpa [rngItems] using hB', rfl, rfl⟩)
  exact ⟨zs, bx', h1, h2, by subst h3 h4; exact e⟩
end Pw
/-! what the shared helpers of the laws compute: names, a drawn evening -/
namespace Pw
open PySem PySem.Spec PyProof.Rows L2
set_option hygiene false
local macro_rules | `(tactic| trivial) => `(tactic| (repeat (first | ((with_reducible refine g_ev ?_); first | ((with_reducible apply w_var); rfl) | with_reducible refine w_bin ?_ | with_reducible refine w_cmp ?_ | with_reducible refine w_idx ?_ | with_reducible refine w_li ?_ | with_reducible refine w_ls ?_ | with_reducible refine w_lb ?_ | with_reducible refine w_ln ?_ | with_reducible refine w_glo ?_ | with_reducible refine w_not ?_ | with_reducible refine w_tup ?_ | with_reducible refine w_lstU ?_ | with_reducible refine w_bsort ?_ | with_reducible refine w_and ?_ | with_reducible refine w_or ?_ | with_reducible refine w_slg ?_ | with_reducible refine w_isi ?_ | with_reducible refine w_metg ?_ | with_reducible refine w_mut ?_ | with_reducible refine w_neg ?_ | with_reducible refine w_dct ?_ | (with_reducible refine w_c1 rfl ?_) | (with_reducible refine w_c2 rfl ?_) | (with_reducible refine w_c3 rfl ?_) | (with_reducible refine w_c4 rfl ?_) | (with_reducible refine w_c5 rfl ?_) | with_reducible apply w_ball | with_reducible apply w_bany | with_reducible apply w_bsum | with_reducible refine w_bltg ?_ | ((with_reducible apply w_cm); rfl) | ((with_reducible apply w_cm0); rfl) | ((with_reducible apply w_sscrM); rfl)) | ((with_reducible refine g_op ?_); first | ((with_reducible apply w_add); rfl; rfl) | ((with_reducible apply w_sb); rfl; rfl) | ((with_reducible apply w_gt); rfl; rfl) | ((with_reducible apply w_lt); rfl; rfl) | ((with_reducible apply w_ge); rfl; rfl) | ((with_reducible apply w_le); rfl; rfl) | ((with_reducible apply w_eqI); rfl; rfl) | ((with_reducible apply w_neI); rfl; rfl) | ((with_reducible apply w_eqS); rfl; rfl) | ((with_reducible apply w_neS); rfl; rfl) | ((with_reducible apply w_eqB); rfl; rfl) | ((with_reducible apply w_neB); rfl; rfl) | ((with_reducible apply w_inlS); rfl; rfl) | ((with_reducible apply w_intS); rfl; rfl) | ((with_reducible apply w_nilS); rfl; rfl) | ((with_reducible apply w_nitS); rfl; rfl) | ((with_reducible apply w_inlP); rfl; rfl) | ((with_reducible apply w_intP); rfl; rfl) | ((with_reducible apply w_nilP); rfl; rfl) | ((with_reducible apply w_nitP); rfl; rfl) | ((with_reducible apply w_ixk); rfl; rfl; rfl) | ((with_reducible apply w_ixl); rfl; rfl; rfl; rfl) | ((with_reducible apply w_ixt); rfl; rfl; rfl; rfl) | ((with_reducible apply w_mul); rfl; rfl; (exact mulOk_lt (by omega) (by omega))) | ((with_reducible apply w_mod); rfl; rfl; decide) | ((with_reducible apply w_mod); rfl; rfl; omega) | ((with_reducible apply w_div); rfl; rfl; decide) | ((with_reducible apply w_pow); rfl; rfl; decide) | ((with_reducible apply w_nel EqE.str); rfl; rfl) | ((with_reducible apply w_nel EqE.pr); rfl; rfl) | ((with_reducible apply w_eql EqE.str); rfl; rfl) | ((with_reducible apply w_eql EqE.pr); rfl; rfl) | with_reducible refine w_opg ?_) | ((with_reducible refine g_x ?_); first | with_reducible refine w_cons ?_ | with_reducible refine w_asg ?_ | with_reducible refine w_ret ?_ | with_reducible refine w_nil ?_ | with_reducible refine w_exp ?_ | with_reducible refine w_ifs ?_ | with_reducible refine w_par ?_ | with_reducible refine w_unp ?_ | with_reducible refine w_sub ?_ | with_reducible refine w_unpSub ?_ | with_reducible refine w_ps0 ?_ | with_reducible refine w_aug ?_ | with_reducible refine w_pass ?_ | (with_reducible refine w_psc (Nat.le_of_ble_eq_true rfl) ?_) | ((with_reducible apply w_setSub); rfl; rfl) | (with_reducible refine w_setS (Nat.le_of_ble_eq_true rfl) ?_)) | ((with_reducible refine g_r ?_); first | ((with_reducible apply w_izipV); rfl; rfl) | ((with_reducible apply w_test); rfl) | ((with_reducible apply w_fz); rfl) | ((with_reducible apply w_varR); rfl) | with_reducible apply w_andJ | with_reducible apply w_orJ | ((with_reducible apply w_fzR); rfl) | ((with_reducible apply w_outa); rfl) | with_reducible refine w_acons ?_ | with_reducible refine w_anil ?_ | with_reducible refine w_lcons ?_ | with_reducible refine w_lnil ?_ | with_reducible refine w_wcons ?_ | with_reducible refine w_wnil ?_ | with_reducible refine w_b1 ?_ | with_reducible refine w_onon ?_ | with_reducible refine w_osomG ?_ | with_reducible refine w_ownd ?_ | with_reducible refine w_ownl ?_ | with_reducible refine w_ownk ?_ | with_reducible refine w_owna ?_ | with_reducible refine w_rawd ?_ | with_reducible refine w_rawl ?_ | with_reducible refine w_raws ?_ | with_reducible refine w_rawa ?_ | with_reducible refine w_outd ?_ | with_reducible refine w_outl ?_ | with_reducible refine w_ival ?_ | with_reducible refine w_irng1 ?_ | with_reducible refine w_irng2 ?_ | with_reducible refine w_ienm ?_ | with_reducible refine w_izip ?_ | with_reducible refine w_irev ?_ | with_reducible refine w_qnon ?_ | with_reducible refine w_qsom ?_) | ((with_reducible refine CmT.mk ?_ ?_ (fun hb => ?_)); rfl; rfl) | ((with_reducible refine Fin1.mk ?_ ?_); rfl; rfl) | ((with_reducible refine CmI.mk (zip_map _ _) (fun z hz => Exists.intro _ (And.intro ?_ ?_)) ?_); rfl) | ((with_reducible refine CmI.mk (enum_map _) (fun z hz => Exists.intro _ (And.intro ?_ ?_)) ?_); rfl) | ((with_reducible apply CmI.mk); rfl; (intro z hz; (with_reducible apply Exists.intro); (with_reducible apply And.intro); rfl)) | with_reducible refine NormL.mk (nl_s _) ?_ | with_reducible refine NormL.mk (nl_p _) ?_ | with_reducible refine NormL.mk (nl_i _) ?_ | with_reducible refine NormL.mk (nl_b _ _) ?_ | with_reducible refine NormL.mk (nl_sc _ _) ?_ | with_reducible refine NormL.mk (nl_pc _ _ _) ?_ | with_reducible refine NormL.mk (nl_ic _ _) ?_ | ((with_reducible apply NormL.mk); rfl) | (with_reducible refine @UnL.s _ _ _ inferInstance ?_) | (with_reducible refine @UnL.p _ _ _ inferInstance ?_) | with_reducible refine UnL.n ?_ | with_reducible refine AndJ.mk (fun hb => ?_) ?_ | ((with_reducible refine Fin2.mk ?_ ?_); rfl; rfl) | ((with_reducible refine FinS.mk ?_ ?_); rfl; rfl) | ((with_reducible refine FinR.mk ?_ ?_ ?_); rfl; rfl; rfl) | ((with_reducible apply AllT.mk); rfl) | ((with_reducible apply SumT.mk); rfl) | ((with_reducible apply SortT.s); rfl) | ((with_reducible apply SortT.p); rfl) | ((with_reducible apply SlcG.tto); rfl) | ((with_reducible apply SlcG.lto); rfl) | ((with_reducible apply SlcG.tfr); rfl) | ((with_reducible apply SlcG.lfr); rfl) | ((with_reducible apply SlcG.tm); rfl) | ((with_reducible apply SlcG.lm); rfl) | ((with_reducible apply SlcG.an); rfl; rfl) | ((with_reducible apply IdxG.nat); rfl) | ((with_reducible apply IdxG.int); rfl) | ((with_reducible apply VwG.mk'); rfl) | ((with_reducible apply OutG.d); rfl) | ((with_reducible apply OutG.l); rfl) | ((with_reducible apply And.intro); rfl) | ((with_reducible apply And.intro); (exact Nat.le_of_ble_eq_true rfl)) | ((with_reducible apply Exists.intro); (with_reducible apply And.intro); rfl) | ((with_reducible apply Exists.intro); (with_reducible apply Exists.intro); (with_reducible apply And.intro); rfl; (with_reducible apply And.intro); rfl))))
def ltr (k : Nat) : Str := ⟨#[97 + k % 26]⟩
abbrev abc : Str := "abcdefghijklmnopqrstuvwxyz"
theorem abc_at (k : Nat) (h : k < 26) : idxSeq (.str abc) (.int (k : Int)) = some (.d (.str (ltr k))) := by
  show (atI abc.cps.toList (k : Int)).map _ = _
  have e : abc.cps.toList = (List.range 26).map (97 + ·) := by decide +kernel
  unfold atI
  rw [e, ixN_nat (by simpa using h)]
  show Option.map _ (((List.range 26).map (97 + ·))[k]?) = _
  rw [List.getElem?_map, List.getElem?_range h]
  show some (Rs.d (.str ⟨#[97 + k]⟩)) = _
  unfold ltr; rw [Nat.mod_eq_of_lt h]
theorem strsD_map : ∀ xs : List Str, strsD (xs.map .str) = some xs
  | [] => rfl
  | x :: xs => by show (strsD (xs.map .str)).map (x :: ·) = _; rw [strsD_map xs]; rfl
theorem cps_app (a b : Str) : (a ++ b).cps.toList = a.cps.toList ++ b.cps.toList := by
  show (a.cps ++ b.cps).toList = _; simp
theorem join_cps : ∀ xs : List Str, (Str.join "" xs).cps.toList = (xs.map fun x => x.cps.toList).flatten
  | [] => rfl
  | [x] => by show x.cps.toList = _; simp
  | x :: y :: r => by
    show (x ++ "" ++ Str.join "" (y :: r)).cps.toList = _
    rw [cps_app, cps_app, join_cps (y :: r)]
    have : (Str.ofString "").cps.toList = [] := by decide +kernel
    rw [this]; simp
/-- letters a to z -/
def az (z : Str) : Prop := ∀ c ∈ z.cps.toList, 97 ≤ c ∧ c ≤ 122
theorem sOk_az {z : Str} (h : az z) (hl : z.length ≤ 16777216) : sOk z = true := by
  refine sOk.mk ?_ (by rw [sizeLine_eq]; exact hl)
  show z.cps.all (· < 0x110000) = true
  rw [← Array.all_toList, List.all_eq_true]
  intro c hc
  have := h c hc
  exact decide_eq_true (by omega)
theorem ltr_az (k : Nat) : az (ltr k) := by
  intro c hc
  have : c = 97 + k % 26 := by simpa [ltr] using hc
  have := Nat.mod_lt k (show 0 < 26 by decide)
  omega
theorem join_ltrs (ks : List Nat) (h : ks.length ≤ 10) : ∃ z : Str, joinD "" (.list ((ks.map ltr).map .str)) = some (.d (.str z)) ∧ az z ∧ z.length = ks.length := by
  have e1 : Txt.join "" (ks.map ltr) = Str.join "" (ks.map ltr) := StrLaws.glued_eq_join _ _
  have e2 : (Str.join "" (ks.map ltr)).cps.toList = ks.map fun k => 97 + k % 26 := by
    rw [join_cps, List.map_map]
    clear h e1
    induction ks with
    | nil => rfl
    | cons k ks ih => rw [List.map_cons, List.flatten_cons, ih]; rfl
  have hz : az (Str.join "" (ks.map ltr)) := by
    intro c hc
    rw [e2] at hc
    obtain ⟨k, _, rfl⟩ := List.mem_map.mp hc
    have := Nat.mod_lt k (show 0 < 26 by decide)
    omega
  have hl : (Str.join "" (ks.map ltr)).length = ks.length := by
    show (Str.join "" (ks.map ltr)).cps.size = _
    rw [← Array.length_toList, e2, List.length_map]
  refine ⟨_, ?_, hz, hl⟩
  show (match (seqD (.list ((ks.map ltr).map .str))).bind strsD with
    | some (ys : List Str) => if (ys.map fun x : Str => x.length).sum + ys.length * (Str.ofString "").length ≤ 16777216 ∧ sOk (Txt.join "" ys) = true then some (Rs.d (.str (Txt.join "" ys))) else none
    | none => none) = _
  have : (seqD (.list ((ks.map ltr).map .str))).bind strsD = some (ks.map ltr) := strsD_map _
  rw [this]
  dsimp only
  have e3 : ((ks.map ltr).map fun x : Str => x.length).sum = ks.length := by
    clear e1 e2 hz hl this h
    induction ks with
    | nil => rfl
    | cons k ks ih => simp only [List.map_cons, List.sum_cons, ih, List.length_cons]; show 1 + ks.length = _; omega
  have e4 : (Str.ofString "").length = 0 := by decide +kernel
  rw [if_pos ⟨by rw [e3, e4]; omega, by rw [e1]; exact sOk_az hz (by omega)⟩, e1]
/-- a drawn name -/
structure Nm (z : Str) : Prop where
  az : az z
  le : 1 ≤ z.length ∧ z.length ≤ 8
  sh : z.length ≤ 6 ∨ ∃ p, z.cps.toList = p ++ [97, 98]
def nmAt (stem : Str) (f st lo : Nat) (k : Nat) : Str := stem ++ ltr (f + st * (if lo = 1 then k / 2 else k)) ++ (if lo = 1 ∧ k % 2 = 1 then Str.ofString "ab" else Str.empty)
theorem ab_cps : (Str.ofString "ab").cps.toList = [97, 98] := by decide +kernel
theorem nmAt_cps (stem : Str) (f st lo k : Nat) : (nmAt stem f st lo k).cps.toList = stem.cps.toList ++ ([97 + (f + st * (if lo = 1 then k / 2 else k)) % 26] ++ if lo = 1 ∧ k % 2 = 1 then [97, 98] else []) := by
  unfold nmAt
  rw [cps_app, cps_app, List.append_assoc]
  congr 2
  split
  · exact ab_cps
  · rfl
theorem nmAt_nm {stem : Str} {f st lo k : Nat} (h : az stem) (hl : stem.length ≤ 5) : Nm (nmAt stem f st lo k) := by
  have e := nmAt_cps stem f st lo k
  have el : (nmAt stem f st lo k).length = stem.length + (1 + if lo = 1 ∧ k % 2 = 1 then 2 else 0) := by
    show (nmAt stem f st lo k).cps.size = _
    rw [← Array.length_toList, e, List.length_append, List.length_append]
    show stem.cps.toList.length + _ = stem.cps.size + _
    rw [Array.length_toList]
    by_cases q : lo = 1 ∧ k % 2 = 1
    · rw [if_pos q, if_pos q]; rfl
    · rw [if_neg q, if_neg q]; rfl
  have hm := Nat.mod_lt (f + st * (if lo = 1 then k / 2 else k)) (show 0 < 26 by decide)
  refine ⟨?_, ?_, ?_⟩
  · intro c hc
    rw [e] at hc
    rcases List.mem_append.mp hc with hc | hc
    · exact h c hc
    · rcases List.mem_append.mp hc with hc | hc
      · have := List.mem_singleton.mp hc; omega
      · split at hc
        · simp at hc; omega
        · simp at hc
  · rw [el]; split <;> omega
  · by_cases q : lo = 1 ∧ k % 2 = 1
    · right; rw [e, if_pos q]; exact ⟨stem.cps.toList ++ [97 + (f + st * (if lo = 1 then k / 2 else k)) % 26], by simp⟩
    · left; rw [el, if_neg q]; omega
theorem step_inj {f st a b : Nat} (hs : st = 1 ∨ st = 3 ∨ st = 25) (ha : a < 26) (hb : b < 26) (h : (f + st * a) % 26 = (f + st * b) % 26) : a = b := by
  rcases hs with rfl | rfl | rfl <;> omega
theorem nmAt_inj {stem : Str} {f st lo a b : Nat} (hs : st = 1 ∨ st = 3 ∨ st = 25) (ha : a < 26) (hb : b < 26) (h : nmAt stem f st lo a = nmAt stem f st lo b) : a = b := by
  have e := congrArg (fun z : Str => z.cps.toList) h
  simp only [nmAt_cps] at e
  have e := List.append_cancel_left e
  by_cases q : lo = 1
  · subst q
    have e1 : (f + st * (a / 2)) % 26 = (f + st * (b / 2)) % 26 := by
      have := (List.cons.inj e).1
      simp at this; omega
    have e2 := step_inj hs (a := a / 2) (b := b / 2) (by omega) (by omega) e1
    have e3 := (List.cons.inj e).2
    by_cases qa : a % 2 = 1 <;> by_cases qb : b % 2 = 1 <;> simp [qa, qb] at e3 <;> omega
  · have e1 : (f + st * a) % 26 = (f + st * b) % 26 := by
      have := (List.cons.inj e).1
      simp [q] at this; omega
    exact step_inj hs ha hb e1
theorem strAdd {a b : Str} (h : a.length + b.length ≤ 16777216) : binD .Add (.str a) (.str b) = some (.d (.str (a ++ b))) := by
  show (match addI (.str a) (.str b) with | some r => some r | none => _) = _
  show (match addS (.str a) (.str b) with | some r => some r | none => _) = _
  have : addS (.str a) (.str b) = some (.d (.str (a ++ b))) := if_pos (by rw [sizeLine_eq]; exact h)
  rw [this]
theorem strMul {a : Str} {n : Int} (h : 0 ≤ n ∧ n ≤ 1) : binD .Mult (.str a) (.int n) = some (.d (.str (if n < 1 then Str.empty else a))) := by
  show (match mulI (.str a) (.int n) with | some r => some r | none => _) = _
  show (match repL (.str a) (.int n) with | some r => some r | none => _) = _
  show repS (.str a) (.int n) = _
  exact if_pos (by omega)
/-- so many unlike names -/
theorem names_ok {bx : List D} {m : Int} {k : Nat} (hB : Bx m bx) (hm : m ≤ 900000) (hk : k ≤ 26) : ∃ (zs : List Str) (bx' : List D), zs.length = k ∧ zs.Nodup ∧ (∀ z ∈ zs, Nm z) ∧ Bx (m + 10) bx' ∧
    F_law_names.sem [.ol (some 0) bx, .d (.int k)] = .ok (.ol none (zs.map .str)) [some (.ol (some 0) bx'), none] := by
  obtain ⟨s, o, ⟨zs, bx', h1, h2, h3, h4, h5, h6⟩, e⟩ := sem_of (n := 11) (md := [true, false]) (body := b_law_names) (args := [.ol (some 0) bx, .d (.int k)]) (Q := fun s o => ∃ (zs : List Str) (bx' : List D), zs.length = k ∧ zs.Nodup ∧ (∀ z ∈ zs, Nm z) ∧ Bx (m + 10) bx' ∧ s = .ol none (zs.map .str) ∧ o = [some (.ol (some 0) bx'), none]) (by
    have hm0 := hB.nn
    unfold b_law_names
    trivial
    refine w_take rfl rfl ?_
    trivial
    refine ⟨_, m, _, _, rfl, rfl, hB, by omega, by omega, fun fi bx hfi hB => ?_⟩
    trivial
    refine w_comp ?_
    trivial
    refine w_take rfl rfl ?_
    trivial
    refine ⟨_, m + 1, _, _, rfl, rfl, hB, by omega, by omega, fun n1 bx hn1 hB => ?_⟩
    trivial
    refine ⟨by omega, ?_⟩
    refine ⟨fun i ρ acc => ∃ (bx : List D) (ks : List Nat), ρ = [some (.ol (some 0) bx), some (.d (.int k)), some (.d (.str abc)), some (.d (.int fi)), some (.ol none []), none, none, none, none, none, none] ∧ acc = (ks.map ltr).map .str ∧ ks.length = i ∧ Bx (m + 2 + i) bx, ?_, ?_, ?_⟩
    · exact ⟨bx, [], rfl, rfl, rfl, hB.mono (by omega)⟩
    · rintro i x ρ acc hx ⟨bx, ks, rfl, rfl, hl, hB⟩
      have hi : i < n1 := by
        have := (List.getElem?_eq_some_iff.mp hx).1
        simpa [rngItems] using this
      refine ⟨_, rfl, ?_⟩
      trivial
      rw [if_pos rfl]
      trivial
      refine w_take rfl rfl ?_
      trivial
      refine ⟨_, m + 2 + i, _, _, rfl, rfl, hB, by omega, by omega, fun r bx hr hB => ?_⟩
      trivial
      refine OutG.d (abc_at r (by omega)) ?_
      trivial
      exact ⟨bx, ks ++ [r], rfl, by simp, by simp [hl], by simpa [Int.add_assoc] using hB⟩
    · rintro ρ acc ⟨bx, ks, rfl, rfl, hl, hB⟩
      have hl : ks.length = n1 := by simpa [rngItems] using hl
      obtain ⟨stem, e1, e2, e3⟩ := join_ltrs ks (by omega)
      trivial
      refine OutG.d e1 ?_
      trivial
      refine w_take rfl rfl ?_
      trivial
      refine ⟨_, m + 2 + n1, _, _, rfl, rfl, hB.mono (by simp [rngItems]), by omega, by omega, fun r bx hr hB => ?_⟩
      trivial
      have es : ∃ st : Nat, (st = 1 ∨ st = 3 ∨ st = 25) ∧ idxSeq (.list [.int 1, .int 3, .int 25]) (.int (r : Int)) = some (.d (.int (st : Int))) := by
        match r, hr with
        | 0, _ => exact ⟨1, .inl rfl, rfl⟩
        | 1, _ => exact ⟨3, .inr (.inl rfl), rfl⟩
        | 2, _ => exact ⟨25, .inr (.inr rfl), rfl⟩
        | n + 3, h => omega
      obtain ⟨st, hst, es⟩ := es
      refine OutG.d es ?_
      trivial
      refine w_take rfl rfl ?_
      trivial
      refine ⟨_, m + 3 + n1, _, _, rfl, rfl, hB.mono (by omega), by omega, by omega, fun lo bx hlo hB => ?_⟩
      trivial
      refine w_for ?_
      trivial
      refine ⟨by omega, ?_⟩
      refine ⟨fun i ρ => ∃ (tv tw : Option Sl), ρ = [some (.ol (some 0) bx), some (.d (.int k)), some (.d (.str abc)), some (.d (.int fi)), some (.ol none (((List.range i).map (nmAt stem fi st lo)).map .str)), some (.d (.str stem)), some (.d (.int st)), some (.d (.int lo)), tv, tw, none], ?_, ?_, ?_⟩
      · exact ⟨none, none, rfl⟩
      · rintro i x ρ hx ⟨tv, tw, rfl⟩
        have hi : i < k := by
          have := (List.getElem?_eq_some_iff.mp hx).1
          simpa [rngItems] using this
        have ex : x = .int (i : Int) := by
          unfold rngItems at hx
          rw [List.getElem?_map, List.getElem?_range (by simpa using hi)] at hx
          have := Option.some.inj hx
          rw [← this]; simp
        subst ex
        refine ⟨_, rfl, ?_⟩
        trivial
        refine w_ifeJ (enc := .int) (v := ((i / 2 : Nat) : Int)) (w := (i : Int)) ?_
        trivial
        refine ⟨fun _ => ?_, fun _ => ?_, ?_⟩
        · trivial
        · trivial
        have ei : (if decide ((lo : Int) = 1) = true then ((i / 2 : Nat) : Int) else (i : Int)) = ((if lo = 1 then i / 2 else i : Nat) : Int) := by
          by_cases q : lo = 1
          · subst q; rfl
          · rw [if_neg (by simp; omega), if_neg q]
        rw [ei]
        have hq : (if lo = 1 then i / 2 else i) < 26 := by split <;> omega
        generalize hqe : (if lo = 1 then i / 2 else i) = q at hq ⊢
        trivial
        refine OutG.d (abc_at ((fi + st * q) % 26) (Nat.mod_lt _ (by decide))) ?_
        trivial
        refine OutG.d (strAdd (by show stem.length + 1 ≤ _; omega)) ?_
        trivial
        refine OutG.d (strMul (by split <;> omega)) ?_
        trivial
        have ea : (if (if (decide ((lo : Int) = 1) && decide (((i : Nat) : Int) % 2 = 1)) = true then (1 : Int) else 0) < 1 then Str.empty else Str.ofString "ab") = (if lo = 1 ∧ i % 2 = 1 then Str.ofString "ab" else Str.empty) := by
          by_cases q1 : lo = 1
          · by_cases q2 : i % 2 = 1
            · have q2' : ((i : Nat) : Int) % 2 = 1 := by omega
              simp [q1, q2, q2']
            · have q2' : ¬ ((i : Nat) : Int) % 2 = 1 := by omega
              simp [q1, q2, q2']
          · have q1' : ¬ (lo : Int) = 1 := by omega
            simp [q1, q1']
        rw [ea]
        have en : stem ++ ltr ((fi + st * q) % 26) ++ (if lo = 1 ∧ i % 2 = 1 then Str.ofString "ab" else Str.empty) = nmAt stem fi st lo i := by
          unfold nmAt ltr
          rw [hqe, Nat.mod_mod]
        refine OutG.d (strAdd ?_) ?_
        · have e5 : (stem ++ ltr ((fi + st * q) % 26)).length = stem.length + 1 := by
            show (stem ++ ltr ((fi + st * q) % 26)).cps.size = _
            rw [← Array.length_toList, cps_app, List.length_append, Array.length_toList]; rfl
          have e6 : (if lo = 1 ∧ i % 2 = 1 then Str.ofString "ab" else Str.empty).length ≤ 2 := by split <;> decide +kernel
          omega
        rw [en]
        trivial
        refine ⟨_, _, _, _, rfl, app_ok (by simp; omega), ?_⟩
        trivial
        exact ⟨_, _, by rw [List.range_succ, List.map_append, List.map_append]; rfl⟩
      · rintro ρ ⟨tv, tw, rfl⟩
        trivial
        refine ⟨(List.range k).map (nmAt stem fi st lo), bx, by simp, ?_, fun z hz => ?_, hB.mono (by omega), by simp [rngItems], rfl⟩
        · rw [List.nodup_iff_pairwise_ne, List.pairwise_map]
          refine (List.nodup_iff_pairwise_ne.mp List.nodup_range).imp_of_mem fun ha hb hne e => hne (nmAt_inj hst ?_ ?_ e)
          · have := List.mem_range.mp ha; omega
          · have := List.mem_range.mp hb; omega
        · obtain ⟨j, _, rfl⟩ := List.mem_map.mp hz
          exact nmAt_nm e2 (by omega))
  exact ⟨zs, bx', h1, h2, h3, h4, by subst h5 h6; exact e⟩
/-- an evening's own facts -/
structure Eve (r g l : List Str) : Prop where
  rn : r.Nodup
  gn : g.Nodup
  gs : g.Pairwise fun a b => sle a b = true
  ls : l.Sublist g
  len : r.length = g.length
  rm : ∀ x ∈ r, Nm x
  gm : ∀ x ∈ g, Nm x
end Pw
/-! what the shared helpers of the later laws compute: strewn, a drawn night -/
namespace Pw
open PySem PySem.Spec PyProof.Rows L2
-- SPECS: is_seeker_ok:2d loose_ok:1l takers_ok:1l law_seeks1_ok:2d
set_option hygiene false
local macro_rules | `(tactic| trivial) => `(tactic| (repeat (first | ((with_reducible refine g_ev ?_); first | ((with_reducible apply w_var); rfl) | with_reducible refine w_bin ?_ | with_reducible refine w_cmp ?_ | with_reducible refine w_idx ?_ | with_reducible refine w_li ?_ | with_reducible refine w_ls ?_ | with_reducible refine w_lb ?_ | with_reducible refine w_ln ?_ | with_reducible refine w_glo ?_ | with_reducible refine w_not ?_ | with_reducible refine w_tup ?_ | with_reducible refine w_lstU ?_ | with_reducible refine w_bsort ?_ | with_reducible refine w_and ?_ | with_reducible refine w_or ?_ | with_reducible refine w_slg ?_ | with_reducible refine w_isi ?_ | with_reducible refine w_metg ?_ | with_reducible refine w_mut ?_ | with_reducible refine w_neg ?_ | with_reducible refine w_dct ?_ | (with_reducible refine w_c1 rfl ?_) | (with_reducible refine w_c2 rfl ?_) | (with_reducible refine w_c3 rfl ?_) | (with_reducible refine w_c4 rfl ?_) | (with_reducible refine w_c5 rfl ?_) | with_reducible apply w_ball | with_reducible apply w_bany | with_reducible apply w_bsum | with_reducible refine w_bltg ?_ | ((with_reducible apply w_cm); rfl) | ((with_reducible apply w_cm0); rfl) | ((with_reducible apply w_sscrM); rfl)) | ((with_reducible refine g_op ?_); first | ((with_reducible apply w_add); rfl; rfl) | ((with_reducible apply w_sb); rfl; rfl) | ((with_reducible apply w_gt); rfl; rfl) | ((with_reducible apply w_lt); rfl; rfl) | ((with_reducible apply w_ge); rfl; rfl) | ((with_reducible apply w_le); rfl; rfl) | ((with_reducible apply w_eqI); rfl; rfl) | ((with_reducible apply w_neI); rfl; rfl) | ((with_reducible apply w_eqS); rfl; rfl) | ((with_reducible apply w_neS); rfl; rfl) | ((with_reducible apply w_eqB); rfl; rfl) | ((with_reducible apply w_neB); rfl; rfl) | ((with_reducible apply w_inlS); rfl; rfl) | ((with_reducible apply w_intS); rfl; rfl) | ((with_reducible apply w_nilS); rfl; rfl) | ((with_reducible apply w_nitS); rfl; rfl) | ((with_reducible apply w_inlP); rfl; rfl) | ((with_reducible apply w_intP); rfl; rfl) | ((with_reducible apply w_nilP); rfl; rfl) | ((with_reducible apply w_nitP); rfl; rfl) | ((with_reducible apply w_ixk); rfl; rfl; rfl) | ((with_reducible apply w_ixl); rfl; rfl; rfl; rfl) | ((with_reducible apply w_ixt); rfl; rfl; rfl; rfl) | ((with_reducible apply w_mul); rfl; rfl; (exact mulOk_lt (by omega) (by omega))) | ((with_reducible apply w_mod); rfl; rfl; decide) | ((with_reducible apply w_mod); rfl; rfl; omega) | ((with_reducible apply w_div); rfl; rfl; decide) | ((with_reducible apply w_pow); rfl; rfl; decide) | ((with_reducible apply w_nel EqE.str); rfl; rfl) | ((with_reducible apply w_nel EqE.pr); rfl; rfl) | ((with_reducible apply w_eql EqE.str); rfl; rfl) | ((with_reducible apply w_eql EqE.pr); rfl; rfl) | with_reducible refine w_opg ?_) | ((with_reducible refine g_x ?_); first | with_reducible refine w_cons ?_ | with_reducible refine w_asg ?_ | with_reducible refine w_ret ?_ | with_reducible refine w_nil ?_ | with_reducible refine w_exp ?_ | with_reducible refine w_ifs ?_ | with_reducible refine w_par ?_ | with_reducible refine w_unp ?_ | with_reducible refine w_sub ?_ | with_reducible refine w_unpSub ?_ | with_reducible refine w_ps0 ?_ | with_reducible refine w_aug ?_ | with_reducible refine w_pass ?_ | (with_reducible refine w_psc (Nat.le_of_ble_eq_true rfl) ?_) | ((with_reducible apply w_setSub); rfl; rfl) | (with_reducible refine w_setS (Nat.le_of_ble_eq_true rfl) ?_)) | ((with_reducible refine g_r ?_); first | ((with_reducible apply w_izipV); rfl; rfl) | ((with_reducible apply w_test); rfl) | ((with_reducible apply w_fz); rfl) | ((with_reducible apply w_varR); rfl) | with_reducible apply w_andJ | with_reducible apply w_orJ | ((with_reducible apply w_fzR); rfl) | ((with_reducible apply w_outa); rfl) | with_reducible refine w_acons ?_ | with_reducible refine w_anil ?_ | with_reducible refine w_lcons ?_ | with_reducible refine w_lnil ?_ | with_reducible refine w_wcons ?_ | with_reducible refine w_wnil ?_ | with_reducible refine w_b1 ?_ | with_reducible refine w_onon ?_ | with_reducible refine w_osomG ?_ | with_reducible refine w_ownd ?_ | with_reducible refine w_ownl ?_ | with_reducible refine w_ownk ?_ | with_reducible refine w_owna ?_ | with_reducible refine w_rawd ?_ | with_reducible refine w_rawl ?_ | with_reducible refine w_raws ?_ | with_reducible refine w_rawa ?_ | with_reducible refine w_outd ?_ | with_reducible refine w_outl ?_ | with_reducible refine w_ival ?_ | with_reducible refine w_irng1 ?_ | with_reducible refine w_irng2 ?_ | with_reducible refine w_ienm ?_ | with_reducible refine w_izip ?_ | with_reducible refine w_irev ?_ | with_reducible refine w_qnon ?_ | with_reducible refine w_qsom ?_) | ((with_reducible refine CmT.mk ?_ ?_ (fun hb => ?_)); rfl; rfl) | ((with_reducible refine Fin1.mk ?_ ?_); rfl; rfl) | ((with_reducible refine CmI.mk (zip_map _ _) (fun z hz => Exists.intro _ (And.intro ?_ ?_)) ?_); rfl) | ((with_reducible refine CmI.mk (enum_map _) (fun z hz => Exists.intro _ (And.intro ?_ ?_)) ?_); rfl) | ((with_reducible apply CmI.mk); rfl; (intro z hz; (with_reducible apply Exists.intro); (with_reducible apply And.intro); rfl)) | with_reducible refine NormL.mk (nl_s _) ?_ | with_reducible refine NormL.mk (nl_p _) ?_ | with_reducible refine NormL.mk (nl_i _) ?_ | with_reducible refine NormL.mk (nl_b _ _) ?_ | with_reducible refine NormL.mk (nl_sc _ _) ?_ | with_reducible refine NormL.mk (nl_pc _ _ _) ?_ | with_reducible refine NormL.mk (nl_ic _ _) ?_ | ((with_reducible apply NormL.mk); rfl) | (with_reducible refine @UnL.s _ _ _ inferInstance ?_) | (with_reducible refine @UnL.p _ _ _ inferInstance ?_) | with_reducible refine UnL.n ?_ | with_reducible refine AndJ.mk (fun hb => ?_) ?_ | ((with_reducible refine Fin2.mk ?_ ?_); rfl; rfl) | ((with_reducible refine FinS.mk ?_ ?_); rfl; rfl) | ((with_reducible refine FinR.mk ?_ ?_ ?_); rfl; rfl; rfl) | ((with_reducible apply AllT.mk); rfl) | ((with_reducible apply SumT.mk); rfl) | ((with_reducible apply SortT.s); rfl) | ((with_reducible apply SortT.p); rfl) | ((with_reducible apply SlcG.tto); rfl) | ((with_reducible apply SlcG.lto); rfl) | ((with_reducible apply SlcG.tfr); rfl) | ((with_reducible apply SlcG.lfr); rfl) | ((with_reducible apply SlcG.tm); rfl) | ((with_reducible apply SlcG.lm); rfl) | ((with_reducible apply SlcG.an); rfl; rfl) | ((with_reducible apply IdxG.nat); rfl) | ((with_reducible apply IdxG.int); rfl) | ((with_reducible apply VwG.mk'); rfl) | ((with_reducible apply OutG.d); rfl) | ((with_reducible apply OutG.l); rfl) | (with_reducible refine Got2.d (is_seeker_ok ..) ?_) | (with_reducible refine Got1.l (loose_ok ..) ?_) | (with_reducible refine Got1.l (takers_ok ..) ?_) | (with_reducible refine Got2.d (law_seeks1_ok ..) ?_) | ((with_reducible apply And.intro); rfl) | ((with_reducible apply And.intro); (exact Nat.le_of_ble_eq_true rfl)) | ((with_reducible apply Exists.intro); (with_reducible apply And.intro); rfl) | ((with_reducible apply Exists.intro); (with_reducible apply Exists.intro); (with_reducible apply And.intro); rfl; (with_reducible apply And.intro); rfl))))
theorem w_whl {ρ : Envr} {n : Envr → Nat} {c : E} {b : Ss} {D0 : En} (I : Nat → Envr → Prop) (k : Nat) (hk : k < n ρ) (h0 : I k ρ)
    (hs : ∀ k ρ, I k ρ → wR D0.xs (ev c ρ) fun s ρ1 => wR D0.xs (testR s ρ1) fun t ρ' => if t = true then 0 < k ∧ wX (exs b ρ') ⟨I (k - 1), D0.rt, D0.nx, I (k - 1), D0.xs⟩ else D0.nx ρ') : wX (ex (.whl n c b) ρ) D0 :=
  w_whileS (q := fun ρ => (ev c ρ).bind fun s ρ => testR s ρ) (f := fun ρ => exs b ρ) I (n ρ) k ρ hk (fun k ρ h => wR.bind (hs k ρ h)) h0
theorem strewn_ok {α : Type} {f : α → D} (hf : ∀ a, shp 50 (f a)) {bx : List D} {m : Int} {ys : List α} (hB : Bx m bx) (hm : m + ys.length ≤ 1000000) (hl : ys.length ≤ 90000) {d : D} (hd : d = .list (ys.map f) ∨ d = .tuple (ys.map f)) :
    ∃ (zs : List α) (bx' : List D), zs.Perm ys ∧ Bx (m + ys.length) bx' ∧ F_law_strewn.sem [.ol (some 0) bx, .d d] = .ok (.ol none (zs.map f)) [some (.ol (some 0) bx'), none] := by
  obtain ⟨s, o, ⟨zs, bx', h1, h2, h3, h4⟩, e⟩ := sem_of (n := 4) (md := [true, false]) (body := b_law_strewn) (args := [.ol (some 0) bx, .d d]) (Q := fun s o => ∃ (zs : List α) (bx' : List D), zs.Perm ys ∧ Bx (m + ys.length) bx' ∧ s = .ol none (zs.map f) ∧ o = [some (.ol (some 0) bx'), none]) (by
    have hm0 := hB.nn
    unfold b_law_strewn
    trivial
    have e1 : bltD .list [d] = some (.l (ys.map f)) := by rcases hd with rfl | rfl <;> rfl
    refine OutG.l e1 ?_
    trivial
    refine w_whl (fun k ρ => ∃ (bx : List D) (lf fd : List α), ρ = [some (.ol (some 0) bx), some (.d d), some (.ol none (lf.map f)), some (.ol none (fd.map f))] ∧ k = lf.length ∧ Bx (m + fd.length) bx ∧ (fd ++ lf).Perm ys) ys.length (by omega) ⟨bx, ys, [], rfl, rfl, by simpa using hB, by simp⟩ ?_
    rintro k ρ ⟨bx, lf, fd, rfl, rfl, hB, hp⟩
    have hlen : fd.length + lf.length = ys.length := by have := hp.length_eq; simpa using this
    refine w_cmp (w_var rfl ⟨by simp [nal, E.own, Es.own], w_lst (w_anil (w_nenil hf rfl rfl (w_test rfl ?_)))⟩)
    refine w_tf (fun h => ?_) fun h => ?_
    · have h0 : 0 < lf.length := by cases lf with
        | nil => cases h
        | cons a t => simp
      refine ⟨h0, ?_⟩
      trivial
      refine w_take rfl rfl ?_
      trivial
      refine ⟨_, m + fd.length, _, _, rfl, rfl, hB, by omega, by simp; omega, fun r bx' hr hB' => ?_⟩
      trivial
      have hr : r < lf.length := by simpa using hr
      refine ⟨_, _, _, _, rfl, pop_ok hr, ?_⟩
      trivial
      refine ⟨_, _, _, _, rfl, app_ok ?_, ?_⟩
      · simp; omega
      · trivial
        refine ⟨bx', lf.eraseIdx r, fd ++ [lf[r]], by simp, by rw [List.length_eraseIdx, if_pos hr], by simpa [Int.add_assoc] using hB', ?_⟩
        refine List.Perm.trans ?_ hp
        rw [List.append_assoc]
        exact List.Perm.append_left _ (perm_eraseIdx lf r hr)
    · have hlf : lf = [] := by cases lf with
        | nil => rfl
        | cons a t => cases h
      subst hlf
      trivial
      exact ⟨fd, bx, by simpa using hp, by simpa [← hlen] using hB, rfl, rfl⟩)
  exact ⟨zs, bx', h1, h2, by subst h3 h4; exact e⟩
theorem law_seeks1_ok (r g l : List Str) (x : Str) : F_law_seeks_v1.sem [.d (eD r g l), .d (.str x)] = .ok (.d (.bool (sk r g l x))) [none, none] := by
  refine sem_eq rfl ?_
  unfold b_law_seeks_v1
  trivial
theorem sort_sub {xs ys : List Str} (h : xs.Sublist ys) (hn : ys.Nodup) : (sortS xs).Sublist (sortS ys) := by
  have e : sortS xs = (sortS ys).filter fun z => decide (z ∈ xs) := by
    refine perm_sorted_eq (fun a b => sle_anti) ((sortS_perm xs).trans ?_) (sortS_pw _) (List.Pairwise.filter _ (sortS_pw _))
    refine List.Perm.trans ?_ ((sortS_perm ys).filter _).symm
    rw [← Pm.sub_filter h hn]
  rw [e]; exact List.filter_sublist
theorem night_ok {bx : List D} {m : Int} {lo hi : Nat} (hB : Bx m bx) (hm : m ≤ 800000) (hc : lo ≤ hi ∧ hi ≤ 24) : ∃ (r g l : List Str) (bx' : List D), Eve r g l ∧ (lo ≤ r.length ∧ r.length ≤ hi) ∧ Bx (m + 200) bx' ∧
    F_law_night.sem [.ol (some 0) bx, .d (.int lo), .d (.int hi)] = .ok (.d (eD r g l)) [some (.ol (some 0) bx'), none, none] := by
  obtain ⟨s, o, ⟨r, g, l, bx', h1, h2, h3, h4, h5⟩, e⟩ := sem_of (n := 12) (md := [true, false, false]) (body := b_law_night) (args := [.ol (some 0) bx, .d (.int lo), .d (.int hi)]) (Q := fun s o => ∃ (r g l : List Str) (bx' : List D), Eve r g l ∧ (lo ≤ r.length ∧ r.length ≤ hi) ∧ Bx (m + 200) bx' ∧ s = .d (eD r g l) ∧ o = [some (.ol (some 0) bx'), none, none]) (by
    have hm0 := hB.nn
    unfold b_law_night
    trivial
    refine w_take rfl rfl ?_
    trivial
    refine ⟨_, m, _, _, rfl, rfl, hB, by omega, by omega, fun k0 bx hk hB => ?_⟩
    trivial
    refine w_io2 rfl rfl rfl ?_
    refine w_io2 rfl rfl rfl ?_
    trivial
    have ek : (lo : Int) + (k0 : Int) = ((lo + k0 : Nat) : Int) := by omega
    rw [ek]
    have hk2 : lo ≤ lo + k0 ∧ lo + k0 ≤ hi := by omega
    clear ek hk
    generalize lo + k0 = k at hk2 ⊢
    have en : (if (k : Int) + 3 < 26 then (k : Int) + 3 else 26) = ((min 26 (k + 3) : Nat) : Int) := by split <;> omega
    rw [en]
    obtain ⟨zs, bx, hz1, hz2, hz3, hB, ez⟩ := names_ok (k := min 26 (k + 3)) hB (by omega) (by omega)
    refine ⟨_, _, _, _, bx, rfl, rfl, ez, rfl, ?_⟩
    trivial
    obtain ⟨ns, bx, hp, hB, es⟩ := strewn_ok (f := PyData.str) (fun _ => .str) (ys := zs) hB (by omega) (by omega) (.inl rfl)
    refine ⟨_, _, _, _, bx, rfl, rfl, es, rfl, ?_⟩
    trivial
    refine w_take rfl rfl ?_
    trivial
    refine ⟨_, m + 40, _, _, rfl, rfl, hB.mono (by omega), by omega, by omega, fun n1 bx hn1 hB => ?_⟩
    trivial
    have es : ∃ st : Nat, st ≤ 3 ∧ idxSeq (.list [.int 0, .int 0, .int 1, .int 3]) (.int (n1 : Int)) = some (.d (.int (st : Int))) := by
      match n1, hn1 with
      | 0, _ => exact ⟨0, by omega, rfl⟩
      | 1, _ => exact ⟨0, by omega, rfl⟩
      | 2, _ => exact ⟨1, by omega, rfl⟩
      | 3, _ => exact ⟨3, by omega, rfl⟩
      | n + 4, h => omega
    obtain ⟨st, hst, es⟩ := es
    refine OutG.d es ?_
    trivial
    have emin : (if (st : Int) < (if (((ns.drop k).map PyData.str).length : Int) < k then (((ns.drop k).map PyData.str).length : Int) else k) then (st : Int) else (if (((ns.drop k).map PyData.str).length : Int) < k then (((ns.drop k).map PyData.str).length : Int) else k)) = ((min (min k (ns.drop k).length) st : Nat) : Int) := by
      rw [List.length_map]
      split <;> split at * <;> omega
    rw [emin]
    have haw : min (min k (ns.drop k).length) st ≤ k ∧ min (min k (ns.drop k).length) st ≤ (ns.drop k).length ∧ min (min k (ns.drop k).length) st ≤ 3 := by omega
    generalize min (min k (ns.drop k).length) st = aw at haw ⊢
    clear emin
    have hlen := hp.length_eq
    have hnd : ns.Nodup := hp.nodup_iff.mpr hz2
    have hld : (ns.drop k).length = ns.length - k := List.length_drop
    have htk : (ns.take k).length = k := by rw [List.length_take]; omega
    refine w_io2 rfl rfl rfl ?_
    trivial
    have hl1 : ((ns.take k).drop aw).length = k - aw := by rw [List.length_drop, htk]
    have hl2 : ((ns.drop k).take aw).length = aw := by rw [List.length_take]; omega
    refine OutG.l (listAdd (by rw [hl1, hl2]; omega)) ?_
    trivial
    obtain ⟨r, bx, hpr, hB, er⟩ := strewn_ok (f := PyData.str) (fun _ => .str) (ys := (ns.take k).drop aw ++ (ns.drop k).take aw) (m := m + 50) (hB.mono (by omega)) (by rw [List.length_append, hl1, hl2]; omega) (by rw [List.length_append, hl1, hl2]; omega) (.inl rfl)
    refine ⟨_, _, _, _, bx, rfl, rfl, er, rfl, ?_⟩
    have hrl : r.length = k := by rw [hpr.length_eq, List.length_append, hl1, hl2]; omega
    have hrn : r.Nodup := by
      refine hpr.nodup_iff.mpr ?_
      have h2 : ((ns.take k).drop aw ++ (ns.drop k).take aw).Sublist (ns.take k ++ ns.drop k) := (List.drop_sublist _ _).append (List.take_sublist _ _)
      rw [List.take_append_drop] at h2
      exact hnd.sublist h2
    have hrm : ∀ x ∈ r, x ∈ zs := fun x hx => hp.mem_iff.mp (by
      have := hpr.mem_iff.mp hx
      rcases List.mem_append.mp this with h | h
      · exact List.mem_of_mem_take (List.mem_of_mem_drop h)
      · exact List.mem_of_mem_drop (List.mem_of_mem_take h))
    trivial
    refine w_take rfl rfl ?_
    trivial
    refine ⟨_, m + 80, _, _, rfl, rfl, hB.mono (by rw [List.length_append, hl1, hl2]; omega), by omega, by omega, fun wy bx hwy hB => ?_⟩
    have ewy : ∃ w : Nat, (0 < w ∧ w ≤ 9) ∧ idxSeq (.list [.int 9, .int 6, .int 3, .int 2]) (.int (wy : Int)) = some (.d (.int (w : Int))) := by
      match wy, hwy with
      | 0, _ => exact ⟨9, by omega, rfl⟩
      | 1, _ => exact ⟨6, by omega, rfl⟩
      | 2, _ => exact ⟨3, by omega, rfl⟩
      | 3, _ => exact ⟨2, by omega, rfl⟩
      | n + 4, h => omega
    obtain ⟨w, hw, ew⟩ := ewy
    trivial
    refine w_for ?_
    trivial
    refine ⟨fun i ρ => ∃ (bx : List D) (gn : List Str) (t4 t5 t6 t8 tv : Option Sl), ρ = [some (.ol (some 0) bx), some (.d (.int lo)), some (.d (.int hi)), some (.d (.int k)), t4, some (.d (.list ((ns.take k).map .str))), t6, some (.d (.int aw)), some (.ol none (r.map .str)), some (.d (.int wy)), some (.ol none (gn.map .str)), tv] ∧ gn.Sublist ((ns.take k).take i) ∧ Bx (m + 81 + i) bx, ?_, ?_, ?_⟩
    · exact ⟨bx, [], _, none, _, none, _, rfl, List.nil_sublist _, hB.mono (by omega)⟩
    · rintro i x ρ hx ⟨bx, gn, t4, t5, t6, t8, tv, rfl, hg, hB⟩
      obtain ⟨y, hy, rfl⟩ := map_get hx
      have hi := (List.getElem?_eq_some_iff.mp hy).1
      rw [htk] at hi
      have et : (ns.take k).take (i + 1) = (ns.take k).take i ++ [y] := take_snoc hy
      refine ⟨_, rfl, ?_⟩
      trivial
      refine w_take rfl rfl ?_
      trivial
      refine OutG.d ew ?_
      trivial
      refine ⟨_, m + 81 + i, _, _, rfl, rfl, hB, by omega, by omega, fun q bx hq hB => ?_⟩
      trivial
      refine w_tf (fun _ => ?_) fun _ => ?_
      · trivial
        refine ⟨_, _, _, _, rfl, app_ok ?_, ?_⟩
        · have := hg.length_le; rw [List.length_map]; simp at this; omega
        trivial
        exact ⟨bx, gn ++ [y], _, none, _, none, _, by rw [List.map_append]; rfl, by rw [et]; exact hg.append (List.Sublist.refl _), hB.mono (by omega)⟩
      · trivial
        exact ⟨bx, gn, _, none, _, none, _, rfl, by rw [et]; exact hg.trans (List.sublist_append_left _ _), hB.mono (by omega)⟩
    · rintro ρ ⟨bx, gn, t4, t5, t6, t8, tv, rfl, hg, hB⟩
      rw [List.length_map, htk] at hg hB
      have hg : gn.Sublist (ns.take k) := hg.trans (List.take_sublist _ _)
      have htn : (ns.take k).Nodup := hnd.sublist (List.take_sublist _ _)
      trivial
      refine ⟨r, sortS (ns.take k), sortS gn, bx, ⟨hrn, (sortS_perm _).nodup_iff.mpr htn, sortS_pw _, sort_sub hg htn, ?_, fun x hx => hz3 x (hrm x hx), fun x hx => hz3 x (hp.mem_iff.mp (List.mem_of_mem_take ((sortS_perm _).mem_iff.mp hx)))⟩, by omega, hB.mono (by omega), rfl, rfl⟩
      rw [(sortS_perm _).length_eq, htk, hrl])
  exact ⟨r, g, l, bx', h1, h2, h3, by subst h4 h5; exact e⟩
end Pw
/-! plain laws of numbers: sums, factorials, subsets -/
namespace Pm
/-- f 0 + .. + f (n - 1) -/
def sm (f : Nat → Nat) : Nat → Nat
  | 0 => 0
  | n + 1 => sm f n + f n
def fac : Nat → Nat
  | 0 => 1
  | n + 1 => (n + 1) * fac n
def cho : Nat → Nat → Nat
  | _, 0 => 1
  | 0, _ + 1 => 0
  | n + 1, k + 1 => cho n (k + 1) + cho n k
theorem sm_congr {f g : Nat → Nat} : ∀ {n : Nat}, (∀ i, i < n → f i = g i) → sm f n = sm g n
  | 0, _ => rfl
  | n + 1, h => by unfold sm; rw [sm_congr fun i hi => h i (by omega), h n (by omega)]
theorem sm_add {f g : Nat → Nat} : ∀ {n : Nat}, sm (fun i => f i + g i) n = sm f n + sm g n
  | 0 => rfl
  | n + 1 => by unfold sm; rw [sm_add]; omega
theorem sm_mul {f : Nat → Nat} {c : Nat} : ∀ {n : Nat}, sm (fun i => c * f i) n = c * sm f n
  | 0 => rfl
  | n + 1 => by unfold sm; rw [sm_mul, Nat.mul_add]
theorem sm_le {f g : Nat → Nat} : ∀ {n : Nat}, (∀ i, i < n → f i ≤ g i) → sm f n ≤ sm g n
  | 0, _ => Nat.le_refl _
  | n + 1, h => by unfold sm; exact Nat.add_le_add (sm_le fun i hi => h i (by omega)) (h n (by omega))
theorem sm_zero {f : Nat → Nat} : ∀ {n : Nat}, (∀ i, i < n → f i = 0) → sm f n = 0
  | 0, _ => rfl
  | n + 1, h => by unfold sm; rw [sm_zero fun i hi => h i (by omega), h n (by omega)]
theorem sm_ext {f : Nat → Nat} {n : Nat} : ∀ {k : Nat}, (∀ i, n ≤ i → f i = 0) → sm f (n + k) = sm f n
  | 0, _ => rfl
  | k + 1, h => by show sm f (n + k) + f (n + k) = _; rw [sm_ext h, h _ (by omega)]; rfl
theorem sm_head {f : Nat → Nat} : ∀ {n : Nat}, sm f (n + 1) = f 0 + sm (fun i => f (i + 1)) n
  | 0 => by simp [sm]
  | n + 1 => by show sm f (n + 1) + f (n + 1) = _; rw [sm_head]; show f 0 + sm _ n + f (n + 1) = f 0 + (sm _ n + f (n + 1)); omega
theorem sm_split {f : Nat → Nat} {n : Nat} : ∀ {k : Nat}, sm f (n + k) = sm f n + sm (fun i => f (n + i)) k
  | 0 => rfl
  | k + 1 => by show sm f (n + k) + f (n + k) = sm f n + (sm _ k + f (n + k)); rw [sm_split]; omega
theorem sm_swap {f : Nat → Nat → Nat} {m : Nat} : ∀ {n : Nat}, sm (fun i => sm (f i) m) n = sm (fun j => sm (fun i => f i j) n) m
  | 0 => by show 0 = _; exact (sm_zero fun i _ => rfl).symm
  | n + 1 => by
    show sm _ n + sm (f n) m = _
    rw [sm_swap, ← sm_add]; rfl
theorem sm_const {c : Nat} : ∀ {n : Nat}, sm (fun _ => c) n = n * c
  | 0 => by simp [sm]
  | n + 1 => by unfold sm; rw [sm_const, Nat.succ_mul]
theorem fac_pos : ∀ n, 0 < fac n
  | 0 => Nat.one_pos
  | n + 1 => Nat.mul_pos (Nat.succ_pos n) (fac_pos n)
theorem fac_succ (n : Nat) : fac (n + 1) = (n + 1) * fac n := rfl
theorem fac_mono {a b : Nat} (h : a ≤ b) : fac a ≤ fac b := by
  induction h with
  | refl => exact Nat.le_refl _
  | step h ih => exact Nat.le_trans ih (Nat.le_mul_of_pos_left _ (Nat.succ_pos _))
theorem cho_zero (n : Nat) : cho n 0 = 1 := by cases n <;> rfl
theorem cho_lt : ∀ {n k : Nat}, n < k → cho n k = 0
  | 0, k + 1, _ => rfl
  | n + 1, k + 1, h => by unfold cho; rw [cho_lt (by omega), cho_lt (by omega)]
theorem cho_self : ∀ n, cho n n = 1
  | 0 => rfl
  | n + 1 => by unfold cho; rw [cho_lt (by omega), cho_self n]
theorem cho_pos : ∀ {n k : Nat}, k ≤ n → 0 < cho n k
  | n, 0, _ => by rw [cho_zero]; exact Nat.one_pos
  | n + 1, k + 1, h => by unfold cho; have := cho_pos (n := n) (k := k) (by omega); omega
/-- (k + 1) (n over k + 1) = (n - k) (n over k) -/
theorem cho_next : ∀ n k, (k + 1) * cho n (k + 1) + k * cho n k = n * cho n k
  | 0, 0 => rfl
  | 0, k + 1 => by simp [cho]
  | n + 1, 0 => by
    have h := cho_next n 0
    simp only [cho, cho_zero] at *
    omega
  | n + 1, k + 1 => by
    have h1 := cho_next n (k + 1)
    have h2 := cho_next n k
    show (k + 1 + 1) * (cho n (k + 1 + 1) + cho n (k + 1)) + (k + 1) * (cho n (k + 1) + cho n k) = (n + 1) * (cho n (k + 1) + cho n k)
    grind
theorem cho_fac : ∀ k m, cho (k + m) k * (fac k * fac m) = fac (k + m)
  | 0, m => by rw [cho_zero]; simp [fac]
  | k + 1, m => by
    have h := cho_fac k (m + 1)
    have h2 := cho_next (k + 1 + m) k
    rw [show k + (m + 1) = k + 1 + m by omega] at h
    have e1 : fac (k + 1) = (k + 1) * fac k := rfl
    have e2 : fac (m + 1) = (m + 1) * fac m := rfl
    rw [e1]
    rw [e2] at h
    have h3 : (k + 1) * cho (k + 1 + m) (k + 1) = (m + 1) * cho (k + 1 + m) k := by grind
    grind
theorem cho_le : ∀ n k, cho n k ≤ 2 ^ n
  | n, 0 => by rw [cho_zero]; exact Nat.one_le_two_pow
  | 0, k + 1 => Nat.zero_le _
  | n + 1, k + 1 => by
    have h1 := cho_le n (k + 1)
    have h2 := cho_le n k
    unfold cho; rw [Nat.pow_succ]; omega
/-- Vandermonde -/
theorem vander (b : Nat) : ∀ (a j : Nat), sm (fun i => cho a i * cho b (j - i)) (j + 1) = cho (a + b) j
  | 0, j => by
    rw [sm_head, sm_zero fun i _ => by simp [cho]]
    simp [cho_zero]
  | a + 1, 0 => by simp [sm, cho_zero]
  | a + 1, j + 1 => by
    have h1 := vander b a (j + 1)
    have h2 := vander b a j
    rw [sm_head] at h1 ⊢
    have e : sm (fun i => cho (a + 1) (i + 1) * cho b (j + 1 - (i + 1))) (j + 1) = sm (fun i => cho a (i + 1) * cho b (j + 1 - (i + 1))) (j + 1) + sm (fun i => cho a i * cho b (j - i)) (j + 1) := by
      rw [← sm_add]
      refine sm_congr fun i _ => ?_
      rw [Nat.add_sub_add_right]
      show (cho a (i + 1) + cho a i) * _ = _
      rw [Nat.add_mul]
    rw [e, h2, show a + 1 + b = (a + b) + 1 by omega]
    show _ = cho (a + b) (j + 1) + cho (a + b) j
    rw [← h1]
    simp only [cho_zero]
    omega
/-- as Euler's beta: over all numbers of others that go ahead, too -/
theorem beta : ∀ (M a b : Nat), sm (fun i => cho M i * (fac (a + i) * fac (b + (M - i)))) (M + 1) * fac (a + b + 1) = fac a * fac b * fac (a + b + M + 1)
  | 0, a, b => by simp [sm, cho_zero]
  | M + 1, a, b => by
    have h1 := beta M (a + 1) b
    have h2 := beta M a (b + 1)
    have e : sm (fun i => cho (M + 1) i * (fac (a + i) * fac (b + (M + 1 - i)))) (M + 1 + 1) = sm (fun i => cho M i * (fac (a + 1 + i) * fac (b + (M - i)))) (M + 1) + sm (fun i => cho M i * (fac (a + i) * fac (b + 1 + (M - i)))) (M + 1) := by
      have e1 : sm (fun i => cho (M + 1) i * (fac (a + i) * fac (b + (M + 1 - i)))) (M + 1 + 1) = sm (fun i => cho M i * (fac (a + i) * fac (b + (M + 1 - i)))) (M + 1 + 1) + sm (fun i => cho M i * (fac (a + (i + 1)) * fac (b + (M - i)))) (M + 1) := by
        rw [sm_head, sm_head (f := fun i => cho M i * (fac (a + i) * fac (b + (M + 1 - i))))]
        rw [Nat.add_assoc, ← sm_add]
        simp only [cho_zero]
        refine congrArg _ (sm_congr fun i _ => ?_)
        show (cho M (i + 1) + cho M i) * _ = _
        rw [Nat.add_mul, show M + 1 - (i + 1) = M - i by omega]
      rw [e1]
      have e2 : sm (fun i => cho M i * (fac (a + i) * fac (b + (M + 1 - i)))) (M + 1 + 1) = sm (fun i => cho M i * (fac (a + i) * fac (b + 1 + (M - i)))) (M + 1) := by
        show sm _ (M + 1) + _ = _
        dsimp only
        rw [cho_lt (Nat.lt_succ_self M), Nat.zero_mul, Nat.add_zero]
        refine sm_congr fun i hi => ?_
        rw [show b + (M + 1 - i) = b + 1 + (M - i) by omega]
      rw [e2, Nat.add_comm]
      refine congrArg (· + _) (sm_congr fun i _ => ?_)
      rw [show a + (i + 1) = a + 1 + i by omega]
    rw [e]
    generalize sm (fun i => cho M i * (fac (a + 1 + i) * fac (b + (M - i)))) (M + 1) = P at h1
    generalize sm (fun i => cho M i * (fac (a + i) * fac (b + 1 + (M - i)))) (M + 1) = Q at h2
    rw [show a + 1 + b + 1 = a + b + 1 + 1 by omega, show a + 1 + b + M + 1 = a + b + (M + 1) + 1 by omega, fac_succ (a + b + 1), fac_succ a] at h1
    rw [show a + (b + 1) + 1 = a + b + 1 + 1 by omega, show a + (b + 1) + M + 1 = a + b + (M + 1) + 1 by omega, fac_succ (a + b + 1), fac_succ b] at h2
    have hp : 0 < a + b + 1 + 1 := by omega
    refine Nat.eq_of_mul_eq_mul_left hp ?_
    generalize fac (a + b + (M + 1) + 1) = Z at *
    generalize fac (a + b + 1) = Y at *
    generalize fac a = A at *
    generalize fac b = B at *
    grind
end Pm
/-! plain law of times: so many of the special ones ahead -/
namespace Pm
def rr (M m j : Nat) : Nat := if j ≤ m then cho M (m - j) else 0
/-- as the program counts: own seekers, then takers from h - own on -/
def gg (so tk M h m : Nat) : Nat := sm (fun own => sm (fun t => cho so own * cho tk (h - own + t) * rr M m (own + (h - own + t))) (tk + 1 - (h - own))) (so + 1)
def gk (K mo M h m : Nat) : Nat := sm (fun t => cho K (h + t) * rr M m (h + t)) mo
theorem gg_eq {so tk M h m mo : Nat} (hh : so < h) (hK : h + mo = so + tk + 1) : gg so tk M h m = gk (so + tk) mo M h m := by
  unfold gg gk
  have e1 : ∀ own, own < so + 1 → sm (fun t => cho so own * cho tk (h - own + t) * rr M m (own + (h - own + t))) (tk + 1 - (h - own)) = sm (fun t => cho so own * cho tk (h + t - own) * rr M m (h + t)) mo := fun own ho => by
    obtain ⟨k, hk⟩ : ∃ k, mo = tk + 1 - (h - own) + k := ⟨mo - (tk + 1 - (h - own)), by omega⟩
    rw [hk, sm_ext fun i hi => by rw [cho_lt (show tk < h + i - own by omega)]; simp]
    refine sm_congr fun t _ => ?_
    rw [show h - own + t = h + t - own by omega, show own + (h + t - own) = h + t by omega]
  rw [sm_congr e1, sm_swap]
  refine sm_congr fun t _ => ?_
  have e2 : sm (fun own => cho so own * cho tk (h + t - own) * rr M m (h + t)) (so + 1) = rr M m (h + t) * sm (fun own => cho so own * cho tk (h + t - own)) (so + 1) := by
    rw [← sm_mul]; exact sm_congr fun i _ => Nat.mul_comm _ _
  rw [e2, ← vander tk so (h + t)]
  obtain ⟨k, hk⟩ : ∃ k, h + t + 1 = so + 1 + k := ⟨h + t - so, by omega⟩
  rw [hk, sm_ext (n := so + 1) (k := k) fun i hi => by rw [cho_lt (show so < i by omega)]; simp]
  exact Nat.mul_comm _ _
section
variable {K mo M h : Nat}
/-- over all numbers ahead -/
theorem gk_sum (hK : h + mo = K + 1) : sm (fun m => gk K mo M h m * (fac m * fac (K + M - m))) (K + M + 1) * (K + 1) = mo * fac (K + M + 1) := by
  have e1 : sm (fun m => gk K mo M h m * (fac m * fac (K + M - m))) (K + M + 1) = sm (fun t => sm (fun m => cho K (h + t) * rr M m (h + t) * (fac m * fac (K + M - m))) (K + M + 1)) mo := by
    rw [← sm_swap]
    refine sm_congr fun m _ => ?_
    unfold gk
    rw [Nat.mul_comm, ← sm_mul]
    exact sm_congr fun t _ => Nat.mul_comm _ _
  rw [e1, Nat.mul_comm, ← sm_mul, ← sm_const]
  refine sm_congr fun t ht => ?_
  obtain ⟨j, hj⟩ : ∃ j, h + t = j := ⟨_, rfl⟩
  have hjK : j ≤ K := by omega
  rw [hj]
  obtain ⟨d, hd⟩ : ∃ d, K = j + d := ⟨K - j, by omega⟩
  have e2 : sm (fun m => cho K j * rr M m j * (fac m * fac (K + M - m))) (K + M + 1) = cho K j * sm (fun i => cho M i * (fac (j + i) * fac (d + (M - i)))) (M + 1) := by
    rw [show K + M + 1 = j + (M + 1 + d) by omega, sm_split, sm_zero fun i hi => by unfold rr; rw [if_neg (by omega)]; simp, Nat.zero_add, sm_ext fun i hi => by
      unfold rr; rw [if_pos (by omega), show j + i - j = i by omega, cho_lt (show M < i by omega)]; simp]
    rw [← sm_mul]
    refine sm_congr fun i hi => ?_
    unfold rr
    rw [if_pos (by omega), show j + i - j = i by omega, show K + M - (j + i) = d + (M - i) by omega, Nat.mul_assoc]
  have h1 := beta M j d
  have h2 := cho_fac j d
  rw [← hd] at h1 h2
  rw [e2]
  generalize sm (fun i => cho M i * (fac (j + i) * fac (d + (M - i)))) (M + 1) = B at h1
  rw [fac_succ K] at h1
  have hp := fac_pos K
  refine Nat.eq_of_mul_eq_mul_left hp ?_
  generalize fac (K + M + 1) = Z at *
  generalize fac j = J at *
  generalize fac d = D at *
  generalize cho K j = C at *
  generalize fac K = F at *
  clear hd hj e1 e2
  subst h2
  grind
theorem rr_next (m j : Nat) : (m + 1 - j) * rr M (m + 1) j = (M + j - m) * rr M m j ∨ m < j := by
  by_cases hj : j ≤ m
  · left
    unfold rr
    rw [if_pos (by omega), if_pos hj]
    obtain ⟨i, hi⟩ : ∃ i, m = j + i := ⟨m - j, by omega⟩
    subst hi
    rw [show j + i - j = i by omega, show j + i + 1 - j = i + 1 by omega, show M + j - (j + i) = M - i by omega]
    have h := cho_next M i
    by_cases hM : i ≤ M
    · obtain ⟨d, rfl⟩ : ∃ d, M = i + d := ⟨M - i, by omega⟩
      rw [show i + d - i = d by omega]
      grind
    · rw [cho_lt (show M < i by omega), cho_lt (show M < i + 1 by omega)]; simp
  · right; omega
theorem gk_step (hK : h + mo = K + 1) {m : Nat} (hm : m < K + M) : (K + M - m) * gk K mo M h m ≤ (m + 1) * gk K mo M h (m + 1) := by
  -- told j by j, the next one's part put back
  have key : ∀ n, n ≤ mo → (K + M - m) * sm (fun t => cho K (h + t) * rr M m (h + t)) n ≤ (m + 1) * sm (fun t => cho K (h + t) * rr M (m + 1) (h + t)) n + (h + n) * (cho K (h + n) * rr M (m + 1) (h + n)) := by
    intro n
    induction n with
    | zero => intro _; simp [sm]
    | succ n ih =>
      intro hn
      have ih := ih (by omega)
      unfold sm
      rw [Nat.mul_add, Nat.mul_add]
      obtain ⟨j, hj⟩ : ∃ j, h + n = j := ⟨_, rfl⟩
      rw [show h + (n + 1) = j + 1 by omega]
      rw [hj] at ih ⊢
      -- (N - m) a_j = (j + 1) b_(j+1) + (m + 1 - j) b_j
      have hjK : j ≤ K := by omega
      have goal : (K + M - m) * (cho K j * rr M m j) + j * (cho K j * rr M (m + 1) j) ≤ (m + 1) * (cho K j * rr M (m + 1) j) + (j + 1) * (cho K (j + 1) * rr M (m + 1) (j + 1)) := by
        rcases rr_next (M := M) m j with h1 | h1
        · by_cases hjm : j ≤ m
          · have e0 : rr M (m + 1) (j + 1) = rr M m j := by
              unfold rr; rw [if_pos (by omega), if_pos hjm, Nat.add_sub_add_right]
            have h2 := cho_next K j
            rw [e0]
            by_cases hz : rr M m j = 0
            · rw [hz]; simp
              refine Nat.mul_le_mul_right _ (by omega)
            · have hMm : m ≤ M + j := by
                refine Classical.byContradiction fun hc => hz ?_
                unfold rr; rw [if_pos hjm, cho_lt (by omega)]
              obtain ⟨d, hd⟩ : ∃ d, K = j + d := ⟨K - j, by omega⟩
              obtain ⟨e, he⟩ : ∃ e, M + j = m + e := ⟨M + j - m, by omega⟩
              obtain ⟨i, hi⟩ : ∃ i, m = j + i := ⟨m - j, by omega⟩
              have e1 : K + M - m = d + e := by omega
              have e2 : M + j - m = e := by omega
              have e3 : m + 1 - j = i + 1 := by omega
              rw [e2, e3] at h1
              rw [e1]
              have h3 : (j + 1) * cho K (j + 1) = d * cho K j := by
                have : K * cho K j = j * cho K j + d * cho K j := by rw [← Nat.add_mul, ← hd]
                omega
              have h4 : (m + 1) = j + (i + 1) := by omega
              rw [h4]
              have h5 : (j + 1) * (cho K (j + 1) * rr M m j) = d * cho K j * rr M m j := by rw [← Nat.mul_assoc, h3]
              rw [h5]
              refine Nat.le_of_eq ?_
              have h6 : e * (cho K j * rr M m j) = (i + 1) * (cho K j * rr M (j + (i + 1)) j) := by
                rw [show j + (i + 1) = m + 1 by omega]
                have : e * (cho K j * rr M m j) = cho K j * (e * rr M m j) := by ac_rfl
                rw [this, ← h1]; ac_rfl
              have h7 : d * cho K j * rr M m j = d * (cho K j * rr M m j) := by rw [Nat.mul_assoc]
              rw [h7]
              generalize cho K j * rr M m j = Y at h6 ⊢
              generalize cho K j * rr M (j + (i + 1)) j = X at h6 ⊢
              clear h7 h5 h4 h3 h1 ih hn hz
              grind
          · have z : rr M m j = 0 := by unfold rr; rw [if_neg hjm]
            rw [z]
            by_cases hq : j ≤ m + 1
            · simp; exact Nat.le_trans (Nat.mul_le_mul_right _ hq) (Nat.le_add_right _ _)
            · have z2 : rr M (m + 1) j = 0 := by unfold rr; rw [if_neg hq]
              rw [z2]; simp
        · have z : rr M m j = 0 := by unfold rr; rw [if_neg (by omega)]
          rw [z]
          by_cases hq : j ≤ m + 1
          · simp; exact Nat.le_trans (Nat.mul_le_mul_right _ hq) (Nat.le_add_right _ _)
          · have z2 : rr M (m + 1) j = 0 := by unfold rr; rw [if_neg hq]
            rw [z2]; simp
      omega
  have k := key mo (Nat.le_refl _)
  rw [cho_lt (show K < h + mo by omega)] at k
  simpa [gk] using k
/-- never fewer with one more ahead -/
theorem gk_mono (hK : h + mo = K + 1) {m : Nat} (hm : m < K + M) : gk K mo M h m * (fac m * fac (K + M - m)) ≤ gk K mo M h (m + 1) * (fac (m + 1) * fac (K + M - (m + 1))) := by
  have h1 := gk_step (M := M) hK hm
  obtain ⟨e, he⟩ : ∃ e, K + M - m = e + 1 := ⟨K + M - m - 1, by omega⟩
  rw [show K + M - (m + 1) = e by omega, he, fac_succ, fac_succ]
  rw [he] at h1
  have h2 := Nat.mul_le_mul_right (fac m * fac e) h1
  have a1 : gk K mo M h m * (fac m * ((e + 1) * fac e)) = (e + 1) * gk K mo M h m * (fac m * fac e) := by ac_rfl
  have a2 : gk K mo M h (m + 1) * ((m + 1) * fac m * fac e) = (m + 1) * gk K mo M h (m + 1) * (fac m * fac e) := by ac_rfl
  rw [a1, a2]; exact h2
theorem gk_top (hK : h + mo = K + 1) : gk K mo M h (K + M) ≤ 1 := by
  unfold gk
  cases mo with
  | zero => exact Nat.zero_le _
  | succ n =>
    unfold sm
    rw [sm_zero fun t ht => by
      unfold rr
      rw [if_pos (by omega), cho_lt (show M < K + M - (h + t) by omega)]; rfl]
    rw [show h + n = K by omega, cho_self]
    unfold rr
    rw [if_pos (by omega), show K + M - K = M by omega, cho_self]
    exact Nat.le_refl _
/-- never more than a place in all orders has -/
theorem gk_most (hK : h + mo = K + 1) : ∀ d m : Nat, m + d = K + M → gk K mo M h m * (fac m * fac (K + M - m)) ≤ fac (K + M)
  | 0, m, e => by
    have : m = K + M := by omega
    subst this
    have := gk_top (M := M) hK
    rw [Nat.sub_self]
    show _ * (_ * 1) ≤ _
    rw [Nat.mul_one]
    exact Nat.le_trans (Nat.mul_le_mul_right _ this) (by rw [Nat.one_mul]; exact Nat.le_refl _)
  | d + 1, m, e => Nat.le_trans (gk_mono hK (by omega)) (gk_most hK d (m + 1) (by omega))
theorem gk_none {m : Nat} (hm : m < h) : gk K mo M h m = 0 := sm_zero fun t _ => by unfold rr; rw [if_neg (by omega)]; rfl
theorem gk_pos (hK : h + mo = K + 1) (h0 : 0 < mo) : 0 < gk K mo M h h := by
  unfold gk
  obtain ⟨n, rfl⟩ : ∃ n, mo = n + 1 := ⟨mo - 1, by omega⟩
  rw [sm_head]
  have : 0 < cho K (h + 0) * rr M h (h + 0) := by
    unfold rr
    rw [if_pos (by omega), Nat.add_zero, Nat.sub_self, cho_zero, Nat.mul_one]
    exact cho_pos (by omega)
  omega
end
end Pm
/-! what the program computes: shares, chances of one, times -/
namespace Pm
variable {α : Type} [DecidableEq α]
theorem fil_len (p : α → Bool) : ∀ xs : List α, (xs.filter p).length + (xs.filter fun x => !p x).length = xs.length
  | [] => rfl
  | x :: xs => by
    have := fil_len p xs
    cases h : p x <;> simp [h] <;> omega
theorem fil_drop : ∀ (r : List α) (i : Nat), r.Nodup → (r.filter fun c => decide (i ≤ r.idxOf c)) = r.drop i
  | [], i, _ => by simp
  | x :: r, 0, _ => by simp
  | x :: r, i + 1, hn => by
    have hx := (List.nodup_cons.mp hn).1
    have ih := fil_drop r i (List.nodup_cons.mp hn).2
    rw [List.drop_succ_cons, ← ih, List.filter_cons, if_neg (by simp)]
    refine List.filter_congr fun c hc => ?_
    have hne : c ≠ x := fun e => hx (e ▸ hc)
    rw [List.idxOf_cons, beq_false_of_ne (Ne.symm hne), cond_false]
    exact decide_eq_decide.mpr (by omega)
theorem split_idx {r : List α} {x : α} (hx : x ∈ r) : r = r.take (r.idxOf x) ++ x :: r.drop (r.idxOf x + 1) := by
  have h := List.idxOf_lt_length_of_mem hx
  conv => lhs; rw [← List.take_append_drop (r.idxOf x) r, List.drop_eq_getElem_cons h]
  rw [List.getElem_idxOf]
/-- gone by who went, where those who seek of them hang ahead -/
theorem gone_at {s : α → Bool} {r gs : List α} {x : α} (hr : r.Nodup) (hg : gs.Nodup) (hx : x ∈ r) (hn : x ∉ gs) (ho : ∀ c ∈ own s r gs, c ∈ r.take (r.idxOf x)) : x ∈ gone s r gs ↔ r.idxOf x < gs.length := by
  have hi := List.idxOf_lt_length_of_mem hx
  have hon : (own s r gs).Nodup := hg.sublist List.filter_sublist
  have hxo : x ∉ own s r gs := fun h => hn (own_mem.mp h).1
  have hsp := split_idx hx
  have htn : (r.take (r.idxOf x)).Nodup := hr.sublist (List.take_sublist _ _)
  have hxt : x ∉ r.take (r.idxOf x) ∧ x ∉ r.drop (r.idxOf x + 1) := by
    rw [hsp] at hr
    have := List.nodup_append.mp hr
    exact ⟨fun h => this.2.2 x h x List.mem_cons_self rfl, (List.nodup_cons.mp this.2.1).1⟩
  have hpl : ((r.take (r.idxOf x)).filter fun c => decide (c ∈ own s r gs)).length = (own s r gs).length := by
    refine List.Perm.length_eq ((List.perm_ext_iff_of_nodup (htn.sublist List.filter_sublist) hon).mpr fun c => ?_)
    simp only [List.mem_filter, decide_eq_true_eq]
    exact ⟨fun h => h.2, fun h => ⟨ho c h, h⟩⟩
  have hql := fil_len (fun c => decide (c ∈ own s r gs)) (r.take (r.idxOf x))
  rw [hpl, List.length_take, Nat.min_eq_left (by omega)] at hql
  have hle := own_le (s := s) (l := r) (gs := gs)
  have hfil : ∀ p : α → Bool, p x = true → r.filter p = (r.take (r.idxOf x)).filter p ++ x :: (r.drop (r.idxOf x + 1)).filter p := fun p hp => by
    conv => lhs; rw [hsp]
    rw [List.filter_append, List.filter_cons, if_pos hp]
  unfold gone
  rw [hfil _ (by simp [hxo]), List.mem_append]
  have h1 : x ∉ ((r.take (r.idxOf x)).filter fun c => !decide (c ∈ own s r gs)) := fun h => hxt.1 (List.mem_filter.mp h).1
  have h2 : x ∉ ((r.drop (r.idxOf x + 1)).filter fun c => !decide (c ∈ own s r gs)) := fun h => hxt.2 (List.mem_filter.mp h).1
  generalize ((r.take (r.idxOf x)).filter fun c => !decide (c ∈ own s r gs)) = A at *
  generalize ((r.drop (r.idxOf x + 1)).filter fun c => !decide (c ∈ own s r gs)) = B at *
  rw [List.take_append, List.mem_append]
  constructor
  · rintro (h | h | h)
    · exact absurd h hxo
    · exact absurd (List.mem_of_mem_take h) h1
    · refine Classical.byContradiction fun hc => ?_
      rw [show gs.length - (own s r gs).length - A.length = 0 by omega] at h
      simp at h
  · intro h
    right; right
    obtain ⟨k, hk⟩ : ∃ k, gs.length - (own s r gs).length - A.length = k + 1 := ⟨gs.length - (own s r gs).length - A.length - 1, by omega⟩
    rw [hk, List.take_succ_cons]
    exact List.mem_cons_self
end Pm
namespace Pw
open PySem PySem.Spec PyProof.Rows L2
inductive AnyG (o : Option D) (P : Sl → Envr → Prop) (ρ : Envr) : Prop
  | b {α : Type} {xs : List α} {p : α → Bool} (e : o = some (.list (xs.map fun a => .bool (p a)))) (h : P (.d (.bool (xs.any p))) ρ) : AnyG o P ρ
  | i {α : Type} {xs : List α} {p : α → Int} (e : o = some (.list (xs.map fun a => .int (p a)))) (h : P (.d (.bool (xs.any fun a => p a != 0))) ρ) : AnyG o P ρ
theorem w_banyG {X : Xc} {ρ : Envr} {a : E} {P : Sl → Envr → Prop} (h : wR X (ev a ρ) fun s ρ1 => AnyG (view ρ1 s) P ρ1) : wR X (ev (.blt .any (.cons a .nil)) ρ) P :=
  w_blt (w_lcons (h.mono fun s ρ1 h => ⟨by cases s <;> rfl, w_lnil (by
    cases h with
    | b e h => exact ⟨[.list _], _, by show (match view ρ1 s, views ρ1 [] with | some d, some ds => some (d :: ds) | _, _ => none) = _; rw [e]; rfl, any_map _ _, h⟩
    | i e h => exact ⟨[.list _], _, by show (match view ρ1 s, views ρ1 [] with | some d, some ds => some (d :: ds) | _, _ => none) = _; rw [e]; rfl, anyI_map _ _, h⟩)⟩))
theorem w_varR {X : Xc} {ρ : Envr} {P : Sl → Envr → Prop} {i : Nat} {s : Sl} (e : varR i ρ = .ok s ρ) (h : P s ρ) : wR X (varR i ρ) P := by rw [e]; exact .ok h
theorem x_imul {i j : Int} (h : mulOk i j = true) : iopD .Mult (.int i) (.int j) = some (.d (.int (i * j))) := by
  show Option.map _ (if mulOk i j = true then _ else _) = _
  rw [if_pos h]; rfl
theorem x_iadd {i j : Int} : iopD .Add (.int i) (.int j) = some (.d (.int (i + j))) := rfl
-- SPECS: is_seeker_ok:2d loose_ok:1l takers_ok:1l law_seeks1_ok:2d seekers_ok:1l
set_option hygiene false
local macro_rules | `(tactic| trivial) => `(tactic| (repeat (first | ((with_reducible refine g_ev ?_); first | ((with_reducible apply w_var); rfl) | with_reducible refine w_bin ?_ | with_reducible refine w_cmp ?_ | with_reducible refine w_idx ?_ | with_reducible refine w_li ?_ | with_reducible refine w_ls ?_ | with_reducible refine w_lb ?_ | with_reducible refine w_ln ?_ | with_reducible refine w_glo ?_ | with_reducible refine w_not ?_ | with_reducible refine w_tup ?_ | with_reducible refine w_lstU ?_ | with_reducible refine w_bsort ?_ | with_reducible refine w_and ?_ | with_reducible refine w_or ?_ | with_reducible refine w_slg ?_ | with_reducible refine w_isi ?_ | with_reducible refine w_metg ?_ | with_reducible refine w_mut ?_ | with_reducible refine w_neg ?_ | with_reducible refine w_dct ?_ | (with_reducible refine w_c1 rfl ?_) | (with_reducible refine w_c2 rfl ?_) | (with_reducible refine w_c3 rfl ?_) | (with_reducible refine w_c4 rfl ?_) | (with_reducible refine w_c5 rfl ?_) | with_reducible apply w_ball | with_reducible apply w_bany | with_reducible apply w_bsum | with_reducible refine w_bltg ?_ | ((with_reducible apply w_cm); rfl) | ((with_reducible apply w_cm0); rfl) | ((with_reducible apply w_sscrM); rfl)) | ((with_reducible refine g_op ?_); first | ((with_reducible apply w_add); rfl; rfl) | ((with_reducible apply w_sb); rfl; rfl) | ((with_reducible apply w_gt); rfl; rfl) | ((with_reducible apply w_lt); rfl; rfl) | ((with_reducible apply w_ge); rfl; rfl) | ((with_reducible apply w_le); rfl; rfl) | ((with_reducible apply w_eqI); rfl; rfl) | ((with_reducible apply w_neI); rfl; rfl) | ((with_reducible apply w_eqS); rfl; rfl) | ((with_reducible apply w_neS); rfl; rfl) | ((with_reducible apply w_eqB); rfl; rfl) | ((with_reducible apply w_neB); rfl; rfl) | ((with_reducible apply w_inlS); rfl; rfl) | ((with_reducible apply w_intS); rfl; rfl) | ((with_reducible apply w_nilS); rfl; rfl) | ((with_reducible apply w_nitS); rfl; rfl) | ((with_reducible apply w_inlP); rfl; rfl) | ((with_reducible apply w_intP); rfl; rfl) | ((with_reducible apply w_nilP); rfl; rfl) | ((with_reducible apply w_nitP); rfl; rfl) | ((with_reducible apply w_ixk); rfl; rfl; rfl) | ((with_reducible apply w_ixl); rfl; rfl; rfl; rfl) | ((with_reducible apply w_ixt); rfl; rfl; rfl; rfl) | ((with_reducible apply w_mul); rfl; rfl; (exact mulOk_lt (by omega) (by omega))) | ((with_reducible apply w_mod); rfl; rfl; decide) | ((with_reducible apply w_mod); rfl; rfl; omega) | ((with_reducible apply w_div); rfl; rfl; decide) | ((with_reducible apply w_pow); rfl; rfl; decide) | ((with_reducible apply w_nel EqE.str); rfl; rfl) | ((with_reducible apply w_nel EqE.pr); rfl; rfl) | ((with_reducible apply w_eql EqE.str); rfl; rfl) | ((with_reducible apply w_eql EqE.pr); rfl; rfl) | with_reducible refine w_opg ?_) | ((with_reducible refine g_x ?_); first | with_reducible refine w_cons ?_ | with_reducible refine w_asg ?_ | with_reducible refine w_ret ?_ | with_reducible refine w_nil ?_ | with_reducible refine w_exp ?_ | with_reducible refine w_ifs ?_ | with_reducible refine w_par ?_ | with_reducible refine w_unp ?_ | with_reducible refine w_sub ?_ | with_reducible refine w_unpSub ?_ | with_reducible refine w_ps0 ?_ | with_reducible refine w_aug ?_ | with_reducible refine w_pass ?_ | (with_reducible refine w_psc (Nat.le_of_ble_eq_true rfl) ?_) | ((with_reducible apply w_setSub); rfl; rfl) | (with_reducible refine w_setS (Nat.le_of_ble_eq_true rfl) ?_)) | ((with_reducible refine g_r ?_); first | ((with_reducible apply w_izipV); rfl; rfl) | ((with_reducible apply w_test); rfl) | ((with_reducible apply w_fz); rfl) | ((with_reducible apply w_varR); rfl) | with_reducible apply w_andJ | with_reducible apply w_orJ | ((with_reducible apply w_fzR); rfl) | ((with_reducible apply w_outa); rfl) | with_reducible refine w_acons ?_ | with_reducible refine w_anil ?_ | with_reducible refine w_lcons ?_ | with_reducible refine w_lnil ?_ | with_reducible refine w_wcons ?_ | with_reducible refine w_wnil ?_ | with_reducible refine w_b1 ?_ | with_reducible refine w_onon ?_ | with_reducible refine w_osomG ?_ | with_reducible refine w_ownd ?_ | with_reducible refine w_ownl ?_ | with_reducible refine w_ownk ?_ | with_reducible refine w_owna ?_ | with_reducible refine w_rawd ?_ | with_reducible refine w_rawl ?_ | with_reducible refine w_raws ?_ | with_reducible refine w_rawa ?_ | with_reducible refine w_outd ?_ | with_reducible refine w_outl ?_ | with_reducible refine w_ival ?_ | with_reducible refine w_irng1 ?_ | with_reducible refine w_irng2 ?_ | with_reducible refine w_ienm ?_ | with_reducible refine w_izip ?_ | with_reducible refine w_irev ?_ | with_reducible refine w_qnon ?_ | with_reducible refine w_qsom ?_) | ((with_reducible refine CmT.mk ?_ ?_ (fun hb => ?_)); rfl; rfl) | ((with_reducible refine Fin1.mk ?_ ?_); rfl; rfl) | ((with_reducible refine CmI.mk (zip_map _ _) (fun z hz => Exists.intro _ (And.intro ?_ ?_)) ?_); rfl) | ((with_reducible refine CmI.mk (enum_map _) (fun z hz => Exists.intro _ (And.intro ?_ ?_)) ?_); rfl) | ((with_reducible apply CmI.mk); rfl; (intro z hz; (with_reducible apply Exists.intro); (with_reducible apply And.intro); rfl)) | with_reducible refine NormL.mk (nl_s _) ?_ | with_reducible refine NormL.mk (nl_p _) ?_ | with_reducible refine NormL.mk (nl_i _) ?_ | with_reducible refine NormL.mk (nl_b _ _) ?_ | with_reducible refine NormL.mk (nl_sc _ _) ?_ | with_reducible refine NormL.mk (nl_pc _ _ _) ?_ | with_reducible refine NormL.mk (nl_ic _ _) ?_ | ((with_reducible apply NormL.mk); rfl) | (with_reducible refine @UnL.s _ _ _ inferInstance ?_) | (with_reducible refine @UnL.p _ _ _ inferInstance ?_) | with_reducible refine UnL.n ?_ | with_reducible refine AndJ.mk (fun hb => ?_) ?_ | ((with_reducible refine Fin2.mk ?_ ?_); rfl; rfl) | ((with_reducible refine FinS.mk ?_ ?_); rfl; rfl) | ((with_reducible refine FinR.mk ?_ ?_ ?_); rfl; rfl; rfl) | ((with_reducible apply AllT.mk); rfl) | ((with_reducible apply SumT.mk); rfl) | ((with_reducible apply SortT.s); rfl) | ((with_reducible apply SortT.p); rfl) | ((with_reducible apply SlcG.tto); rfl) | ((with_reducible apply SlcG.lto); rfl) | ((with_reducible apply SlcG.tfr); rfl) | ((with_reducible apply SlcG.lfr); rfl) | ((with_reducible apply SlcG.tm); rfl) | ((with_reducible apply SlcG.lm); rfl) | ((with_reducible apply SlcG.an); rfl; rfl) | ((with_reducible apply IdxG.nat); rfl) | ((with_reducible apply IdxG.int); rfl) | ((with_reducible apply VwG.mk'); rfl) | ((with_reducible apply OutG.d); rfl) | ((with_reducible apply OutG.l); rfl) | (with_reducible refine Got2.d (is_seeker_ok ..) ?_) | (with_reducible refine Got1.l (loose_ok ..) ?_) | (with_reducible refine Got1.l (takers_ok ..) ?_) | (with_reducible refine Got2.d (law_seeks1_ok ..) ?_) | (with_reducible refine Got1.l (seekers_ok ..) ?_) | ((with_reducible apply And.intro); rfl) | ((with_reducible apply And.intro); (exact Nat.le_of_ble_eq_true rfl)) | ((with_reducible apply Exists.intro); (with_reducible apply And.intro); rfl) | ((with_reducible apply Exists.intro); (with_reducible apply Exists.intro); (with_reducible apply And.intro); rfl; (with_reducible apply And.intro); rfl))))
section
variable {r g l : List Str} {x : Str}
/-- loose coats from its hook on; seekers' coats ahead; takers -/
def mo (r g l : List Str) (x : Str) : Nat := ((r.drop (r.idxOf x)).filter fun c => !sk r g l c).length
def so (r g l : List Str) (x : Str) : Nat := ((r.take (r.idxOf x)).filter (sk r g l)).length
def tkn (r g l : List Str) : Nat := (g.filter fun c => !sk r g l c).length
theorem sk_in (h : sk r g l x = true) : x ∈ g ∧ x ∉ l ∧ x ∈ r := by simpa [sk] using h
theorem loose_tkn (E : Eve r g l) : (r.filter fun c => !sk r g l c).length = tkn r g l := by
  have h1 := Pm.fil_len (sk r g l) r
  have h2 := Pm.fil_len (sk r g l) g
  have h3 : (r.filter (sk r g l)).Perm (g.filter (sk r g l)) := (List.perm_ext_iff_of_nodup (E.rn.sublist List.filter_sublist) (E.gn.sublist List.filter_sublist)).mpr fun c => by
    simp only [List.mem_filter]
    exact ⟨fun h => ⟨(sk_in h.2).1, h.2⟩, fun h => ⟨(sk_in h.2).2.2, h.2⟩⟩
  have h4 := h3.length_eq
  have h5 := E.len
  unfold tkn; omega
theorem hook_sum (E : Eve r g l) (hx : sk r g l x = true) : r.idxOf x + 1 + mo r g l x = so r g l x + tkn r g l + 1 ∧ so r g l x ≤ r.idxOf x ∧ so r g l x + tkn r g l < r.length := by
  have hi := List.idxOf_lt_length_of_mem (sk_in hx).2.2
  have h1 := Pm.fil_len (sk r g l) (r.take (r.idxOf x))
  have h2 : (r.filter fun c => !sk r g l c).length = ((r.take (r.idxOf x)).filter fun c => !sk r g l c).length + mo r g l x := by
    unfold mo
    rw [← List.length_append, ← List.filter_append, List.take_append_drop]
  rw [loose_tkn E] at h2
  rw [List.length_take, Nat.min_eq_left (by omega)] at h1
  have h3 : mo r g l x + 1 ≤ r.length - r.idxOf x := by
    unfold mo
    rw [List.drop_eq_getElem_cons hi, List.getElem_idxOf, List.filter_cons, if_neg (by simp [hx])]
    have := List.length_filter_le (fun c => !sk r g l c) (r.drop (r.idxOf x + 1))
    rw [List.length_drop] at this
    omega
  have h4 : so r g l x = ((r.take (r.idxOf x)).filter (sk r g l)).length := rfl
  omega
theorem shares_of_ok (E : Eve r g l) (hx : sk r g l x = true) : F_shares_of.sem [.d (eD r g l), .d (.str x)] = .ok (.d (.tuple [.int (r.idxOf x + 1 : Int), .int (mo r g l x : Int)])) [none, none] := by
  have h := sk_in hx
  refine sem_eq rfl ?_
  unfold b_shares_of
  trivial
  refine w_f (by simp [hx, h.1]) ?_
  trivial
  refine Got2.d (hook_of_ok h.2.2) ?_
  trivial
  refine Got2.d loose_from_ok ?_
  trivial
  have e : ((r.filter fun x => !sk r g l x).filter fun c => decide ((r.idxOf x : Int) + 1 ≤ (r.idxOf c : Nat) + 1)) = (r.drop (r.idxOf x)).filter fun c => !sk r g l c := by
    rw [← Pm.fil_drop r (r.idxOf x) E.rn, List.filter_filter, List.filter_filter]
    refine List.filter_congr fun c _ => ?_
    rw [Bool.and_comm]
    refine congrArg (_ && ·) (decide_eq_decide.mpr (by omega))
  rw [e]; exact ⟨rfl, rfl⟩
theorem safe_ahead_ok (E : Eve r g l) (hx : sk r g l x = true) : F_safe_ahead.sem [.d (eD r g l), .d (.str x)] = .ok (.d (.int ((if 0 < mo r g l x then r.idxOf x else r.length - 1 : Nat) : Int))) [none, none] := by
  have h := sk_in hx
  have hi := List.idxOf_lt_length_of_mem h.2.2
  refine sem_eq rfl ?_
  unfold b_safe_ahead
  trivial
  refine Got2.d (shares_of_ok E hx) ?_
  trivial
  refine w_ifeJ (enc := .int) (v := (r.idxOf x : Int)) (w := ((r.length - 1 : Nat) : Int)) ?_
  trivial
  refine ⟨fun _ => ?_, fun _ => ?_, ?_⟩
  · trivial
    exact ⟨by simp, rfl⟩
  · trivial
    exact ⟨by simp; omega, rfl⟩
  · trivial
    refine ⟨congrArg (fun t => Sl.d (.int t)) ?_, rfl⟩
    by_cases q : 0 < mo r g l x
    · have q' : (0 : Int) < (mo r g l x : Int) := by omega
      simp [q, q']
    · have q' : ¬ (0 : Int) < (mo r g l x : Int) := by omega
      simp [q, q']
theorem mulN {a b : Nat} (ha : a < 2 ^ 250) (hb : b < 2 ^ 250) : binD .Mult (.int (a : Int)) (.int (b : Int)) = some (.d (.int ((a * b : Nat) : Int))) := by
  rw [Int.natCast_mul]
  exact x_mul (bt.mulOk (n := 250) (m := 250) (by unfold bt; simpa using ha) (by unfold bt; simpa using hb) (by decide) (by decide) (by decide))
theorem imulN {a b : Nat} (ha : a < 2 ^ 250) (hb : b < 2 ^ 250) : iopD .Mult (.int (a : Int)) (.int (b : Int)) = some (.d (.int ((a * b : Nat) : Int))) := by
  rw [Int.natCast_mul]
  exact x_imul (bt.mulOk (n := 250) (m := 250) (by unfold bt; simpa using ha) (by unfold bt; simpa using hb) (by decide) (by decide) (by decide))
theorem fac_lt {n : Nat} (h : n ≤ 25) : Pm.fac n < 2 ^ 100 := by
  have h1 := Pm.fac_mono h
  have h2 : Pm.fac 25 = 15511210043330985984000000 := by simp [Pm.fac]
  rw [h2] at h1
  omega
theorem rng_get {lo k : Int} {i : Nat} {d : D} (h : (rngItems lo k)[i]? = some d) : i < k.toNat ∧ d = .int (lo + i) := by
  have hi : i < k.toNat := by
    have := (List.getElem?_eq_some_iff.mp h).1
    simpa [rngItems] using this
  refine ⟨hi, ?_⟩
  unfold rngItems at h
  rw [List.getElem?_map, List.getElem?_range hi] at h
  exact (Option.some.inj h).symm
theorem rng_len (lo k : Int) : (rngItems lo k).length = k.toNat := by simp [rngItems]
theorem factorial_ok {n : Nat} (h : n ≤ 24) : F_factorial_v1.sem [.d (.int n)] = .ok (.d (.int (Pm.fac n : Int))) [none] := by
  rw [show F_factorial_v1.sem = semOf 3 [false] b_factorial_v1 from rfl]
  refine sem_eq rfl ?_
  unfold b_factorial_v1
  trivial
  refine w_for ?_
  trivial
  refine ⟨by omega, ?_⟩
  refine ⟨fun i ρ => ∃ t2, ρ = [some (.d (.int n)), some (.d (.int (Pm.fac (i + 1) : Int))), t2], ⟨none, rfl⟩, ?_, ?_⟩
  · rintro i d ρ hd ⟨t2, rfl⟩
    obtain ⟨hi, rfl⟩ := rng_get hd
    have hi : i < n - 1 := by omega
    rw [show (2 : Int) + (i : Int) = ((i + 2 : Nat) : Int) by omega]
    refine ⟨_, rfl, ?_⟩
    trivial
    refine OutG.d (imulN (Nat.lt_of_lt_of_le (fac_lt (n := i + 1) (by omega)) (by decide +kernel)) (Nat.lt_of_lt_of_le (show i + 2 < 2 ^ 100 by omega) (by decide +kernel))) ?_
    trivial
    exact ⟨_, by rw [Pm.fac_succ (i + 1), Nat.mul_comm]; rfl⟩
  · rintro ρ ⟨t2, rfl⟩
    trivial
    rw [rng_len]
    refine ⟨congrArg (fun t : Nat => Sl.d (.int (t : Int))) ?_, rfl⟩
    match n with
    | 0 => rfl
    | 1 => rfl
    | n + 2 => rw [show (((n + 2 : Nat) : Int) + 1 - 2).toNat + 1 = n + 2 by omega]
end
end Pw
/-! what the program computes: wrong behind so many, danger -/
namespace Pw
open PySem PySem.Spec PyProof.Rows L2
-- OMEGA (ranges' bounds by omega)
-- SPECS: is_seeker_ok:2d loose_ok:1l takers_ok:1l law_seeks1_ok:2d seekers_ok:1l
set_option hygiene false
local macro_rules | `(tactic| trivial) => `(tactic| (repeat (first | ((with_reducible refine g_ev ?_); first | ((with_reducible apply w_var); rfl) | with_reducible refine w_bin ?_ | with_reducible refine w_cmp ?_ | with_reducible refine w_idx ?_ | with_reducible refine w_li ?_ | with_reducible refine w_ls ?_ | with_reducible refine w_lb ?_ | with_reducible refine w_ln ?_ | with_reducible refine w_glo ?_ | with_reducible refine w_not ?_ | with_reducible refine w_tup ?_ | with_reducible refine w_lstU ?_ | with_reducible refine w_bsort ?_ | with_reducible refine w_and ?_ | with_reducible refine w_or ?_ | with_reducible refine w_slg ?_ | with_reducible refine w_isi ?_ | with_reducible refine w_metg ?_ | with_reducible refine w_mut ?_ | with_reducible refine w_neg ?_ | with_reducible refine w_dct ?_ | (with_reducible refine w_c1 rfl ?_) | (with_reducible refine w_c2 rfl ?_) | (with_reducible refine w_c3 rfl ?_) | (with_reducible refine w_c4 rfl ?_) | (with_reducible refine w_c5 rfl ?_) | with_reducible apply w_ball | with_reducible refine w_banyG ?_ | with_reducible apply w_bsum | with_reducible refine w_bltg ?_ | ((with_reducible apply w_cm); rfl) | ((with_reducible apply w_cm0); rfl) | ((with_reducible apply w_sscrM); rfl)) | ((with_reducible refine g_op ?_); first | ((with_reducible apply w_add); rfl; rfl) | ((with_reducible apply w_sb); rfl; rfl) | ((with_reducible apply w_gt); rfl; rfl) | ((with_reducible apply w_lt); rfl; rfl) | ((with_reducible apply w_ge); rfl; rfl) | ((with_reducible apply w_le); rfl; rfl) | ((with_reducible apply w_eqI); rfl; rfl) | ((with_reducible apply w_neI); rfl; rfl) | ((with_reducible apply w_eqS); rfl; rfl) | ((with_reducible apply w_neS); rfl; rfl) | ((with_reducible apply w_eqB); rfl; rfl) | ((with_reducible apply w_neB); rfl; rfl) | ((with_reducible apply w_inlS); rfl; rfl) | ((with_reducible apply w_intS); rfl; rfl) | ((with_reducible apply w_nilS); rfl; rfl) | ((with_reducible apply w_nitS); rfl; rfl) | ((with_reducible apply w_inlP); rfl; rfl) | ((with_reducible apply w_intP); rfl; rfl) | ((with_reducible apply w_nilP); rfl; rfl) | ((with_reducible apply w_nitP); rfl; rfl) | ((with_reducible apply w_ixk); rfl; rfl; rfl) | ((with_reducible apply w_ixl); rfl; rfl; rfl; rfl) | ((with_reducible apply w_ixt); rfl; rfl; rfl; rfl) | ((with_reducible apply w_mul); rfl; rfl; (exact mulOk_lt (by omega) (by omega))) | ((with_reducible apply w_mod); rfl; rfl; decide) | ((with_reducible apply w_mod); rfl; rfl; omega) | ((with_reducible apply w_div); rfl; rfl; decide) | ((with_reducible apply w_pow); rfl; rfl; decide) | ((with_reducible apply w_nel EqE.str); rfl; rfl) | ((with_reducible apply w_nel EqE.pr); rfl; rfl) | ((with_reducible apply w_eql EqE.str); rfl; rfl) | ((with_reducible apply w_eql EqE.pr); rfl; rfl) | with_reducible refine w_opg ?_) | ((with_reducible refine g_x ?_); first | with_reducible refine w_cons ?_ | with_reducible refine w_asg ?_ | with_reducible refine w_ret ?_ | with_reducible refine w_nil ?_ | with_reducible refine w_exp ?_ | with_reducible refine w_ifs ?_ | with_reducible refine w_par ?_ | with_reducible refine w_unp ?_ | with_reducible refine w_sub ?_ | with_reducible refine w_unpSub ?_ | with_reducible refine w_ps0 ?_ | with_reducible refine w_aug ?_ | with_reducible refine w_pass ?_ | (with_reducible refine w_psc (Nat.le_of_ble_eq_true rfl) ?_) | ((with_reducible apply w_setSub); rfl; rfl) | (with_reducible refine w_setS (Nat.le_of_ble_eq_true rfl) ?_)) | ((with_reducible refine g_r ?_); first | ((with_reducible apply w_izipV); rfl; rfl) | ((with_reducible apply w_test); rfl) | ((with_reducible apply w_fz); rfl) | ((with_reducible apply w_varR); rfl) | with_reducible apply w_andJ | with_reducible apply w_orJ | ((with_reducible apply w_fzR); rfl) | ((with_reducible apply w_outa); rfl) | with_reducible refine w_acons ?_ | with_reducible refine w_anil ?_ | with_reducible refine w_lcons ?_ | with_reducible refine w_lnil ?_ | with_reducible refine w_wcons ?_ | with_reducible refine w_wnil ?_ | with_reducible refine w_b1 ?_ | with_reducible refine w_onon ?_ | with_reducible refine w_osomG ?_ | with_reducible refine w_ownd ?_ | with_reducible refine w_ownl ?_ | with_reducible refine w_ownk ?_ | with_reducible refine w_owna ?_ | with_reducible refine w_rawd ?_ | with_reducible refine w_rawl ?_ | with_reducible refine w_raws ?_ | with_reducible refine w_rawa ?_ | with_reducible refine w_outd ?_ | with_reducible refine w_outl ?_ | with_reducible refine w_ival ?_ | with_reducible refine w_irng1 ?_ | with_reducible refine w_irng2 ?_ | with_reducible refine w_ienm ?_ | with_reducible refine w_izip ?_ | with_reducible refine w_irev ?_ | with_reducible refine w_qnon ?_ | with_reducible refine w_qsom ?_) | ((with_reducible refine CmT.mk ?_ ?_ (fun hb => ?_)); rfl; rfl) | ((with_reducible refine Fin1.mk ?_ ?_); rfl; rfl) | ((with_reducible refine CmI.mk (zip_map _ _) ?_ ?_); (intro z hz; (with_reducible apply Exists.intro); (with_reducible apply And.intro); rfl)) | ((with_reducible refine CmI.mk (enum_map _) ?_ ?_); (intro z hz; (with_reducible apply Exists.intro); (with_reducible apply And.intro); rfl)) | ((with_reducible apply CmI.mk); rfl; (intro z hz; (with_reducible apply Exists.intro); (with_reducible apply And.intro); rfl)) | with_reducible refine NormL.mk (nl_s _) ?_ | with_reducible refine NormL.mk (nl_p _) ?_ | with_reducible refine NormL.mk (nl_i _) ?_ | with_reducible refine NormL.mk (nl_b _ _) ?_ | with_reducible refine NormL.mk (nl_sc _ _) ?_ | with_reducible refine NormL.mk (nl_pc _ _ _) ?_ | with_reducible refine NormL.mk (nl_ic _ _) ?_ | ((with_reducible apply NormL.mk); rfl) | (with_reducible refine @UnL.s _ _ _ inferInstance ?_) | (with_reducible refine @UnL.p _ _ _ inferInstance ?_) | with_reducible refine UnL.n ?_ | with_reducible refine AndJ.mk (fun hb => ?_) ?_ | ((with_reducible refine Fin2.mk ?_ ?_); rfl; rfl) | ((with_reducible refine FinS.mk ?_ ?_); rfl; rfl) | ((with_reducible refine FinR.mk ?_ ?_ ?_); rfl; rfl; rfl) | ((with_reducible apply AllT.mk); rfl) | ((with_reducible apply SumT.mk); rfl) | ((with_reducible apply SortT.s); rfl) | ((with_reducible apply SortT.p); rfl) | ((with_reducible apply SlcG.tto); rfl) | ((with_reducible apply SlcG.lto); rfl) | ((with_reducible apply SlcG.tfr); rfl) | ((with_reducible apply SlcG.lfr); rfl) | ((with_reducible apply SlcG.tm); rfl) | ((with_reducible apply SlcG.lm); rfl) | ((with_reducible apply SlcG.an); rfl; rfl) | ((with_reducible apply IdxG.nat); rfl) | ((with_reducible apply IdxG.int); rfl) | ((with_reducible apply VwG.mk'); rfl) | ((with_reducible apply OutG.d); rfl) | ((with_reducible apply OutG.l); rfl) | ((with_reducible apply AnyG.b); rfl) | ((with_reducible apply AnyG.i); rfl) | (with_reducible refine And.intro (by omega) ?_) | (with_reducible refine Got2.d (is_seeker_ok ..) ?_) | (with_reducible refine Got1.l (loose_ok ..) ?_) | (with_reducible refine Got1.l (takers_ok ..) ?_) | (with_reducible refine Got2.d (law_seeks1_ok ..) ?_) | (with_reducible refine Got1.l (seekers_ok ..) ?_) | ((with_reducible apply And.intro); rfl) | ((with_reducible apply And.intro); (exact Nat.le_of_ble_eq_true rfl)) | ((with_reducible apply Exists.intro); (with_reducible apply And.intro); rfl) | ((with_reducible apply Exists.intro); (with_reducible apply Exists.intro); (with_reducible apply And.intro); rfl; (with_reducible apply And.intro); rfl))))
section
variable {r g l : List Str} {x : Str}
theorem product_ok {n : Nat} (h : n ≤ 24) : F_law_product.sem [.d (.int n)] = .ok (.d (.int (Pm.fac n : Int))) [none] := by
  rw [show F_law_product.sem = semOf 3 [false] b_law_product from rfl]
  refine sem_eq rfl ?_
  unfold b_law_product
  trivial
  refine w_for ?_
  trivial
  refine ⟨fun i ρ => ∃ t2, ρ = [some (.d (.int n)), some (.d (.int (Pm.fac i : Int))), t2], ⟨none, rfl⟩, ?_, ?_⟩
  · rintro i d ρ hd ⟨t2, rfl⟩
    obtain ⟨hi, rfl⟩ := rng_get hd
    have hi : i < n := by omega
    refine ⟨_, rfl, ?_⟩
    trivial
    rw [show (0 : Int) + (i : Int) + 1 = ((i + 1 : Nat) : Int) by omega]
    refine OutG.d (mulN (Nat.lt_of_lt_of_le (fac_lt (n := i) (by omega)) (by decide +kernel)) (Nat.lt_of_lt_of_le (show i + 1 < 2 ^ 100 by omega) (by decide +kernel))) ?_
    trivial
    exact ⟨_, by rw [Pm.fac_succ i, Nat.mul_comm]; rfl⟩
  · rintro ρ ⟨t2, rfl⟩
    trivial
    rw [rng_len]
    exact ⟨by simp, rfl⟩
theorem cho_lt' {n k : Nat} (h : n ≤ 24) : Pm.cho n k < 2 ^ 25 := Nat.lt_of_le_of_lt (Pm.cho_le n k) (Nat.pow_lt_pow_right (by decide) (by omega))
theorem ways_to_take_ok {n k : Nat} (h : n ≤ 24) (hk : k ≤ 1000) : F_ways_to_take.sem [.d (.int n), .d (.int k)] = .ok (.d (.int (Pm.cho n k : Int))) [none, none] := by
  rw [show F_ways_to_take.sem = semOf 4 [false, false] b_ways_to_take from rfl]
  refine sem_eq rfl ?_
  unfold b_ways_to_take
  trivial
  refine w_for ?_
  trivial
  refine ⟨fun i ρ => ∃ t3, ρ = [some (.d (.int n)), some (.d (.int k)), some (.d (.int (Pm.cho n i : Int))), t3], ⟨none, by rw [Pm.cho_zero]; rfl⟩, ?_, ?_⟩
  · rintro i d ρ hd ⟨t3, rfl⟩
    obtain ⟨hi, rfl⟩ := rng_get hd
    have hi : i < k := by omega
    have hc := cho_lt' (k := i) h
    refine ⟨_, rfl, ?_⟩
    trivial
    refine OutG.d (x := .int (Pm.cho n (i + 1) : Int)) ?_ ?_
    · have hd : divOk ((0 : Int) + (i : Int) + 1) = true := by
        have h1 : ((0 : Int) + (i : Int) + 1).natAbs.log2 < 9000 := Nat.lt_trans (lt_log (k := 20) (by omega) (by decide)) (by decide)
        exact Bool.and_eq_true_iff.mpr ⟨decide_eq_true (by omega), decide_eq_true h1⟩
      show Option.map _ (if divOk ((0 : Int) + (i : Int) + 1) = true then _ else _) = _
      rw [if_pos hd]
      show some (Rs.d (.int ((Pm.cho n i : Int) * ((n : Int) - (0 + (i : Int))) / (0 + (i : Int) + 1)))) = _
      congr 3
      have hn := Pm.cho_next n i
      have h1 : (Pm.cho n i : Int) * ((n : Int) - (0 + (i : Int))) = (0 + (i : Int) + 1) * (Pm.cho n (i + 1) : Int) := by
        have := congrArg (Nat.cast (R := Int)) hn
        push_cast at this
        grind
      rw [h1]
      exact Int.mul_ediv_cancel_left _ (by omega)
    trivial
    exact ⟨_, rfl⟩
  · rintro ρ ⟨t3, rfl⟩
    trivial
    rw [rng_len]
    exact ⟨by simp, rfl⟩
theorem sought_ok (hx : sk r g l x = true) : F_sought_ahead.sem [.d (eD r g l), .d (.int (r.idxOf x + 1 : Int))] = .ok (.ol none (((r.take (r.idxOf x)).filter (sk r g l)).map .str)) [none, none] := by
  refine sem_eq rfl ?_
  unfold b_sought_ahead
  trivial
  refine ⟨congrArg (fun t => Sl.ol none (List.map PyData.str t)) ?_, rfl⟩
  rw [show ((r.idxOf x : Nat) : Int) + 1 - 1 = ((r.idxOf x : Nat) : Int) by omega, cut_to]
  refine List.filter_congr fun c _ => ?_
  cases h : sk r g l c with
  | true => simp [h, (sk_in h).1]
  | false => simp [h]
theorem wrong_behind_ok (E : Eve r g l) (hl : r.length ≤ 24) (hx : sk r g l x = true) {m : Nat} (hm : m < r.length) : F_wrong_behind.sem [.d (eD r g l), .d (.str x), .d (.int m)] =
    .ok (.d (.int ((Pm.gg (so r g l x) (tkn r g l) (r.length - 1 - so r g l x - tkn r g l) (r.idxOf x + 1) m * Pm.fac m * Pm.fac (r.length - 1 - m) : Nat) : Int))) [none, none, none] := by
  have hh := hook_sum E hx
  have h := sk_in hx
  rw [show F_wrong_behind.sem = semOf 13 [false, false, false] b_wrong_behind from rfl]
  refine sem_eq rfl ?_
  unfold b_wrong_behind
  trivial
  refine Got2.d (shares_of_ok E hx) ?_
  trivial
  refine Got2.l (sought_ok hx) ?_
  trivial
  have e1 : (((r.take (r.idxOf x)).filter (sk r g l)).map PyData.str).length = so r g l x := by rw [List.length_map]; rfl
  have e2 : ((g.filter fun x => !sk r g l x).map PyData.str).length = tkn r g l := by rw [List.length_map]; rfl
  have e3 : (r.map PyData.str).length = r.length := List.length_map ..
  rw [e1, e2, e3]
  clear e1 e2 e3
  generalize hso : so r g l x = so' at hh ⊢
  generalize htk : tkn r g l = tk' at hh ⊢
  generalize hmo : mo r g l x = mo' at hh ⊢
  generalize hho : r.idxOf x = ho' at hh ⊢
  generalize hsz : r.length = sz' at hh hl hm ⊢
  refine w_chn ?_
  trivial
  refine ⟨_, _, true, rfl, rfl, ?_, ?_⟩
  · show some (Rs.d (.bool (decide ((0 : Int) ≤ (m : Int))))) = _
    simp
  rw [if_pos rfl]
  trivial
  refine w_f (by simp; omega) ?_
  trivial
  refine w_for ?_
  trivial
  refine ⟨fun i ρ => ∃ t9 t10 t11 t12, ρ = [some (.d (eD r g l)), some (.d (.str x)), some (.d (.int m)), some (.d (.int (ho' + 1 : Int))), some (.d (.int mo')), some (.d (.int sz')), some (.d (.int so')), some (.d (.int tk')),
    some (.d (.int (Pm.sm (fun own => Pm.sm (fun t => Pm.cho so' own * Pm.cho tk' (ho' + 1 - own + t) * Pm.rr (sz' - 1 - so' - tk') m (own + (ho' + 1 - own + t))) (tk' + 1 - (ho' + 1 - own))) i : Nat))), t9, t10, t11, t12], ⟨_, _, _, _, rfl⟩, ?_, ?_⟩
  · rintro i d ρ hd ⟨t9, t10, t11, t12, rfl⟩
    obtain ⟨hi, rfl⟩ := rng_get hd
    have hi : i < so' + 1 := by omega
    rw [show (0 : Int) + (i : Int) = (i : Int) by omega]
    generalize hP : (Pm.sm (fun own => Pm.sm (fun t => Pm.cho so' own * Pm.cho tk' (ho' + 1 - own + t) * Pm.rr (sz' - 1 - so' - tk') m (own + (ho' + 1 - own + t))) (tk' + 1 - (ho' + 1 - own))) i) = P
    refine ⟨_, rfl, ?_⟩
    trivial
    refine w_for ?_
    trivial
    refine ⟨fun j ρ => ∃ t10 t11 t12, ρ = [some (.d (eD r g l)), some (.d (.str x)), some (.d (.int m)), some (.d (.int (ho' + 1 : Int))), some (.d (.int mo')), some (.d (.int sz')), some (.d (.int so')), some (.d (.int tk')),
      some (.d (.int ((P + Pm.sm (fun t => Pm.cho so' i * Pm.cho tk' (ho' + 1 - i + t) * Pm.rr (sz' - 1 - so' - tk') m (i + (ho' + 1 - i + t))) j : Nat) : Int))), some (.d (.int i)), t10, t11, t12], ⟨_, _, _, rfl⟩, ?_, ?_⟩
    · rintro j d ρ hd ⟨t10, t11, t12, rfl⟩
      obtain ⟨hj, rfl⟩ := rng_get hd
      have hj : j < tk' + 1 - (ho' + 1 - i) := by omega
      have ef : (ho' : Int) + 1 - (i : Int) + (j : Int) = ((ho' + 1 - i + j : Nat) : Int) := by omega
      rw [ef]
      generalize hQ : Pm.sm (fun t => Pm.cho so' i * Pm.cho tk' (ho' + 1 - i + t) * Pm.rr (sz' - 1 - so' - tk') m (i + (ho' + 1 - i + t))) j = Q
      generalize hfi : ho' + 1 - i + j = fi at ef
      refine ⟨_, rfl, ?_⟩
      trivial
      refine w_tf (fun hq => ?_) fun hq => ?_
      · have hq := of_decide_eq_true hq
        trivial
        refine Got2.d (ways_to_take_ok (by omega) (by omega)) ?_
        trivial
        refine Got2.d (ways_to_take_ok (by omega) (by omega)) ?_
        trivial
        refine OutG.d (mulN (Nat.lt_trans (cho_lt' (by omega)) (by decide)) (Nat.lt_trans (cho_lt' (by omega)) (by decide))) ?_
        trivial
        have er : (m : Int) - (i : Int) - (fi : Int) = ((m - (i + fi) : Nat) : Int) := by omega
        have eM : (sz' : Int) - 1 - (so' : Int) - (tk' : Int) = ((sz' - 1 - so' - tk' : Nat) : Int) := by omega
        rw [er, eM]
        refine Got2.d (ways_to_take_ok (by omega) (by omega)) ?_
        trivial
        refine OutG.d (mulN (Nat.lt_trans (Nat.mul_lt_mul'' (cho_lt' (by omega)) (cho_lt' (by omega))) (by decide)) (Nat.lt_trans (cho_lt' (by omega)) (by decide))) ?_
        trivial
        have es : Pm.sm (fun t => Pm.cho so' i * Pm.cho tk' (ho' + 1 - i + t) * Pm.rr (sz' - 1 - so' - tk') m (i + (ho' + 1 - i + t))) (j + 1) = Q + Pm.cho so' i * Pm.cho tk' fi * Pm.cho (sz' - 1 - so' - tk') (m - (i + fi)) := by
          rw [← hQ, ← hfi]
          have e0 : Pm.rr (sz' - 1 - so' - tk') m (i + (ho' + 1 - i + j)) = Pm.cho (sz' - 1 - so' - tk') (m - (i + (ho' + 1 - i + j))) := if_pos (by omega)
          show _ + Pm.cho so' i * Pm.cho tk' (ho' + 1 - i + j) * Pm.rr _ m (i + (ho' + 1 - i + j)) = _
          rw [e0]
        exact ⟨_, _, _, by rw [es, show (P + (Q + Pm.cho so' i * Pm.cho tk' fi * Pm.cho (sz' - 1 - so' - tk') (m - (i + fi))) : Nat) = (P + Q) + Pm.cho so' i * Pm.cho tk' fi * Pm.cho (sz' - 1 - so' - tk') (m - (i + fi)) by omega, Int.natCast_add]; rfl⟩
      · have hq := of_decide_eq_false hq
        trivial
        have es : Pm.sm (fun t => Pm.cho so' i * Pm.cho tk' (ho' + 1 - i + t) * Pm.rr (sz' - 1 - so' - tk') m (i + (ho' + 1 - i + t))) (j + 1) = Q := by
          rw [← hQ]
          have e0 : Pm.rr (sz' - 1 - so' - tk') m (i + (ho' + 1 - i + j)) = 0 := if_neg (by omega)
          show _ + Pm.cho so' i * Pm.cho tk' (ho' + 1 - i + j) * Pm.rr _ m (i + (ho' + 1 - i + j)) = _
          rw [e0, Nat.mul_zero, Nat.add_zero]
        exact ⟨_, _, _, by rw [es]; rfl⟩
    · rintro ρ ⟨t10, t11, t12, rfl⟩
      trivial
      rw [rng_len]
      rw [show ((tk' : Int) + 1 - ((ho' : Int) + 1 - (i : Int))).toNat = tk' + 1 - (ho' + 1 - i) by omega, ← hP]
      exact ⟨_, _, _, _, rfl⟩
  · rintro ρ ⟨t9, t10, t11, t12, rfl⟩
    rw [rng_len, show ((so' : Int) + 1).toNat = so' + 1 by omega]
    have eg : Pm.sm (fun own => Pm.sm (fun t => Pm.cho so' own * Pm.cho tk' (ho' + 1 - own + t) * Pm.rr (sz' - 1 - so' - tk') m (own + (ho' + 1 - own + t))) (tk' + 1 - (ho' + 1 - own))) (so' + 1) = Pm.gg so' tk' (sz' - 1 - so' - tk') (ho' + 1) m := rfl
    rw [eg]
    have hK : ho' + 1 + mo' = so' + tk' + 1 := hh.1
    have hM : so' + tk' + (sz' - 1 - so' - tk') = sz' - 1 := by omega
    have hb := Pm.gk_most (M := sz' - 1 - so' - tk') hK (sz' - 1 - m) m (by omega)
    rw [← Pm.gg_eq (by omega) hK, hM, ← Nat.mul_assoc] at hb
    have hf : Pm.fac (sz' - 1) < 2 ^ 100 := fac_lt (by omega)
    have hb1 := Nat.le_trans (Nat.le_mul_of_pos_right _ (Pm.fac_pos (sz' - 1 - m))) hb
    have hb2 := Nat.le_trans (Nat.le_mul_of_pos_right _ (Pm.fac_pos m)) hb1
    trivial
    refine Got1.d (factorial_ok (by omega)) ?_
    trivial
    refine OutG.d (mulN ?_ (Nat.lt_trans (fac_lt (by omega)) (by decide))) ?_
    · exact Nat.lt_of_le_of_lt hb2 (Nat.lt_trans hf (by decide))
    trivial
    rw [show (sz' : Int) - 1 - (m : Int) = ((sz' - 1 - m : Nat) : Int) by omega]
    refine Got1.d (factorial_ok (by omega)) ?_
    trivial
    refine OutG.d (mulN ?_ (Nat.lt_trans (fac_lt (by omega)) (by decide))) ?_
    · exact Nat.lt_of_le_of_lt hb1 (Nat.lt_trans hf (by decide))
    trivial
end
end Pw
/-! what the program computes: wrong_many, danger; the law's own going -/
namespace Pm
def pm {α : Type} (f : α → Nat) : List α → Nat
  | [] => 1
  | x :: xs => f x * pm f xs
theorem pm_app {α : Type} (f : α → Nat) : ∀ xs ys : List α, pm f (xs ++ ys) = pm f xs * pm f ys
  | [], ys => by simp [pm]
  | x :: xs, ys => by simp only [List.cons_append, pm, pm_app f xs ys, Nat.mul_assoc]
theorem pm_snoc {α : Type} (f : α → Nat) (xs : List α) (y : α) : pm f (xs ++ [y]) = pm f xs * f y := by rw [pm_app]; simp [pm]
theorem pm_le {α : Type} {f : α → Nat} {b : Nat} : ∀ {xs : List α}, (∀ x ∈ xs, f x ≤ 2 ^ b) → pm f xs ≤ 2 ^ (b * xs.length)
  | [], _ => Nat.le_refl _
  | x :: xs, h => by
    have h1 := h x List.mem_cons_self
    have h2 := pm_le (xs := xs) fun y hy => h y (List.mem_cons_of_mem _ hy)
    rw [List.length_cons, Nat.mul_succ, Nat.add_comm, Nat.pow_add]
    exact Nat.mul_le_mul h1 h2
theorem pm_pos {α : Type} {f : α → Nat} : ∀ {xs : List α}, (∀ x ∈ xs, 0 < f x) → 0 < pm f xs
  | [], _ => Nat.one_pos
  | x :: xs, h => Nat.mul_pos (h x List.mem_cons_self) (pm_pos fun y hy => h y (List.mem_cons_of_mem _ hy))
end Pm
namespace Pw
open PySem PySem.Spec PyProof.Rows L2
-- OMEGA (ranges' bounds by omega)
-- SPECS: is_seeker_ok:2d loose_ok:1l takers_ok:1l law_seeks1_ok:2d seekers_ok:1l
set_option hygiene false
local macro_rules | `(tactic| trivial) => `(tactic| (repeat (first | ((with_reducible refine g_ev ?_); first | ((with_reducible apply w_var); rfl) | with_reducible refine w_bin ?_ | with_reducible refine w_cmp ?_ | with_reducible refine w_idx ?_ | with_reducible refine w_li ?_ | with_reducible refine w_ls ?_ | with_reducible refine w_lb ?_ | with_reducible refine w_ln ?_ | with_reducible refine w_glo ?_ | with_reducible refine w_not ?_ | with_reducible refine w_tup ?_ | with_reducible refine w_lstU ?_ | with_reducible refine w_bsort ?_ | with_reducible refine w_and ?_ | with_reducible refine w_or ?_ | with_reducible refine w_slg ?_ | with_reducible refine w_isi ?_ | with_reducible refine w_metg ?_ | with_reducible refine w_mut ?_ | with_reducible refine w_neg ?_ | with_reducible refine w_dct ?_ | (with_reducible refine w_c1 rfl ?_) | (with_reducible refine w_c2 rfl ?_) | (with_reducible refine w_c3 rfl ?_) | (with_reducible refine w_c4 rfl ?_) | (with_reducible refine w_c5 rfl ?_) | with_reducible apply w_ball | with_reducible refine w_banyG ?_ | with_reducible apply w_bsum | with_reducible refine w_bltg ?_ | ((with_reducible apply w_cm); rfl) | ((with_reducible apply w_cm0); rfl) | ((with_reducible apply w_sscrM); rfl)) | ((with_reducible refine g_op ?_); first | ((with_reducible apply w_add); rfl; rfl) | ((with_reducible apply w_sb); rfl; rfl) | ((with_reducible apply w_gt); rfl; rfl) | ((with_reducible apply w_lt); rfl; rfl) | ((with_reducible apply w_ge); rfl; rfl) | ((with_reducible apply w_le); rfl; rfl) | ((with_reducible apply w_eqI); rfl; rfl) | ((with_reducible apply w_neI); rfl; rfl) | ((with_reducible apply w_eqS); rfl; rfl) | ((with_reducible apply w_neS); rfl; rfl) | ((with_reducible apply w_eqB); rfl; rfl) | ((with_reducible apply w_neB); rfl; rfl) | ((with_reducible apply w_inlS); rfl; rfl) | ((with_reducible apply w_intS); rfl; rfl) | ((with_reducible apply w_nilS); rfl; rfl) | ((with_reducible apply w_nitS); rfl; rfl) | ((with_reducible apply w_inlP); rfl; rfl) | ((with_reducible apply w_intP); rfl; rfl) | ((with_reducible apply w_nilP); rfl; rfl) | ((with_reducible apply w_nitP); rfl; rfl) | ((with_reducible apply w_ixk); rfl; rfl; rfl) | ((with_reducible apply w_ixl); rfl; rfl; rfl; rfl) | ((with_reducible apply w_ixt); rfl; rfl; rfl; rfl) | ((with_reducible apply w_mul); rfl; rfl; (exact mulOk_lt (by omega) (by omega))) | ((with_reducible apply w_mod); rfl; rfl; decide) | ((with_reducible apply w_mod); rfl; rfl; omega) | ((with_reducible apply w_div); rfl; rfl; decide) | ((with_reducible apply w_pow); rfl; rfl; decide) | ((with_reducible apply w_nel EqE.str); rfl; rfl) | ((with_reducible apply w_nel EqE.pr); rfl; rfl) | ((with_reducible apply w_eql EqE.str); rfl; rfl) | ((with_reducible apply w_eql EqE.pr); rfl; rfl) | with_reducible refine w_opg ?_) | ((with_reducible refine g_x ?_); first | with_reducible refine w_cons ?_ | with_reducible refine w_asg ?_ | with_reducible refine w_ret ?_ | with_reducible refine w_nil ?_ | with_reducible refine w_exp ?_ | with_reducible refine w_ifs ?_ | with_reducible refine w_par ?_ | with_reducible refine w_unp ?_ | with_reducible refine w_sub ?_ | with_reducible refine w_unpSub ?_ | with_reducible refine w_ps0 ?_ | with_reducible refine w_aug ?_ | with_reducible refine w_pass ?_ | (with_reducible refine w_psc (Nat.le_of_ble_eq_true rfl) ?_) | ((with_reducible apply w_setSub); rfl; rfl) | (with_reducible refine w_setS (Nat.le_of_ble_eq_true rfl) ?_)) | ((with_reducible refine g_r ?_); first | ((with_reducible apply w_izipV); rfl; rfl) | ((with_reducible apply w_test); rfl) | ((with_reducible apply w_fz); rfl) | ((with_reducible apply w_varR); rfl) | with_reducible apply w_andJ | with_reducible apply w_orJ | ((with_reducible apply w_fzR); rfl) | ((with_reducible apply w_outa); rfl) | with_reducible refine w_acons ?_ | with_reducible refine w_anil ?_ | with_reducible refine w_lcons ?_ | with_reducible refine w_lnil ?_ | with_reducible refine w_wcons ?_ | with_reducible refine w_wnil ?_ | with_reducible refine w_b1 ?_ | with_reducible refine w_onon ?_ | with_reducible refine w_osomG ?_ | with_reducible refine w_ownd ?_ | with_reducible refine w_ownl ?_ | with_reducible refine w_ownk ?_ | with_reducible refine w_owna ?_ | with_reducible refine w_rawd ?_ | with_reducible refine w_rawl ?_ | with_reducible refine w_raws ?_ | with_reducible refine w_rawa ?_ | with_reducible refine w_outd ?_ | with_reducible refine w_outl ?_ | with_reducible refine w_ival ?_ | with_reducible refine w_irng1 ?_ | with_reducible refine w_irng2 ?_ | with_reducible refine w_ienm ?_ | with_reducible refine w_izip ?_ | with_reducible refine w_irev ?_ | with_reducible refine w_qnon ?_ | with_reducible refine w_qsom ?_) | ((with_reducible refine CmT.mk ?_ ?_ (fun hb => ?_)); rfl; rfl) | ((with_reducible refine Fin1.mk ?_ ?_); rfl; rfl) | ((with_reducible refine CmI.mk (zip_map _ _) ?_ ?_); (intro z hz; (with_reducible apply Exists.intro); (with_reducible apply And.intro); rfl)) | ((with_reducible refine CmI.mk (enum_map _) ?_ ?_); (intro z hz; (with_reducible apply Exists.intro); (with_reducible apply And.intro); rfl)) | ((with_reducible apply CmI.mk); rfl; (intro z hz; (with_reducible apply Exists.intro); (with_reducible apply And.intro); rfl)) | with_reducible refine NormL.mk (nl_s _) ?_ | with_reducible refine NormL.mk (nl_p _) ?_ | with_reducible refine NormL.mk (nl_i _) ?_ | with_reducible refine NormL.mk (nl_b _ _) ?_ | with_reducible refine NormL.mk (nl_sc _ _) ?_ | with_reducible refine NormL.mk (nl_pc _ _ _) ?_ | with_reducible refine NormL.mk (nl_ic _ _) ?_ | ((with_reducible apply NormL.mk); rfl) | (with_reducible refine @UnL.s _ _ _ inferInstance ?_) | (with_reducible refine @UnL.p _ _ _ inferInstance ?_) | with_reducible refine UnL.n ?_ | with_reducible refine AndJ.mk (fun hb => ?_) ?_ | ((with_reducible refine Fin2.mk ?_ ?_); rfl; rfl) | ((with_reducible refine FinS.mk ?_ ?_); rfl; rfl) | ((with_reducible refine FinR.mk ?_ ?_ ?_); rfl; rfl; rfl) | ((with_reducible apply AllT.mk); rfl) | ((with_reducible apply SumT.mk); rfl) | ((with_reducible apply SortT.s); rfl) | ((with_reducible apply SortT.p); rfl) | ((with_reducible apply SlcG.tto); rfl) | ((with_reducible apply SlcG.lto); rfl) | ((with_reducible apply SlcG.tfr); rfl) | ((with_reducible apply SlcG.lfr); rfl) | ((with_reducible apply SlcG.tm); rfl) | ((with_reducible apply SlcG.lm); rfl) | ((with_reducible apply SlcG.an); rfl; rfl) | ((with_reducible apply IdxG.nat); rfl) | ((with_reducible apply IdxG.int); rfl) | ((with_reducible apply VwG.mk'); rfl) | ((with_reducible apply OutG.d); rfl) | ((with_reducible apply OutG.l); rfl) | ((with_reducible apply AnyG.b); rfl) | ((with_reducible apply AnyG.i); rfl) | (with_reducible refine And.intro (by omega) ?_) | (with_reducible refine Got2.d (is_seeker_ok ..) ?_) | (with_reducible refine Got1.l (loose_ok ..) ?_) | (with_reducible refine Got1.l (takers_ok ..) ?_) | (with_reducible refine Got2.d (law_seeks1_ok ..) ?_) | (with_reducible refine Got1.l (seekers_ok ..) ?_) | ((with_reducible apply And.intro); rfl) | ((with_reducible apply And.intro); (exact Nat.le_of_ble_eq_true rfl)) | ((with_reducible apply Exists.intro); (with_reducible apply And.intro); rfl) | ((with_reducible apply Exists.intro); (with_reducible apply Exists.intro); (with_reducible apply And.intro); rfl; (with_reducible apply And.intro); rfl))))
section
variable {r g l gs ws rs : List Str} {x : Str}
def hk (r : List Str) (x : Str) : Nat := r.idxOf x + 1
theorem hk_le (E : Eve r g l) (hl : r.length ≤ 24) (hx : sk r g l x = true) : hk r x ≤ 2 ^ 5 ∧ mo r g l x ≤ 2 ^ 5 ∧ hk r x + mo r g l x ≤ 2 ^ 5 := by
  have := hook_sum E hx
  unfold hk; omega
theorem wm_bound {f : Str → Nat} {b c : Nat} {ws : List Str} {t : Nat} (h : ∀ x ∈ ws, f x ≤ 2 ^ b) (ht : t < 2 ^ c) : t * Pm.pm f ws < 2 ^ (c + b * ws.length) := by
  rw [Nat.pow_add]
  refine Nat.lt_of_lt_of_le (Nat.mul_lt_mul_of_lt_of_le ht (Pm.pm_le h) (Nat.two_pow_pos _)) (Nat.le_refl _)
theorem pow_lt {n : Nat} (h : n < 250) {t : Nat} (ht : t < 2 ^ n) : t < 2 ^ 250 := Nat.lt_trans ht (Nat.pow_lt_pow_right (by decide) h)
theorem wrong_many_ok (E : Eve r g l) (hl : r.length ≤ 24) (hw : ∀ x ∈ ws, sk r g l x = true) (hr : ∀ x ∈ rs, sk r g l x = true) (hn : ws.length + rs.length ≤ 28) : F_wrong_many_v1.sem [.d (eD r g l), .d (.list (ws.map .str)), .d (.list (rs.map .str))] =
    .ok (.d (.int ((Pm.fac r.length * Pm.pm (mo r g l) ws * Pm.pm (hk r) rs / (Pm.pm (fun x => hk r x + mo r g l x) ws * Pm.pm (fun x => hk r x + mo r g l x) rs) : Nat) : Int))) [none, none, none] := by
  have hf : Pm.fac r.length < 2 ^ 100 := fac_lt (by omega)
  have bt1 : ∀ i, Pm.fac r.length * Pm.pm (mo r g l) (ws.take i) < 2 ^ (100 + 5 * (ws.take i).length) := fun i => wm_bound (fun x hx => (hk_le E hl (hw x (List.mem_of_mem_take hx))).2.1) hf
  have bt2 : ∀ i, Pm.fac r.length * Pm.pm (mo r g l) ws * Pm.pm (hk r) (rs.take i) < 2 ^ (100 + 5 * ws.length + 5 * (rs.take i).length) := fun i => wm_bound (fun x hx => (hk_le E hl (hr x (List.mem_of_mem_take hx))).1) (by have := bt1 ws.length; rwa [List.take_length] at this)
  have bb1 : ∀ i, Pm.pm (fun x => hk r x + mo r g l x) (ws.take i) < 2 ^ (1 + 5 * (ws.take i).length) := fun i => by
    have := wm_bound (f := fun x => hk r x + mo r g l x) (ws := ws.take i) (t := 1) (c := 1) (fun x hx => (hk_le E hl (hw x (List.mem_of_mem_take hx))).2.2) (by decide)
    rwa [Nat.one_mul] at this
  have bb2 : ∀ i, Pm.pm (fun x => hk r x + mo r g l x) ws * Pm.pm (fun x => hk r x + mo r g l x) (rs.take i) < 2 ^ (1 + 5 * ws.length + 5 * (rs.take i).length) := fun i => wm_bound (f := fun x => hk r x + mo r g l x) (fun x hx => (hk_le E hl (hr x (List.mem_of_mem_take hx))).2.2) (by have := bb1 ws.length; rwa [List.take_length] at this)
  have sm1 : ∀ x, sk r g l x = true → hk r x < 2 ^ 250 ∧ mo r g l x < 2 ^ 250 ∧ hk r x + mo r g l x < 2 ^ 250 := fun x hx => by
    have := hk_le E hl hx
    refine ⟨Nat.lt_of_le_of_lt this.1 (by decide), Nat.lt_of_le_of_lt this.2.1 (by decide), Nat.lt_of_le_of_lt this.2.2 (by decide)⟩
  have tl : ∀ (xs : List Str) (i : Nat), (xs.take i).length ≤ xs.length := fun xs i => by rw [List.length_take]; omega
  rw [show F_wrong_many_v1.sem = semOf 8 [false, false, false] b_wrong_many_v1 from rfl]
  refine sem_eq rfl ?_
  unfold b_wrong_many_v1
  trivial
  rw [List.length_map]
  refine Got1.d (factorial_ok hl) ?_
  trivial
  refine w_for ?_
  trivial
  refine ⟨fun i ρ => ∃ t5 t6 t7, ρ = [some (.d (eD r g l)), some (.d (.list (ws.map .str))), some (.d (.list (rs.map .str))), some (.d (.int ((Pm.fac r.length * Pm.pm (mo r g l) (ws.take i) : Nat) : Int))), some (.d (.int ((Pm.pm (fun x => hk r x + mo r g l x) (ws.take i) : Nat) : Int))), t5, t6, t7],
    ⟨_, _, _, by rw [List.take_zero]; show _ = [_, _, _, some (Sl.d (.int ((Pm.fac r.length * 1 : Nat) : Int))), _, _, _, _]; rw [Nat.mul_one]; rfl⟩, ?_, ?_⟩
  · rintro i d ρ hd ⟨t5, t6, t7, rfl⟩
    obtain ⟨y, hy, rfl⟩ := map_get hd
    have hsy := hw y (List.mem_of_getElem? hy)
    refine ⟨_, rfl, ?_⟩
    trivial
    refine Got2.d (shares_of_ok E hsy) ?_
    trivial
    refine OutG.d (mulN (pow_lt (by have := tl ws i; omega) (bt1 i)) (sm1 y hsy).2.1) ?_
    trivial
    rw [show ((r.idxOf y : Nat) : Int) + 1 + (mo r g l y : Int) = ((hk r y + mo r g l y : Nat) : Int) by unfold hk; omega]
    refine OutG.d (mulN (pow_lt (by have := tl ws i; omega) (bb1 i)) (sm1 y hsy).2.2) ?_
    trivial
    refine ⟨some (.d (.str y)), some (.d (.int (r.idxOf y + 1 : Int))), some (.d (.int (mo r g l y))), ?_⟩
    rw [take_snoc hy, Pm.pm_snoc, Pm.pm_snoc, Nat.mul_assoc]; rfl
  · rintro ρ ⟨t5, t6, t7, rfl⟩
    rw [List.length_map, List.take_length]
    trivial
    refine w_for ?_
    trivial
    refine ⟨fun i ρ => ∃ t5 t6 t7, ρ = [some (.d (eD r g l)), some (.d (.list (ws.map .str))), some (.d (.list (rs.map .str))), some (.d (.int ((Pm.fac r.length * Pm.pm (mo r g l) ws * Pm.pm (hk r) (rs.take i) : Nat) : Int))), some (.d (.int ((Pm.pm (fun x => hk r x + mo r g l x) ws * Pm.pm (fun x => hk r x + mo r g l x) (rs.take i) : Nat) : Int))), t5, t6, t7],
      ⟨t5, t6, t7, by rw [List.take_zero]; show _ = [_, _, _, some (Sl.d (.int ((_ * 1 : Nat) : Int))), some (Sl.d (.int ((_ * 1 : Nat) : Int))), _, _, _]; rw [Nat.mul_one, Nat.mul_one]⟩, ?_, ?_⟩
    · rintro i d ρ hd ⟨t5, t6, t7, rfl⟩
      obtain ⟨y, hy, rfl⟩ := map_get hd
      have hsy := hr y (List.mem_of_getElem? hy)
      refine ⟨_, rfl, ?_⟩
      trivial
      refine Got2.d (shares_of_ok E hsy) ?_
      trivial
      rw [show ((r.idxOf y : Nat) : Int) + 1 = ((hk r y : Nat) : Int) by unfold hk; omega]
      refine OutG.d (mulN (pow_lt (by have := tl rs i; omega) (bt2 i)) (sm1 y hsy).1) ?_
      trivial
      rw [show ((hk r y : Nat) : Int) + (mo r g l y : Int) = ((hk r y + mo r g l y : Nat) : Int) by omega]
      refine OutG.d (mulN (pow_lt (by have := tl rs i; omega) (bb2 i)) (sm1 y hsy).2.2) ?_
      trivial
      refine ⟨some (.d (.str y)), some (.d (.int (hk r y))), some (.d (.int (mo r g l y))), ?_⟩
      rw [take_snoc hy, Pm.pm_snoc, Pm.pm_snoc, Nat.mul_assoc (Pm.fac r.length * Pm.pm (mo r g l) ws), Nat.mul_assoc (Pm.pm (fun x => hk r x + mo r g l x) ws)]; rfl
    · rintro ρ ⟨t5, t6, t7, rfl⟩
      rw [List.length_map, List.take_length]
      have hb := bb2 rs.length
      rw [List.take_length] at hb
      have hp : 0 < Pm.pm (fun x => hk r x + mo r g l x) ws * Pm.pm (fun x => hk r x + mo r g l x) rs := Nat.mul_pos (Pm.pm_pos fun x _ => by unfold hk; omega) (Pm.pm_pos fun x _ => by unfold hk; omega)
      generalize Pm.pm (fun x => hk r x + mo r g l x) ws * Pm.pm (fun x => hk r x + mo r g l x) rs = B at hb hp ⊢
      trivial
      refine OutG.d (x := .int ((Pm.fac r.length * Pm.pm (mo r g l) ws * Pm.pm (hk r) rs / B : Nat) : Int)) ?_ ?_
      · have hd : divOk (B : Int) = true := Bool.and_eq_true_iff.mpr ⟨decide_eq_true (by omega), decide_eq_true (Nat.lt_trans (lt_log (k := 256) (by rw [Int.natAbs_natCast]; exact Nat.lt_trans (pow_lt (by omega) hb) (by decide)) (by decide)) (by decide))⟩
        show Option.map _ (if divOk (B : Int) = true then _ else _) = _
        rw [if_pos hd]; rfl
      trivial
end
end Pw
/-! what the program computes: danger; the law's own going -/
namespace Pw
open PySem PySem.Spec PyProof.Rows L2
-- OMEGA (ranges' bounds by omega)
-- SPECS: is_seeker_ok:2d loose_ok:1l takers_ok:1l law_seeks1_ok:2d seekers_ok:1l
set_option hygiene false
local macro_rules | `(tactic| trivial) => `(tactic| (repeat (first | ((with_reducible refine g_ev ?_); first | ((with_reducible apply w_var); rfl) | with_reducible refine w_bin ?_ | with_reducible refine w_cmp ?_ | with_reducible refine w_idx ?_ | with_reducible refine w_li ?_ | with_reducible refine w_ls ?_ | with_reducible refine w_lb ?_ | with_reducible refine w_ln ?_ | with_reducible refine w_glo ?_ | with_reducible refine w_not ?_ | with_reducible refine w_tup ?_ | with_reducible refine w_lstU ?_ | with_reducible refine w_bsort ?_ | with_reducible refine w_and ?_ | with_reducible refine w_or ?_ | with_reducible refine w_slg ?_ | with_reducible refine w_isi ?_ | with_reducible refine w_metg ?_ | with_reducible refine w_mut ?_ | with_reducible refine w_neg ?_ | with_reducible refine w_dct ?_ | (with_reducible refine w_c1 rfl ?_) | (with_reducible refine w_c2 rfl ?_) | (with_reducible refine w_c3 rfl ?_) | (with_reducible refine w_c4 rfl ?_) | (with_reducible refine w_c5 rfl ?_) | with_reducible apply w_ball | with_reducible refine w_banyG ?_ | with_reducible apply w_bsum | with_reducible refine w_bltg ?_ | ((with_reducible apply w_cm); rfl) | ((with_reducible apply w_cm0); rfl) | ((with_reducible apply w_sscrM); rfl)) | ((with_reducible refine g_op ?_); first | ((with_reducible apply w_add); rfl; rfl) | ((with_reducible apply w_sb); rfl; rfl) | ((with_reducible apply w_gt); rfl; rfl) | ((with_reducible apply w_lt); rfl; rfl) | ((with_reducible apply w_ge); rfl; rfl) | ((with_reducible apply w_le); rfl; rfl) | ((with_reducible apply w_eqI); rfl; rfl) | ((with_reducible apply w_neI); rfl; rfl) | ((with_reducible apply w_eqS); rfl; rfl) | ((with_reducible apply w_neS); rfl; rfl) | ((with_reducible apply w_eqB); rfl; rfl) | ((with_reducible apply w_neB); rfl; rfl) | ((with_reducible apply w_inlS); rfl; rfl) | ((with_reducible apply w_intS); rfl; rfl) | ((with_reducible apply w_nilS); rfl; rfl) | ((with_reducible apply w_nitS); rfl; rfl) | ((with_reducible apply w_inlP); rfl; rfl) | ((with_reducible apply w_intP); rfl; rfl) | ((with_reducible apply w_nilP); rfl; rfl) | ((with_reducible apply w_nitP); rfl; rfl) | ((with_reducible apply w_ixk); rfl; rfl; rfl) | ((with_reducible apply w_ixl); rfl; rfl; rfl; rfl) | ((with_reducible apply w_ixt); rfl; rfl; rfl; rfl) | ((with_reducible apply w_mul); rfl; rfl; (exact mulOk_lt (by omega) (by omega))) | ((with_reducible apply w_mod); rfl; rfl; decide) | ((with_reducible apply w_mod); rfl; rfl; omega) | ((with_reducible apply w_div); rfl; rfl; decide) | ((with_reducible apply w_pow); rfl; rfl; decide) | ((with_reducible apply w_nel EqE.str); rfl; rfl) | ((with_reducible apply w_nel EqE.pr); rfl; rfl) | ((with_reducible apply w_eql EqE.str); rfl; rfl) | ((with_reducible apply w_eql EqE.pr); rfl; rfl) | with_reducible refine w_opg ?_) | ((with_reducible refine g_x ?_); first | with_reducible refine w_cons ?_ | with_reducible refine w_asg ?_ | with_reducible refine w_ret ?_ | with_reducible refine w_nil ?_ | with_reducible refine w_exp ?_ | with_reducible refine w_ifs ?_ | with_reducible refine w_par ?_ | with_reducible refine w_unp ?_ | with_reducible refine w_sub ?_ | with_reducible refine w_unpSub ?_ | with_reducible refine w_ps0 ?_ | with_reducible refine w_aug ?_ | with_reducible refine w_pass ?_ | (with_reducible refine w_psc (Nat.le_of_ble_eq_true rfl) ?_) | ((with_reducible apply w_setSub); rfl; rfl) | (with_reducible refine w_setS (Nat.le_of_ble_eq_true rfl) ?_)) | ((with_reducible refine g_r ?_); first | ((with_reducible apply w_izipV); rfl; rfl) | ((with_reducible apply w_test); rfl) | ((with_reducible apply w_fz); rfl) | ((with_reducible apply w_varR); rfl) | with_reducible apply w_andJ | with_reducible apply w_orJ | ((with_reducible apply w_fzR); rfl) | ((with_reducible apply w_outa); rfl) | with_reducible refine w_acons ?_ | with_reducible refine w_anil ?_ | with_reducible refine w_lcons ?_ | with_reducible refine w_lnil ?_ | with_reducible refine w_wcons ?_ | with_reducible refine w_wnil ?_ | with_reducible refine w_b1 ?_ | with_reducible refine w_onon ?_ | with_reducible refine w_osomG ?_ | with_reducible refine w_ownd ?_ | with_reducible refine w_ownl ?_ | with_reducible refine w_ownk ?_ | with_reducible refine w_owna ?_ | with_reducible refine w_rawd ?_ | with_reducible refine w_rawl ?_ | with_reducible refine w_raws ?_ | with_reducible refine w_rawa ?_ | with_reducible refine w_outd ?_ | with_reducible refine w_outl ?_ | with_reducible refine w_ival ?_ | with_reducible refine w_irng1 ?_ | with_reducible refine w_irng2 ?_ | with_reducible refine w_ienm ?_ | with_reducible refine w_izip ?_ | with_reducible refine w_irev ?_ | with_reducible refine w_qnon ?_ | with_reducible refine w_qsom ?_) | ((with_reducible refine CmT.mk ?_ ?_ (fun hb => ?_)); rfl; rfl) | ((with_reducible refine Fin1.mk ?_ ?_); rfl; rfl) | ((with_reducible refine CmI.mk (zip_map _ _) ?_ ?_); (intro z hz; (with_reducible apply Exists.intro); (with_reducible apply And.intro); rfl)) | ((with_reducible refine CmI.mk (enum_map _) ?_ ?_); (intro z hz; (with_reducible apply Exists.intro); (with_reducible apply And.intro); rfl)) | ((with_reducible apply CmI.mk); rfl; (intro z hz; (with_reducible apply Exists.intro); (with_reducible apply And.intro); rfl)) | with_reducible refine NormL.mk (nl_s _) ?_ | with_reducible refine NormL.mk (nl_p _) ?_ | with_reducible refine NormL.mk (nl_i _) ?_ | with_reducible refine NormL.mk (nl_b _ _) ?_ | with_reducible refine NormL.mk (nl_sc _ _) ?_ | with_reducible refine NormL.mk (nl_pc _ _ _) ?_ | with_reducible refine NormL.mk (nl_ic _ _) ?_ | ((with_reducible apply NormL.mk); rfl) | (with_reducible refine @UnL.s _ _ _ inferInstance ?_) | (with_reducible refine @UnL.p _ _ _ inferInstance ?_) | with_reducible refine UnL.n ?_ | with_reducible refine AndJ.mk (fun hb => ?_) ?_ | ((with_reducible refine Fin2.mk ?_ ?_); rfl; rfl) | ((with_reducible refine FinS.mk ?_ ?_); rfl; rfl) | ((with_reducible refine FinR.mk ?_ ?_ ?_); rfl; rfl; rfl) | ((with_reducible apply AllT.mk); rfl) | ((with_reducible apply SumT.mk); rfl) | ((with_reducible apply SortT.s); rfl) | ((with_reducible apply SortT.p); rfl) | ((with_reducible apply SlcG.tto); rfl) | ((with_reducible apply SlcG.lto); rfl) | ((with_reducible apply SlcG.tfr); rfl) | ((with_reducible apply SlcG.lfr); rfl) | ((with_reducible apply SlcG.tm); rfl) | ((with_reducible apply SlcG.lm); rfl) | ((with_reducible apply SlcG.an); rfl; rfl) | ((with_reducible apply IdxG.nat); rfl) | ((with_reducible apply IdxG.int); rfl) | ((with_reducible apply VwG.mk'); rfl) | ((with_reducible apply OutG.d); rfl) | ((with_reducible apply OutG.l); rfl) | ((with_reducible apply AnyG.b); rfl) | ((with_reducible apply AnyG.i); rfl) | (with_reducible refine And.intro (by omega) ?_) | (with_reducible refine Got2.d (is_seeker_ok ..) ?_) | (with_reducible refine Got1.l (loose_ok ..) ?_) | (with_reducible refine Got1.l (takers_ok ..) ?_) | (with_reducible refine Got2.d (law_seeks1_ok ..) ?_) | (with_reducible refine Got1.l (seekers_ok ..) ?_) | ((with_reducible apply And.intro); rfl) | ((with_reducible apply And.intro); (exact Nat.le_of_ble_eq_true rfl)) | ((with_reducible apply Exists.intro); (with_reducible apply And.intro); rfl) | ((with_reducible apply Exists.intro); (with_reducible apply Exists.intro); (with_reducible apply And.intro); rfl; (with_reducible apply And.intro); rfl))))
section
variable {r g l gs ws rs : List Str} {x : Str}
/-- so few as can be -/
def lot (r g l : List Str) (x : Str) : List Str := sortS ((r.take (r.idxOf x)).filter (sk r g l) ++ (g.filter fun c => !sk r g l c).take (r.idxOf x + 1 - so r g l x))
theorem danger_none (E : Eve r g l) (hx : sk r g l x = true) (h0 : mo r g l x = 0) : F_danger.sem [.d (eD r g l), .d (.str x)] = .ok (.d .none) [none, none] := by
  refine sem_eq rfl ?_
  unfold b_danger
  trivial
  refine Got2.d (shares_of_ok E hx) ?_
  trivial
  refine w_t (by simp [h0]) ?_
  trivial
theorem danger_ok (E : Eve r g l) (hl : r.length ≤ 24) (hx : sk r g l x = true) (h0 : 0 < mo r g l x) : F_danger.sem [.d (eD r g l), .d (.str x)] = .ok (.d (.tuple ((lot r g l x).map .str))) [none, none] := by
  have hh := hook_sum E hx
  refine sem_eq rfl ?_
  unfold b_danger
  trivial
  refine Got2.d (shares_of_ok E hx) ?_
  trivial
  refine w_f (by simp; omega) ?_
  trivial
  refine Got2.l (sought_ok hx) ?_
  trivial
  have e1 : (((r.take (r.idxOf x)).filter (sk r g l)).map PyData.str).length = so r g l x := by rw [List.length_map]; rfl
  rw [e1, show ((r.idxOf x : Nat) : Int) + 1 - (so r g l x : Int) = ((r.idxOf x + 1 - so r g l x : Nat) : Int) by omega]
  rw [cut_to]
  refine OutG.l (listAdd ?_) ?_
  · have h1 := List.length_filter_le (sk r g l) (r.take (r.idxOf x))
    have h2 := List.length_filter_le (fun c => !sk r g l c) g
    have h3 := E.len
    rw [List.length_take] at h1 ⊢
    omega
  trivial
theorem lot_facts (E : Eve r g l) (hx : sk r g l x = true) (h0 : 0 < mo r g l x) : (lot r g l x).length = r.idxOf x + 1 ∧ (lot r g l x).Nodup ∧ (∀ c ∈ lot r g l x, c ∈ g ∧ c ≠ x) ∧ ∀ c ∈ lot r g l x, sk r g l c = true → c ∈ r.take (r.idxOf x) := by
  have hh := hook_sum E hx
  have hp : (lot r g l x).Perm _ := sortS_perm _
  have hsp := Pm.split_idx (sk_in hx).2.2
  have hr := E.rn
  have hxt : x ∉ r.take (r.idxOf x) := by
    rw [hsp] at hr
    intro h
    exact (List.nodup_append.mp hr).2.2 x h x List.mem_cons_self rfl
  refine ⟨?_, ?_, fun c hc => ?_, fun c hc hs => ?_⟩
  · rw [hp.length_eq, List.length_append, List.length_take]
    have e1 : ((r.take (r.idxOf x)).filter (sk r g l)).length = so r g l x := rfl
    have e2 : (g.filter fun c => !sk r g l c).length = tkn r g l := rfl
    omega
  · refine hp.nodup_iff.mpr (List.nodup_append.mpr ⟨(E.rn.sublist (List.take_sublist _ _)).sublist List.filter_sublist, (E.gn.sublist List.filter_sublist).sublist (List.take_sublist _ _), fun a ha b hb e => ?_⟩)
    subst e
    have h1 := (List.mem_filter.mp ha).2
    have h2 := (List.mem_filter.mp (List.mem_of_mem_take hb)).2
    rw [h1] at h2; cases h2
  · rcases List.mem_append.mp (hp.mem_iff.mp hc) with h | h
    · have h1 := List.mem_filter.mp h
      exact ⟨(sk_in h1.2).1, fun e => hxt (e ▸ h1.1)⟩
    · have h1 := List.mem_filter.mp (List.mem_of_mem_take h)
      exact ⟨h1.1, fun e => by rw [e, hx] at h1; exact absurd h1.2 (by decide)⟩
  · rcases List.mem_append.mp (hp.mem_iff.mp hc) with h | h
    · exact (List.mem_filter.mp h).1
    · have h1 := List.mem_filter.mp (List.mem_of_mem_take h)
      rw [hs] at h1; exact absurd h1.2 (by decide)
/-- gone behind some of these just where they are as many as the hook -/
theorem gone_lot (E : Eve r g l) (hx : sk r g l x = true) (h0 : 0 < mo r g l x) (hn : gs.Nodup) (hs : ∀ c ∈ gs, c ∈ lot r g l x) : x ∈ Pm.gone (sk r g l) r gs ↔ r.idxOf x < gs.length := by
  obtain ⟨h1, h2, h3, h4⟩ := lot_facts E hx h0
  refine Pm.gone_at E.rn hn (sk_in hx).2.2 (fun h => (h3 x (hs x h)).2 rfl) fun c hc => ?_
  obtain ⟨a, b, d⟩ := Pm.own_mem.mp hc
  exact h4 c (hs c a) b
theorem zip_next {α : Type} {R : α → α → Prop} : ∀ {xs : List α}, xs.Pairwise R → ∀ p ∈ xs.zip (xs.drop 1), R p.1 p.2
  | [], _, p, hp => by simp at hp
  | [a], _, p, hp => by simp at hp
  | a :: b :: xs, h, p, hp => by
    have hp : p ∈ (a, b) :: (b :: xs).zip ((b :: xs).drop 1) := hp
    rcases List.mem_cons.mp hp with rfl | hp
    · exact (List.pairwise_cons.mp h).1 b List.mem_cons_self
    · exact zip_next (List.pairwise_cons.mp h).2 p hp
theorem sle_lt {a b : Str} (h : sle a b = true) (n : a ≠ b) : ltS a b = true := by
  unfold ltS
  refine decide_eq_true (List.not_le.mp fun h2 => n ?_)
  exact sle_anti h (by unfold sle; exact decide_eq_true h2)
theorem sortS_lt {xs : List Str} (h : xs.Nodup) : ∀ p ∈ (sortS xs).zip ((sortS xs).drop 1), ltS p.1 p.2 = true :=
  zip_next (R := fun a b => ltS a b = true) (((sortS_pw xs).and ((sortS_perm xs).nodup_iff.mpr h)).imp fun {a b} h => sle_lt h.1 h.2)
theorem shows_ok (E : Eve r g l) (hl : r.length ≤ 24) (hx : sk r g l x = true) (h0 : 0 < mo r g l x) : F_shows_danger.sem [.d (eD r g l), .d (.str x), .d (.tuple ((lot r g l x).map .str))] = .ok (.d (.bool true)) [none, none, none] := by
  have hh := hook_sum E hx
  obtain ⟨h1, h2, h3, h4⟩ := lot_facts E hx h0
  refine sem_eq rfl ?_
  unfold b_shows_danger
  trivial
  refine Got2.d (shares_of_ok E hx) ?_
  trivial
  refine w_f ?_ ?_
  · have e1 : ((mo r g l x : Nat) : Int) ≠ 0 := by omega
    have e2 : (((lot r g l x).map PyData.str).length : Int) = (r.idxOf x : Int) + 1 := by rw [List.length_map, h1]; rfl
    simp [e1, e2, tyIs]
    try omega
  trivial
  refine w_f ?_ ?_
  · have : ((lot r g l x).all fun z => [Ty.str].any (tyIs (PyData.str z)) && (decide (z ∈ g) && !decide (z = x))) = true := by
      rw [List.all_eq_true]
      intro c hc
      simp [tyIs, h3 c hc]
    simp only [this]; rfl
  trivial
  · refine Got2.l (gone_by_ok (fun c hc => (h3 c hc).1) h2 (by omega)) ?_
    trivial
  · trivial
    refine ⟨congrArg (fun t => Sl.d (.bool t)) ?_, rfl⟩
    have a1 : (((lot r g l x).zip (List.drop 1 (lot r g l x))).all fun z => ltS z.1 z.2) = true := by
      rw [List.all_eq_true]
      refine sortS_lt ?_
      exact (sortS_perm _).nodup_iff.mp h2
    have a2 : x ∈ r.filter fun c => decide (c ∈ Pm.gone (sk r g l) r (lot r g l x)) := by
      rw [List.mem_filter]
      exact ⟨(sk_in hx).2.2, decide_eq_true ((gone_lot E hx h0 h2 fun c hc => hc).mpr (by omega))⟩
    show (_ && decide (x ∈ _)) = true
    rw [a1, decide_eq_true a2]; rfl
theorem went_ok (hg : ∀ x ∈ gs, x ∈ g) (hl : gs.length ≤ r.length) (hs : r.length ≤ 1000000) {d : D} (hd : d = .list (gs.map .str) ∨ d = .tuple (gs.map .str)) : F_law_went.sem [.d (eD r g l), .d d] = .ok (.d (.tuple ((sortP (Pm.wt (sk r g l) r gs)).map pr))) [none, none] := by
  refine sem_eq rfl ?_
  unfold b_law_went
  trivial
  refine w_for ?_
  trivial
  refine ⟨gs.map .str, by rcases hd with rfl | rfl <;> rfl, ?_⟩
  refine ⟨fun i ρ => ∃ tv tw, ρ = [some (.d (eD r g l)), some (.d d), some (.ol none ((Pm.lf (sk r g l) r (gs.take i)).map .str)), some (.ol none ((Pm.wt (sk r g l) r (gs.take i)).map pr)), tv, tw], ⟨_, _, rfl⟩, ?_, ?_⟩
  · rintro i x ρ hx ⟨tv, tw, rfl⟩
    obtain ⟨y, hy, rfl⟩ := map_get hx
    have hi := (List.getElem?_eq_some_iff.mp hy).1
    have hlen : (Pm.lf (sk r g l) r (gs.take i)).length = r.length - i := by
      rw [Pm.lf_len _ _ (by rw [List.length_take]; omega), List.length_take, Nat.min_eq_left (by omega)]
    have hne : Pm.lf (sk r g l) r (gs.take i) ≠ [] := by intro e; rw [e] at hlen; simp at hlen; omega
    refine ⟨_, rfl, ?_⟩
    trivial
    refine w_ifeJ (enc := .str) (v := y) (w := (Pm.lf (sk r g l) r (gs.take i)).headD y) ?_
    trivial
    refine ⟨fun _ => ?_, fun _ => ?_, ?_⟩
    · trivial
    · trivial
      refine OutG.d (ix_l (k := 0) (x := (Pm.lf (sk r g l) r (gs.take i)).headD y) ?_) ?_
      · cases e : Pm.lf (sk r g l) r (gs.take i) with
        | nil => exact absurd e hne
        | cons a t => rfl
      trivial
    · have et : (if (sk r g l y && decide (y ∈ Pm.lf (sk r g l) r (gs.take i))) = true then y else (Pm.lf (sk r g l) r (gs.take i)).headD y) = Pm.tk (sk r g l) (Pm.lf (sk r g l) r (gs.take i)) y := rfl
      rw [et]
      trivial
      refine ⟨_, _, _, _, rfl, rem_ok (Pm.tk_mem hne), ?_⟩
      trivial
      refine ⟨_, _, _, _, rfl, app_ok' ?_, ?_⟩
      · rw [List.length_map, Pm.wt_len, List.length_take]; omega
      trivial
      exact ⟨_, _, by rw [take_snoc hy, Pm.lf_app, Pm.wt_app, List.map_append]; rfl⟩
  · rintro ρ ⟨tv, tw, rfl⟩
    trivial
    refine ⟨?_, rfl⟩
    rw [List.length_map, List.take_length]
theorem behind_ok (hx : x ∈ r) : F_law_behind_v1.sem [.d (eD r g l), .d (.str x)] = .ok (.d (.tuple [.int (r.idxOf x + 1 : Int), .int (mo r g l x : Int)])) [none, none] := by
  refine sem_eq rfl ?_
  unfold b_law_behind_v1
  trivial
  refine OutG.d (index_of .str hx) ?_
  trivial
  refine ⟨?_, rfl⟩
  rw [List.length_map]; rfl
end
end Pw
/-! a law over the first cells -/
namespace Pw
open PySem PySem.Spec PyProof.Rows L2
set_option hygiene false
local macro_rules | `(tactic| trivial) => `(tactic| (repeat (first | ((with_reducible refine g_ev ?_); first | ((with_reducible apply w_var); rfl) | with_reducible refine w_bin ?_ | with_reducible refine w_cmp ?_ | with_reducible refine w_idx ?_ | with_reducible refine w_li ?_ | with_reducible refine w_ls ?_ | with_reducible refine w_lb ?_ | with_reducible refine w_ln ?_ | with_reducible refine w_glo ?_ | with_reducible refine w_not ?_ | with_reducible refine w_tup ?_ | with_reducible refine w_lstU ?_ | with_reducible refine w_bsort ?_ | with_reducible refine w_and ?_ | with_reducible refine w_or ?_ | with_reducible refine w_slg ?_ | with_reducible refine w_isi ?_ | with_reducible refine w_metg ?_ | with_reducible refine w_mut ?_ | with_reducible refine w_neg ?_ | with_reducible refine w_dct ?_ | (with_reducible refine w_c1 rfl ?_) | (with_reducible refine w_c2 rfl ?_) | (with_reducible refine w_c3 rfl ?_) | (with_reducible refine w_c4 rfl ?_) | (with_reducible refine w_c5 rfl ?_) | with_reducible apply w_ball | with_reducible apply w_bany | with_reducible apply w_bsum | with_reducible refine w_bltg ?_ | ((with_reducible apply w_cm); rfl) | ((with_reducible apply w_cm0); rfl) | ((with_reducible apply w_sscrM); rfl)) | ((with_reducible refine g_op ?_); first | ((with_reducible apply w_add); rfl; rfl) | ((with_reducible apply w_sb); rfl; rfl) | ((with_reducible apply w_gt); rfl; rfl) | ((with_reducible apply w_lt); rfl; rfl) | ((with_reducible apply w_ge); rfl; rfl) | ((with_reducible apply w_le); rfl; rfl) | ((with_reducible apply w_eqI); rfl; rfl) | ((with_reducible apply w_neI); rfl; rfl) | ((with_reducible apply w_eqS); rfl; rfl) | ((with_reducible apply w_neS); rfl; rfl) | ((with_reducible apply w_eqB); rfl; rfl) | ((with_reducible apply w_neB); rfl; rfl) | ((with_reducible apply w_inlS); rfl; rfl) | ((with_reducible apply w_intS); rfl; rfl) | ((with_reducible apply w_nilS); rfl; rfl) | ((with_reducible apply w_nitS); rfl; rfl) | ((with_reducible apply w_inlP); rfl; rfl) | ((with_reducible apply w_intP); rfl; rfl) | ((with_reducible apply w_nilP); rfl; rfl) | ((with_reducible apply w_nitP); rfl; rfl) | ((with_reducible apply w_ixk); rfl; rfl; rfl) | ((with_reducible apply w_ixl); rfl; rfl; rfl; rfl) | ((with_reducible apply w_ixt); rfl; rfl; rfl; rfl) | ((with_reducible apply w_mul); rfl; rfl; (exact mulOk_lt (by omega) (by omega))) | ((with_reducible apply w_mod); rfl; rfl; decide) | ((with_reducible apply w_mod); rfl; rfl; omega) | ((with_reducible apply w_div); rfl; rfl; decide) | ((with_reducible apply w_pow); rfl; rfl; decide) | ((with_reducible apply w_nel EqE.str); rfl; rfl) | ((with_reducible apply w_nel EqE.pr); rfl; rfl) | ((with_reducible apply w_eql EqE.str); rfl; rfl) | ((with_reducible apply w_eql EqE.pr); rfl; rfl) | with_reducible refine w_opg ?_) | ((with_reducible refine g_x ?_); first | with_reducible refine w_cons ?_ | with_reducible refine w_asg ?_ | with_reducible refine w_ret ?_ | with_reducible refine w_nil ?_ | with_reducible refine w_exp ?_ | with_reducible refine w_ifs ?_ | with_reducible refine w_par ?_ | with_reducible refine w_unp ?_ | with_reducible refine w_sub ?_ | with_reducible refine w_unpSub ?_ | with_reducible refine w_ps0 ?_ | with_reducible refine w_aug ?_ | with_reducible refine w_pass ?_ | (with_reducible refine w_psc (Nat.le_of_ble_eq_true rfl) ?_) | ((with_reducible apply w_setSub); rfl; rfl) | (with_reducible refine w_setS (Nat.le_of_ble_eq_true rfl) ?_)) | ((with_reducible refine g_r ?_); first | ((with_reducible apply w_izipV); rfl; rfl) | ((with_reducible apply w_test); rfl) | ((with_reducible apply w_fz); rfl) | ((with_reducible apply w_varR); rfl) | with_reducible apply w_andJ | with_reducible apply w_orJ | ((with_reducible apply w_fzR); rfl) | ((with_reducible apply w_outa); rfl) | with_reducible refine w_acons ?_ | with_reducible refine w_anil ?_ | with_reducible refine w_lcons ?_ | with_reducible refine w_lnil ?_ | with_reducible refine w_wcons ?_ | with_reducible refine w_wnil ?_ | with_reducible refine w_b1 ?_ | with_reducible refine w_onon ?_ | with_reducible refine w_osomG ?_ | with_reducible refine w_ownd ?_ | with_reducible refine w_ownl ?_ | with_reducible refine w_ownk ?_ | with_reducible refine w_owna ?_ | with_reducible refine w_rawd ?_ | with_reducible refine w_rawl ?_ | with_reducible refine w_raws ?_ | with_reducible refine w_rawa ?_ | with_reducible refine w_outd ?_ | with_reducible refine w_outl ?_ | with_reducible refine w_ival ?_ | with_reducible refine w_irng1 ?_ | with_reducible refine w_irng2 ?_ | with_reducible refine w_ienm ?_ | with_reducible refine w_izip ?_ | with_reducible refine w_irev ?_ | with_reducible refine w_qnon ?_ | with_reducible refine w_qsom ?_) | ((with_reducible refine CmT.mk ?_ ?_ (fun hb => ?_)); rfl; rfl) | ((with_reducible refine Fin1.mk ?_ ?_); rfl; rfl) | ((with_reducible refine CmI.mk (zip_map _ _) (fun z hz => Exists.intro _ (And.intro ?_ ?_)) ?_); rfl) | ((with_reducible refine CmI.mk (enum_map _) (fun z hz => Exists.intro _ (And.intro ?_ ?_)) ?_); rfl) | ((with_reducible apply CmI.mk); rfl; (intro z hz; (with_reducible apply Exists.intro); (with_reducible apply And.intro); rfl)) | with_reducible refine NormL.mk (nl_s _) ?_ | with_reducible refine NormL.mk (nl_p _) ?_ | with_reducible refine NormL.mk (nl_i _) ?_ | with_reducible refine NormL.mk (nl_b _ _) ?_ | with_reducible refine NormL.mk (nl_sc _ _) ?_ | with_reducible refine NormL.mk (nl_pc _ _ _) ?_ | with_reducible refine NormL.mk (nl_ic _ _) ?_ | ((with_reducible apply NormL.mk); rfl) | (with_reducible refine @UnL.s _ _ _ inferInstance ?_) | (with_reducible refine @UnL.p _ _ _ inferInstance ?_) | with_reducible refine UnL.n ?_ | with_reducible refine AndJ.mk (fun hb => ?_) ?_ | ((with_reducible refine Fin2.mk ?_ ?_); rfl; rfl) | ((with_reducible refine FinS.mk ?_ ?_); rfl; rfl) | ((with_reducible refine FinR.mk ?_ ?_ ?_); rfl; rfl; rfl) | ((with_reducible apply AllT.mk); rfl) | ((with_reducible apply SumT.mk); rfl) | ((with_reducible apply SortT.s); rfl) | ((with_reducible apply SortT.p); rfl) | ((with_reducible apply SlcG.tto); rfl) | ((with_reducible apply SlcG.lto); rfl) | ((with_reducible apply SlcG.tfr); rfl) | ((with_reducible apply SlcG.lfr); rfl) | ((with_reducible apply SlcG.tm); rfl) | ((with_reducible apply SlcG.lm); rfl) | ((with_reducible apply SlcG.an); rfl; rfl) | ((with_reducible apply IdxG.nat); rfl) | ((with_reducible apply IdxG.int); rfl) | ((with_reducible apply VwG.mk'); rfl) | ((with_reducible apply OutG.d); rfl) | ((with_reducible apply OutG.l); rfl) | ((with_reducible apply And.intro); rfl) | ((with_reducible apply And.intro); (exact Nat.le_of_ble_eq_true rfl)) | ((with_reducible apply Exists.intro); (with_reducible apply And.intro); rfl) | ((with_reducible apply Exists.intro); (with_reducible apply Exists.intro); (with_reducible apply And.intro); rfl; (with_reducible apply And.intro); rfl))))
theorem w_folded {X : Xc} {ρ : Envr} {P : Sl → Envr → Prop} {i n : Nat} {ns : List Int} (h0 : varR i ρ = .ok (.scr ns) ρ) (hn : 0 < n ∧ n < 63) (hl : ns.length ≤ 63) (hb : ∀ z ∈ ns, Builtin.Int.intBits z ≤ 1048576) (h : ∀ cells : List Int, cells.length ≤ n → (∀ z ∈ cells, bt 2000000 z) → P (.ol none (cells.map .int)) ρ) : wR X (ev (.call F_law_folded (.cons (.var i) (.cons (.lit (.int n)) .nil))) ρ) P := by
  obtain ⟨cells, h1, h2, e⟩ := folded_ok hn hl hb
  refine w_call ?_
  show wR X (evC [false, false] _ ρ) _
  refine w_cd (w_var h0 (w_raws (w_cd (w_li (w_rawd (w_cnil ?_))))))
  exact ⟨[.scr ns, .d (.int n)], _, [none, none], by simp [aliOf], rfl, e, rfl, rfl, h cells h1 h2⟩
def lawB (Fr : Fn) (n c : Int) : Ss := (.cons (.asg 1 (.call F_law_folded (.cons (.var 0) (.cons (.lit (.int n)) .nil)))) (.cons (.ret (.blt .all (.cons (.comp (.call Fr (.cons (.call F_law_box (.cons (.var 1) (.cons (.var 2) .nil))) .nil)) (.nm 2) (.rng1 (.blt .max (.cons (.lit (.int c)) (.cons (.blt .len (.cons (.var 1) .nil)) .nil)))) .non [2]) .nil))) .nil))
theorem bools_rep : ∀ n : Nat, bools (List.replicate n (.bool true)) = some (List.replicate n true)
  | 0 => rfl
  | n + 1 => by
    show (bools (List.replicate n (.bool true))).map _ = _
    rw [bools_rep n]; rfl
theorem law_of {Fr : Fn} {n : Nat} {c : Int} (hn : 0 < n ∧ n < 63) (hc : 0 ≤ c ∧ c ≤ 62) (hmd : Fr.md = [true]) (hR : ∀ bx, Bx 0 bx → ∃ bx', Fr.sem [.ol (some 0) bx] = .ok (.d (.bool true)) [some (.ol (some 0) bx')]) :
    ∀ ns : List Int, ns.length ≤ 63 → (∀ z ∈ ns, Builtin.Int.intBits z ≤ 1048576) → ∃ outs, semOf 3 [false] (lawB Fr n c) [.scr ns] = .ok (.d (.bool true)) outs := by
  intro ns hl hb
  refine ⟨[none], sem_eq rfl ?_⟩
  unfold lawB
  refine w_cons (w_asg (w_folded (i := 0) (ns := ns) rfl hn hl hb fun cells hcl hcb => ?_))
  refine w_ownl ⟨Nat.le_of_ble_eq_true rfl, w_cons (w_ret (w_bltg (w_lcons (w_comp ?_))))⟩
  trivial
  refine ⟨⟨by split <;> omega, by simp only [List.length_map]; split <;> omega⟩, ?_⟩
  have hN : (if ((cells.map PyData.int).length : Int) > c then ((cells.map PyData.int).length : Int) else c).toNat ≤ 63 := by rw [List.length_map]; split <;> omega
  generalize (if ((cells.map PyData.int).length : Int) > c then ((cells.map PyData.int).length : Int) else c) = N at hN ⊢
  have hI : (rngItems 0 N).length = N.toNat := by simp [rngItems]
  refine ⟨fun i ρ acc => ∃ t, ρ = [some (.scr ns), t, none] ∧ acc = (List.range i).map (fun _ => PyData.bool true) ∧ (t = some (.ol none (cells.map .int)) ∨ t = some (.d (.list (cells.map .int)))), ?_, ?_, ?_⟩
  · exact ⟨_, rfl, rfl, .inl rfl⟩
  · rintro i x ρ acc hx ⟨t, rfl, rfl, ht⟩
    have hi : i < N.toNat := by rw [← hI]; exact (List.getElem?_eq_some_iff.mp hx).1
    have ex : x = .int (i : Int) := by
      unfold rngItems at hx
      rw [List.getElem?_map, List.getElem?_range hi] at hx
      have := Option.some.inj hx
      rw [← this]; simp
    subst ex
    rcases ht with rfl | rfl
    · refine ⟨_, rfl, ?_⟩
      trivial
      rw [if_pos rfl]
      refine w_call ?_
      rw [hmd]
      refine w_cio ?_
      trivial
      obtain ⟨xs, hx1, hx2⟩ := box_ok (n := 2000000) hcb (by omega) i (by omega)
      refine Got2.l hx2 ?_
      refine ⟨rfl, w_cnil ?_⟩
      obtain ⟨bx', hx3⟩ := hR xs hx1
      refine ⟨[.ol (some 0) xs], _, _, by simp [aliOf], rfl, hx3, rfl, rfl, ?_⟩
      trivial
      exact ⟨by rw [List.range_succ, List.map_append]; rfl, .inr rfl⟩
    · refine ⟨_, rfl, ?_⟩
      trivial
      rw [if_pos rfl]
      refine w_call ?_
      rw [hmd]
      refine w_cio ?_
      trivial
      obtain ⟨xs, hx1, hx2⟩ := box_ok (n := 2000000) hcb (by omega) i (by omega)
      refine Got2.l hx2 ?_
      refine ⟨rfl, w_cnil ?_⟩
      obtain ⟨bx', hx3⟩ := hR xs hx1
      refine ⟨[.ol (some 0) xs], _, _, by simp [aliOf], rfl, hx3, rfl, rfl, ?_⟩
      trivial
      exact ⟨by rw [List.range_succ, List.map_append]; rfl, .inr rfl⟩
  · rintro ρ acc ⟨t, rfl, rfl, ht⟩
    rw [hI]
    trivial
    refine OutG.d (all_map (fun _ => true) (List.range N.toNat)) ?_
    trivial
    exact ⟨by simp, by rcases ht with rfl | rfl <;> rfl⟩
end Pw
/-! a law over the first two cells, so many turns at each -/
namespace Pw
open PySem PySem.Spec PyProof.Rows L2
-- OMEGA (ranges' bounds by omega)
set_option hygiene false
local macro_rules | `(tactic| trivial) => `(tactic| (repeat (first | ((with_reducible refine g_ev ?_); first | ((with_reducible apply w_var); rfl) | with_reducible refine w_bin ?_ | with_reducible refine w_cmp ?_ | with_reducible refine w_idx ?_ | with_reducible refine w_li ?_ | with_reducible refine w_ls ?_ | with_reducible refine w_lb ?_ | with_reducible refine w_ln ?_ | with_reducible refine w_glo ?_ | with_reducible refine w_not ?_ | with_reducible refine w_tup ?_ | with_reducible refine w_lstU ?_ | with_reducible refine w_bsort ?_ | with_reducible refine w_and ?_ | with_reducible refine w_or ?_ | with_reducible refine w_slg ?_ | with_reducible refine w_isi ?_ | with_reducible refine w_metg ?_ | with_reducible refine w_mut ?_ | with_reducible refine w_neg ?_ | with_reducible refine w_dct ?_ | (with_reducible refine w_c1 rfl ?_) | (with_reducible refine w_c2 rfl ?_) | (with_reducible refine w_c3 rfl ?_) | (with_reducible refine w_c4 rfl ?_) | (with_reducible refine w_c5 rfl ?_) | with_reducible apply w_ball | with_reducible refine w_banyG ?_ | with_reducible apply w_bsum | with_reducible refine w_bltg ?_ | ((with_reducible apply w_cm); rfl) | ((with_reducible apply w_cm0); rfl) | ((with_reducible apply w_sscrM); rfl)) | ((with_reducible refine g_op ?_); first | ((with_reducible apply w_add); rfl; rfl) | ((with_reducible apply w_sb); rfl; rfl) | ((with_reducible apply w_gt); rfl; rfl) | ((with_reducible apply w_lt); rfl; rfl) | ((with_reducible apply w_ge); rfl; rfl) | ((with_reducible apply w_le); rfl; rfl) | ((with_reducible apply w_eqI); rfl; rfl) | ((with_reducible apply w_neI); rfl; rfl) | ((with_reducible apply w_eqS); rfl; rfl) | ((with_reducible apply w_neS); rfl; rfl) | ((with_reducible apply w_eqB); rfl; rfl) | ((with_reducible apply w_neB); rfl; rfl) | ((with_reducible apply w_inlS); rfl; rfl) | ((with_reducible apply w_intS); rfl; rfl) | ((with_reducible apply w_nilS); rfl; rfl) | ((with_reducible apply w_nitS); rfl; rfl) | ((with_reducible apply w_inlP); rfl; rfl) | ((with_reducible apply w_intP); rfl; rfl) | ((with_reducible apply w_nilP); rfl; rfl) | ((with_reducible apply w_nitP); rfl; rfl) | ((with_reducible apply w_ixk); rfl; rfl; rfl) | ((with_reducible apply w_ixl); rfl; rfl; rfl; rfl) | ((with_reducible apply w_ixt); rfl; rfl; rfl; rfl) | ((with_reducible apply w_mul); rfl; rfl; (exact mulOk_lt (by omega) (by omega))) | ((with_reducible apply w_mod); rfl; rfl; decide) | ((with_reducible apply w_mod); rfl; rfl; omega) | ((with_reducible apply w_div); rfl; rfl; decide) | ((with_reducible apply w_pow); rfl; rfl; decide) | ((with_reducible apply w_nel EqE.str); rfl; rfl) | ((with_reducible apply w_nel EqE.pr); rfl; rfl) | ((with_reducible apply w_eql EqE.str); rfl; rfl) | ((with_reducible apply w_eql EqE.pr); rfl; rfl) | with_reducible refine w_opg ?_) | ((with_reducible refine g_x ?_); first | with_reducible refine w_cons ?_ | with_reducible refine w_asg ?_ | with_reducible refine w_ret ?_ | with_reducible refine w_nil ?_ | with_reducible refine w_exp ?_ | with_reducible refine w_ifs ?_ | with_reducible refine w_par ?_ | with_reducible refine w_unp ?_ | with_reducible refine w_sub ?_ | with_reducible refine w_unpSub ?_ | with_reducible refine w_ps0 ?_ | with_reducible refine w_aug ?_ | with_reducible refine w_pass ?_ | (with_reducible refine w_psc (Nat.le_of_ble_eq_true rfl) ?_) | ((with_reducible apply w_setSub); rfl; rfl) | (with_reducible refine w_setS (Nat.le_of_ble_eq_true rfl) ?_)) | ((with_reducible refine g_r ?_); first | ((with_reducible apply w_izipV); rfl; rfl) | ((with_reducible apply w_test); rfl) | ((with_reducible apply w_fz); rfl) | ((with_reducible apply w_varR); rfl) | with_reducible apply w_andJ | with_reducible apply w_orJ | ((with_reducible apply w_fzR); rfl) | ((with_reducible apply w_outa); rfl) | with_reducible refine w_acons ?_ | with_reducible refine w_anil ?_ | with_reducible refine w_lcons ?_ | with_reducible refine w_lnil ?_ | with_reducible refine w_wcons ?_ | with_reducible refine w_wnil ?_ | with_reducible refine w_b1 ?_ | with_reducible refine w_onon ?_ | with_reducible refine w_osomG ?_ | with_reducible refine w_ownd ?_ | with_reducible refine w_ownl ?_ | with_reducible refine w_ownk ?_ | with_reducible refine w_owna ?_ | with_reducible refine w_rawd ?_ | with_reducible refine w_rawl ?_ | with_reducible refine w_raws ?_ | with_reducible refine w_rawa ?_ | with_reducible refine w_outd ?_ | with_reducible refine w_outl ?_ | with_reducible refine w_ival ?_ | with_reducible refine w_irng1 ?_ | with_reducible refine w_irng2 ?_ | with_reducible refine w_ienm ?_ | with_reducible refine w_izip ?_ | with_reducible refine w_irev ?_ | with_reducible refine w_qnon ?_ | with_reducible refine w_qsom ?_) | ((with_reducible refine CmT.mk ?_ ?_ (fun hb => ?_)); rfl; rfl) | ((with_reducible refine Fin1.mk ?_ ?_); rfl; rfl) | ((with_reducible refine CmI.mk (zip_map _ _) ?_ ?_); (intro z hz; (with_reducible apply Exists.intro); (with_reducible apply And.intro); rfl)) | ((with_reducible refine CmI.mk (enum_map _) ?_ ?_); (intro z hz; (with_reducible apply Exists.intro); (with_reducible apply And.intro); rfl)) | ((with_reducible apply CmI.mk); rfl; (intro z hz; (with_reducible apply Exists.intro); (with_reducible apply And.intro); rfl)) | with_reducible refine NormL.mk (nl_s _) ?_ | with_reducible refine NormL.mk (nl_p _) ?_ | with_reducible refine NormL.mk (nl_i _) ?_ | with_reducible refine NormL.mk (nl_b _ _) ?_ | with_reducible refine NormL.mk (nl_sc _ _) ?_ | with_reducible refine NormL.mk (nl_pc _ _ _) ?_ | with_reducible refine NormL.mk (nl_ic _ _) ?_ | ((with_reducible apply NormL.mk); rfl) | (with_reducible refine @UnL.s _ _ _ inferInstance ?_) | (with_reducible refine @UnL.p _ _ _ inferInstance ?_) | with_reducible refine UnL.n ?_ | with_reducible refine AndJ.mk (fun hb => ?_) ?_ | ((with_reducible refine Fin2.mk ?_ ?_); rfl; rfl) | ((with_reducible refine FinS.mk ?_ ?_); rfl; rfl) | ((with_reducible refine FinR.mk ?_ ?_ ?_); rfl; rfl; rfl) | ((with_reducible apply AllT.mk); rfl) | ((with_reducible apply SumT.mk); rfl) | ((with_reducible apply SortT.s); rfl) | ((with_reducible apply SortT.p); rfl) | ((with_reducible apply SlcG.tto); rfl) | ((with_reducible apply SlcG.lto); rfl) | ((with_reducible apply SlcG.tfr); rfl) | ((with_reducible apply SlcG.lfr); rfl) | ((with_reducible apply SlcG.tm); rfl) | ((with_reducible apply SlcG.lm); rfl) | ((with_reducible apply SlcG.an); rfl; rfl) | ((with_reducible apply IdxG.nat); rfl) | ((with_reducible apply IdxG.int); rfl) | ((with_reducible apply VwG.mk'); rfl) | ((with_reducible apply OutG.d); rfl) | ((with_reducible apply OutG.l); rfl) | ((with_reducible apply AnyG.b); rfl) | ((with_reducible apply AnyG.i); rfl) | (with_reducible refine And.intro (by omega) ?_) | ((with_reducible apply And.intro); rfl) | ((with_reducible apply And.intro); (exact Nat.le_of_ble_eq_true rfl)) | ((with_reducible apply Exists.intro); (with_reducible apply And.intro); rfl) | ((with_reducible apply Exists.intro); (with_reducible apply Exists.intro); (with_reducible apply And.intro); rfl; (with_reducible apply And.intro); rfl))))
def lawB2 (Fr : Fn) (n : Nat) (t : Int) : Ss := (.cons (.asg 1 (.call F_law_folded (.cons (.var 0) (.cons (.lit (.int n)) .nil))))
  (.cons (.for_ (.nm 2) (.rng1 (.blt .max (.cons (.lit (.int 1)) (.cons (.blt .len (.cons (.var 1) .nil)) .nil)))) (.cons (.asg 3 (.call F_law_box (.cons (.var 1) (.cons (.var 2) .nil))))
  (.cons (.ifs (.not_ (.blt .all (.cons (.comp (.call Fr (.cons (.var 3) .nil)) (.nm 4) (.rng1 (.lit (.int t))) .non [4]) .nil))) (.cons (.ret (.lit (.bl false)))
  .nil) .nil)
  .nil)))
  (.cons (.ret (.lit (.bl true)))
  .nil)))
theorem law_ofB {Fr : Fn} {n : Nat} {t : Int} (hn : 0 < n ∧ n < 63) (ht : 0 ≤ t ∧ t ≤ 10) (hmd : Fr.md = [true]) (hR : ∀ bx m, Bx m bx → m ≤ 500000 → ∃ bx', Bx (m + 40000) bx' ∧ Fr.sem [.ol (some 0) bx] = .ok (.d (.bool true)) [some (.ol (some 0) bx')]) :
    ∀ ns : List Int, ns.length ≤ 63 → (∀ z ∈ ns, Builtin.Int.intBits z ≤ 1048576) → ∃ outs, semOf 5 [false] (lawB2 Fr n t) [.scr ns] = .ok (.d (.bool true)) outs := by
  intro ns hl hb
  refine ⟨[none], sem_eq rfl ?_⟩
  unfold lawB2
  refine w_cons (w_asg (w_folded (i := 0) (ns := ns) rfl hn hl hb fun cells hcl hcb => ?_))
  refine w_ownl ⟨Nat.le_of_ble_eq_true rfl, w_cons (w_for ?_)⟩
  trivial
  rw [List.length_map]
  refine ⟨by split <;> omega, ?_⟩
  have hN : (if (cells.length : Int) > 1 then (cells.length : Int) else 1).toNat ≤ 63 := by split <;> omega
  generalize (if (cells.length : Int) > 1 then (cells.length : Int) else 1) = N at hN ⊢
  refine ⟨fun i ρ => ∃ t1 t2 t3, ρ = [some (.scr ns), t1, t2, t3, none] ∧ (t1 = some (.ol none (cells.map .int)) ∨ t1 = some (.d (.list (cells.map .int)))), ⟨_, _, _, rfl, .inl rfl⟩, ?_, ?_⟩
  · rintro i d ρ hd ⟨t1, t2, t3, rfl, ht1⟩
    obtain ⟨hi, rfl⟩ := rng_get hd
    rcases ht1 with rfl | rfl <;> refine ⟨_, rfl, ?_⟩
    · trivial
      obtain ⟨xs, hx1, hx2⟩ := box_ok (n := 2000000) hcb (by omega) i (by omega)
      rw [Int.zero_add]
      refine Got2.l hx2 ?_
      refine w_ownl ⟨Nat.le_of_ble_eq_true rfl, w_cons (w_ifs (w_not (w_bltg (w_lcons (w_comp ?_)))))⟩
      trivial
      refine ⟨fun j ρ acc => ∃ bx t2, ρ = [some (.scr ns), some (.d (.list (cells.map .int))), t2, some (.ol none bx), none] ∧ Bx (40000 * j) bx ∧ acc = (List.range j).map (fun _ => PyData.bool true), ⟨xs, _, rfl, hx1.mono (by omega), rfl⟩, ?_, ?_⟩
      · rintro j d ρ acc hd ⟨bx, t2, rfl, hB, rfl⟩
        obtain ⟨hj, rfl⟩ := rng_get hd
        refine ⟨_, rfl, ?_⟩
        trivial
        rw [if_pos rfl]
        obtain ⟨bx', hB', e⟩ := hR bx _ hB (by omega)
        refine w_io1 hmd rfl ⟨_, _, _, bx', rfl, e, rfl, ?_⟩
        trivial
        exact ⟨bx', t2, rfl, hB'.mono (by omega), by rw [List.range_succ, List.map_append]; rfl⟩
      · rintro ρ acc ⟨bx, t2, rfl, hB, rfl⟩
        rw [rng_len]
        trivial
        refine OutG.d (all_map (fun _ => true) (List.range t.toNat)) ?_
        trivial
        refine w_f (by simp) ?_
        trivial
        exact ⟨_, _, _, rfl, .inr rfl⟩
    · trivial
      obtain ⟨xs, hx1, hx2⟩ := box_ok (n := 2000000) hcb (by omega) i (by omega)
      rw [Int.zero_add]
      refine Got2.l hx2 ?_
      refine w_ownl ⟨Nat.le_of_ble_eq_true rfl, w_cons (w_ifs (w_not (w_bltg (w_lcons (w_comp ?_)))))⟩
      trivial
      refine ⟨fun j ρ acc => ∃ bx t2, ρ = [some (.scr ns), some (.d (.list (cells.map .int))), t2, some (.ol none bx), none] ∧ Bx (40000 * j) bx ∧ acc = (List.range j).map (fun _ => PyData.bool true), ⟨xs, _, rfl, hx1.mono (by omega), rfl⟩, ?_, ?_⟩
      · rintro j d ρ acc hd ⟨bx, t2, rfl, hB, rfl⟩
        obtain ⟨hj, rfl⟩ := rng_get hd
        refine ⟨_, rfl, ?_⟩
        trivial
        rw [if_pos rfl]
        obtain ⟨bx', hB', e⟩ := hR bx _ hB (by omega)
        refine w_io1 hmd rfl ⟨_, _, _, bx', rfl, e, rfl, ?_⟩
        trivial
        exact ⟨bx', t2, rfl, hB'.mono (by omega), by rw [List.range_succ, List.map_append]; rfl⟩
      · rintro ρ acc ⟨bx, t2, rfl, hB, rfl⟩
        rw [rng_len]
        trivial
        refine OutG.d (all_map (fun _ => true) (List.range t.toNat)) ?_
        trivial
        refine w_f (by simp) ?_
        trivial
        exact ⟨_, _, _, rfl, .inr rfl⟩
  · rintro ρ ⟨t1, t2, t3, rfl, ht1⟩
    trivial
end Pw
/-! law k75: by when it is too late -/
namespace Pw
open PySem PySem.Spec PyProof.Rows L2
-- OMEGA (ranges' bounds by omega)
-- SPECS: is_seeker_ok:2d loose_ok:1l takers_ok:1l law_seeks1_ok:2d seekers_ok:1l
set_option hygiene false
local macro_rules | `(tactic| trivial) => `(tactic| (repeat (first | ((with_reducible refine g_ev ?_); first | ((with_reducible apply w_var); rfl) | with_reducible refine w_bin ?_ | with_reducible refine w_cmp ?_ | with_reducible refine w_idx ?_ | with_reducible refine w_li ?_ | with_reducible refine w_ls ?_ | with_reducible refine w_lb ?_ | with_reducible refine w_ln ?_ | with_reducible refine w_glo ?_ | with_reducible refine w_not ?_ | with_reducible refine w_tup ?_ | with_reducible refine w_lstU ?_ | with_reducible refine w_bsort ?_ | with_reducible refine w_and ?_ | with_reducible refine w_or ?_ | with_reducible refine w_slg ?_ | with_reducible refine w_isi ?_ | with_reducible refine w_metg ?_ | with_reducible refine w_mut ?_ | with_reducible refine w_neg ?_ | with_reducible refine w_dct ?_ | (with_reducible refine w_c1 rfl ?_) | (with_reducible refine w_c2 rfl ?_) | (with_reducible refine w_c3 rfl ?_) | (with_reducible refine w_c4 rfl ?_) | (with_reducible refine w_c5 rfl ?_) | with_reducible apply w_ball | with_reducible refine w_banyG ?_ | with_reducible apply w_bsum | with_reducible refine w_bltg ?_ | ((with_reducible apply w_cm); rfl) | ((with_reducible apply w_cm0); rfl) | ((with_reducible apply w_sscrM); rfl)) | ((with_reducible refine g_op ?_); first | ((with_reducible apply w_add); rfl; rfl) | ((with_reducible apply w_sb); rfl; rfl) | ((with_reducible apply w_gt); rfl; rfl) | ((with_reducible apply w_lt); rfl; rfl) | ((with_reducible apply w_ge); rfl; rfl) | ((with_reducible apply w_le); rfl; rfl) | ((with_reducible apply w_eqI); rfl; rfl) | ((with_reducible apply w_neI); rfl; rfl) | ((with_reducible apply w_eqS); rfl; rfl) | ((with_reducible apply w_neS); rfl; rfl) | ((with_reducible apply w_eqB); rfl; rfl) | ((with_reducible apply w_neB); rfl; rfl) | ((with_reducible apply w_inlS); rfl; rfl) | ((with_reducible apply w_intS); rfl; rfl) | ((with_reducible apply w_nilS); rfl; rfl) | ((with_reducible apply w_nitS); rfl; rfl) | ((with_reducible apply w_inlP); rfl; rfl) | ((with_reducible apply w_intP); rfl; rfl) | ((with_reducible apply w_nilP); rfl; rfl) | ((with_reducible apply w_nitP); rfl; rfl) | ((with_reducible apply w_ixk); rfl; rfl; rfl) | ((with_reducible apply w_ixl); rfl; rfl; rfl; rfl) | ((with_reducible apply w_ixt); rfl; rfl; rfl; rfl) | ((with_reducible apply w_mul); rfl; rfl; (exact mulOk_lt (by omega) (by omega))) | ((with_reducible apply w_mod); rfl; rfl; decide) | ((with_reducible apply w_mod); rfl; rfl; omega) | ((with_reducible apply w_div); rfl; rfl; decide) | ((with_reducible apply w_pow); rfl; rfl; decide) | ((with_reducible apply w_nel EqE.str); rfl; rfl) | ((with_reducible apply w_nel EqE.pr); rfl; rfl) | ((with_reducible apply w_eql EqE.str); rfl; rfl) | ((with_reducible apply w_eql EqE.pr); rfl; rfl) | with_reducible refine w_opg ?_) | ((with_reducible refine g_x ?_); first | with_reducible refine w_cons ?_ | with_reducible refine w_asg ?_ | with_reducible refine w_ret ?_ | with_reducible refine w_nil ?_ | with_reducible refine w_exp ?_ | with_reducible refine w_ifs ?_ | with_reducible refine w_par ?_ | with_reducible refine w_unp ?_ | with_reducible refine w_sub ?_ | with_reducible refine w_unpSub ?_ | with_reducible refine w_ps0 ?_ | with_reducible refine w_aug ?_ | with_reducible refine w_pass ?_ | (with_reducible refine w_psc (Nat.le_of_ble_eq_true rfl) ?_) | ((with_reducible apply w_setSub); rfl; rfl) | (with_reducible refine w_setS (Nat.le_of_ble_eq_true rfl) ?_)) | ((with_reducible refine g_r ?_); first | ((with_reducible apply w_izipV); rfl; rfl) | ((with_reducible apply w_test); rfl) | ((with_reducible apply w_fz); rfl) | ((with_reducible apply w_varR); rfl) | with_reducible apply w_andJ | with_reducible apply w_orJ | ((with_reducible apply w_fzR); rfl) | ((with_reducible apply w_outa); rfl) | with_reducible refine w_acons ?_ | with_reducible refine w_anil ?_ | with_reducible refine w_lcons ?_ | with_reducible refine w_lnil ?_ | with_reducible refine w_wcons ?_ | with_reducible refine w_wnil ?_ | with_reducible refine w_b1 ?_ | with_reducible refine w_onon ?_ | with_reducible refine w_osomG ?_ | with_reducible refine w_ownd ?_ | with_reducible refine w_ownl ?_ | with_reducible refine w_ownk ?_ | with_reducible refine w_owna ?_ | with_reducible refine w_rawd ?_ | with_reducible refine w_rawl ?_ | with_reducible refine w_raws ?_ | with_reducible refine w_rawa ?_ | with_reducible refine w_outd ?_ | with_reducible refine w_outl ?_ | with_reducible refine w_ival ?_ | with_reducible refine w_irng1 ?_ | with_reducible refine w_irng2 ?_ | with_reducible refine w_ienm ?_ | with_reducible refine w_izip ?_ | with_reducible refine w_irev ?_ | with_reducible refine w_qnon ?_ | with_reducible refine w_qsom ?_) | ((with_reducible refine CmT.mk ?_ ?_ (fun hb => ?_)); rfl; rfl) | ((with_reducible refine Fin1.mk ?_ ?_); rfl; rfl) | ((with_reducible refine CmI.mk (zip_map _ _) ?_ ?_); (intro z hz; (with_reducible apply Exists.intro); (with_reducible apply And.intro); rfl)) | ((with_reducible refine CmI.mk (enum_map _) ?_ ?_); (intro z hz; (with_reducible apply Exists.intro); (with_reducible apply And.intro); rfl)) | ((with_reducible apply CmI.mk); rfl; (intro z hz; (with_reducible apply Exists.intro); (with_reducible apply And.intro); rfl)) | with_reducible refine NormL.mk (nl_s _) ?_ | with_reducible refine NormL.mk (nl_p _) ?_ | with_reducible refine NormL.mk (nl_i _) ?_ | with_reducible refine NormL.mk (nl_b _ _) ?_ | with_reducible refine NormL.mk (nl_sc _ _) ?_ | with_reducible refine NormL.mk (nl_pc _ _ _) ?_ | with_reducible refine NormL.mk (nl_ic _ _) ?_ | ((with_reducible apply NormL.mk); rfl) | (with_reducible refine @UnL.s _ _ _ inferInstance ?_) | (with_reducible refine @UnL.p _ _ _ inferInstance ?_) | with_reducible refine UnL.n ?_ | with_reducible refine AndJ.mk (fun hb => ?_) ?_ | ((with_reducible refine Fin2.mk ?_ ?_); rfl; rfl) | ((with_reducible refine FinS.mk ?_ ?_); rfl; rfl) | ((with_reducible refine FinR.mk ?_ ?_ ?_); rfl; rfl; rfl) | ((with_reducible apply AllT.mk); rfl) | ((with_reducible apply SumT.mk); rfl) | ((with_reducible apply SortT.s); rfl) | ((with_reducible apply SortT.p); rfl) | ((with_reducible apply SlcG.tto); rfl) | ((with_reducible apply SlcG.lto); rfl) | ((with_reducible apply SlcG.tfr); rfl) | ((with_reducible apply SlcG.lfr); rfl) | ((with_reducible apply SlcG.tm); rfl) | ((with_reducible apply SlcG.lm); rfl) | ((with_reducible apply SlcG.an); rfl; rfl) | ((with_reducible apply IdxG.nat); rfl) | ((with_reducible apply IdxG.int); rfl) | ((with_reducible apply VwG.mk'); rfl) | ((with_reducible apply OutG.d); rfl) | ((with_reducible apply OutG.l); rfl) | ((with_reducible apply AnyG.b); rfl) | ((with_reducible apply AnyG.i); rfl) | (with_reducible refine And.intro (by omega) ?_) | (with_reducible refine Got2.d (is_seeker_ok ..) ?_) | (with_reducible refine Got1.l (loose_ok ..) ?_) | (with_reducible refine Got1.l (takers_ok ..) ?_) | (with_reducible refine Got2.d (law_seeks1_ok ..) ?_) | (with_reducible refine Got1.l (seekers_ok ..) ?_) | ((with_reducible apply And.intro); rfl) | ((with_reducible apply And.intro); (exact Nat.le_of_ble_eq_true rfl)) | ((with_reducible apply Exists.intro); (with_reducible apply And.intro); rfl) | ((with_reducible apply Exists.intro); (with_reducible apply Exists.intro); (with_reducible apply And.intro); rfl; (with_reducible apply And.intro); rfl))))
section
variable {r g l gs ws rs : List Str} {x : Str}
theorem hopes_ok : F_law_hopes.sem [.d (eD r g l)] = .ok (.ol none ((g.filter (sk r g l)).map .str)) [none] := by
  refine sem_eq rfl ?_
  unfold b_law_hopes
  trivial
theorem is_nonT (xs : List D) : cmpD .Is (.tuple xs) .none = some (.d (.bool false)) := rfl
theorem isnot_true (b : Bool) : cmpD .IsNot (.bool b) (.bool true) = some (.d (.bool (!decide (b = true)))) := by cases b <;> rfl
theorem took_iff (E : Eve r g l) (hg : gs.Nodup) (hl : gs.length ≤ r.length) (p : List (Str × Str)) (hp : p.Perm (Pm.wt (sk r g l) r gs)) : x ∈ p.map Prod.snd ↔ x ∈ Pm.gone (sk r g l) r gs := by
  rw [Pm.gone_ct gs r E.rn hg hl x]
  exact (hp.map _).mem_iff
theorem danger_right_ok {bx : List D} {m : Int} (E : Eve r g l) (hl : r.length ≤ 24) (hx : sk r g l x = true) (h0 : 0 < mo r g l x) (hB : Bx m bx) (hm : m ≤ 900000) :
    ∃ bx', Bx (m + 60) bx' ∧ F_law_danger_right.sem [.ol (some 0) bx, .d (eD r g l), .d (.str x), .d (.int (r.idxOf x : Int))] = .ok (.d (.bool true)) [some (.ol (some 0) bx'), none, none, none] := by
  have hh := hook_sum E hx
  have hs := sk_in hx
  obtain ⟨h1, h2, h3, h4⟩ := lot_facts E hx h0
  obtain ⟨s, o, ⟨bx', h5, h6, h7⟩, e⟩ := sem_of (n := 8) (md := [true, false, false, false]) (body := b_law_danger_right) (args := [.ol (some 0) bx, .d (eD r g l), .d (.str x), .d (.int (r.idxOf x : Int))]) (Q := fun s o => ∃ (bx' : List D), Bx (m + 60) bx' ∧ s = .d (.bool true) ∧ o = [some (.ol (some 0) bx'), none, none, none]) (by
    have hll : (lot r g l x).length ≤ 24 := by omega
    obtain ⟨gs, bx1, hp, hB1, es1⟩ := strewn_ok (f := PyData.str) (fun _ => .str) (ys := lot r g l x) hB (by omega) (by omega) (.inr rfl)
    have hpl := hp.length_eq
    obtain ⟨fs, bx2, hq, hB2, es2⟩ := strewn_ok (f := PyData.str) (fun _ => .str) (ys := lot r g l x) (m := m + 30) (hB1.mono (by omega)) (by omega) (by omega) (.inr rfl)
    have hql := hq.length_eq
    have hgn : gs.Nodup := hp.nodup_iff.mpr h2
    have hfn : (fs.drop 1).Nodup := (hq.nodup_iff.mpr h2).sublist (List.drop_sublist _ _)
    have hfs : ∀ c ∈ fs.drop 1, c ∈ lot r g l x := fun c hc => hq.mem_iff.mp (List.mem_of_mem_drop hc)
    have hfl : (fs.drop 1).length = r.idxOf x := by rw [List.length_drop]; omega
    unfold b_law_danger_right
    trivial
    refine Got2.d (danger_ok E hl hx h0) ?_
    trivial
    refine Got3.d (shows_ok E hl hx h0) ?_
    trivial
    refine w_f ?_ ?_
    · have e1 : (((lot r g l x).map PyData.str).length : Int) = (r.idxOf x : Int) + 1 := by rw [List.length_map, h1]; rfl
      rw [e1]
      simp
    trivial
    refine w_io2 rfl rfl rfl ?_
    trivial
    refine ⟨_, _, _, _, bx1, rfl, rfl, es1, rfl, ?_⟩
    trivial
    refine Got2.d (went_ok (gs := gs) (fun c hc => (h3 c (hp.mem_iff.mp hc)).1) (by omega) (by omega) (.inl rfl)) ?_
    trivial
    refine w_f ?_ ?_
    · have := (took_iff (x := x) E hgn (by omega) _ (sortP_perm _)).mpr ((gone_lot E hx h0 hgn fun c hc => hp.mem_iff.mp hc).mpr (by omega))
      simpa using this
    trivial
    refine w_io2 rfl rfl rfl ?_
    trivial
    refine ⟨_, _, _, _, bx2, rfl, rfl, es2, rfl, ?_⟩
    trivial
    refine Got2.d (went_ok (gs := fs.drop 1) (fun c hc => (h3 c (hfs c hc)).1) (by omega) (by omega) (.inl rfl)) ?_
    trivial
    refine ⟨bx2, hB2.mono (by omega), congrArg (fun t => Sl.d (.bool t)) ?_, rfl⟩
    have hno : ¬ x ∈ (sortP (Pm.wt (sk r g l) r (fs.drop 1))).map Prod.snd := fun h => by
      have := (gone_lot E hx h0 hfn hfs).mp ((took_iff (x := x) E hfn (by omega) _ (sortP_perm _)).mp h)
      omega
    show (!decide (x ∈ _)) = true
    rw [decide_eq_false hno]; rfl)
  exact ⟨bx', h5, by subst h6 h7; exact e⟩
/-- told, many by many -/
def tf (r g l : List Str) (x : Str) (m : Nat) : Nat := Pm.gg (so r g l x) (tkn r g l) (r.length - 1 - so r g l x - tkn r g l) (r.idxOf x + 1) m * Pm.fac m * Pm.fac (r.length - 1 - m)
theorem tf_eq (E : Eve r g l) (hx : sk r g l x = true) (m : Nat) : tf r g l x m = Pm.gk (so r g l x + tkn r g l) (mo r g l x) (r.length - 1 - so r g l x - tkn r g l) (r.idxOf x + 1) m * (Pm.fac m * Pm.fac (r.length - 1 - m)) := by
  have hh := hook_sum E hx
  unfold tf
  rw [Pm.gg_eq (by omega) hh.1, Nat.mul_assoc]
theorem sum_sm (f : Nat → Nat) : ∀ n : Nat, ((List.range n).map fun z => ((f z : Nat) : Int)).sum = ((Pm.sm f n : Nat) : Int)
  | 0 => rfl
  | n + 1 => by
    rw [List.range_succ, List.map_append, List.sum_append, sum_sm f n]
    simp [Pm.sm]
theorem tf_sum (E : Eve r g l) (hx : sk r g l x = true) : Pm.sm (tf r g l x) r.length = Pm.fac r.length * mo r g l x / (hk r x + mo r g l x) := by
  have hh := hook_sum E hx
  have h1 := Pm.gk_sum (M := r.length - 1 - so r g l x - tkn r g l) hh.1
  have e1 : so r g l x + tkn r g l + (r.length - 1 - so r g l x - tkn r g l) = r.length - 1 := by omega
  rw [e1, show r.length - 1 + 1 = r.length by omega] at h1
  have e2 : Pm.sm (tf r g l x) r.length = Pm.sm (fun m => Pm.gk (so r g l x + tkn r g l) (mo r g l x) (r.length - 1 - so r g l x - tkn r g l) (r.idxOf x + 1) m * (Pm.fac m * Pm.fac (r.length - 1 - m))) r.length := Pm.sm_congr fun i _ => tf_eq E hx i
  rw [← e2] at h1
  have e3 : hk r x + mo r g l x = so r g l x + tkn r g l + 1 := hh.1
  rw [e3, Nat.mul_comm (Pm.fac _), ← h1, Nat.mul_div_cancel _ (by omega)]
theorem tf_mono (E : Eve r g l) (hx : sk r g l x = true) {m : Nat} (hm : m + 1 < r.length) : tf r g l x m ≤ tf r g l x (m + 1) := by
  have hh := hook_sum E hx
  have e1 : so r g l x + tkn r g l + (r.length - 1 - so r g l x - tkn r g l) = r.length - 1 := by omega
  have := Pm.gk_mono (M := r.length - 1 - so r g l x - tkn r g l) hh.1 (m := m) (by omega)
  rw [e1] at this
  rw [tf_eq E hx, tf_eq E hx]; exact this
theorem tf_most (E : Eve r g l) (hx : sk r g l x = true) {m : Nat} (hm : m < r.length) : tf r g l x m ≤ Pm.fac (r.length - 1) := by
  have hh := hook_sum E hx
  have e1 : so r g l x + tkn r g l + (r.length - 1 - so r g l x - tkn r g l) = r.length - 1 := by omega
  have := Pm.gk_most (M := r.length - 1 - so r g l x - tkn r g l) hh.1 (r.length - 1 - m) m (by omega)
  rw [e1] at this
  rw [tf_eq E hx]; exact this
theorem tf_none (E : Eve r g l) (hx : sk r g l x = true) {m : Nat} (hm : m ≤ (if 0 < mo r g l x then r.idxOf x else r.length - 1)) : tf r g l x m = 0 := by
  rw [tf_eq E hx]
  by_cases h0 : 0 < mo r g l x
  · rw [if_pos h0] at hm
    rw [Pm.gk_none (by omega), Nat.zero_mul]
  · have : mo r g l x = 0 := by omega
    rw [this]; simp [Pm.gk, Pm.sm]
theorem tf_pos (E : Eve r g l) (hx : sk r g l x = true) (h0 : 0 < mo r g l x) : 0 < tf r g l x (r.idxOf x + 1) := by
  have hh := hook_sum E hx
  rw [tf_eq E hx]
  exact Nat.mul_pos (Pm.gk_pos hh.1 h0) (Nat.mul_pos (Pm.fac_pos _) (Pm.fac_pos _))
theorem tf_all (E : Eve r g l) (hx : sk r g l x = true) : ∀ (d i : Nat), i + d < r.length → tf r g l x i ≤ tf r g l x (i + d)
  | 0, i, _ => Nat.le_refl _
  | d + 1, i, h => Nat.le_trans (tf_all E hx d i (by omega)) (tf_mono E hx (m := i + d) (by omega))
/-- told as whole numbers -/
def tz (r g l : List Str) (x : Str) : List Int := (List.range r.length).map fun z => ((tf r g l x z : Nat) : Int)
theorem tz_get {i : Nat} {v : Int} (h : (tz r g l x)[i]? = some v) : i < r.length ∧ v = (tf r g l x i : Int) := by
  unfold tz at h
  rw [List.getElem?_map] at h
  obtain ⟨k, h1, h2⟩ := Option.map_eq_some_iff.mp h
  have hi : i < r.length := by
    have := (List.getElem?_eq_some_iff.mp h1).1
    simpa using this
  rw [List.getElem?_range hi] at h1
  cases h1
  exact ⟨hi, h2.symm⟩
theorem tz_mem {v : Int} (h : v ∈ tz r g l x) : ∃ i, i < r.length ∧ v = (tf r g l x i : Int) := by
  obtain ⟨i, hi⟩ := List.mem_iff_getElem?.mp h
  exact ⟨i, tz_get hi⟩
theorem tz_pw (E : Eve r g l) (hx : sk r g l x = true) : (tz r g l x).Pairwise fun a b => a ≤ b := by
  unfold tz
  rw [List.pairwise_map]
  refine List.pairwise_lt_range.imp_of_mem fun {a b} ha hb hab => ?_
  have hb := List.mem_range.mp hb
  have := tf_all E hx (b - a) a (by omega)
  rw [show a + (b - a) = b by omega] at this
  exact Int.ofNat_le.mpr this
theorem tz_max (E : Eve r g l) (hx : sk r g l x = true) (h0 : 0 < r.length) : ∃ mx : Int, bltD .max [.list ((tz r g l x).map .int)] = some (.d (.int mx)) ∧ mx ≤ (Pm.fac (r.length - 1) : Int) := by
  have hne : tz r g l x ≠ [] := fun e => by
    have := congrArg List.length e
    unfold tz at this
    simp at this
    rw [this] at h0; simp at h0
  match h : tz r g l x, hne with
  | a :: as, _ =>
    have em := maxI_map (fun a => a) a as
    rw [List.map_id'] at em
    refine ⟨_, em, ?_⟩
    have hm := (maxL_ok as a).1
    have hin : maxL a as ∈ tz r g l x := by
      rw [h]
      rcases hm with hm | hm
      · rw [hm]; exact List.mem_cons_self
      · exact List.mem_cons_of_mem _ hm
    obtain ⟨i, hi, e⟩ := tz_mem hin
    rw [e]
    exact Int.ofNat_le.mpr (tf_most E hx hi)
theorem guest_right75_ok {bx : List D} {m : Int} (E : Eve r g l) (hl : r.length ≤ 24) (hx : sk r g l x = true) (hB : Bx m bx) (hm : m ≤ 900000) :
    ∃ bx', Bx (m + 60) bx' ∧ F_law_guest_right_v1.sem [.ol (some 0) bx, .d (eD r g l), .d (.str x)] = .ok (.d (.bool true)) [some (.ol (some 0) bx'), none, none] := by
  have hh := hook_sum E hx
  have hs := sk_in hx
  have hi := List.idxOf_lt_length_of_mem hs.2.2
  obtain ⟨s, o, ⟨bx', h5, h6, h7⟩, e⟩ := sem_of (n := 10) (md := [true, false, false]) (body := b_law_guest_right_v1) (args := [.ol (some 0) bx, .d (eD r g l), .d (.str x)]) (Q := fun s o => ∃ (bx' : List D), Bx (m + 60) bx' ∧ s = .d (.bool true) ∧ o = [some (.ol (some 0) bx'), none, none]) (by
    unfold b_law_guest_right_v1
    trivial
    refine Got2.d (safe_ahead_ok E hx) ?_
    trivial
    refine Got2.d (behind_ok hs.2.2) ?_
    trivial
    rw [List.length_map]
    trivial
    · have hz := List.mem_range.mp hz
      rw [Int.zero_add]
      refine Got3.d (wrong_behind_ok E hl hx (m := z) (by omega)) ?_
      trivial
    have etf : ∀ z : Nat, (((Pm.gg (so r g l x) (tkn r g l) (r.length - 1 - so r g l x - tkn r g l) (r.idxOf x + 1) z * Pm.fac z * Pm.fac (r.length - 1 - z) : Nat)) : Int) = ((tf r g l x z : Nat) : Int) := fun z => rfl
    simp only [etf, Int.toNat_natCast]
    trivial
    refine Got3.d (wrong_many_ok (ws := [x]) (rs := []) E hl (by simpa using hx) (by simp) (by simp)) ?_
    trivial
    refine w_f ?_ ?_
    · have h1 : ((List.map (fun a => a) (List.map (fun z => ((tf r g l x z : Nat) : Int)) (List.range r.length))).sum = ((Pm.fac r.length * Pm.pm (mo r g l) [x] * Pm.pm (hk r) [] / (Pm.pm (fun x => hk r x + mo r g l x) [x] * Pm.pm (fun x => hk r x + mo r g l x) []) : Nat) : Int)) := by
        rw [List.map_id', sum_sm, tf_sum E hx]
        simp [Pm.pm]
      have h2 : ((List.take ((if 0 < mo r g l x then List.idxOf x r else r.length - 1) + 1) (List.map (fun z => ((tf r g l x z : Nat) : Int)) (List.range r.length))).any fun a => a != 0) = false := by
        generalize hk : (if 0 < mo r g l x then List.idxOf x r else r.length - 1) = k
        rw [List.any_eq_false]
        intro v hv
        obtain ⟨i, hi⟩ := List.mem_iff_getElem?.mp hv
        rw [List.getElem?_take] at hi
        by_cases hlt : i < k + 1
        · rw [if_pos hlt] at hi
          obtain ⟨_, rfl⟩ := tz_get (r := r) (g := g) (l := l) (x := x) hi
          rw [tf_none E hx (by rw [hk]; omega)]; decide
        · rw [if_neg hlt] at hi; cases hi
      rw [h2, decide_eq_true h1]; rfl
    have etz : (List.range r.length).map (fun z => ((tf r g l x z : Nat) : Int)) = tz r g l x := rfl
    rw [etz]
    obtain ⟨mx, hmx, hmb⟩ := tz_max E hx (by omega)
    trivial
    · refine OutG.d hmx ?_
      trivial
      rw [show ((r.length : Nat) : Int) - 1 = ((r.length - 1 : Nat) : Int) by omega]
      refine Got1.d (product_ok (by omega)) ?_
      trivial
    trivial
    refine w_f ?_ ?_
    · have h1 : (((tz r g l x).zip (List.drop 1 (tz r g l x))).any fun z => decide (z.snd < z.fst)) = false := by
        rw [List.any_eq_false]
        intro p hp
        have := zip_next (R := fun a b : Int => a ≤ b) (tz_pw E hx) p hp
        simpa using this
      rw [h1, decide_eq_false (by omega)]; rfl
    trivial
    refine w_tf (fun hq => ?_) fun hq => ?_
    · have hq := of_decide_eq_true hq
      have h0 : mo r g l x = 0 := by omega
      trivial
      · refine Got2.d (danger_none E hx h0) ?_
        trivial
      trivial
      refine ⟨bx, hB.mono (by omega), congrArg (fun t => Sl.d (.bool t)) ?_, rfl⟩
      rw [if_neg (by omega), decide_eq_true (by omega)]; rfl
    · have hq := of_decide_eq_false hq
      have h0 : 0 < mo r g l x := by omega
      obtain ⟨bx', hB', ed⟩ := danger_right_ok E hl hx h0 hB (by omega)
      refine w_nil (w_cons (w_ret (w_and (w_bc ?_))))
      trivial
      rw [if_pos h0]
      refine OutG.d (ix_l (k := r.idxOf x + 1) (x := ((tf r g l x (r.idxOf x + 1) : Nat) : Int)) ?_) ?_
      · unfold tz
        rw [List.getElem?_map, List.getElem?_range (by omega)]; rfl
      trivial
      rw [if_pos (decide_eq_true (by have := tf_pos E hx h0; omega))]
      trivial
      refine w_io4 rfl rfl rfl ?_
      trivial
      refine ⟨_, _, _, _, _, _, bx', rfl, rfl, rfl, rfl, ed, rfl, ?_⟩
      trivial
      exact ⟨bx', hB', rfl, rfl⟩)
  exact ⟨bx', h5, by subst h6 h7; exact e⟩
theorem right75_ok {bx : List D} {m : Int} (hB : Bx m bx) (hm : m ≤ 500000) : ∃ bx', Bx (m + 1000) bx' ∧ F_law_right_v56.sem [.ol (some 0) bx] = .ok (.d (.bool true)) [some (.ol (some 0) bx')] := by
  obtain ⟨s, o, ⟨bx', h5, h6, h7⟩, e⟩ := sem_of (n := 4) (md := [true]) (body := b_law_right_v56) (args := [.ol (some 0) bx]) (Q := fun s o => ∃ (bx' : List D), Bx (m + 1000) bx' ∧ s = .d (.bool true) ∧ o = [some (.ol (some 0) bx')]) (by
    have hm0 := hB.nn
    obtain ⟨r, g, l, bx1, E, hl, hB1, en⟩ := night_ok (lo := 3) (hi := 24) hB (by omega) (by decide)
    have hgl := List.length_filter_le (sk r g l) g
    have hrl := E.len
    obtain ⟨hs, bx2, hp, hB2, eh⟩ := strewn_ok (f := PyData.str) (fun _ => .str) (ys := g.filter (sk r g l)) hB1 (by omega) (by omega) (.inl rfl)
    have hsk : ∀ x ∈ hs, sk r g l x = true := fun x hx => (List.mem_filter.mp (hp.mem_iff.mp hx)).2
    have hpl := hp.length_eq
    unfold b_law_right_v56
    trivial
    refine w_io3 rfl rfl rfl ?_
    trivial
    refine ⟨_, _, _, _, _, bx1, rfl, rfl, rfl, en, rfl, ?_⟩
    trivial
    refine w_io2 rfl rfl rfl ?_
    trivial
    refine Got1.l hopes_ok ?_
    trivial
    refine ⟨_, _, _, _, bx2, rfl, rfl, eh, rfl, ?_⟩
    refine w_ownl ⟨Nat.le_of_ble_eq_true rfl, ?_⟩
    refine w_cons (w_ret (w_bltg (w_lcons (w_comp ?_))))
    trivial
    refine ⟨fun i ρ acc => ∃ bx, ρ = [some (.ol (some 0) bx), some (.d (eD r g l)), some (.ol none (hs.map .str)), none] ∧ Bx (m + 300 + 60 * i) bx ∧ acc = (List.range i).map (fun _ => PyData.bool true), ⟨bx2, rfl, hB2.mono (by omega), rfl⟩, ?_, ?_⟩
    · rintro i d ρ acc hd ⟨bx, rfl, hB, rfl⟩
      obtain ⟨y, hy, rfl⟩ := map_get hd
      have hi := (List.getElem?_eq_some_iff.mp hy).1
      rw [List.length_take] at hi
      have hym : y ∈ hs := List.mem_of_mem_take (List.mem_of_getElem? hy)
      refine ⟨_, rfl, ?_⟩
      trivial
      rw [if_pos rfl]
      obtain ⟨bx', hB', e⟩ := guest_right75_ok E (by omega) (hsk y hym) hB (by omega)
      refine w_io3 rfl rfl rfl ?_
      trivial
      refine ⟨_, _, _, _, _, bx', rfl, rfl, rfl, e, rfl, ?_⟩
      trivial
      exact ⟨hB'.mono (by omega), by rw [List.range_succ, List.map_append]; rfl⟩
    · rintro ρ acc ⟨bx, rfl, hB, rfl⟩
      have h3 : ((hs.take 3).map PyData.str).length ≤ 3 := by rw [List.length_map, List.length_take]; omega
      generalize ((hs.take 3).map PyData.str).length = k3 at hB h3 ⊢
      trivial
      refine OutG.d (all_map (fun _ => true) (List.range k3)) ?_
      trivial
      exact ⟨bx, hB.mono (by omega), by simp, rfl⟩)
  exact ⟨bx', h5, by subst h6 h7; exact e⟩
end
namespace K75
theorem law_math : ∀ ns : List Int, ns.length ≤ 63 → (∀ z ∈ ns, Builtin.Int.intBits z ≤ 1048576) → ∃ outs, F_law_v56.sem [.scr ns] = .ok (.d (.bool true)) outs :=
  law_ofB (Fr := F_law_right_v56) (n := 2) (t := 2) (by decide) (by decide) rfl fun bx m h hm => by
    obtain ⟨bx', h1, h2⟩ := right75_ok h hm
    exact ⟨bx', h1.mono (by omega), h2⟩
end K75
end Pw
namespace Pw.K75
open PySem PySem.Spec PyProof.Rows L2 Pw
def top (i : Nat) : Stmt := PySem.Challenge.pw_wrongcoats_k75_whole_by_when_it_is_too_l.main.body.getD i (.Pass ⟨0, 0, 0, 0⟩)
theorem ck_law_folded : ckSs N_law_folded (defScope (top 30)) (defBody (top 30)) b_law_folded = true := by kernel_rfl
theorem ck_law_box : ckSs N_law_box (defScope (top 28)) (defBody (top 28)) b_law_box = true := by kernel_rfl
theorem ck_law_take (g : List Sl → FR) : ckSs N_law_take (defScope (top 29)) (defBody (top 29)) (b_law_take g) = true := by kernel_rfl
theorem ck_law_strewn : ckSs N_law_strewn (defScope (top 33)) (defBody (top 33)) b_law_strewn = true := by kernel_rfl
theorem ck_law_names : ckSs N_law_names (defScope (top 32)) (defBody (top 32)) b_law_names = true := by kernel_rfl
theorem ck_law_night : ckSs N_law_night (defScope (top 34)) (defBody (top 34)) b_law_night = true := by kernel_rfl
theorem ck_law_seeks_v1 : ckSs N_law_seeks_v1 (defScope (top 35)) (defBody (top 35)) b_law_seeks_v1 = true := by kernel_rfl
theorem ck_law_hopes : ckSs N_law_hopes (defScope (top 38)) (defBody (top 38)) b_law_hopes = true := by kernel_rfl
theorem ck_hook_of : ckSs N_hook_of (defScope (top 9)) (defBody (top 9)) b_hook_of = true := by kernel_rfl
theorem ck_is_seeker : ckSs N_is_seeker (defScope (top 5)) (defBody (top 5)) b_is_seeker = true := by kernel_rfl
theorem ck_seekers : ckSs N_seekers (defScope (top 6)) (defBody (top 6)) b_seekers = true := by kernel_rfl
theorem ck_loose : ckSs N_loose (defScope (top 8)) (defBody (top 8)) b_loose = true := by kernel_rfl
theorem ck_loose_from : ckSs N_loose_from (defScope (top 10)) (defBody (top 10)) b_loose_from = true := by kernel_rfl
theorem ck_shares_of : ckSs N_shares_of (defScope (top 16)) (defBody (top 16)) b_shares_of = true := by kernel_rfl
theorem ck_safe_ahead : ckSs N_safe_ahead (defScope (top 21)) (defBody (top 21)) b_safe_ahead = true := by kernel_rfl
theorem ck_factorial_v1 : ckSs N_factorial_v1 (defScope (top 14)) (defBody (top 14)) b_factorial_v1 = true := by kernel_rfl
theorem ck_sought_ahead : ckSs N_sought_ahead (defScope (top 22)) (defBody (top 22)) b_sought_ahead = true := by kernel_rfl
theorem ck_takers : ckSs N_takers (defScope (top 7)) (defBody (top 7)) b_takers = true := by kernel_rfl
theorem ck_ways_to_take : ckSs N_ways_to_take (defScope (top 25)) (defBody (top 25)) b_ways_to_take = true := by kernel_rfl
theorem ck_wrong_behind : ckSs N_wrong_behind (defScope (top 26)) (defBody (top 26)) b_wrong_behind = true := by kernel_rfl
theorem ck_danger : ckSs N_danger (defScope (top 23)) (defBody (top 23)) b_danger = true := by kernel_rfl
theorem ck_look_goers : ckSs N_look_goers (defScope (top 12)) (defBody (top 12)) b_look_goers = true := by kernel_rfl
theorem ck_gone_by : ckSs N_gone_by (defScope (top 19)) (defBody (top 19)) b_gone_by = true := by kernel_rfl
theorem ck_shows_danger : ckSs N_shows_danger (defScope (top 24)) (defBody (top 24)) b_shows_danger = true := by kernel_rfl
theorem ck_law_went : ckSs N_law_went (defScope (top 36)) (defBody (top 36)) b_law_went = true := by kernel_rfl
theorem ck_law_danger_right : ckSs N_law_danger_right (defScope (top 40)) (defBody (top 40)) b_law_danger_right = true := by kernel_rfl
theorem ck_law_behind_v1 : ckSs N_law_behind_v1 (defScope (top 37)) (defBody (top 37)) b_law_behind_v1 = true := by kernel_rfl
theorem ck_wrong_many_v1 : ckSs N_wrong_many_v1 (defScope (top 17)) (defBody (top 17)) b_wrong_many_v1 = true := by kernel_rfl
theorem ck_law_product : ckSs N_law_product (defScope (top 39)) (defBody (top 39)) b_law_product = true := by kernel_rfl
theorem ck_law_guest_right_v1 : ckSs N_law_guest_right_v1 (defScope (top 41)) (defBody (top 41)) b_law_guest_right_v1 = true := by kernel_rfl
theorem ck_law_right_v56 : ckSs N_law_right_v56 (defScope (top 42)) (defBody (top 42)) b_law_right_v56 = true := by kernel_rfl
theorem ck_law_v56 : ckSs N_law_v56 (defScope (top 43)) (defBody (top 43)) b_law_v56 = true := by kernel_rfl
abbrev PK75 : Program := PySem.Challenge.pw_wrongcoats_k75_whole_by_when_it_is_too_l
theorem nd_law_folded {w : World} {K : PySem.W.Frag} {mg : Str → Option Value} {base : Heap} {cls : Str → Addr} {k : Nat} (z_list : mg "list" = none) (z_enumerate : mg "enumerate" = none) : ∀ n ∈ ndSs b_law_folded, NeedK PK75 w K mg base cls k n := by
  have e : ndSs b_law_folded = [.no "list", .no "enumerate"] := by kernel_rfl
  rw [e]
  exact (an_c z_list (an_c z_enumerate an_n))
theorem nd_law_box {w : World} {K : PySem.W.Frag} {mg : Str → Option Value} {base : Heap} {cls : Str → Addr} {k : Nat} (z_len : mg "len" = none) (z_abs : mg "abs" = none) (z_int : mg "int" = none) : ∀ n ∈ ndSs b_law_box, NeedK PK75 w K mg base cls k n := by
  have e : ndSs b_law_box = [.no "len", .no "abs", .no "int", .no "abs"] := by kernel_rfl
  rw [e]
  exact (an_c z_len (an_c z_abs (an_c z_int (an_c z_abs an_n))))
theorem nd_law_take {w : World} {K : PySem.W.Frag} {mg : Str → Option Value} {base : Heap} {cls : Str → Addr} {k : Nat} (g : List Sl → FR) (z_divmod : mg "divmod" = none) (h_rec : NeedK PK75 w K mg base cls k (.fn ⟨"_law_take", [true, false], g⟩)) : ∀ n ∈ ndSs (b_law_take g), NeedK PK75 w K mg base cls k n := by
  have e : ndSs (b_law_take g) = [.no "divmod", .fn ⟨"_law_take", [true, false], g⟩, .fn ⟨"_law_take", [true, false], g⟩] := by kernel_rfl
  rw [e]
  exact (an_c z_divmod (an_c h_rec (an_c h_rec an_n)))
theorem nd_law_strewn {w : World} {K : PySem.W.Frag} {mg : Str → Option Value} {base : Heap} {cls : Str → Addr} {k : Nat} (z_list : mg "list" = none) (h__law_take : NeedK PK75 w K mg base cls k (.fn (F_law_take 1))) (z_len : mg "len" = none) : ∀ n ∈ ndSs b_law_strewn, NeedK PK75 w K mg base cls k n := by
  have e : ndSs b_law_strewn = [.no "list", .fn (F_law_take 1), .no "len"] := by kernel_rfl
  rw [e]
  exact (an_c z_list (an_c h__law_take (an_c z_len an_n)))
theorem nd_law_names {w : World} {K : PySem.W.Frag} {mg : Str → Option Value} {base : Heap} {cls : Str → Addr} {k : Nat} (h__law_take : NeedK PK75 w K mg base cls k (.fn (F_law_take 1))) (z_range : mg "range" = none) (z_int : mg "int" = none) : ∀ n ∈ ndSs b_law_names, NeedK PK75 w K mg base cls k n := by
  have e : ndSs b_law_names = [.fn (F_law_take 1), .no "range", .fn (F_law_take 1), .fn (F_law_take 1), .fn (F_law_take 1), .fn (F_law_take 1), .no "range", .no "int"] := by kernel_rfl
  rw [e]
  exact (an_c h__law_take (an_c z_range (an_c h__law_take (an_c h__law_take (an_c h__law_take (an_c h__law_take (an_c z_range (an_c z_int an_n))))))))
theorem nd_law_night {w : World} {K : PySem.W.Frag} {mg : Str → Option Value} {base : Heap} {cls : Str → Addr} {k : Nat} (h__law_take : NeedK PK75 w K mg base cls k (.fn (F_law_take 1))) (h__law_strewn : NeedK PK75 w K mg base cls k (.fn F_law_strewn)) (h__law_names : NeedK PK75 w K mg base cls k (.fn F_law_names)) (z_min : mg "min" = none) (z_len : mg "len" = none) (z_tuple : mg "tuple" = none) (z_sorted : mg "sorted" = none) : ∀ n ∈ ndSs b_law_night, NeedK PK75 w K mg base cls k n := by
  have e : ndSs b_law_night = [.fn (F_law_take 1), .fn F_law_strewn, .fn F_law_names, .no "min", .no "min", .no "len", .fn (F_law_take 1), .fn F_law_strewn, .fn (F_law_take 1), .fn (F_law_take 1), .no "tuple", .no "tuple", .no "sorted", .no "tuple", .no "sorted"] := by kernel_rfl
  rw [e]
  exact (an_c h__law_take (an_c h__law_strewn (an_c h__law_names (an_c z_min (an_c z_min (an_c z_len (an_c h__law_take (an_c h__law_strewn (an_c h__law_take (an_c h__law_take (an_c z_tuple (an_c z_tuple (an_c z_sorted (an_c z_tuple (an_c z_sorted an_n)))))))))))))))
theorem nd_law_seeks_v1 {w : World} {K : PySem.W.Frag} {mg : Str → Option Value} {base : Heap} {cls : Str → Addr} {k : Nat}  : ∀ n ∈ ndSs b_law_seeks_v1, NeedK PK75 w K mg base cls k n := by
  have e : ndSs b_law_seeks_v1 = [] := by kernel_rfl
  rw [e]
  exact an_n
theorem nd_law_hopes {w : World} {K : PySem.W.Frag} {mg : Str → Option Value} {base : Heap} {cls : Str → Addr} {k : Nat} (h__law_seeks : NeedK PK75 w K mg base cls k (.fn F_law_seeks_v1)) : ∀ n ∈ ndSs b_law_hopes, NeedK PK75 w K mg base cls k n := by
  have e : ndSs b_law_hopes = [.fn F_law_seeks_v1] := by kernel_rfl
  rw [e]
  exact (an_c h__law_seeks an_n)
theorem nd_hook_of {w : World} {K : PySem.W.Frag} {mg : Str → Option Value} {base : Heap} {cls : Str → Addr} {k : Nat} (z_list : mg "list" = none) : ∀ n ∈ ndSs b_hook_of, NeedK PK75 w K mg base cls k n := by
  have e : ndSs b_hook_of = [.no "list"] := by kernel_rfl
  rw [e]
  exact (an_c z_list an_n)
theorem nd_is_seeker {w : World} {K : PySem.W.Frag} {mg : Str → Option Value} {base : Heap} {cls : Str → Addr} {k : Nat}  : ∀ n ∈ ndSs b_is_seeker, NeedK PK75 w K mg base cls k n := by
  have e : ndSs b_is_seeker = [] := by kernel_rfl
  rw [e]
  exact an_n
theorem nd_seekers {w : World} {K : PySem.W.Frag} {mg : Str → Option Value} {base : Heap} {cls : Str → Addr} {k : Nat} (h_is_seeker : NeedK PK75 w K mg base cls k (.fn F_is_seeker)) : ∀ n ∈ ndSs b_seekers, NeedK PK75 w K mg base cls k n := by
  have e : ndSs b_seekers = [.fn F_is_seeker] := by kernel_rfl
  rw [e]
  exact (an_c h_is_seeker an_n)
theorem nd_loose {w : World} {K : PySem.W.Frag} {mg : Str → Option Value} {base : Heap} {cls : Str → Addr} {k : Nat} (h_is_seeker : NeedK PK75 w K mg base cls k (.fn F_is_seeker)) : ∀ n ∈ ndSs b_loose, NeedK PK75 w K mg base cls k n := by
  have e : ndSs b_loose = [.fn F_is_seeker] := by kernel_rfl
  rw [e]
  exact (an_c h_is_seeker an_n)
theorem nd_loose_from {w : World} {K : PySem.W.Frag} {mg : Str → Option Value} {base : Heap} {cls : Str → Addr} {k : Nat} (z_len : mg "len" = none) (h_loose : NeedK PK75 w K mg base cls k (.fn F_loose)) (h_hook_of : NeedK PK75 w K mg base cls k (.fn F_hook_of)) : ∀ n ∈ ndSs b_loose_from, NeedK PK75 w K mg base cls k n := by
  have e : ndSs b_loose_from = [.no "len", .fn F_loose, .fn F_hook_of] := by kernel_rfl
  rw [e]
  exact (an_c z_len (an_c h_loose (an_c h_hook_of an_n)))
theorem nd_shares_of {w : World} {K : PySem.W.Frag} {mg : Str → Option Value} {base : Heap} {cls : Str → Addr} {k : Nat} (h_seekers : NeedK PK75 w K mg base cls k (.fn F_seekers)) (h_hook_of : NeedK PK75 w K mg base cls k (.fn F_hook_of)) (h_loose_from : NeedK PK75 w K mg base cls k (.fn F_loose_from)) : ∀ n ∈ ndSs b_shares_of, NeedK PK75 w K mg base cls k n := by
  have e : ndSs b_shares_of = [.fn F_seekers, .fn F_hook_of, .fn F_loose_from] := by kernel_rfl
  rw [e]
  exact (an_c h_seekers (an_c h_hook_of (an_c h_loose_from an_n)))
theorem nd_safe_ahead {w : World} {K : PySem.W.Frag} {mg : Str → Option Value} {base : Heap} {cls : Str → Addr} {k : Nat} (h_shares_of : NeedK PK75 w K mg base cls k (.fn F_shares_of)) (z_len : mg "len" = none) : ∀ n ∈ ndSs b_safe_ahead, NeedK PK75 w K mg base cls k n := by
  have e : ndSs b_safe_ahead = [.fn F_shares_of, .no "len"] := by kernel_rfl
  rw [e]
  exact (an_c h_shares_of (an_c z_len an_n))
theorem nd_factorial_v1 {w : World} {K : PySem.W.Frag} {mg : Str → Option Value} {base : Heap} {cls : Str → Addr} {k : Nat} (z_range : mg "range" = none) : ∀ n ∈ ndSs b_factorial_v1, NeedK PK75 w K mg base cls k n := by
  have e : ndSs b_factorial_v1 = [.no "range"] := by kernel_rfl
  rw [e]
  exact (an_c z_range an_n)
theorem nd_sought_ahead {w : World} {K : PySem.W.Frag} {mg : Str → Option Value} {base : Heap} {cls : Str → Addr} {k : Nat} (h_seekers : NeedK PK75 w K mg base cls k (.fn F_seekers)) : ∀ n ∈ ndSs b_sought_ahead, NeedK PK75 w K mg base cls k n := by
  have e : ndSs b_sought_ahead = [.fn F_seekers] := by kernel_rfl
  rw [e]
  exact (an_c h_seekers an_n)
theorem nd_takers {w : World} {K : PySem.W.Frag} {mg : Str → Option Value} {base : Heap} {cls : Str → Addr} {k : Nat} (h_is_seeker : NeedK PK75 w K mg base cls k (.fn F_is_seeker)) : ∀ n ∈ ndSs b_takers, NeedK PK75 w K mg base cls k n := by
  have e : ndSs b_takers = [.fn F_is_seeker] := by kernel_rfl
  rw [e]
  exact (an_c h_is_seeker an_n)
theorem nd_ways_to_take {w : World} {K : PySem.W.Frag} {mg : Str → Option Value} {base : Heap} {cls : Str → Addr} {k : Nat} (z_range : mg "range" = none) : ∀ n ∈ ndSs b_ways_to_take, NeedK PK75 w K mg base cls k n := by
  have e : ndSs b_ways_to_take = [.no "range"] := by kernel_rfl
  rw [e]
  exact (an_c z_range an_n)
theorem nd_wrong_behind {w : World} {K : PySem.W.Frag} {mg : Str → Option Value} {base : Heap} {cls : Str → Addr} {k : Nat} (h_shares_of : NeedK PK75 w K mg base cls k (.fn F_shares_of)) (z_len : mg "len" = none) (h_sought_ahead : NeedK PK75 w K mg base cls k (.fn F_sought_ahead)) (h_takers : NeedK PK75 w K mg base cls k (.fn F_takers)) (z_range : mg "range" = none) (h_ways_to_take : NeedK PK75 w K mg base cls k (.fn F_ways_to_take)) (h_factorial : NeedK PK75 w K mg base cls k (.fn F_factorial_v1)) : ∀ n ∈ ndSs b_wrong_behind, NeedK PK75 w K mg base cls k n := by
  have e : ndSs b_wrong_behind = [.fn F_shares_of, .no "len", .no "len", .fn F_sought_ahead, .no "len", .fn F_takers, .no "range", .no "range", .fn F_ways_to_take, .fn F_ways_to_take, .fn F_ways_to_take, .fn F_factorial_v1, .fn F_factorial_v1] := by kernel_rfl
  rw [e]
  exact (an_c h_shares_of (an_c z_len (an_c z_len (an_c h_sought_ahead (an_c z_len (an_c h_takers (an_c z_range (an_c z_range (an_c h_ways_to_take (an_c h_ways_to_take (an_c h_ways_to_take (an_c h_factorial (an_c h_factorial an_n)))))))))))))
theorem nd_danger {w : World} {K : PySem.W.Frag} {mg : Str → Option Value} {base : Heap} {cls : Str → Addr} {k : Nat} (h_shares_of : NeedK PK75 w K mg base cls k (.fn F_shares_of)) (h_sought_ahead : NeedK PK75 w K mg base cls k (.fn F_sought_ahead)) (z_tuple : mg "tuple" = none) (z_sorted : mg "sorted" = none) (h_takers : NeedK PK75 w K mg base cls k (.fn F_takers)) (z_len : mg "len" = none) : ∀ n ∈ ndSs b_danger, NeedK PK75 w K mg base cls k n := by
  have e : ndSs b_danger = [.fn F_shares_of, .fn F_sought_ahead, .no "tuple", .no "sorted", .fn F_takers, .no "len"] := by kernel_rfl
  rw [e]
  exact (an_c h_shares_of (an_c h_sought_ahead (an_c z_tuple (an_c z_sorted (an_c h_takers (an_c z_len an_n))))))
theorem nd_look_goers {w : World} {K : PySem.W.Frag} {mg : Str → Option Value} {base : Heap} {cls : Str → Addr} {k : Nat} (z_enumerate : mg "enumerate" = none) : ∀ n ∈ ndSs b_look_goers, NeedK PK75 w K mg base cls k n := by
  have e : ndSs b_look_goers = [.no "enumerate"] := by kernel_rfl
  rw [e]
  exact (an_c z_enumerate an_n)
theorem nd_gone_by {w : World} {K : PySem.W.Frag} {mg : Str → Option Value} {base : Heap} {cls : Str → Addr} {k : Nat} (h_look_goers : NeedK PK75 w K mg base cls k (.fn F_look_goers)) (h_is_seeker : NeedK PK75 w K mg base cls k (.fn F_is_seeker)) (z_len : mg "len" = none) : ∀ n ∈ ndSs b_gone_by, NeedK PK75 w K mg base cls k n := by
  have e : ndSs b_gone_by = [.fn F_look_goers, .fn F_is_seeker, .no "len", .no "len"] := by kernel_rfl
  rw [e]
  exact (an_c h_look_goers (an_c h_is_seeker (an_c z_len (an_c z_len an_n))))
theorem nd_shows_danger {w : World} {K : PySem.W.Frag} {mg : Str → Option Value} {base : Heap} {cls : Str → Addr} {k : Nat} (h_shares_of : NeedK PK75 w K mg base cls k (.fn F_shares_of)) (z_isinstance : mg "isinstance" = none) (z_tuple : mg "tuple" = none) (z_len : mg "len" = none) (z_all : mg "all" = none) (z_str : mg "str" = none) (z_zip : mg "zip" = none) (h_gone_by : NeedK PK75 w K mg base cls k (.fn F_gone_by)) : ∀ n ∈ ndSs b_shows_danger, NeedK PK75 w K mg base cls k n := by
  have e : ndSs b_shows_danger = [.fn F_shares_of, .no "isinstance", .no "tuple", .no "len", .no "all", .no "isinstance", .no "str", .no "all", .no "zip", .fn F_gone_by] := by kernel_rfl
  rw [e]
  exact (an_c h_shares_of (an_c z_isinstance (an_c z_tuple (an_c z_len (an_c z_all (an_c z_isinstance (an_c z_str (an_c z_all (an_c z_zip (an_c h_gone_by an_n))))))))))
theorem nd_law_went {w : World} {K : PySem.W.Frag} {mg : Str → Option Value} {base : Heap} {cls : Str → Addr} {k : Nat} (z_list : mg "list" = none) (h__law_seeks : NeedK PK75 w K mg base cls k (.fn F_law_seeks_v1)) (z_tuple : mg "tuple" = none) (z_sorted : mg "sorted" = none) : ∀ n ∈ ndSs b_law_went, NeedK PK75 w K mg base cls k n := by
  have e : ndSs b_law_went = [.no "list", .fn F_law_seeks_v1, .no "tuple", .no "sorted"] := by kernel_rfl
  rw [e]
  exact (an_c z_list (an_c h__law_seeks (an_c z_tuple (an_c z_sorted an_n))))
theorem nd_law_danger_right {w : World} {K : PySem.W.Frag} {mg : Str → Option Value} {base : Heap} {cls : Str → Addr} {k : Nat} (h_danger : NeedK PK75 w K mg base cls k (.fn F_danger)) (z_len : mg "len" = none) (h_shows_danger : NeedK PK75 w K mg base cls k (.fn F_shows_danger)) (h__law_went : NeedK PK75 w K mg base cls k (.fn F_law_went)) (h__law_strewn : NeedK PK75 w K mg base cls k (.fn F_law_strewn)) : ∀ n ∈ ndSs b_law_danger_right, NeedK PK75 w K mg base cls k n := by
  have e : ndSs b_law_danger_right = [.fn F_danger, .no "len", .fn F_shows_danger, .fn F_law_went, .fn F_law_strewn, .fn F_law_strewn, .fn F_law_went] := by kernel_rfl
  rw [e]
  exact (an_c h_danger (an_c z_len (an_c h_shows_danger (an_c h__law_went (an_c h__law_strewn (an_c h__law_strewn (an_c h__law_went an_n)))))))
theorem nd_law_behind_v1 {w : World} {K : PySem.W.Frag} {mg : Str → Option Value} {base : Heap} {cls : Str → Addr} {k : Nat} (z_list : mg "list" = none) (z_len : mg "len" = none) (h__law_seeks : NeedK PK75 w K mg base cls k (.fn F_law_seeks_v1)) : ∀ n ∈ ndSs b_law_behind_v1, NeedK PK75 w K mg base cls k n := by
  have e : ndSs b_law_behind_v1 = [.no "list", .no "len", .fn F_law_seeks_v1] := by kernel_rfl
  rw [e]
  exact (an_c z_list (an_c z_len (an_c h__law_seeks an_n)))
theorem nd_wrong_many_v1 {w : World} {K : PySem.W.Frag} {mg : Str → Option Value} {base : Heap} {cls : Str → Addr} {k : Nat} (h_factorial : NeedK PK75 w K mg base cls k (.fn F_factorial_v1)) (z_len : mg "len" = none) (h_shares_of : NeedK PK75 w K mg base cls k (.fn F_shares_of)) : ∀ n ∈ ndSs b_wrong_many_v1, NeedK PK75 w K mg base cls k n := by
  have e : ndSs b_wrong_many_v1 = [.fn F_factorial_v1, .no "len", .fn F_shares_of, .fn F_shares_of] := by kernel_rfl
  rw [e]
  exact (an_c h_factorial (an_c z_len (an_c h_shares_of (an_c h_shares_of an_n))))
theorem nd_law_product {w : World} {K : PySem.W.Frag} {mg : Str → Option Value} {base : Heap} {cls : Str → Addr} {k : Nat} (z_range : mg "range" = none) : ∀ n ∈ ndSs b_law_product, NeedK PK75 w K mg base cls k n := by
  have e : ndSs b_law_product = [.no "range"] := by kernel_rfl
  rw [e]
  exact (an_c z_range an_n)
theorem nd_law_guest_right_v1 {w : World} {K : PySem.W.Frag} {mg : Str → Option Value} {base : Heap} {cls : Str → Addr} {k : Nat} (z_len : mg "len" = none) (h_safe_ahead : NeedK PK75 w K mg base cls k (.fn F_safe_ahead)) (h__law_behind : NeedK PK75 w K mg base cls k (.fn F_law_behind_v1)) (z_range : mg "range" = none) (h_wrong_behind : NeedK PK75 w K mg base cls k (.fn F_wrong_behind)) (z_sum : mg "sum" = none) (h_wrong_many : NeedK PK75 w K mg base cls k (.fn F_wrong_many_v1)) (z_any : mg "any" = none) (z_zip : mg "zip" = none) (z_max : mg "max" = none) (h__law_product : NeedK PK75 w K mg base cls k (.fn F_law_product)) (h_danger : NeedK PK75 w K mg base cls k (.fn F_danger)) (h__law_danger_right : NeedK PK75 w K mg base cls k (.fn F_law_danger_right)) : ∀ n ∈ ndSs b_law_guest_right_v1, NeedK PK75 w K mg base cls k n := by
  have e : ndSs b_law_guest_right_v1 = [.no "len", .fn F_safe_ahead, .fn F_law_behind_v1, .no "range", .fn F_wrong_behind, .no "sum", .fn F_wrong_many_v1, .no "any", .no "any", .no "zip", .no "max", .fn F_law_product, .fn F_danger, .fn F_law_danger_right] := by kernel_rfl
  rw [e]
  exact (an_c z_len (an_c h_safe_ahead (an_c h__law_behind (an_c z_range (an_c h_wrong_behind (an_c z_sum (an_c h_wrong_many (an_c z_any (an_c z_any (an_c z_zip (an_c z_max (an_c h__law_product (an_c h_danger (an_c h__law_danger_right an_n))))))))))))))
theorem nd_law_right_v56 {w : World} {K : PySem.W.Frag} {mg : Str → Option Value} {base : Heap} {cls : Str → Addr} {k : Nat} (h__law_night : NeedK PK75 w K mg base cls k (.fn F_law_night)) (h__law_strewn : NeedK PK75 w K mg base cls k (.fn F_law_strewn)) (h__law_hopes : NeedK PK75 w K mg base cls k (.fn F_law_hopes)) (z_all : mg "all" = none) (h__law_guest_right : NeedK PK75 w K mg base cls k (.fn F_law_guest_right_v1)) : ∀ n ∈ ndSs b_law_right_v56, NeedK PK75 w K mg base cls k n := by
  have e : ndSs b_law_right_v56 = [.fn F_law_night, .fn F_law_strewn, .fn F_law_hopes, .no "all", .fn F_law_guest_right_v1] := by kernel_rfl
  rw [e]
  exact (an_c h__law_night (an_c h__law_strewn (an_c h__law_hopes (an_c z_all (an_c h__law_guest_right an_n)))))
theorem nd_law_v56 {w : World} {K : PySem.W.Frag} {mg : Str → Option Value} {base : Heap} {cls : Str → Addr} {k : Nat} (h__law_folded : NeedK PK75 w K mg base cls k (.fn F_law_folded)) (z_range : mg "range" = none) (z_max : mg "max" = none) (z_len : mg "len" = none) (h__law_box : NeedK PK75 w K mg base cls k (.fn F_law_box)) (z_all : mg "all" = none) (h__law_right : NeedK PK75 w K mg base cls k (.fn F_law_right_v56)) : ∀ n ∈ ndSs b_law_v56, NeedK PK75 w K mg base cls k n := by
  have e : ndSs b_law_v56 = [.fn F_law_folded, .no "range", .no "max", .no "len", .fn F_law_box, .no "all", .no "range", .fn F_law_right_v56] := by kernel_rfl
  rw [e]
  exact (an_c h__law_folded (an_c z_range (an_c z_max (an_c z_len (an_c h__law_box (an_c z_all (an_c z_range (an_c h__law_right an_n))))))))
theorem all_mk {w : World} {K : PySem.W.Frag} {h : Heap} {mg : Str → Option Value} {fa f1 f2 f3 f4 f5 f6 f7 f8 f9 f10 f11 f12 f13 f14 f15 f16 f17 f18 f19 f20 f21 f22 f23 f24 f25 f26 f27 f28 f29 f30 f31 f32 : Addr} (X : K.In h) (G : h.Ns mainGlobals mg) (hfa : mg "law" = some (.ref fa))
    {od1 an1 od2 an2 od3 an3 od4 an4 od5 an5 od6 an6 od7 an7 od8 an8 od9 an9 od10 an10 od11 an11 od12 an12 od13 an13 od14 an14 od15 an15 od16 an16 od17 an17 od18 an18 od19 an19 od20 an20 od21 an21 od22 an22 od23 an23 od24 an24 od25 an25 od26 an26 od27 an27 od28 an28 od29 an29 od30 an30 od31 an31 od32 an32 : Option Addr} {sl1 sl2 sl3 sl4 sl5 sl6 sl7 sl8 sl9 sl10 sl11 sl12 sl13 sl14 sl15 sl16 sl17 sl18 sl19 sl20 sl21 sl22 sl23 sl24 sl25 sl26 sl27 sl28 sl29 sl30 sl31 sl32 : Array (Option Value)} {oc1 kV1 dc1 pm1 cd1 ct1 oc2 kV2 dc2 pm2 cd2 ct2 oc3 kV3 dc3 pm3 cd3 ct3 oc4 kV4 dc4 pm4 cd4 ct4 oc5 kV5 dc5 pm5 cd5 ct5 oc6 kV6 dc6 pm6 cd6 ct6 oc7 kV7 dc7 pm7 cd7 ct7 oc8 kV8 dc8 pm8 cd8 ct8 oc9 kV9 dc9 pm9 cd9 ct9 oc10 kV10 dc10 pm10 cd10 ct10 oc11 kV11 dc11 pm11 cd11 ct11 oc12 kV12 dc12 pm12 cd12 ct12 oc13 kV13 dc13 pm13 cd13 ct13 oc14 kV14 dc14 pm14 cd14 ct14 oc15 kV15 dc15 pm15 cd15 ct15 oc16 kV16 dc16 pm16 cd16 ct16 oc17 kV17 dc17 pm17 cd17 ct17 oc18 kV18 dc18 pm18 cd18 ct18 oc19 kV19 dc19 pm19 cd19 ct19 oc20 kV20 dc20 pm20 cd20 ct20 oc21 kV21 dc21 pm21 cd21 ct21 oc22 kV22 dc22 pm22 cd22 ct22 oc23 kV23 dc23 pm23 cd23 ct23 oc24 kV24 dc24 pm24 cd24 ct24 oc25 kV25 dc25 pm25 cd25 ct25 oc26 kV26 dc26 pm26 cd26 ct26 oc27 kV27 dc27 pm27 cd27 ct27 oc28 kV28 dc28 pm28 cd28 ct28 oc29 kV29 dc29 pm29 cd29 ct29 oc30 kV30 dc30 pm30 cd30 ct30 oc31 kV31 dc31 pm31 cd31 ct31 oc32 kV32 dc32 pm32 cd32 ct32 : Value}
    (a1 : PySem.W.nsIn K mainGlobals "_law_folded" = some (some (.ref f1))) (l1 : K.lookup f1 = some ⟨oc1, od1, .func (PySem.W.fnOf "_law_folded" "_law_folded" (defArgs (top 30)) (defBody (top 30)) (defScope (top 30)) .none kV1 dc1 pm1 an1 cd1 ct1), sl1⟩) (c1 : PySem.W.codeIn K cd1 "_law_folded" = true) (k1 : PySem.W.keepIn K (.ref f1) = true)
    (a2 : PySem.W.nsIn K mainGlobals "_law_box" = some (some (.ref f2))) (l2 : K.lookup f2 = some ⟨oc2, od2, .func (PySem.W.fnOf "_law_box" "_law_box" (defArgs (top 28)) (defBody (top 28)) (defScope (top 28)) .none kV2 dc2 pm2 an2 cd2 ct2), sl2⟩) (c2 : PySem.W.codeIn K cd2 "_law_box" = true) (k2 : PySem.W.keepIn K (.ref f2) = true)
    (a3 : PySem.W.nsIn K mainGlobals "_law_take" = some (some (.ref f3))) (l3 : K.lookup f3 = some ⟨oc3, od3, .func (PySem.W.fnOf "_law_take" "_law_take" (defArgs (top 29)) (defBody (top 29)) (defScope (top 29)) .none kV3 dc3 pm3 an3 cd3 ct3), sl3⟩) (c3 : PySem.W.codeIn K cd3 "_law_take" = true) (k3 : PySem.W.keepIn K (.ref f3) = true)
    (a4 : PySem.W.nsIn K mainGlobals "_law_strewn" = some (some (.ref f4))) (l4 : K.lookup f4 = some ⟨oc4, od4, .func (PySem.W.fnOf "_law_strewn" "_law_strewn" (defArgs (top 33)) (defBody (top 33)) (defScope (top 33)) .none kV4 dc4 pm4 an4 cd4 ct4), sl4⟩) (c4 : PySem.W.codeIn K cd4 "_law_strewn" = true) (k4 : PySem.W.keepIn K (.ref f4) = true)
    (a5 : PySem.W.nsIn K mainGlobals "_law_names" = some (some (.ref f5))) (l5 : K.lookup f5 = some ⟨oc5, od5, .func (PySem.W.fnOf "_law_names" "_law_names" (defArgs (top 32)) (defBody (top 32)) (defScope (top 32)) .none kV5 dc5 pm5 an5 cd5 ct5), sl5⟩) (c5 : PySem.W.codeIn K cd5 "_law_names" = true) (k5 : PySem.W.keepIn K (.ref f5) = true)
    (a6 : PySem.W.nsIn K mainGlobals "_law_night" = some (some (.ref f6))) (l6 : K.lookup f6 = some ⟨oc6, od6, .func (PySem.W.fnOf "_law_night" "_law_night" (defArgs (top 34)) (defBody (top 34)) (defScope (top 34)) .none kV6 dc6 pm6 an6 cd6 ct6), sl6⟩) (c6 : PySem.W.codeIn K cd6 "_law_night" = true) (k6 : PySem.W.keepIn K (.ref f6) = true)
    (a7 : PySem.W.nsIn K mainGlobals "_law_seeks" = some (some (.ref f7))) (l7 : K.lookup f7 = some ⟨oc7, od7, .func (PySem.W.fnOf "_law_seeks" "_law_seeks" (defArgs (top 35)) (defBody (top 35)) (defScope (top 35)) .none kV7 dc7 pm7 an7 cd7 ct7), sl7⟩) (c7 : PySem.W.codeIn K cd7 "_law_seeks" = true) (k7 : PySem.W.keepIn K (.ref f7) = true)
    (a8 : PySem.W.nsIn K mainGlobals "_law_hopes" = some (some (.ref f8))) (l8 : K.lookup f8 = some ⟨oc8, od8, .func (PySem.W.fnOf "_law_hopes" "_law_hopes" (defArgs (top 38)) (defBody (top 38)) (defScope (top 38)) .none kV8 dc8 pm8 an8 cd8 ct8), sl8⟩) (c8 : PySem.W.codeIn K cd8 "_law_hopes" = true) (k8 : PySem.W.keepIn K (.ref f8) = true)
    (a9 : PySem.W.nsIn K mainGlobals "hook_of" = some (some (.ref f9))) (l9 : K.lookup f9 = some ⟨oc9, od9, .func (PySem.W.fnOf "hook_of" "hook_of" (defArgs (top 9)) (defBody (top 9)) (defScope (top 9)) .none kV9 dc9 pm9 an9 cd9 ct9), sl9⟩) (c9 : PySem.W.codeIn K cd9 "hook_of" = true) (k9 : PySem.W.keepIn K (.ref f9) = true)
    (a10 : PySem.W.nsIn K mainGlobals "is_seeker" = some (some (.ref f10))) (l10 : K.lookup f10 = some ⟨oc10, od10, .func (PySem.W.fnOf "is_seeker" "is_seeker" (defArgs (top 5)) (defBody (top 5)) (defScope (top 5)) .none kV10 dc10 pm10 an10 cd10 ct10), sl10⟩) (c10 : PySem.W.codeIn K cd10 "is_seeker" = true) (k10 : PySem.W.keepIn K (.ref f10) = true)
    (a11 : PySem.W.nsIn K mainGlobals "seekers" = some (some (.ref f11))) (l11 : K.lookup f11 = some ⟨oc11, od11, .func (PySem.W.fnOf "seekers" "seekers" (defArgs (top 6)) (defBody (top 6)) (defScope (top 6)) .none kV11 dc11 pm11 an11 cd11 ct11), sl11⟩) (c11 : PySem.W.codeIn K cd11 "seekers" = true) (k11 : PySem.W.keepIn K (.ref f11) = true)
    (a12 : PySem.W.nsIn K mainGlobals "loose" = some (some (.ref f12))) (l12 : K.lookup f12 = some ⟨oc12, od12, .func (PySem.W.fnOf "loose" "loose" (defArgs (top 8)) (defBody (top 8)) (defScope (top 8)) .none kV12 dc12 pm12 an12 cd12 ct12), sl12⟩) (c12 : PySem.W.codeIn K cd12 "loose" = true) (k12 : PySem.W.keepIn K (.ref f12) = true)
    (a13 : PySem.W.nsIn K mainGlobals "loose_from" = some (some (.ref f13))) (l13 : K.lookup f13 = some ⟨oc13, od13, .func (PySem.W.fnOf "loose_from" "loose_from" (defArgs (top 10)) (defBody (top 10)) (defScope (top 10)) .none kV13 dc13 pm13 an13 cd13 ct13), sl13⟩) (c13 : PySem.W.codeIn K cd13 "loose_from" = true) (k13 : PySem.W.keepIn K (.ref f13) = true)
    (a14 : PySem.W.nsIn K mainGlobals "shares_of" = some (some (.ref f14))) (l14 : K.lookup f14 = some ⟨oc14, od14, .func (PySem.W.fnOf "shares_of" "shares_of" (defArgs (top 16)) (defBody (top 16)) (defScope (top 16)) .none kV14 dc14 pm14 an14 cd14 ct14), sl14⟩) (c14 : PySem.W.codeIn K cd14 "shares_of" = true) (k14 : PySem.W.keepIn K (.ref f14) = true)
    (a15 : PySem.W.nsIn K mainGlobals "safe_ahead" = some (some (.ref f15))) (l15 : K.lookup f15 = some ⟨oc15, od15, .func (PySem.W.fnOf "safe_ahead" "safe_ahead" (defArgs (top 21)) (defBody (top 21)) (defScope (top 21)) .none kV15 dc15 pm15 an15 cd15 ct15), sl15⟩) (c15 : PySem.W.codeIn K cd15 "safe_ahead" = true) (k15 : PySem.W.keepIn K (.ref f15) = true)
    (a16 : PySem.W.nsIn K mainGlobals "factorial" = some (some (.ref f16))) (l16 : K.lookup f16 = some ⟨oc16, od16, .func (PySem.W.fnOf "factorial" "factorial" (defArgs (top 14)) (defBody (top 14)) (defScope (top 14)) .none kV16 dc16 pm16 an16 cd16 ct16), sl16⟩) (c16 : PySem.W.codeIn K cd16 "factorial" = true) (k16 : PySem.W.keepIn K (.ref f16) = true)
    (a17 : PySem.W.nsIn K mainGlobals "sought_ahead" = some (some (.ref f17))) (l17 : K.lookup f17 = some ⟨oc17, od17, .func (PySem.W.fnOf "sought_ahead" "sought_ahead" (defArgs (top 22)) (defBody (top 22)) (defScope (top 22)) .none kV17 dc17 pm17 an17 cd17 ct17), sl17⟩) (c17 : PySem.W.codeIn K cd17 "sought_ahead" = true) (k17 : PySem.W.keepIn K (.ref f17) = true)
    (a18 : PySem.W.nsIn K mainGlobals "takers" = some (some (.ref f18))) (l18 : K.lookup f18 = some ⟨oc18, od18, .func (PySem.W.fnOf "takers" "takers" (defArgs (top 7)) (defBody (top 7)) (defScope (top 7)) .none kV18 dc18 pm18 an18 cd18 ct18), sl18⟩) (c18 : PySem.W.codeIn K cd18 "takers" = true) (k18 : PySem.W.keepIn K (.ref f18) = true)
    (a19 : PySem.W.nsIn K mainGlobals "ways_to_take" = some (some (.ref f19))) (l19 : K.lookup f19 = some ⟨oc19, od19, .func (PySem.W.fnOf "ways_to_take" "ways_to_take" (defArgs (top 25)) (defBody (top 25)) (defScope (top 25)) .none kV19 dc19 pm19 an19 cd19 ct19), sl19⟩) (c19 : PySem.W.codeIn K cd19 "ways_to_take" = true) (k19 : PySem.W.keepIn K (.ref f19) = true)
    (a20 : PySem.W.nsIn K mainGlobals "wrong_behind" = some (some (.ref f20))) (l20 : K.lookup f20 = some ⟨oc20, od20, .func (PySem.W.fnOf "wrong_behind" "wrong_behind" (defArgs (top 26)) (defBody (top 26)) (defScope (top 26)) .none kV20 dc20 pm20 an20 cd20 ct20), sl20⟩) (c20 : PySem.W.codeIn K cd20 "wrong_behind" = true) (k20 : PySem.W.keepIn K (.ref f20) = true)
    (a21 : PySem.W.nsIn K mainGlobals "danger" = some (some (.ref f21))) (l21 : K.lookup f21 = some ⟨oc21, od21, .func (PySem.W.fnOf "danger" "danger" (defArgs (top 23)) (defBody (top 23)) (defScope (top 23)) .none kV21 dc21 pm21 an21 cd21 ct21), sl21⟩) (c21 : PySem.W.codeIn K cd21 "danger" = true) (k21 : PySem.W.keepIn K (.ref f21) = true)
    (a22 : PySem.W.nsIn K mainGlobals "look_goers" = some (some (.ref f22))) (l22 : K.lookup f22 = some ⟨oc22, od22, .func (PySem.W.fnOf "look_goers" "look_goers" (defArgs (top 12)) (defBody (top 12)) (defScope (top 12)) .none kV22 dc22 pm22 an22 cd22 ct22), sl22⟩) (c22 : PySem.W.codeIn K cd22 "look_goers" = true) (k22 : PySem.W.keepIn K (.ref f22) = true)
    (a23 : PySem.W.nsIn K mainGlobals "gone_by" = some (some (.ref f23))) (l23 : K.lookup f23 = some ⟨oc23, od23, .func (PySem.W.fnOf "gone_by" "gone_by" (defArgs (top 19)) (defBody (top 19)) (defScope (top 19)) .none kV23 dc23 pm23 an23 cd23 ct23), sl23⟩) (c23 : PySem.W.codeIn K cd23 "gone_by" = true) (k23 : PySem.W.keepIn K (.ref f23) = true)
    (a24 : PySem.W.nsIn K mainGlobals "shows_danger" = some (some (.ref f24))) (l24 : K.lookup f24 = some ⟨oc24, od24, .func (PySem.W.fnOf "shows_danger" "shows_danger" (defArgs (top 24)) (defBody (top 24)) (defScope (top 24)) .none kV24 dc24 pm24 an24 cd24 ct24), sl24⟩) (c24 : PySem.W.codeIn K cd24 "shows_danger" = true) (k24 : PySem.W.keepIn K (.ref f24) = true)
    (a25 : PySem.W.nsIn K mainGlobals "_law_went" = some (some (.ref f25))) (l25 : K.lookup f25 = some ⟨oc25, od25, .func (PySem.W.fnOf "_law_went" "_law_went" (defArgs (top 36)) (defBody (top 36)) (defScope (top 36)) .none kV25 dc25 pm25 an25 cd25 ct25), sl25⟩) (c25 : PySem.W.codeIn K cd25 "_law_went" = true) (k25 : PySem.W.keepIn K (.ref f25) = true)
    (a26 : PySem.W.nsIn K mainGlobals "_law_danger_right" = some (some (.ref f26))) (l26 : K.lookup f26 = some ⟨oc26, od26, .func (PySem.W.fnOf "_law_danger_right" "_law_danger_right" (defArgs (top 40)) (defBody (top 40)) (defScope (top 40)) .none kV26 dc26 pm26 an26 cd26 ct26), sl26⟩) (c26 : PySem.W.codeIn K cd26 "_law_danger_right" = true) (k26 : PySem.W.keepIn K (.ref f26) = true)
    (a27 : PySem.W.nsIn K mainGlobals "_law_behind" = some (some (.ref f27))) (l27 : K.lookup f27 = some ⟨oc27, od27, .func (PySem.W.fnOf "_law_behind" "_law_behind" (defArgs (top 37)) (defBody (top 37)) (defScope (top 37)) .none kV27 dc27 pm27 an27 cd27 ct27), sl27⟩) (c27 : PySem.W.codeIn K cd27 "_law_behind" = true) (k27 : PySem.W.keepIn K (.ref f27) = true)
    (a28 : PySem.W.nsIn K mainGlobals "wrong_many" = some (some (.ref f28))) (l28 : K.lookup f28 = some ⟨oc28, od28, .func (PySem.W.fnOf "wrong_many" "wrong_many" (defArgs (top 17)) (defBody (top 17)) (defScope (top 17)) .none kV28 dc28 pm28 an28 cd28 ct28), sl28⟩) (c28 : PySem.W.codeIn K cd28 "wrong_many" = true) (k28 : PySem.W.keepIn K (.ref f28) = true)
    (a29 : PySem.W.nsIn K mainGlobals "_law_product" = some (some (.ref f29))) (l29 : K.lookup f29 = some ⟨oc29, od29, .func (PySem.W.fnOf "_law_product" "_law_product" (defArgs (top 39)) (defBody (top 39)) (defScope (top 39)) .none kV29 dc29 pm29 an29 cd29 ct29), sl29⟩) (c29 : PySem.W.codeIn K cd29 "_law_product" = true) (k29 : PySem.W.keepIn K (.ref f29) = true)
    (a30 : PySem.W.nsIn K mainGlobals "_law_guest_right" = some (some (.ref f30))) (l30 : K.lookup f30 = some ⟨oc30, od30, .func (PySem.W.fnOf "_law_guest_right" "_law_guest_right" (defArgs (top 41)) (defBody (top 41)) (defScope (top 41)) .none kV30 dc30 pm30 an30 cd30 ct30), sl30⟩) (c30 : PySem.W.codeIn K cd30 "_law_guest_right" = true) (k30 : PySem.W.keepIn K (.ref f30) = true)
    (a31 : PySem.W.nsIn K mainGlobals "_law_right" = some (some (.ref f31))) (l31 : K.lookup f31 = some ⟨oc31, od31, .func (PySem.W.fnOf "_law_right" "_law_right" (defArgs (top 42)) (defBody (top 42)) (defScope (top 42)) .none kV31 dc31 pm31 an31 cd31 ct31), sl31⟩) (c31 : PySem.W.codeIn K cd31 "_law_right" = true) (k31 : PySem.W.keepIn K (.ref f31) = true)
    (a32 : PySem.W.nsIn K mainGlobals "law" = some (some (.ref f32))) (l32 : K.lookup f32 = some ⟨oc32, od32, .func (PySem.W.fnOf "law" "law" (defArgs (top 43)) (defBody (top 43)) (defScope (top 43)) .none kV32 dc32 pm32 an32 cd32 ct32), sl32⟩) (c32 : PySem.W.codeIn K cd32 "law" = true) (k32 : PySem.W.keepIn K (.ref f32) = true)
    (z_abs : PySem.W.nsIn K mainGlobals "abs" = some none)
    (z_all : PySem.W.nsIn K mainGlobals "all" = some none)
    (z_any : PySem.W.nsIn K mainGlobals "any" = some none)
    (z_divmod : PySem.W.nsIn K mainGlobals "divmod" = some none)
    (z_enumerate : PySem.W.nsIn K mainGlobals "enumerate" = some none)
    (z_int : PySem.W.nsIn K mainGlobals "int" = some none)
    (z_isinstance : PySem.W.nsIn K mainGlobals "isinstance" = some none)
    (z_len : PySem.W.nsIn K mainGlobals "len" = some none)
    (z_list : PySem.W.nsIn K mainGlobals "list" = some none)
    (z_max : PySem.W.nsIn K mainGlobals "max" = some none)
    (z_min : PySem.W.nsIn K mainGlobals "min" = some none)
    (z_range : PySem.W.nsIn K mainGlobals "range" = some none)
    (z_sorted : PySem.W.nsIn K mainGlobals "sorted" = some none)
    (z_str : PySem.W.nsIn K mainGlobals "str" = some none)
    (z_sum : PySem.W.nsIn K mainGlobals "sum" = some none)
    (z_tuple : PySem.W.nsIn K mainGlobals "tuple" = some none)
    (z_zip : PySem.W.nsIn K mainGlobals "zip" = some none)
    : ∃ fd : FuncData, (∀ (s : Shared) (u : Value), BindsTo s fd ⟨[u], []⟩ [("_law_script", u)]) ∧ ∀ base : Heap, K.In base → base.Ns mainGlobals mg → FnG PK75 w K mg base (CX PK75 w) 9 fa fd ["_law_script"] (spec K (fun _ => 0) F_law_v56) := by
  have e := hfa.symm.trans (PySem.W.mg_of X G a32)
  cases e
  have D_law_folded : DefAt K mg (top 30) "_law_folded" f1 := ⟨⟨_, _, _, _, _, _, _, _, _, l1, c1⟩, PySem.W.mg_of X G a1, k1⟩
  have D_law_box : DefAt K mg (top 28) "_law_box" f2 := ⟨⟨_, _, _, _, _, _, _, _, _, l2, c2⟩, PySem.W.mg_of X G a2, k2⟩
  have D_law_take : DefAt K mg (top 29) "_law_take" f3 := ⟨⟨_, _, _, _, _, _, _, _, _, l3, c3⟩, PySem.W.mg_of X G a3, k3⟩
  have D_law_strewn : DefAt K mg (top 33) "_law_strewn" f4 := ⟨⟨_, _, _, _, _, _, _, _, _, l4, c4⟩, PySem.W.mg_of X G a4, k4⟩
  have D_law_names : DefAt K mg (top 32) "_law_names" f5 := ⟨⟨_, _, _, _, _, _, _, _, _, l5, c5⟩, PySem.W.mg_of X G a5, k5⟩
  have D_law_night : DefAt K mg (top 34) "_law_night" f6 := ⟨⟨_, _, _, _, _, _, _, _, _, l6, c6⟩, PySem.W.mg_of X G a6, k6⟩
  have D_law_seeks : DefAt K mg (top 35) "_law_seeks" f7 := ⟨⟨_, _, _, _, _, _, _, _, _, l7, c7⟩, PySem.W.mg_of X G a7, k7⟩
  have D_law_hopes : DefAt K mg (top 38) "_law_hopes" f8 := ⟨⟨_, _, _, _, _, _, _, _, _, l8, c8⟩, PySem.W.mg_of X G a8, k8⟩
  have Dhook_of : DefAt K mg (top 9) "hook_of" f9 := ⟨⟨_, _, _, _, _, _, _, _, _, l9, c9⟩, PySem.W.mg_of X G a9, k9⟩
  have Dis_seeker : DefAt K mg (top 5) "is_seeker" f10 := ⟨⟨_, _, _, _, _, _, _, _, _, l10, c10⟩, PySem.W.mg_of X G a10, k10⟩
  have Dseekers : DefAt K mg (top 6) "seekers" f11 := ⟨⟨_, _, _, _, _, _, _, _, _, l11, c11⟩, PySem.W.mg_of X G a11, k11⟩
  have Dloose : DefAt K mg (top 8) "loose" f12 := ⟨⟨_, _, _, _, _, _, _, _, _, l12, c12⟩, PySem.W.mg_of X G a12, k12⟩
  have Dloose_from : DefAt K mg (top 10) "loose_from" f13 := ⟨⟨_, _, _, _, _, _, _, _, _, l13, c13⟩, PySem.W.mg_of X G a13, k13⟩
  have Dshares_of : DefAt K mg (top 16) "shares_of" f14 := ⟨⟨_, _, _, _, _, _, _, _, _, l14, c14⟩, PySem.W.mg_of X G a14, k14⟩
  have Dsafe_ahead : DefAt K mg (top 21) "safe_ahead" f15 := ⟨⟨_, _, _, _, _, _, _, _, _, l15, c15⟩, PySem.W.mg_of X G a15, k15⟩
  have Dfactorial : DefAt K mg (top 14) "factorial" f16 := ⟨⟨_, _, _, _, _, _, _, _, _, l16, c16⟩, PySem.W.mg_of X G a16, k16⟩
  have Dsought_ahead : DefAt K mg (top 22) "sought_ahead" f17 := ⟨⟨_, _, _, _, _, _, _, _, _, l17, c17⟩, PySem.W.mg_of X G a17, k17⟩
  have Dtakers : DefAt K mg (top 7) "takers" f18 := ⟨⟨_, _, _, _, _, _, _, _, _, l18, c18⟩, PySem.W.mg_of X G a18, k18⟩
  have Dways_to_take : DefAt K mg (top 25) "ways_to_take" f19 := ⟨⟨_, _, _, _, _, _, _, _, _, l19, c19⟩, PySem.W.mg_of X G a19, k19⟩
  have Dwrong_behind : DefAt K mg (top 26) "wrong_behind" f20 := ⟨⟨_, _, _, _, _, _, _, _, _, l20, c20⟩, PySem.W.mg_of X G a20, k20⟩
  have Ddanger : DefAt K mg (top 23) "danger" f21 := ⟨⟨_, _, _, _, _, _, _, _, _, l21, c21⟩, PySem.W.mg_of X G a21, k21⟩
  have Dlook_goers : DefAt K mg (top 12) "look_goers" f22 := ⟨⟨_, _, _, _, _, _, _, _, _, l22, c22⟩, PySem.W.mg_of X G a22, k22⟩
  have Dgone_by : DefAt K mg (top 19) "gone_by" f23 := ⟨⟨_, _, _, _, _, _, _, _, _, l23, c23⟩, PySem.W.mg_of X G a23, k23⟩
  have Dshows_danger : DefAt K mg (top 24) "shows_danger" f24 := ⟨⟨_, _, _, _, _, _, _, _, _, l24, c24⟩, PySem.W.mg_of X G a24, k24⟩
  have D_law_went : DefAt K mg (top 36) "_law_went" f25 := ⟨⟨_, _, _, _, _, _, _, _, _, l25, c25⟩, PySem.W.mg_of X G a25, k25⟩
  have D_law_danger_right : DefAt K mg (top 40) "_law_danger_right" f26 := ⟨⟨_, _, _, _, _, _, _, _, _, l26, c26⟩, PySem.W.mg_of X G a26, k26⟩
  have D_law_behind : DefAt K mg (top 37) "_law_behind" f27 := ⟨⟨_, _, _, _, _, _, _, _, _, l27, c27⟩, PySem.W.mg_of X G a27, k27⟩
  have Dwrong_many : DefAt K mg (top 17) "wrong_many" f28 := ⟨⟨_, _, _, _, _, _, _, _, _, l28, c28⟩, PySem.W.mg_of X G a28, k28⟩
  have D_law_product : DefAt K mg (top 39) "_law_product" f29 := ⟨⟨_, _, _, _, _, _, _, _, _, l29, c29⟩, PySem.W.mg_of X G a29, k29⟩
  have D_law_guest_right : DefAt K mg (top 41) "_law_guest_right" f30 := ⟨⟨_, _, _, _, _, _, _, _, _, l30, c30⟩, PySem.W.mg_of X G a30, k30⟩
  have D_law_right : DefAt K mg (top 42) "_law_right" f31 := ⟨⟨_, _, _, _, _, _, _, _, _, l31, c31⟩, PySem.W.mg_of X G a31, k31⟩
  have Dlaw : DefAt K mg (top 43) "law" _ := ⟨⟨_, _, _, _, _, _, _, _, _, l32, c32⟩, PySem.W.mg_of X G a32, k32⟩
  have mz_abs := PySem.W.mg_none_of X G z_abs
  have mz_all := PySem.W.mg_none_of X G z_all
  have mz_any := PySem.W.mg_none_of X G z_any
  have mz_divmod := PySem.W.mg_none_of X G z_divmod
  have mz_enumerate := PySem.W.mg_none_of X G z_enumerate
  have mz_int := PySem.W.mg_none_of X G z_int
  have mz_isinstance := PySem.W.mg_none_of X G z_isinstance
  have mz_len := PySem.W.mg_none_of X G z_len
  have mz_list := PySem.W.mg_none_of X G z_list
  have mz_max := PySem.W.mg_none_of X G z_max
  have mz_min := PySem.W.mg_none_of X G z_min
  have mz_range := PySem.W.mg_none_of X G z_range
  have mz_sorted := PySem.W.mg_none_of X G z_sorted
  have mz_str := PySem.W.mg_none_of X G z_str
  have mz_sum := PySem.W.mg_none_of X G z_sum
  have mz_tuple := PySem.W.mg_none_of X G z_tuple
  have mz_zip := PySem.W.mg_none_of X G z_zip
  obtain ⟨fd, hb, hF⟩ := law_fn (P := PK75) (w := w) (cls := fun _ => 0) (k := 8) (x := "_law_script") (N := N_law_v56) (F := F_law_v56) (bd := b_law_v56) Dlaw (by kernel_rfl) rfl rfl ck_law_v56 fun _ _ _ _ _ _ _ => rfl
  refine ⟨fd, hb, fun base _ _ => hF base ?_⟩
  have h__law_folded : FnK PK75 w K mg base (fun _ => 0) 1 F_law_folded := fnk_of (ps := ["_law_script", "_law_size"]) (N := N_law_folded) D_law_folded rfl (by kernel_rfl) rfl rfl ck_law_folded (fun _ _ _ _ _ _ us hl => match us, hl with | [_, _], _ => rfl) rfl (nd_law_folded mz_list mz_enumerate)
  have h__law_box : FnK PK75 w K mg base (fun _ => 0) 1 F_law_box := fnk_of (ps := ["_law_script", "_law_k"]) (N := N_law_box) D_law_box rfl (by kernel_rfl) rfl rfl ck_law_box (fun _ _ _ _ _ _ us hl => match us, hl with | [_, _], _ => rfl) rfl (nd_law_box mz_len mz_abs mz_int)
  have r0_law_take : FnK PK75 w K mg base (fun _ => 0) 0 (F_law_take 0) := fnk_stuck (ps := ["_law_box_here", "_law_size"]) D_law_take rfl rfl (fun _ => rfl) (fun _ _ _ _ _ _ us hl => match us, hl with | [_, _], _ => rfl) rfl
  have h__law_take : FnK PK75 w K mg base (fun _ => 0) 1 (F_law_take 1) := fnk_of (ps := ["_law_box_here", "_law_size"]) (N := N_law_take) D_law_take rfl (by kernel_rfl) rfl rfl (ck_law_take _) (fun _ _ _ _ _ _ us hl => match us, hl with | [_, _], _ => rfl) rfl (nd_law_take _ mz_divmod r0_law_take)
  have h__law_strewn : FnK PK75 w K mg base (fun _ => 0) 2 F_law_strewn := fnk_of (ps := ["_law_box_here", "_law_some"]) (N := N_law_strewn) D_law_strewn rfl (by kernel_rfl) rfl rfl ck_law_strewn (fun _ _ _ _ _ _ us hl => match us, hl with | [_, _], _ => rfl) rfl (nd_law_strewn mz_list (FnK.mono h__law_take (by decide)) mz_len)
  have h__law_names : FnK PK75 w K mg base (fun _ => 0) 2 F_law_names := fnk_of (ps := ["_law_box_here", "_law_many"]) (N := N_law_names) D_law_names rfl (by kernel_rfl) rfl rfl ck_law_names (fun _ _ _ _ _ _ us hl => match us, hl with | [_, _], _ => rfl) rfl (nd_law_names (FnK.mono h__law_take (by decide)) mz_range mz_int)
  have h__law_night : FnK PK75 w K mg base (fun _ => 0) 3 F_law_night := fnk_of (ps := ["_law_box_here", "_law_low", "_law_high"]) (N := N_law_night) D_law_night rfl (by kernel_rfl) rfl rfl ck_law_night (fun _ _ _ _ _ _ us hl => match us, hl with | [_, _, _], _ => rfl) rfl (nd_law_night (FnK.mono h__law_take (by decide)) (FnK.mono h__law_strewn (by decide)) (FnK.mono h__law_names (by decide)) mz_min mz_len mz_tuple mz_sorted)
  have h__law_seeks : FnK PK75 w K mg base (fun _ => 0) 1 F_law_seeks_v1 := fnk_of (ps := ["_law_night_here", "_law_name"]) (N := N_law_seeks_v1) D_law_seeks rfl (by kernel_rfl) rfl rfl ck_law_seeks_v1 (fun _ _ _ _ _ _ us hl => match us, hl with | [_, _], _ => rfl) rfl (nd_law_seeks_v1 )
  have h__law_hopes : FnK PK75 w K mg base (fun _ => 0) 2 F_law_hopes := fnk_of (ps := ["_law_night_here"]) (N := N_law_hopes) D_law_hopes rfl (by kernel_rfl) rfl rfl ck_law_hopes (fun _ _ _ _ _ _ us hl => match us, hl with | [_], _ => rfl) rfl (nd_law_hopes (FnK.mono h__law_seeks (by decide)))
  have h_hook_of : FnK PK75 w K mg base (fun _ => 0) 1 F_hook_of := fnk_of (ps := ["evening", "coat"]) (N := N_hook_of) Dhook_of rfl (by kernel_rfl) rfl rfl ck_hook_of (fun _ _ _ _ _ _ us hl => match us, hl with | [_, _], _ => rfl) rfl (nd_hook_of mz_list)
  have h_is_seeker : FnK PK75 w K mg base (fun _ => 0) 1 F_is_seeker := fnk_of (ps := ["evening", "guest"]) (N := N_is_seeker) Dis_seeker rfl (by kernel_rfl) rfl rfl ck_is_seeker (fun _ _ _ _ _ _ us hl => match us, hl with | [_, _], _ => rfl) rfl (nd_is_seeker )
  have h_seekers : FnK PK75 w K mg base (fun _ => 0) 2 F_seekers := fnk_of (ps := ["evening"]) (N := N_seekers) Dseekers rfl (by kernel_rfl) rfl rfl ck_seekers (fun _ _ _ _ _ _ us hl => match us, hl with | [_], _ => rfl) rfl (nd_seekers (FnK.mono h_is_seeker (by decide)))
  have h_loose : FnK PK75 w K mg base (fun _ => 0) 2 F_loose := fnk_of (ps := ["evening"]) (N := N_loose) Dloose rfl (by kernel_rfl) rfl rfl ck_loose (fun _ _ _ _ _ _ us hl => match us, hl with | [_], _ => rfl) rfl (nd_loose (FnK.mono h_is_seeker (by decide)))
  have h_loose_from : FnK PK75 w K mg base (fun _ => 0) 3 F_loose_from := fnk_of (ps := ["evening", "hook"]) (N := N_loose_from) Dloose_from rfl (by kernel_rfl) rfl rfl ck_loose_from (fun _ _ _ _ _ _ us hl => match us, hl with | [_, _], _ => rfl) rfl (nd_loose_from mz_len (FnK.mono h_loose (by decide)) (FnK.mono h_hook_of (by decide)))
  have h_shares_of : FnK PK75 w K mg base (fun _ => 0) 4 F_shares_of := fnk_of (ps := ["evening", "guest"]) (N := N_shares_of) Dshares_of rfl (by kernel_rfl) rfl rfl ck_shares_of (fun _ _ _ _ _ _ us hl => match us, hl with | [_, _], _ => rfl) rfl (nd_shares_of (FnK.mono h_seekers (by decide)) (FnK.mono h_hook_of (by decide)) (FnK.mono h_loose_from (by decide)))
  have h_safe_ahead : FnK PK75 w K mg base (fun _ => 0) 5 F_safe_ahead := fnk_of (ps := ["evening", "guest"]) (N := N_safe_ahead) Dsafe_ahead rfl (by kernel_rfl) rfl rfl ck_safe_ahead (fun _ _ _ _ _ _ us hl => match us, hl with | [_, _], _ => rfl) rfl (nd_safe_ahead (FnK.mono h_shares_of (by decide)) mz_len)
  have h_factorial : FnK PK75 w K mg base (fun _ => 0) 1 F_factorial_v1 := fnk_of (ps := ["many"]) (N := N_factorial_v1) Dfactorial rfl (by kernel_rfl) rfl rfl ck_factorial_v1 (fun _ _ _ _ _ _ us hl => match us, hl with | [_], _ => rfl) rfl (nd_factorial_v1 mz_range)
  have h_sought_ahead : FnK PK75 w K mg base (fun _ => 0) 3 F_sought_ahead := fnk_of (ps := ["evening", "hook"]) (N := N_sought_ahead) Dsought_ahead rfl (by kernel_rfl) rfl rfl ck_sought_ahead (fun _ _ _ _ _ _ us hl => match us, hl with | [_, _], _ => rfl) rfl (nd_sought_ahead (FnK.mono h_seekers (by decide)))
  have h_takers : FnK PK75 w K mg base (fun _ => 0) 2 F_takers := fnk_of (ps := ["evening"]) (N := N_takers) Dtakers rfl (by kernel_rfl) rfl rfl ck_takers (fun _ _ _ _ _ _ us hl => match us, hl with | [_], _ => rfl) rfl (nd_takers (FnK.mono h_is_seeker (by decide)))
  have h_ways_to_take : FnK PK75 w K mg base (fun _ => 0) 1 F_ways_to_take := fnk_of (ps := ["size", "many"]) (N := N_ways_to_take) Dways_to_take rfl (by kernel_rfl) rfl rfl ck_ways_to_take (fun _ _ _ _ _ _ us hl => match us, hl with | [_, _], _ => rfl) rfl (nd_ways_to_take mz_range)
  have h_wrong_behind : FnK PK75 w K mg base (fun _ => 0) 5 F_wrong_behind := fnk_of (ps := ["evening", "guest", "many"]) (N := N_wrong_behind) Dwrong_behind rfl (by kernel_rfl) rfl rfl ck_wrong_behind (fun _ _ _ _ _ _ us hl => match us, hl with | [_, _, _], _ => rfl) rfl (nd_wrong_behind (FnK.mono h_shares_of (by decide)) mz_len (FnK.mono h_sought_ahead (by decide)) (FnK.mono h_takers (by decide)) mz_range (FnK.mono h_ways_to_take (by decide)) (FnK.mono h_factorial (by decide)))
  have h_danger : FnK PK75 w K mg base (fun _ => 0) 5 F_danger := fnk_of (ps := ["evening", "guest"]) (N := N_danger) Ddanger rfl (by kernel_rfl) rfl rfl ck_danger (fun _ _ _ _ _ _ us hl => match us, hl with | [_, _], _ => rfl) rfl (nd_danger (FnK.mono h_shares_of (by decide)) (FnK.mono h_sought_ahead (by decide)) mz_tuple mz_sorted (FnK.mono h_takers (by decide)) mz_len)
  have h_look_goers : FnK PK75 w K mg base (fun _ => 0) 1 F_look_goers := fnk_of (ps := ["evening", "goers"]) (N := N_look_goers) Dlook_goers rfl (by kernel_rfl) rfl rfl ck_look_goers (fun _ _ _ _ _ _ us hl => match us, hl with | [_, _], _ => rfl) rfl (nd_look_goers mz_enumerate)
  have h_gone_by : FnK PK75 w K mg base (fun _ => 0) 2 F_gone_by := fnk_of (ps := ["evening", "goers"]) (N := N_gone_by) Dgone_by rfl (by kernel_rfl) rfl rfl ck_gone_by (fun _ _ _ _ _ _ us hl => match us, hl with | [_, _], _ => rfl) rfl (nd_gone_by (FnK.mono h_look_goers (by decide)) (FnK.mono h_is_seeker (by decide)) mz_len)
  have h_shows_danger : FnK PK75 w K mg base (fun _ => 0) 5 F_shows_danger := fnk_of (ps := ["evening", "guest", "thing"]) (N := N_shows_danger) Dshows_danger rfl (by kernel_rfl) rfl rfl ck_shows_danger (fun _ _ _ _ _ _ us hl => match us, hl with | [_, _, _], _ => rfl) rfl (nd_shows_danger (FnK.mono h_shares_of (by decide)) mz_isinstance mz_tuple mz_len mz_all mz_str mz_zip (FnK.mono h_gone_by (by decide)))
  have h__law_went : FnK PK75 w K mg base (fun _ => 0) 2 F_law_went := fnk_of (ps := ["_law_night_here", "_law_row"]) (N := N_law_went) D_law_went rfl (by kernel_rfl) rfl rfl ck_law_went (fun _ _ _ _ _ _ us hl => match us, hl with | [_, _], _ => rfl) rfl (nd_law_went mz_list (FnK.mono h__law_seeks (by decide)) mz_tuple mz_sorted)
  have h__law_danger_right : FnK PK75 w K mg base (fun _ => 0) 6 F_law_danger_right := fnk_of (ps := ["_law_box_here", "_law_night_here", "_law_guest", "_law_safe"]) (N := N_law_danger_right) D_law_danger_right rfl (by kernel_rfl) rfl rfl ck_law_danger_right (fun _ _ _ _ _ _ us hl => match us, hl with | [_, _, _, _], _ => rfl) rfl (nd_law_danger_right (FnK.mono h_danger (by decide)) mz_len (FnK.mono h_shows_danger (by decide)) (FnK.mono h__law_went (by decide)) (FnK.mono h__law_strewn (by decide)))
  have h__law_behind : FnK PK75 w K mg base (fun _ => 0) 2 F_law_behind_v1 := fnk_of (ps := ["_law_night_here", "_law_coat"]) (N := N_law_behind_v1) D_law_behind rfl (by kernel_rfl) rfl rfl ck_law_behind_v1 (fun _ _ _ _ _ _ us hl => match us, hl with | [_, _], _ => rfl) rfl (nd_law_behind_v1 mz_list mz_len (FnK.mono h__law_seeks (by decide)))
  have h_wrong_many : FnK PK75 w K mg base (fun _ => 0) 5 F_wrong_many_v1 := fnk_of (ps := ["evening", "wrong", "right"]) (N := N_wrong_many_v1) Dwrong_many rfl (by kernel_rfl) rfl rfl ck_wrong_many_v1 (fun _ _ _ _ _ _ us hl => match us, hl with | [_, _, _], _ => rfl) rfl (nd_wrong_many_v1 (FnK.mono h_factorial (by decide)) mz_len (FnK.mono h_shares_of (by decide)))
  have h__law_product : FnK PK75 w K mg base (fun _ => 0) 1 F_law_product := fnk_of (ps := ["_law_many"]) (N := N_law_product) D_law_product rfl (by kernel_rfl) rfl rfl ck_law_product (fun _ _ _ _ _ _ us hl => match us, hl with | [_], _ => rfl) rfl (nd_law_product mz_range)
  have h__law_guest_right : FnK PK75 w K mg base (fun _ => 0) 7 F_law_guest_right_v1 := fnk_of (ps := ["_law_box_here", "_law_night_here", "_law_guest"]) (N := N_law_guest_right_v1) D_law_guest_right rfl (by kernel_rfl) rfl rfl ck_law_guest_right_v1 (fun _ _ _ _ _ _ us hl => match us, hl with | [_, _, _], _ => rfl) rfl (nd_law_guest_right_v1 mz_len (FnK.mono h_safe_ahead (by decide)) (FnK.mono h__law_behind (by decide)) mz_range (FnK.mono h_wrong_behind (by decide)) mz_sum (FnK.mono h_wrong_many (by decide)) mz_any mz_zip mz_max (FnK.mono h__law_product (by decide)) (FnK.mono h_danger (by decide)) (FnK.mono h__law_danger_right (by decide)))
  have h__law_right : FnK PK75 w K mg base (fun _ => 0) 8 F_law_right_v56 := fnk_of (ps := ["_law_box_here"]) (N := N_law_right_v56) D_law_right rfl (by kernel_rfl) rfl rfl ck_law_right_v56 (fun _ _ _ _ _ _ us hl => match us, hl with | [_], _ => rfl) rfl (nd_law_right_v56 (FnK.mono h__law_night (by decide)) (FnK.mono h__law_strewn (by decide)) (FnK.mono h__law_hopes (by decide)) mz_all (FnK.mono h__law_guest_right (by decide)))
  exact nd_law_v56 (FnK.mono h__law_folded (by decide)) mz_range mz_max mz_len (FnK.mono h__law_box (by decide)) mz_all (FnK.mono h__law_right (by decide))
end Pw.K75
open PySem PySem.W PyProof.Rows
set_option maxRecDepth 100000 in
set_option maxHeartbeats 0 in
theorem PySem.Challenge.cw_wrongcoats_k75_whole_by_when_it_is_too_l_holds : PySem.Challenge.rw_wrongcoats_k75_whole_by_when_it_is_too_l.Holds := by
  w_on; o_law; k_head; (case hw => w_witness2)
  k_fill
  refine Pw.walk (l := PySem.Challenge.rw_wrongcoats_k75_whole_by_when_it_is_too_l) (F := Pw.F_law_v56) (k := 9) (x := "_law_script") (cls := fun _ => 0) rfl rfl ⟨rfl, by decide, by decide⟩ (fun w h Y => PySem.W.kIn_of Y) rfl ?F Pw.K75.law_math
  case F =>
    intro w mg fa h KX G hmg
    refine' Pw.K75.all_mk KX G hmg ?a1 ?l1 ?c1 ?k1 ?a2 ?l2 ?c2 ?k2 ?a3 ?l3 ?c3 ?k3 ?a4 ?l4 ?c4 ?k4 ?a5 ?l5 ?c5 ?k5 ?a6 ?l6 ?c6 ?k6 ?a7 ?l7 ?c7 ?k7 ?a8 ?l8 ?c8 ?k8 ?a9 ?l9 ?c9 ?k9 ?a10 ?l10 ?c10 ?k10 ?a11 ?l11 ?c11 ?k11 ?a12 ?l12 ?c12 ?k12 ?a13 ?l13 ?c13 ?k13 ?a14 ?l14 ?c14 ?k14 ?a15 ?l15 ?c15 ?k15 ?a16 ?l16 ?c16 ?k16 ?a17 ?l17 ?c17 ?k17 ?a18 ?l18 ?c18 ?k18 ?a19 ?l19 ?c19 ?k19 ?a20 ?l20 ?c20 ?k20 ?a21 ?l21 ?c21 ?k21 ?a22 ?l22 ?c22 ?k22 ?a23 ?l23 ?c23 ?k23 ?a24 ?l24 ?c24 ?k24 ?a25 ?l25 ?c25 ?k25 ?a26 ?l26 ?c26 ?k26 ?a27 ?l27 ?c27 ?k27 ?a28 ?l28 ?c28 ?k28 ?a29 ?l29 ?c29 ?k29 ?a30 ?l30 ?c30 ?k30 ?a31 ?l31 ?c31 ?k31 ?a32 ?l32 ?c32 ?k32 ?z_abs ?z_all ?z_any ?z_divmod ?z_enumerate ?z_int ?z_isinstance ?z_len ?z_list ?z_max ?z_min ?z_range ?z_sorted ?z_str ?z_sum ?z_tuple ?z_zip
    (case a1 => k_is)
    (case l1 => k_is)
    (case c1 => k_is)
    (case k1 => k_is)
    (case a2 => k_is)
    (case l2 => k_is)
    (case c2 => k_is)
    (case k2 => k_is)
    (case a3 => k_is)
    (case l3 => k_is)
    (case c3 => k_is)
    (case k3 => k_is)
    (case a4 => k_is)
    (case l4 => k_is)
    (case c4 => k_is)
    (case k4 => k_is)
    (case a5 => k_is)
    (case l5 => k_is)
    (case c5 => k_is)
    (case k5 => k_is)
    (case a6 => k_is)
    (case l6 => k_is)
    (case c6 => k_is)
    (case k6 => k_is)
    (case a7 => k_is)
    (case l7 => k_is)
    (case c7 => k_is)
    (case k7 => k_is)
    (case a8 => k_is)
    (case l8 => k_is)
    (case c8 => k_is)
    (case k8 => k_is)
    (case a9 => k_is)
    (case l9 => k_is)
    (case c9 => k_is)
    (case k9 => k_is)
    (case a10 => k_is)
    (case l10 => k_is)
    (case c10 => k_is)
    (case k10 => k_is)
    (case a11 => k_is)
    (case l11 => k_is)
    (case c11 => k_is)
    (case k11 => k_is)
    (case a12 => k_is)
    (case l12 => k_is)
    (case c12 => k_is)
    (case k12 => k_is)
    (case a13 => k_is)
    (case l13 => k_is)
    (case c13 => k_is)
    (case k13 => k_is)
    (case a14 => k_is)
    (case l14 => k_is)
    (case c14 => k_is)
    (case k14 => k_is)
    (case a15 => k_is)
    (case l15 => k_is)
    (case c15 => k_is)
    (case k15 => k_is)
    (case a16 => k_is)
    (case l16 => k_is)
    (case c16 => k_is)
    (case k16 => k_is)
    (case a17 => k_is)
    (case l17 => k_is)
    (case c17 => k_is)
    (case k17 => k_is)
    (case a18 => k_is)
    (case l18 => k_is)
    (case c18 => k_is)
    (case k18 => k_is)
    (case a19 => k_is)
    (case l19 => k_is)
    (case c19 => k_is)
    (case k19 => k_is)
    (case a20 => k_is)
    (case l20 => k_is)
    (case c20 => k_is)
    (case k20 => k_is)
    (case a21 => k_is)
    (case l21 => k_is)
    (case c21 => k_is)
    (case k21 => k_is)
    (case a22 => k_is)
    (case l22 => k_is)
    (case c22 => k_is)
    (case k22 => k_is)
    (case a23 => k_is)
    (case l23 => k_is)
    (case c23 => k_is)
    (case k23 => k_is)
    (case a24 => k_is)
    (case l24 => k_is)
    (case c24 => k_is)
    (case k24 => k_is)
    (case a25 => k_is)
    (case l25 => k_is)
    (case c25 => k_is)
    (case k25 => k_is)
    (case a26 => k_is)
    (case l26 => k_is)
    (case c26 => k_is)
    (case k26 => k_is)
    (case a27 => k_is)
    (case l27 => k_is)
    (case c27 => k_is)
    (case k27 => k_is)
    (case a28 => k_is)
    (case l28 => k_is)
    (case c28 => k_is)
    (case k28 => k_is)
    (case a29 => k_is)
    (case l29 => k_is)
    (case c29 => k_is)
    (case k29 => k_is)
    (case a30 => k_is)
    (case l30 => k_is)
    (case c30 => k_is)
    (case k30 => k_is)
    (case a31 => k_is)
    (case l31 => k_is)
    (case c31 => k_is)
    (case k31 => k_is)
    (case a32 => k_is)
    (case l32 => k_is)
    (case c32 => k_is)
    (case k32 => k_is)
    (case z_abs => k_is)
    (case z_all => k_is)
    (case z_any => k_is)
    (case z_divmod => k_is)
    (case z_enumerate => k_is)
    (case z_int => k_is)
    (case z_isinstance => k_is)
    (case z_len => k_is)
    (case z_list => k_is)
    (case z_max => k_is)
    (case z_min => k_is)
    (case z_range => k_is)
    (case z_sorted => k_is)
    (case z_str => k_is)
    (case z_sum => k_is)
    (case z_tuple => k_is)
    (case z_zip => k_is)
