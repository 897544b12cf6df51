import PyProof.Rows.All
import Wide.All
import OpenK.AllK
import Wide.FinOn
import HandS.ForMost
import HandS.TupAny
import HandS.IsInst
import HandS.Deep
import PyProof.StrOps2
import PyProof.ReprRoads
import HandS.RaiseMore
import HandS.Style
import PyProof.ReprBulk
import PyProof.P3Eq
import KE.IntTextText
import HandS.Set
import HandS.Strs
import PyProof.Rows.SortStr
import HandS.TupSets
import HandS.Zip
import PySem.Challenge.RW_packsworn_k73_manifests_and_texts
set_option Elab.async false
set_option linter.all false
set_option maxRecDepth 100000
section
namespace Ed
open PySem PySem.Spec L2

abbrev D := PyData
abbrev Fz := Addr → Prop
/-- texts are at most this long -/
abbrev big : Nat := 8000000
structure sOk (x : Str) : Prop where
  len : x.length ≤ big
  sg : ∀ c ∈ x.cps.toList, c < 0x110000

def kD : Key → D
  | .inl i => .int i
  | .inr x => .str x

/-- the script as a datum: nothing but its slices is asked -/
def scrD (ns : List Int) : D := .dict [(.none, .list (ns.map .int))]
/-- objects of the module's own top -/
def KL (K : PySem.W.Frag) (a : Addr) (xs : List V) : Prop := SqL K (fun _ => none) a xs
def KT (K : PySem.W.Frag) (a : Addr) (xs : List V) : Prop := SqT K (fun _ => none) a xs

theorem KL.seq {K : PySem.W.Frag} {a : Addr} {xs : List V} (h : KL K a xs) (H : Hp) : SqL K H a xs := by
  rcases h with (h | ⟨o, h⟩) | h
  · exact absurd h (by simp)
  · exact absurd h (by simp)
  · exact .inr h
theorem KT.seq {K : PySem.W.Frag} {a : Addr} {xs : List V} (h : KT K a xs) (H : Hp) : SqT K H a xs := by
  rcases h with (h | ⟨o, h⟩) | h
  · exact absurd h (by simp)
  · exact absurd h (by simp)
  · exact .inr h

mutual
/-- the value v is the datum d, all of it standing at frozen addresses -/
inductive Rp (K : PySem.W.Frag) (F : Fz) (H : Hp) : V → D → Prop
  | non : Rp K F H .non .none
  | bl (b : Bool) : Rp K F H (.bl b) (.bool b)
  | int (i : Int) : Rp K F H (.int i) (.int i)
  | str (x : Str) : sOk x → Rp K F H (.str x) (.str x)
  | lst {a : Addr} {xs : List V} {ds : List D} : F a → Rd H a (.lst xs) → RpAll K F H xs ds → Rp K F H (.ref a) (.list ds)
  | tup {a : Addr} {xs : List V} {ds : List D} : ((F a ∧ Rd H a (.tup xs)) ∨ KT K a xs) → RpAll K F H xs ds → Rp K F H (.ref a) (.tuple ds)
  | scr {a : Addr} {ns : List Int} : ((F a ∧ Rd H a (.lst (ns.map V.int))) ∨ KL K a (ns.map V.int)) → Rp K F H (.ref a) (scrD ns)
  | dct {a : Addr} {kvs : List (Key × V)} {ds : List (D × D)} : F a → Rd H a (.dK kvs) → RpKv K F H kvs ds → Rp K F H (.ref a) (.dict ds)
inductive RpAll (K : PySem.W.Frag) (F : Fz) (H : Hp) : List V → List D → Prop
  | nil : RpAll K F H [] []
  | cons {v : V} {vs : List V} {d : D} {ds : List D} : Rp K F H v d → RpAll K F H vs ds → RpAll K F H (v :: vs) (d :: ds)
inductive RpKv (K : PySem.W.Frag) (F : Fz) (H : Hp) : List (Key × V) → List (D × D) → Prop
  | nil : RpKv K F H [] []
  | cons {k : Key} {v : V} {d : D} {r : List (Key × V)} {ds : List (D × D)} : Rp K F H v d → RpKv K F H r ds → RpKv K F H ((k, v) :: r) ((kD k, d) :: ds)
end

/-- what is frozen stays -/
structure Ext (F : Fz) (H : Hp) (F' : Fz) (H' : Hp) : Prop where
  sub : ∀ a, F a → F' a
  rd : ∀ a u, F a → Rd H a u → Rd H' a u
theorem Ext.refl {F : Fz} {H : Hp} : Ext F H F H := ⟨fun _ h => h, fun _ _ _ h => h⟩
theorem Ext.trans {F F1 F2 : Fz} {H H1 H2 : Hp} (a : Ext F H F1 H1) (b : Ext F1 H1 F2 H2) : Ext F H F2 H2 :=
  ⟨fun x h => b.sub x (a.sub x h), fun x u h r => b.rd x u (a.sub x h) (a.rd x u h r)⟩

section
variable {K : PySem.W.Frag} {F F' : Fz} {H H' : Hp}
theorem Rp.ext (e : Ext F H F' H') {v : V} {d : D} (h : Rp K F H v d) : Rp K F' H' v d := by
  refine Rp.rec (motive_1 := fun v d _ => Rp K F' H' v d) (motive_2 := fun vs ds _ => RpAll K F' H' vs ds) (motive_3 := fun kvs ds _ => RpKv K F' H' kvs ds)
    .non .bl .int .str ?_ ?_ ?_ ?_ .nil ?_ .nil ?_ h
  · intro a xs ds f q _ r
    exact .lst (e.sub _ f) (e.rd _ _ f q) r
  · intro a xs ds q _ r
    exact .tup (q.imp (fun q => ⟨e.sub _ q.1, e.rd _ _ q.1 q.2⟩) id) r
  · intro a ns q
    exact .scr (q.imp (fun q => ⟨e.sub _ q.1, e.rd _ _ q.1 q.2⟩) id)
  · intro a kvs ds f q _ r
    exact .dct (e.sub _ f) (e.rd _ _ f q) r
  · intro v vs d ds _ _ r1 r2
    exact .cons r1 r2
  · intro k v d r ds _ _ r1 r2
    exact .cons r1 r2
theorem RpAll.ext (e : Ext F H F' H') : ∀ {vs : List V} {ds : List D}, RpAll K F H vs ds → RpAll K F' H' vs ds
  | _, _, .nil => .nil
  | _, _, .cons a b => .cons (a.ext e) (RpAll.ext e b)
theorem RpKv.ext (e : Ext F H F' H') : ∀ {vs : List (Key × V)} {ds : List (D × D)}, RpKv K F H vs ds → RpKv K F' H' vs ds
  | _, _, .nil => .nil
  | _, _, .cons a b => .cons (a.ext e) (RpKv.ext e b)
theorem RpAll.length : ∀ {vs : List V} {ds : List D}, RpAll K F H vs ds → vs.length = ds.length
  | _, _, .nil => rfl
  | _, _, .cons _ b => by rw [List.length_cons, List.length_cons, b.length]
theorem RpAll.app : ∀ {vs ws : List V} {ds es : List D}, RpAll K F H vs ds → RpAll K F H ws es → RpAll K F H (vs ++ ws) (ds ++ es)
  | _, _, _, _, .nil, b => b
  | _, _, _, _, .cons a r, b => .cons a (r.app b)
theorem RpAll.take : ∀ {vs : List V} {ds : List D} (n : Nat), RpAll K F H vs ds → RpAll K F H (vs.take n) (ds.take n)
  | _, _, 0, _ => .nil
  | _, _, _ + 1, .nil => .nil
  | _, _, n + 1, .cons a r => .cons a (r.take n)
theorem RpAll.drop : ∀ {vs : List V} {ds : List D} (n : Nat), RpAll K F H vs ds → RpAll K F H (vs.drop n) (ds.drop n)
  | _, _, 0, r => r
  | _, _, _ + 1, .nil => .nil
  | _, _, n + 1, .cons _ r => r.drop n
theorem RpAll.at : ∀ {vs : List V} {ds : List D} {i : Nat} {d : D}, RpAll K F H vs ds → ds[i]? = some d → ∃ v, vs[i]? = some v ∧ Rp K F H v d
  | _, _, _, _, .nil, e => by simp at e
  | _, _, 0, _, .cons a _, e => by simp at e; subst e; exact ⟨_, rfl, a⟩
  | _, _, i + 1, d, .cons _ r, e => by
    obtain ⟨v, h1, h2⟩ := RpAll.at (i := i) (d := d) r (by simpa using e)
    exact ⟨v, by simpa using h1, h2⟩
theorem RpAll.set {v : V} {d : D} (q : Rp K F H v d) : ∀ {vs : List V} {ds : List D} (i : Nat), RpAll K F H vs ds → RpAll K F H (vs.set i v) (ds.set i d)
  | _, _, _, .nil => .nil
  | _, _, 0, .cons _ r => .cons q r
  | _, _, i + 1, .cons a r => .cons a (r.set q i)
theorem RpAll.one {v : V} {d : D} (q : Rp K F H v d) : RpAll K F H [v] [d] := .cons q .nil
theorem RpAll.rev : ∀ {vs : List V} {ds : List D}, RpAll K F H vs ds → RpAll K F H vs.reverse ds.reverse
  | _, _, .nil => .nil
  | _, _, .cons a r => by rw [List.reverse_cons, List.reverse_cons]; exact r.rev.app (.one a)
theorem RpKv.length : ∀ {vs : List (Key × V)} {ds : List (D × D)}, RpKv K F H vs ds → vs.length = ds.length
  | _, _, .nil => rfl
  | _, _, .cons _ b => by rw [List.length_cons, List.length_cons, b.length]
end

inductive Sl where
  | no
  | fr (d : D)
  | ow (d : D)
  | io (d : D)
abbrev DE := List Sl
inductive Rv where
  | fr (d : D)
  | ow (d : D)
  | sl (i : Nat)
structure Exn where
  cls : Str
  fs : List (Str × D)
inductive Out (α : Type) where
  | no
  | ok (a : α)
  | ex (x : Exn) (r : DE)
@[reducible] def Out.bind {α β : Type} (o : Out α) (f : α → Out β) : Out β := match o with
  | .no => .no
  | .ok a => f a
  | .ex x r => .ex x r

def Root (K : PySem.W.Frag) (F : Fz) (H : Hp) (a : Addr) (d : D) : Prop :=
  (∃ xs ds, d = .list ds ∧ H a = some (.lst xs) ∧ RpAll K F H xs ds) ∨ (∃ kvs ds, d = .dict ds ∧ H a = some (.dK kvs) ∧ RpKv K F H kvs ds)
theorem Root.some {K : PySem.W.Frag} {F : Fz} {H : Hp} {a : Addr} {d : D} (r : Root K F H a d) : ∃ o, H a = some o := by
  rcases r with ⟨xs, ds, _, h, _⟩ | ⟨xs, ds, _, h, _⟩
  · exact ⟨_, h⟩
  · exact ⟨_, h⟩
theorem Root.ext {K : PySem.W.Frag} {F F' : Fz} {H H' : Hp} {a : Addr} {d : D} (e : Ext F H F' H') (ha : ∀ o, H a = .some o → H' a = .some o) (r : Root K F H a d) : Root K F' H' a d := by
  rcases r with ⟨xs, ds, h1, h, h2⟩ | ⟨xs, ds, h1, h, h2⟩
  · exact .inl ⟨xs, ds, h1, ha _ h, h2.ext e⟩
  · exact .inr ⟨xs, ds, h1, ha _ h, h2.ext e⟩
/-- a root frozen -/
theorem Root.frz {K : PySem.W.Frag} {F : Fz} {H : Hp} {a : Addr} {d : D} (hf : F a) (r : Root K F H a d) : Rp K F H (.ref a) d := by
  rcases r with ⟨xs, ds, rfl, h, h2⟩ | ⟨xs, ds, rfl, h, h2⟩
  · exact .lst hf (.of h) h2
  · exact .dct hf (.of h) h2

structure Bd where
  F0 : Fz
  H0 : Hp
  io : Option Addr

def isOw : Sl → Prop
  | .ow _ => True
  | .io _ => True
  | _ => False
def OwAt (r : DE) (s : St) (a : Addr) : Prop := ∃ (i : Nat) (q : Sl), r[i]? = some q ∧ isOw q ∧ s[i]? = some (some (V.ref a))
def Live (r : DE) (i : Nat) : Prop := ∃ q : Sl, r[i]? = some q ∧ q ≠ Sl.no

structure ES (K : PySem.W.Frag) (B : Bd) (F : Fz) (H : Hp) (s : St) (r : DE) : Prop where
  len : s.length = r.length
  dom : ∀ a, F a → H a ≠ none
  sub : ∀ a, B.F0 a → F a
  new : ∀ a, F a → B.F0 a ∨ B.H0 a = none
  kpF : ∀ a u, B.F0 a → Rd B.H0 a u → Rd H a u
  kp : ∀ a o, B.H0 a = some o → ¬ B.F0 a → B.io ≠ some a → H a = some o
  fr : ∀ (i : Nat) (d : D), r[i]? = some (.fr d) → ∃ v, s[i]? = some (some v) ∧ Rp K F H v d
  ow : ∀ (i : Nat) (d : D), r[i]? = some (.ow d) → ∃ a, s[i]? = some (some (.ref a)) ∧ ¬ F a ∧ Root K F H a d ∧ B.H0 a = none
  io : ∀ (i : Nat) (d : D), r[i]? = some (.io d) → i = 0 ∧ ∃ a, s[i]? = some (some (.ref a)) ∧ ¬ F a ∧ Root K F H a d ∧ B.io = some a
  sep : ∀ (i j : Nat) (a : Addr) (d d' : D), r[i]? = some (.ow d) → r[j]? = some (.ow d') → s[i]? = some (some (V.ref a)) → s[j]? = some (some (V.ref a)) → i = j
  ioK : ∀ a, B.io = some a → (∃ d, r[0]? = some (.io d)) ∧ B.H0 a ≠ none ∧ ¬ B.F0 a

section
variable {K : PySem.W.Frag} {B : Bd} {F F' F1 F2 : Fz} {H H' H1 H2 : Hp} {s : St} {r r' r1 r2 : DE} {a : Addr}
theorem ES.owAt (e : ES K B F H s r) (h : OwAt r s a) : ¬ F a ∧ (∃ d, Root K F H a d) ∧ (B.H0 a = none ∨ B.io = some a) := by
  obtain ⟨i, q, h1, h2, h3⟩ := h
  cases q with
  | no => exact h2.elim
  | fr d => exact h2.elim
  | ow d =>
    obtain ⟨b, e1, e2, e3, e4⟩ := e.ow i d h1
    rw [h3] at e1
    cases e1
    exact ⟨e2, ⟨d, e3⟩, .inl e4⟩
  | io d =>
    obtain ⟨_, b, e1, e2, e3, e4⟩ := e.io i d h1
    rw [h3] at e1
    cases e1
    exact ⟨e2, ⟨d, e3⟩, .inr e4⟩
/-- what was not there at the entry is not there now, or was not there then -/
theorem ES.old (e : ES K B F H s r) (h : H a = none) : B.H0 a = none := by
  cases q : B.H0 a with
  | none => rfl
  | some o =>
    by_cases f : B.F0 a
    · exact absurd h (e.dom a (e.sub a f))
    · by_cases z : B.io = some a
      · obtain ⟨⟨d, hd⟩, _⟩ := e.ioK a z
        obtain ⟨_, b, h1, h2, h3, h4⟩ := e.io 0 d hd
        rw [z] at h4
        cases h4
        obtain ⟨o', ho⟩ := h3.some
        rw [h] at ho
        cases ho
      · have := e.kp a o q f z
        rw [h] at this
        cases this

structure Pst (K : PySem.W.Frag) (B : Bd) (F : Fz) (H : Hp) (s : St) (r : DE) (F' : Fz) (H' : Hp) (r' : DE) : Prop where
  es : ES K B F' H' s r'
  sub : ∀ a, F a → F' a
  rd : ∀ a u, F a → Rd H a u → Rd H' a u
  new : ∀ a, F' a → F a ∨ H a = none ∨ OwAt r s a
  kp : ∀ a o, H a = some o → ¬ F a → ¬ OwAt r s a → H' a = some o
  grow : ∀ a, H' a = none → H a = none
  live : ∀ i, Live r i → Live r' i
  ow : ∀ (i : Nat) (q : Sl), r'[i]? = some q → isOw q → ∃ q', r[i]? = some q' ∧ isOw q'

theorem Pst.ext (p : Pst K B F H s r F' H' r') : Ext F H F' H' := ⟨p.sub, p.rd⟩
theorem Pst.owB (p : Pst K B F H s r F' H' r') (h : OwAt r' s a) : OwAt r s a := by
  obtain ⟨i, q, h1, h2, h3⟩ := h
  obtain ⟨q', e1, e2⟩ := p.ow i q h1 h2
  exact ⟨i, q', e1, e2, h3⟩
theorem Pst.refl (e : ES K B F H s r) : Pst K B F H s r F H r :=
  ⟨e, fun _ h => h, fun _ _ _ h => h, fun _ h => .inl h, fun _ _ h _ _ => h, fun _ h => h, fun _ h => h, fun _ q h z => ⟨q, h, z⟩⟩
theorem Pst.trans (p : Pst K B F H s r F1 H1 r1) (q : Pst K B F1 H1 s r1 F2 H2 r2) : Pst K B F H s r F2 H2 r2 := by
  refine ⟨q.es, fun a h => q.sub a (p.sub a h), fun a u f h => q.rd a u (p.sub a f) (p.rd a u f h), fun a h => ?_, fun a o h f w => ?_, fun a h => p.grow a (q.grow a h), fun i h => q.live i (p.live i h), fun i z h1 h2 => ?_⟩
  · rcases q.new a h with h | h | h
    · exact p.new a h
    · exact .inr (.inl (p.grow a h))
    · exact .inr (.inr (p.owB h))
  · refine q.kp a o (p.kp a o h f w) (fun z => ?_) (fun z => w (p.owB z))
    rcases p.new a z with z | z | z
    · exact f z
    · rw [h] at z
      cases z
    · exact w z
  · obtain ⟨z', e1, e2⟩ := q.ow i z h1 h2
    exact p.ow i z' e1 e2

/-- a value is what a result says -/
def RvOk (K : PySem.W.Frag) (B : Bd) (F : Fz) (H : Hp) (s : St) (r : DE) (v : V) : Rv → Prop
  | .fr d => Rp K F H v d
  | .ow d => ∃ a, v = .ref a ∧ ¬ F a ∧ Root K F H a d ∧ B.H0 a = none ∧ ¬ OwAt r s a
  | .sl i => s[i]? = some (some v) ∧ Live r i
theorem RvOk.pst {v : V} {x : Rv} (p : Pst K B F H s r F' H' r') (h : RvOk K B F H s r v x) : RvOk K B F' H' s r' v x := by
  cases x with
  | fr d => exact Rp.ext p.ext h
  | ow d =>
    obtain ⟨a, h1, h2, h3, h4, h5⟩ := h
    obtain ⟨o, ho⟩ := h3.some
    refine ⟨a, h1, fun z => ?_, h3.ext p.ext (fun o' e => p.kp a o' e h2 h5), h4, fun z => h5 (p.owB z)⟩
    rcases p.new a z with z | z | z
    · exact h2 z
    · rw [ho] at z
      cases z
    · exact h5 z
  | sl i => exact ⟨h.1, p.live i h.2⟩

/-- the datum of a slot; of a result, looked up where it is used -/
def Sl.dat : Sl → Option D
  | .no => none
  | .fr d => some d
  | .ow d => some d
  | .io d => some d
def slD (r : DE) (i : Nat) : Option D := (r.getD i .no).dat
def rsv : Rv → DE → Option D
  | .fr d, _ => some d
  | .ow d, _ => some d
  | .sl i, r => slD r i
theorem slD_of {r : DE} {i : Nat} {d : D} (h : slD r i = some d) : r[i]? = some (.fr d) ∨ r[i]? = some (.ow d) ∨ r[i]? = some (.io d) := by
  unfold slD at h
  rw [List.getD_eq_getElem?_getD] at h
  cases q : r[i]? with
  | none => rw [q] at h; cases h
  | some x =>
    rw [q] at h
    cases x with
    | no => cases h
    | fr e => cases h; exact .inl rfl
    | ow e => cases h; exact .inr (.inl rfl)
    | io e => cases h; exact .inr (.inr rfl)
/-- a value that may be read as d: frozen, or an owned root -/
inductive Rq (K : PySem.W.Frag) (F : Fz) (H : Hp) : V → D → Prop
  | fz {v : V} {d : D} : Rp K F H v d → Rq K F H v d
  | rt {a : Addr} {d : D} : Root K F H a d → Rq K F H (.ref a) d
theorem rsv_ok {v : V} {x : Rv} {d : D} (e : ES K B F H s r) (h : RvOk K B F H s r v x) (q : rsv x r = some d) : Rq K F H v d := by
  cases x with
  | fr d' =>
    cases q
    exact .fz h
  | ow d' =>
    cases q
    obtain ⟨a, rfl, _, h3, _⟩ := h
    exact .rt h3
  | sl i =>
    rcases slD_of q with w | w | w
    · obtain ⟨v', h1, h2⟩ := e.fr i _ w
      rw [h.1] at h1
      cases h1
      exact .fz h2
    · obtain ⟨a, h1, _, h2, _⟩ := e.ow i _ w
      rw [h.1] at h1
      cases h1
      exact .rt h2
    · obtain ⟨_, a, h1, _, h2, _⟩ := e.io i _ w
      rw [h.1] at h1
      cases h1
      exact .rt h2

/-- only new objects came -/
structure Al (F : Fz) (H : Hp) (F' : Fz) (H' : Hp) : Prop where
  sub : ∀ a, F a → F' a
  new : ∀ a, F' a → F a ∨ H a = none
  dom : ∀ a, F' a → H' a ≠ none
  same : ∀ a o, H a = some o → H' a = some o
theorem rd_same {H H' : Hp} (h : ∀ a o, H a = some o → H' a = some o) {a : Addr} {u : HO} (r : Rd H a u) : Rd H' a u := r.imp (h _ _) fun ⟨o, q⟩ => ⟨o, h _ _ q⟩
theorem Al.ext (p : Al F H F' H') : Ext F H F' H' := ⟨p.sub, fun _ _ _ r => rd_same p.same r⟩
theorem Al.refl (h : ∀ a, F a → H a ≠ none) : Al F H F H := ⟨fun _ h => h, fun _ h => .inl h, h, fun _ _ h => h⟩
theorem Al.trans (p : Al F H F1 H1) (q : Al F1 H1 F2 H2) : Al F H F2 H2 := by
  refine ⟨fun a h => q.sub a (p.sub a h), fun a h => ?_, q.dom, fun a o h => q.same a o (p.same a o h)⟩
  rcases q.new a h with h | h
  · exact p.new a h
  · cases e : H a with
    | none => exact .inr rfl
    | some o =>
      have := p.same a o e
      rw [h] at this
      cases this
theorem Al.old (p : Al F H F' H') (h : H' a = none) : H a = none := by
  cases q : H a with
  | none => rfl
  | some o => have := p.same a o q; rw [h] at this; cases this
theorem Al.pst (e : ES K B F H s r) (p : Al F H F' H') : Pst K B F H s r F' H' r := by
  refine ⟨⟨e.len, p.dom, fun a h => p.sub a (e.sub a h), fun a h => ?_, fun a u f h => rd_same p.same (e.kpF a u f h), fun a o h f w => p.same a o (e.kp a o h f w), fun i d h => ?_, fun i d h => ?_, fun i d h => ?_, e.sep, e.ioK⟩,
    p.sub, fun a u _ h => rd_same p.same h, fun a h => (p.new a h).imp id .inl, fun a o h _ _ => p.same a o h, fun a h => p.old h, fun _ h => h, fun _ q h z => ⟨q, h, z⟩⟩
  · rcases p.new a h with h | h
    · exact e.new a h
    · exact .inr (e.old h)
  · obtain ⟨v, h1, h2⟩ := e.fr i d h
    exact ⟨v, h1, h2.ext p.ext⟩
  · obtain ⟨a, h1, h2, h3, h4⟩ := e.ow i d h
    obtain ⟨o, ho⟩ := h3.some
    refine ⟨a, h1, fun z => ?_, h3.ext p.ext (p.same a), h4⟩
    rcases p.new a z with z | z
    · exact h2 z
    · rw [ho] at z
      cases z
  · obtain ⟨h0, a, h1, h2, h3, h4⟩ := e.io i d h
    obtain ⟨o, ho⟩ := h3.some
    refine ⟨h0, a, h1, fun z => ?_, h3.ext p.ext (p.same a), h4⟩
    rcases p.new a z with z | z
    · exact h2 z
    · rw [ho] at z
      cases z
/-- a built-in's result -/
def RvNew (K : PySem.W.Frag) (H : Hp) (F' : Fz) (H' : Hp) (v : V) : Rv → Prop
  | .fr d => Rp K F' H' v d
  | .ow d => ∃ a, v = .ref a ∧ ¬ F' a ∧ H a = none ∧ Root K F' H' a d
  | .sl _ => False
theorem RvNew.ok {v : V} {x : Rv} (e : ES K B F H s r) (p : Al F H F' H') (h : RvNew K H F' H' v x) : RvOk K B F' H' s r v x := by
  cases x with
  | fr d => exact h
  | ow d =>
    obtain ⟨a, h1, h2, h3, h4⟩ := h
    refine ⟨a, h1, h2, h4, e.old h3, fun z => ?_⟩
    obtain ⟨_, ⟨d', hd⟩, _⟩ := e.owAt z
    obtain ⟨o, ho⟩ := hd.some
    rw [h3] at ho
    cases ho
  | sl i => exact h.elim

/-- a new frozen object -/
theorem al_frz {p : Addr} {o : HO} (hd : ∀ a, F a → H a ≠ none) (hp : H p = none) : Al F H (fun a => F a ∨ a = p) (upd H p o) := by
  have ne : ∀ a u, H a = some u → a ≠ p := fun a u h z => by
    subst z
    rw [hp] at h
    cases h
  refine ⟨fun a h => .inl h, fun a h => ?_, fun a h => ?_, fun a u h => ?_⟩
  · rcases h with h | rfl
    · exact .inl h
    · exact .inr hp
  · rcases h with h | rfl
    · cases q : H a with
      | none => exact absurd q (hd a h)
      | some u =>
        rw [upd_ne (ne a u q), q]
        simp
    · rw [upd_same]
      simp
  · rw [upd_ne (ne a u h)]
    exact h
/-- a new object that is not frozen -/
theorem al_own {p : Addr} {o : HO} (hd : ∀ a, F a → H a ≠ none) (hp : H p = none) : Al F H F (upd H p o) := by
  have ne : ∀ a u, H a = some u → a ≠ p := fun a u h z => by
    subst z
    rw [hp] at h
    cases h
  refine ⟨fun a h => h, fun a h => .inl h, fun a h => ?_, fun a u h => ?_⟩
  · cases q : H a with
    | none => exact absurd q (hd a h)
    | some u =>
      rw [upd_ne (ne a u q), q]
      simp
  · rw [upd_ne (ne a u h)]
    exact h
theorem not_frz {p : Addr} (hd : ∀ a, F a → H a ≠ none) (hp : H p = none) : ¬ F p := fun h => hd p h hp
end
end Ed
end
section
namespace Ed
open PySem PySem.Spec L2

def OutP {α : Type} (o : Out α) (P : α → Prop) (E : Exn → DE → Prop) : Prop := match o with
  | .no => False
  | .ok a => P a
  | .ex x r => E x r
theorem OutP.bind {α β : Type} {o : Out α} {f : α → Out β} {P : β → Prop} {E : Exn → DE → Prop} (h : OutP (o.bind f) P E) : OutP o (fun a => OutP (f a) P E) E := by
  cases o with
  | no => exact h
  | ok a => exact h
  | ex x r => exact h
theorem OutP.mono {α : Type} {o : Out α} {P P' : α → Prop} {E E' : Exn → DE → Prop} (h : OutP o P E) (hp : ∀ a, P a → P' a) (he : ∀ x r, E x r → E' x r) : OutP o P' E' := by
  cases o with
  | no => exact h
  | ok a => exact hp a h
  | ex x r => exact he x r h
@[reducible] def ofO {α : Type} (o : Option α) : Out α := match o with
  | none => .no
  | some a => .ok a
theorem OutP.ofO {α : Type} {o : Option α} {P : α → Prop} {E : Exn → DE → Prop} (h : OutP (ofO o) P E) : ∃ a, o = some a ∧ P a := by
  cases o with
  | none => exact h.elim
  | some a => exact ⟨a, rfl, h⟩

theorem getD_some {r : DE} {i : Nat} {x : Sl} (h : r.getD i .no = x) (hx : x ≠ .no) : r[i]? = some x := by
  rw [List.getD_eq_getElem?_getD] at h
  cases q : r[i]? with
  | none => rw [q] at h; exact absurd h.symm hx
  | some y => rw [q] at h; cases h; rfl
theorem set_cases {r : DE} {i j : Nat} {x q : Sl} (h : (r.set i x)[j]? = some q) : (j = i ∧ q = x) ∨ (j ≠ i ∧ r[j]? = some q) := by
  by_cases e : j = i
  · subst e
    by_cases hl : j < r.length
    · rw [List.getElem?_set_self hl] at h
      cases h
      exact .inl ⟨rfl, rfl⟩
    · rw [List.getElem?_eq_none (by rw [List.length_set]; omega)] at h
      cases h
  · rw [List.getElem?_set_ne (fun z => e z.symm)] at h
    exact .inr ⟨e, h⟩
theorem live_set {r : DE} {i j : Nat} {x : Sl} (hx : x ≠ .no) (h : Live r j) : Live (r.set i x) j := by
  obtain ⟨q, h1, h2⟩ := h
  by_cases e : j = i
  · subst e
    have hl : j < r.length := by
      rcases Nat.lt_or_ge j r.length with z | z
      · exact z
      · rw [List.getElem?_eq_none z] at h1; cases h1
    exact ⟨x, List.getElem?_set_self hl, hx⟩
  · exact ⟨q, by rw [List.getElem?_set_ne (fun z => e z.symm)]; exact h1, h2⟩

def frz : Rv → DE → Option (D × DE)
  | .fr d, r => some (d, r)
  | .ow d, r => some (d, r)
  | .sl i, r => match r.getD i .no with
    | .fr d => some (d, r)
    | .ow d => some (d, r.set i (.fr d))
    | _ => none
/-- a new root came since H -/
def Fresh (H : Hp) (v : V) : Rv → Prop
  | .ow _ => ∀ a, v = .ref a → H a = none
  | _ => True
section
variable {K : PySem.W.Frag} {B : Bd} {F F' F1 F2 : Fz} {H H' H1 H2 : Hp} {s : St} {r r' r1 r2 : DE} {a : Addr} {v : V} {x : Rv} {d : D}
theorem ext_root : Ext F H (fun b => F b ∨ b = a) H := ⟨fun _ h => .inl h, fun _ _ _ h => h⟩
theorem frz_tmp (p : Pst K B F H s r F1 H1 r1) (hr : Root K F1 H1 a d) (h0 : B.H0 a = none) (hw : ¬ OwAt r1 s a) (hn : H a = none) :
    Pst K B F H s r (fun b => F1 b ∨ b = a) H1 r1 := by
  have e := p.es
  have ne : ∀ i q b, r1[i]? = some q → isOw q → s[i]? = some (some (V.ref b)) → b ≠ a := fun i q b h1 h2 h3 z => hw ⟨i, q, h1, h2, by rw [← z]; exact h3⟩
  refine ⟨⟨e.len, fun b h => ?_, fun b h => .inl (e.sub b h), fun b h => ?_, e.kpF, e.kp, fun i d' h => ?_, fun i d' h => ?_, fun i d' h => ?_, e.sep, e.ioK⟩,
    fun b h => .inl (p.sub b h), p.rd, fun b h => ?_, p.kp, p.grow, p.live, p.ow⟩
  · rcases h with h | rfl
    · exact e.dom b h
    · obtain ⟨o, ho⟩ := hr.some
      rw [ho]
      simp
  · rcases h with h | rfl
    · exact e.new b h
    · exact .inr h0
  · obtain ⟨v, h1, h2⟩ := e.fr i d' h
    exact ⟨v, h1, h2.ext ext_root⟩
  · obtain ⟨b, h1, h2, h3, h4⟩ := e.ow i d' h
    refine ⟨b, h1, fun z => ?_, h3.ext ext_root fun _ q => q, h4⟩
    rcases z with z | z
    · exact h2 z
    · exact ne i _ b h trivial h1 z
  · obtain ⟨h0', b, h1, h2, h3, h4⟩ := e.io i d' h
    refine ⟨h0', b, h1, fun z => ?_, h3.ext ext_root fun _ q => q, h4⟩
    rcases z with z | z
    · exact h2 z
    · exact ne i _ b h trivial h1 z
  · rcases h with h | rfl
    · exact p.new b h
    · exact .inr (.inl hn)
theorem frz_slot (e : ES K B F H s r) {i : Nat} (h : r[i]? = some (.ow d)) : ∃ a, s[i]? = some (some (.ref a)) ∧ Pst K B F H s r (fun b => F b ∨ b = a) H (r.set i (.fr d)) ∧ Rp K (fun b => F b ∨ b = a) H (.ref a) d := by
  obtain ⟨a, h1, h2, h3, h4⟩ := e.ow i d h
  have own : OwAt r s a := ⟨i, _, h, trivial, h1⟩
  have neio : ∀ b, B.io = some b → b ≠ a := fun b hb z => by
    subst z
    exact (e.ioK b hb).2.1 h4
  have rp : Rp K (fun b => F b ∨ b = a) H (.ref a) d := (h3.ext (F' := fun b => F b ∨ b = a) ext_root fun _ q => q).frz (.inr rfl)
  refine ⟨a, h1, ⟨⟨by rw [List.length_set]; exact e.len, fun b h => ?_, fun b h => .inl (e.sub b h), fun b h => ?_, e.kpF, e.kp, fun j d' q => ?_, fun j d' q => ?_, fun j d' q => ?_, fun j k b d1 d2 q1 q2 => ?_, fun b hb => ?_⟩,
    fun b h => .inl h, fun _ _ _ h => h, fun b h => ?_, fun _ _ h _ _ => h, fun _ h => h, fun j q => live_set (by simp) q, fun j q h5 h6 => ?_⟩, rp⟩
  · rcases h with h | rfl
    · exact e.dom b h
    · obtain ⟨o, ho⟩ := h3.some
      rw [ho]
      simp
  · rcases h with h | rfl
    · exact e.new b h
    · exact .inr h4
  · rcases set_cases q with ⟨z1, z2⟩ | ⟨_, z⟩
    · cases z2
      subst z1
      exact ⟨_, h1, rp⟩
    · obtain ⟨v, g1, g2⟩ := e.fr j d' z
      exact ⟨v, g1, g2.ext ext_root⟩
  · rcases set_cases q with ⟨z1, z2⟩ | ⟨hj, w⟩
    · cases z2
    · obtain ⟨b, g1, g2, g3, g4⟩ := e.ow j d' w
      refine ⟨b, g1, fun z => ?_, g3.ext ext_root fun _ q => q, g4⟩
      rcases z with z | z
      · exact g2 z
      · subst z
        exact hj (e.sep j i b d' d w h g1 h1)
  · rcases set_cases q with ⟨z1, z2⟩ | ⟨hj, w⟩
    · cases z2
    · obtain ⟨h0', b, g1, g2, g3, g4⟩ := e.io j d' w
      refine ⟨h0', b, g1, fun z => ?_, g3.ext ext_root fun _ q => q, g4⟩
      rcases z with z | z
      · exact g2 z
      · exact neio b g4 z
  · rcases set_cases q1 with ⟨z1, z2⟩ | ⟨_, w1⟩
    · cases z2
    · rcases set_cases q2 with ⟨z1, z2⟩ | ⟨_, w2⟩
      · cases z2
      · exact e.sep j k b d1 d2 w1 w2
  · obtain ⟨⟨d', hd⟩, g2, g3⟩ := e.ioK b hb
    refine ⟨⟨d', ?_⟩, g2, g3⟩
    by_cases z : i = 0
    · subst z
      rw [hd] at h
      cases h
    · rw [List.getElem?_set_ne z]
      exact hd
  · rcases h with h | rfl
    · exact .inl h
    · exact .inr (.inr own)
  · rcases set_cases h5 with ⟨z1, z2⟩ | ⟨_, w⟩
    · subst z2
      exact h6.elim
    · exact ⟨q, w, h6⟩
/-- what an expression gives, frozen -/
theorem frz_ok (p : Pst K B F H s r F1 H1 r1) (ok : RvOk K B F1 H1 s r1 v x) (fh : Fresh H v x) (h : frz x r1 = some (d, r2)) : ∃ F2, Pst K B F H s r F2 H1 r2 ∧ Rp K F2 H1 v d := by
  cases x with
  | fr d' =>
    cases h
    exact ⟨F1, p, ok⟩
  | ow d' =>
    cases h
    obtain ⟨a, rfl, h2, h3, h4, h5⟩ := ok
    exact ⟨_, frz_tmp p h3 h4 h5 (fh a rfl), (h3.ext ext_root fun _ q => q).frz (.inr rfl)⟩
  | sl i =>
    unfold frz at h
    cases q : r1.getD i .no with
    | no => simp only [q] at h; cases h
    | fr d' =>
      simp only [q] at h
      cases h
      obtain ⟨v', g1, g2⟩ := p.es.fr i d (getD_some q (by simp))
      rw [ok.1] at g1
      cases g1
      exact ⟨F1, p, g2⟩
    | ow d' =>
      simp only [q] at h
      cases h
      obtain ⟨a, g1, g2, g3⟩ := frz_slot p.es (getD_some q (by simp))
      rw [ok.1] at g1
      cases g1
      exact ⟨_, p.trans g2, g3⟩
    | io d' => simp only [q] at h; cases h

def isIo : Sl → Bool
  | .io _ => true
  | _ => false
def stoV (i : Nat) (x : Rv) (r : DE) : Option DE := match x with
  | .ow d => some (r.set i (.ow d))
  | .fr d => some (r.set i (.fr d))
  | .sl j => (frz (.sl j) r).map fun p => p.2.set i (.fr p.1)
def sto (i : Nat) (x : Rv) (r : DE) : Option DE := match r[i]? with
  | none => none
  | some q => match isIo q with
    | true => none
    | false => stoV i x r
theorem st_len {σ : St} {i j : Nat} {v : V} (h : σ[j]? = some (some v)) : j < σ.length := by
  rcases Nat.lt_or_ge j σ.length with z | z
  · exact z
  · rw [List.getElem?_eq_none z] at h; cases h
theorem sts_set {s : St} {i j : Nat} {v : V} (h : j ≠ i) : (s.set i (some v))[j]? = s[j]? := List.getElem?_set_ne (fun z => h z.symm)
/-- a frozen value stored -/
theorem sto_fr (e : ES K B F H s r) {i : Nat} (hi : i < s.length) (nio : ∀ d', r[i]? ≠ some (.io d')) (h : Rp K F H v d) : ES K B F H (s.set i (some v)) (r.set i (.fr d)) := by
  refine ⟨by rw [List.length_set, List.length_set]; exact e.len, e.dom, e.sub, e.new, e.kpF, e.kp, fun j d' q => ?_, fun j d' q => ?_, fun j d' q => ?_, fun j k b d1 d2 q1 q2 q3 q4 => ?_, fun b hb => ?_⟩
  · rcases set_cases q with ⟨z1, z2⟩ | ⟨hj, w⟩
    · subst z1
      cases z2
      exact ⟨v, List.getElem?_set_self hi, h⟩
    · rw [sts_set hj]
      exact e.fr j d' w
  · rcases set_cases q with ⟨z1, z2⟩ | ⟨hj, w⟩
    · cases z2
    · rw [sts_set hj]
      exact e.ow j d' w
  · rcases set_cases q with ⟨z1, z2⟩ | ⟨hj, w⟩
    · cases z2
    · rw [sts_set hj]
      exact e.io j d' w
  · rcases set_cases q1 with ⟨z1, z2⟩ | ⟨hj, w1⟩
    · cases z2
    · rcases set_cases q2 with ⟨z1, z2⟩ | ⟨hk, w2⟩
      · cases z2
      · rw [sts_set hj] at q3
        rw [sts_set hk] at q4
        exact e.sep j k b d1 d2 w1 w2 q3 q4
  · obtain ⟨⟨d', hd⟩, g2⟩ := e.ioK b hb
    refine ⟨⟨d', ?_⟩, g2⟩
    by_cases z : i = 0
    · subst z
      exact absurd hd (nio d')
    · rw [List.getElem?_set_ne z]
      exact hd
/-- a new root stored -/
theorem sto_ow (e : ES K B F H s r) {i : Nat} (hi : i < s.length) (nio : ∀ d', r[i]? ≠ some (.io d')) (hf : ¬ F a) (h : Root K F H a d) (h0 : B.H0 a = none) (hw : ¬ OwAt r s a) : ES K B F H (s.set i (some (.ref a))) (r.set i (.ow d)) := by
  refine ⟨by rw [List.length_set, List.length_set]; exact e.len, e.dom, e.sub, e.new, e.kpF, e.kp, fun j d' q => ?_, fun j d' q => ?_, fun j d' q => ?_, fun j k b d1 d2 q1 q2 q3 q4 => ?_, fun b hb => ?_⟩
  · rcases set_cases q with ⟨z1, z2⟩ | ⟨hj, w⟩
    · cases z2
    · rw [sts_set hj]
      exact e.fr j d' w
  · rcases set_cases q with ⟨z1, z2⟩ | ⟨hj, w⟩
    · subst z1
      cases z2
      exact ⟨a, List.getElem?_set_self hi, hf, h, h0⟩
    · rw [sts_set hj]
      exact e.ow j d' w
  · rcases set_cases q with ⟨z1, z2⟩ | ⟨hj, w⟩
    · cases z2
    · rw [sts_set hj]
      exact e.io j d' w
  · rcases set_cases q1 with ⟨z1, z2⟩ | ⟨hj, w1⟩
    · rcases set_cases q2 with ⟨y1, y2⟩ | ⟨hk, w2⟩
      · rw [z1, y1]
      · subst z1
        rw [List.getElem?_set_self hi] at q3
        cases q3
        rw [sts_set hk] at q4
        exact absurd ⟨k, _, w2, trivial, q4⟩ hw
    · rcases set_cases q2 with ⟨y1, y2⟩ | ⟨hk, w2⟩
      · subst y1
        rw [List.getElem?_set_self hi] at q4
        cases q4
        rw [sts_set hj] at q3
        exact absurd ⟨j, _, w1, trivial, q3⟩ hw
      · rw [sts_set hj] at q3
        rw [sts_set hk] at q4
        exact e.sep j k b d1 d2 w1 w2 q3 q4
  · obtain ⟨⟨d', hd⟩, g2⟩ := e.ioK b hb
    refine ⟨⟨d', ?_⟩, g2⟩
    by_cases z : i = 0
    · subst z
      exact absurd hd (nio d')
    · rw [List.getElem?_set_ne z]
      exact hd
theorem sto_inv {r r' : DE} {i : Nat} {x : Rv} (h : sto i x r = some r') : i < r.length ∧ (∀ d', r[i]? ≠ some (.io d')) ∧ stoV i x r = some r' := by
  unfold sto at h
  cases q : r[i]? with
  | none => rw [q] at h; cases h
  | some y =>
    rw [q] at h
    refine ⟨(List.getElem?_eq_some_iff.mp q).1, fun d' e => ?_, ?_⟩
    · cases e
      cases h
    · cases y with
      | io d' => cases h
      | no => exact h
      | fr d' => exact h
      | ow d' => exact h
theorem sto_ok (e : ES K B F H s r) {i : Nat} (ok : RvOk K B F H s r v x) (h : sto i x r = some r') : ∃ F', ES K B F' H (s.set i (some v)) r' ∧ Ext F H F' H := by
  obtain ⟨hi, nio, h⟩ := sto_inv h
  have hi : i < s.length := by rw [e.len]; exact hi
  cases x with
  | fr d' =>
    cases h
    exact ⟨F, sto_fr e hi nio ok, .refl⟩
  | ow d' =>
    cases h
    obtain ⟨a, rfl, h2, h3, h4, h5⟩ := ok
    exact ⟨F, sto_ow e hi nio h2 h3 h4 h5, .refl⟩
  | sl j =>
    obtain ⟨⟨d', r2⟩, h1, h2⟩ := Option.map_eq_some_iff.mp h
    subst h2
    obtain ⟨F2, p2, rp⟩ := frz_ok (Pst.refl e) ok trivial h1
    refine ⟨F2, sto_fr p2.es hi (fun d1 q => ?_) rp, p2.ext⟩
    obtain ⟨q', g1, g2⟩ := p2.ow i _ q trivial
    unfold frz at h1
    cases w : r.getD j .no with
    | no => simp only [w] at h1; cases h1
    | io _ => simp only [w] at h1; cases h1
    | fr d2 =>
      simp only [w] at h1
      cases h1
      exact nio d1 q
    | ow d2 =>
      simp only [w] at h1
      cases h1
      rcases set_cases q with ⟨_, q⟩ | ⟨_, q⟩
      · cases q
      · exact nio d1 q
end
end Ed
end
section
namespace Ed
open PySem PySem.Spec L2

abbrev C := DE → Out (Rv × DE)
abbrev CT := DE → Out (Bool × DE)
abbrev CF := DE → Out (D × DE)
abbrev CA := DE → Out (List D × DE)
abbrev CB := DE → Out (List Rv × DE)
abbrev Wx := Exn → Fz → Hp → St → DE → Prop

def EW (K : PySem.W.Frag) (B : Bd) (W : Wx) (F : Fz) (H : Hp) : Exn → DE → Prop := fun x r' => ∀ s' F' H', ES K B F' H' s' r' → Ext F H F' H' → W x F' H' s' r'
theorem EW.step {K : PySem.W.Frag} {B : Bd} {W : Wx} {F F' : Fz} {H H' : Hp} (e : Ext F H F' H') (x : Exn) (r : DE) (h : EW K B W F H x r) : EW K B W F' H' x r :=
  fun s' F2 H2 es e2 => h s' F2 H2 es (e.trans e2)

def tC (K : PySem.W.Frag) (B : Bd) (W : Wx) (c : C) : TE := fun s H Q => ∃ F r, ES K B F H s r ∧
  OutP (c r) (fun p => ∀ v F' H', Pst K B F H s r F' H' p.2 → RvOk K B F' H' s p.2 v p.1 → Fresh H v p.1 → Q v H') (EW K B W F H)
def tF (K : PySem.W.Frag) (B : Bd) (W : Wx) (c : CF) : TE := fun s H Q => ∃ F r, ES K B F H s r ∧
  OutP (c r) (fun p => ∀ v F' H', Pst K B F H s r F' H' p.2 → Rp K F' H' v p.1 → Q v H') (EW K B W F H)
def tT (K : PySem.W.Frag) (B : Bd) (W : Wx) (c : CT) : TT := fun s H Q => ∃ F r, ES K B F H s r ∧
  OutP (c r) (fun p => ∀ F' H', Pst K B F H s r F' H' p.2 → Q p.1 H') (EW K B W F H)
def tA' (K : PySem.W.Frag) (B : Bd) (W : Wx) (c : CA) : TA := fun s H Q => ∃ F r, ES K B F H s r ∧
  OutP (c r) (fun p => ∀ vs F' H', Pst K B F H s r F' H' p.2 → RpAll K F' H' vs p.1 → Q vs H') (EW K B W F H)
inductive RvAll (K : PySem.W.Frag) (B : Bd) (F : Fz) (H : Hp) (s : St) (r : DE) : List V → List Rv → Prop
  | nil : RvAll K B F H s r [] []
  | cons {v : V} {vs : List V} {x : Rv} {xs : List Rv} : RvOk K B F H s r v x → RvAll K B F H s r vs xs → RvAll K B F H s r (v :: vs) (x :: xs)
def tBo (K : PySem.W.Frag) (B : Bd) (W : Wx) (c : CB) : TA := fun s H Q => ∃ F r, ES K B F H s r ∧
  OutP (c r) (fun p => ∀ vs F' H', Pst K B F H s r F' H' p.2 → RvAll K B F' H' s p.2 vs p.1 → Q vs H') (EW K B W F H)

section
variable {K : PySem.W.Frag} {B : Bd} {W : Wx} {F F' F1 F2 : Fz} {H H' H1 H2 : Hp} {s : St} {r r' r1 r2 : DE}
theorem RvAll.pst (p : Pst K B F H s r F' H' r') : ∀ {vs : List V} {xs : List Rv}, RvAll K B F H s r vs xs → RvAll K B F' H' s r' vs xs
  | _, _, .nil => .nil
  | _, _, .cons a b => .cons (a.pst p) (RvAll.pst p b)
theorem tC_bind {β : Type} {c : C} {f : Rv × DE → Out β} {P : β → Prop} {Q : VK} (es : ES K B F H s r) (hO : OutP ((c r).bind f) P (EW K B W F H))
    (h : ∀ p v F1 H1, Pst K B F H s r F1 H1 p.2 → RvOk K B F1 H1 s p.2 v p.1 → Fresh H v p.1 → OutP (f p) P (EW K B W F1 H1) → Q v H1) : tC K B W c s H Q :=
  ⟨F, r, es, hO.bind.mono (fun p hp v F1 H1 ps ok fr => h p v F1 H1 ps ok fr (hp.mono (fun _ x => x) (EW.step ps.ext))) fun _ _ x => x⟩
theorem tF_bind {β : Type} {c : CF} {f : D × DE → Out β} {P : β → Prop} {Q : VK} (es : ES K B F H s r) (hO : OutP ((c r).bind f) P (EW K B W F H))
    (h : ∀ p v F1 H1, Pst K B F H s r F1 H1 p.2 → Rp K F1 H1 v p.1 → OutP (f p) P (EW K B W F1 H1) → Q v H1) : tF K B W c s H Q :=
  ⟨F, r, es, hO.bind.mono (fun p hp v F1 H1 ps ok => h p v F1 H1 ps ok (hp.mono (fun _ x => x) (EW.step ps.ext))) fun _ _ x => x⟩
theorem tT_bind {β : Type} {c : CT} {f : Bool × DE → Out β} {P : β → Prop} {Q : Bool → Hp → Prop} (es : ES K B F H s r) (hO : OutP ((c r).bind f) P (EW K B W F H))
    (h : ∀ p F1 H1, Pst K B F H s r F1 H1 p.2 → OutP (f p) P (EW K B W F1 H1) → Q p.1 H1) : tT K B W c s H Q :=
  ⟨F, r, es, hO.bind.mono (fun p hp F1 H1 ps => h p F1 H1 ps (hp.mono (fun _ x => x) (EW.step ps.ext))) fun _ _ x => x⟩
theorem tA_bind {β : Type} {c : CA} {f : List D × DE → Out β} {P : β → Prop} {Q : List V → Hp → Prop} (es : ES K B F H s r) (hO : OutP ((c r).bind f) P (EW K B W F H))
    (h : ∀ p vs F1 H1, Pst K B F H s r F1 H1 p.2 → RpAll K F1 H1 vs p.1 → OutP (f p) P (EW K B W F1 H1) → Q vs H1) : tA' K B W c s H Q :=
  ⟨F, r, es, hO.bind.mono (fun p hp vs F1 H1 ps ok => h p vs F1 H1 ps ok (hp.mono (fun _ x => x) (EW.step ps.ext))) fun _ _ x => x⟩
theorem tB_bind {β : Type} {c : CB} {f : List Rv × DE → Out β} {P : β → Prop} {Q : List V → Hp → Prop} (es : ES K B F H s r) (hO : OutP ((c r).bind f) P (EW K B W F H))
    (h : ∀ p vs F1 H1, Pst K B F H s r F1 H1 p.2 → RvAll K B F1 H1 s p.2 vs p.1 → OutP (f p) P (EW K B W F1 H1) → Q vs H1) : tBo K B W c s H Q :=
  ⟨F, r, es, hO.bind.mono (fun p hp vs F1 H1 ps ok => h p vs F1 H1 ps ok (hp.mono (fun _ x => x) (EW.step ps.ext))) fun _ _ x => x⟩
/-- a built-in's end -/
theorem al_end {v : V} {x : Rv} {Q : VK} {p : Pst K B F H s r F1 H1 r1} (al : Al F1 H1 F' H') (n : RvNew K H1 F' H' v x)
    (h : ∀ v F' H', Pst K B F H s r F' H' r1 → RvOk K B F' H' s r1 v x → Fresh H v x → Q v H') : Q v H' := by
  refine h v F' H' (p.trans (al.pst p.es)) (n.ok p.es al) ?_
  cases x with
  | fr d => exact trivial
  | sl i => exact trivial
  | ow d =>
    obtain ⟨a, rfl, _, h2, _⟩ := n
    intro b e
    cases e
    exact p.grow a h2
end

section
variable {X : Cx}
theorem PE_mono {e : Expr} {t t' : TE} (h : PE X e t) (m : ∀ s H Q, t' s H Q → t s H Q) : PE X e t' := ⟨fun pins s σ H Q I q => h.run pins s σ H Q I (m _ _ _ q)⟩
theorem PT_mono {e : Expr} {t t' : TT} (h : PT X e t) (m : ∀ s H Q, t' s H Q → t s H Q) : PT X e t' := ⟨fun pins s σ H Q I q => h.run pins s σ H Q I (m _ _ _ q)⟩
theorem PW_mono {e : Expr} {t t' : TT} (h : PW X e t) (m : ∀ s H Q, t' s H Q → t s H Q) : PW X e t' := ⟨fun wh pins s σ H Q I q => h.run wh pins s σ H Q I (m _ _ _ q)⟩
theorem PA_mono {es : List Expr} {t t' : TA} (h : PA X es t) (m : ∀ s H Q, t' s H Q → t s H Q) : PA X es t' := ⟨fun p pins s σ H Q I q => h.run p pins s σ H Q I (m _ _ _ q)⟩
theorem PS_mono {st : Stmt} {t t' : TS} (h : PS X st t) (m : ∀ D s H, t' D s H → t D s H) : PS X st t' := ⟨fun pins s σ H D I q => h.run pins s σ H D I (m _ _ _ q)⟩
theorem PSs_mono {st : List Stmt} {t t' : TS} (h : PSs X st t) (m : ∀ D s H, t' D s H → t D s H) : PSs X st t' := ⟨fun pins s σ H D I q => h.run pins s σ H D I (m _ _ _ q)⟩
end

def cNm (i : Nat) : C := fun r => match r.getD i .no with
  | .no => .no
  | .fr d => .ok (.fr d, r)
  | .ow _ => .ok (.sl i, r)
  | .io _ => .ok (.sl i, r)
def cK (d : D) : C := fun r => .ok (.fr d, r)
section
variable {X : Cx} {B : Bd} {W : Wx}
theorem d_nm (i : Nat) {x : Str} {pos : Pos} (hN : X.N[i]? = some x := by rfl) (hv : Vis X.env.scope x := by first | exact Or.inl rfl | exact Or.inr (Or.inl rfl) | exact Or.inr (Or.inr rfl)) (hd : (x == ("__debug__" : Str)) = false := by decide)
    (hcd : (x == ("__classdict__" : Str)) = false := by decide) : PE X (.Name x pos) (tC X.K B W (cNm i)) := by
  refine PE_mono (pe_var hN hv hd hcd) fun s H Q ⟨F, r, es, hO⟩ => ?_
  unfold cNm at hO
  cases q : r.getD i .no with
  | no => simp only [q] at hO; exact hO.elim
  | fr d =>
    simp only [q] at hO
    obtain ⟨v, h1, h2⟩ := es.fr i d (getD_some q (by simp))
    exact ⟨v, h1, hO v F H (.refl es) h2 trivial⟩
  | ow d =>
    simp only [q] at hO
    have e := getD_some q (by simp)
    obtain ⟨a, h1, _⟩ := es.ow i d e
    exact ⟨_, h1, hO _ F H (.refl es) ⟨h1, _, e, by simp⟩ trivial⟩
  | io d =>
    simp only [q] at hO
    have e := getD_some q (by simp)
    obtain ⟨_, a, h1, _⟩ := es.io i d e
    exact ⟨_, h1, hO _ F H (.refl es) ⟨h1, _, e, by simp⟩ trivial⟩
theorem d_K {e : Expr} {v : V} {d : D} (h : PE X e (L2.tC v)) (hv : ∀ F H, Rp X.K F H v d) : PE X e (tC X.K B W (cK d)) :=
  PE_mono h fun s H Q ⟨F, r, es, hO⟩ => hO v F H (.refl es) (hv F H) trivial
theorem d_int {i : Int} {j pos} : PE X (.Constant (.int i) j pos) (tC X.K B W (cK (.int i))) := d_K pe_int fun _ _ => .int i
theorem d_bl {b : Bool} {j pos} : PE X (.Constant (.bool b) j pos) (tC X.K B W (cK (.bool b))) := d_K pe_bl fun _ _ => .bl b
theorem d_non {j pos} : PE X (.Constant .none j pos) (tC X.K B W (cK .none)) := d_K pe_non fun _ _ => .non
theorem sOk_of {x : Str} (h : (decide (x.length ≤ big) && x.cps.toList.all fun c => decide (c < 0x110000)) = true) : sOk x := by
  rw [Bool.and_eq_true] at h
  exact ⟨of_decide_eq_true h.1, fun c hc => of_decide_eq_true (List.all_eq_true.mp h.2 c hc)⟩
theorem d_str {x : Str} {j pos} (h : (decide (x.length ≤ big) && x.cps.toList.all fun c => decide (c < 0x110000)) = true := by decide +kernel) : PE X (.Constant (.str x) j pos) (tC X.K B W (cK (.str x))) :=
  d_K pe_str fun _ _ => .str x (sOk_of h)
/-- a module's constant: a text or an int -/
theorem d_gstr {x y : Str} {t : Tok} {pos} (hg : Gl X x) (hm : X.mg x = some (.str y t)) (h : (decide (y.length ≤ big) && y.cps.toList.all fun c => decide (c < 0x110000)) = true := by decide +kernel) (hd : (x == ("__debug__" : Str)) = false := by decide) :
    PE X (.Name x pos) (tC X.K B W (cK (.str y))) := d_K (pe_glob (v := .str y) hg hm ⟨t, rfl⟩ hd) fun _ _ => .str y (sOk_of h)
theorem d_gint {x : Str} {i : Int} {t : Tok} {pos} (hg : Gl X x) (hm : X.mg x = some (.int i t)) (hd : (x == ("__debug__" : Str)) = false := by decide) :
    PE X (.Name x pos) (tC X.K B W (cK (.int i))) := d_K (pe_glob (v := .int i) hg hm ⟨t, rfl⟩ hd) fun _ _ => .int i
end

def cFz (c : C) : CF := fun r => (c r).bind fun p => ofO (frz p.1 p.2)
def cANil : CA := fun r => .ok ([], r)
def cACons (c : CF) (cs : CA) : CA := fun r => (c r).bind fun p => (cs p.2).bind fun q => .ok (p.1 :: q.1, q.2)
def cBNil : CB := fun r => .ok ([], r)
def cBCons (c : C) (cs : CB) : CB := fun r => (c r).bind fun p => (cs p.2).bind fun q => .ok (p.1 :: q.1, q.2)
section
variable {X : Cx} {B : Bd} {W : Wx} {e : Expr} {es : List Expr} {c : C} {cf : CF} {ca : CA} {cb : CB} {pos : Pos}
theorem d_fz (h : PE X e (tC X.K B W c)) : PE X e (tF X.K B W (cFz c)) := PE_mono h fun s H Q ⟨F, r, es, hO⟩ =>
  tC_bind es hO fun p v F1 H1 p1 ok1 fr1 hO1 => by
    obtain ⟨⟨d, r2⟩, h1, h2⟩ := hO1.ofO
    obtain ⟨F2, p2, rp⟩ := frz_ok p1 ok1 fr1 h1
    exact h2 v F2 H1 p2 rp
theorem d_anil : PA X [] (tA' X.K B W cANil) := PA_mono pa_nil fun s H Q ⟨F, r, es, hO⟩ => hO [] F H (.refl es) .nil
theorem d_acons (h : PE X e (tF X.K B W cf)) (hs : PA X es (tA' X.K B W ca)) (hst : starEach (e :: es) X.env = (false, eval e X.env) :: starEach es X.env := by rfl) : PA X (e :: es) (tA' X.K B W (cACons cf ca)) :=
  PA_mono (pa_cons h hs hst) fun s H Q ⟨F, r, es, hO⟩ => tF_bind es hO fun p v F1 H1 p1 ok1 hO1 => tA_bind p1.es hO1 fun q vs F2 H2 p2 ok2 hO2 =>
    hO2 (v :: vs) F2 H2 (p1.trans p2) (.cons (ok1.ext p2.ext) ok2)
theorem d_bnil : PA X [] (tBo X.K B W cBNil) := PA_mono pa_nil fun s H Q ⟨F, r, es, hO⟩ => hO [] F H (.refl es) .nil
theorem d_bcons (h : PE X e (tC X.K B W c)) (hs : PA X es (tBo X.K B W cb)) (hst : starEach (e :: es) X.env = (false, eval e X.env) :: starEach es X.env := by rfl) : PA X (e :: es) (tBo X.K B W (cBCons c cb)) :=
  PA_mono (pa_cons h hs hst) fun s H Q ⟨F, r, es, hO⟩ => tC_bind es hO fun p v F1 H1 p1 ok1 _ hO1 => tB_bind p1.es hO1 fun q vs F2 H2 p2 ok2 hO2 =>
    hO2 (v :: vs) F2 H2 (p1.trans p2) (.cons (ok1.pst p2) ok2)

def cTup (c : CA) : C := fun r => (c r).bind fun p => if p.1.length ≤ 16777216 then .ok (.fr (.tuple p.1), p.2) else .no
def cLst (c : CA) : C := fun r => (c r).bind fun p => if p.1.length ≤ 16777216 then .ok (.ow (.list p.1), p.2) else .no
theorem new_tup {K : PySem.W.Frag} {F : Fz} {H : Hp} {xs : List V} {ds : List D} {p : Addr} (hd : ∀ a, F a → H a ≠ none) (hp : H p = none) (h : RpAll K F H xs ds) :
    Al F H (fun a => F a ∨ a = p) (upd H p (.tup xs)) ∧ RvNew K H (fun a => F a ∨ a = p) (upd H p (.tup xs)) (.ref p) (.fr (.tuple ds)) := by
  have al := al_frz (o := .tup xs) hd hp
  exact ⟨al, .tup (.inl ⟨.inr rfl, .of upd_same⟩) (h.ext al.ext)⟩
theorem new_lst {K : PySem.W.Frag} {F : Fz} {H : Hp} {xs : List V} {ds : List D} {p : Addr} (hd : ∀ a, F a → H a ≠ none) (hp : H p = none) (h : RpAll K F H xs ds) :
    Al F H F (upd H p (.lst xs)) ∧ RvNew K H F (upd H p (.lst xs)) (.ref p) (.ow (.list ds)) := by
  have al := al_own (o := .lst xs) hd hp
  exact ⟨al, p, rfl, not_frz hd hp, hp, .inl ⟨xs, ds, rfl, upd_same, h.ext al.ext⟩⟩
theorem d_tup {k} (h : PA X es (tA' X.K B W ca)) : PE X (.Tuple es k pos) (tC X.K B W (cTup ca)) := PE_mono (pe_tup h) fun s H Q ⟨F, r, es, hO⟩ =>
  tA_bind es hO fun p vs F1 H1 p1 ok1 hO1 => by
    split at hO1
    · rename_i hz
      refine ⟨by rw [ok1.length, sizeLine_eq]; exact hz, fun a ha => ?_⟩
      obtain ⟨al, n⟩ := new_tup p1.es.dom ha ok1
      exact al_end (p := p1) al n hO1
    · exact hO1.elim
theorem d_lst (h : PA X es (tA' X.K B W ca)) : PE X (.List es pos) (tC X.K B W (cLst ca)) := PE_mono (pe_lst h) fun s H Q ⟨F, r, es, hO⟩ =>
  tA_bind es hO fun p vs F1 H1 p1 ok1 hO1 => by
    split at hO1
    · rename_i hz
      refine ⟨by rw [ok1.length, sizeLine_eq]; exact hz, fun a ha => ?_⟩
      obtain ⟨al, n⟩ := new_lst p1.es.dom ha ok1
      exact al_end (p := p1) al n hO1
    · exact hO1.elim
end

/-- f says what the rule rr does of data -/
def OpOk (K : PySem.W.Frag) (rr : R2) (f : D → D → Option Rv) : Prop := ∀ (F : Fz) (H : Hp) (x y : V) (a b : D) (z : Rv) (Q : VK), (∀ c, F c → H c ≠ none) → Rq K F H x a → Rq K F H y b → f a b = some z →
  (∀ v F' H', Al F H F' H' → RvNew K H F' H' v z → Q v H') → rr x y H Q
inductive RqAll (K : PySem.W.Frag) (F : Fz) (H : Hp) : List V → List D → Prop
  | nil : RqAll K F H [] []
  | cons {v : V} {vs : List V} {d : D} {ds : List D} : Rq K F H v d → RqAll K F H vs ds → RqAll K F H (v :: vs) (d :: ds)
def CallOk (K : PySem.W.Frag) (rr : List V → Hp → VK → Prop) (f : List D → Option Rv) : Prop := ∀ (F : Fz) (H : Hp) (xs : List V) (ds : List D) (z : Rv) (Q : VK), (∀ c, F c → H c ≠ none) → RqAll K F H xs ds → f ds = some z →
  (∀ v F' H', Al F H F' H' → RvNew K H F' H' v z → Q v H') → rr xs H Q
def MtOk (K : PySem.W.Frag) (rr : V → List V → Hp → VK → Prop) (f : Str → List D → Option Rv) : Prop := ∀ (F : Fz) (H : Hp) (x : Str) (xs : List V) (ds : List D) (z : Rv) (Q : VK), (∀ c, F c → H c ≠ none) → sOk x → RqAll K F H xs ds → f x ds = some z →
  (∀ v F' H', Al F H F' H' → RvNew K H F' H' v z → Q v H') → rr (.str x) xs H Q

def cBin (f : D → D → Option Rv) (ca cb : C) : C := fun r => (ca r).bind fun p => (cb p.2).bind fun q =>
  ofO ((rsv p.1 q.2).bind fun a => (rsv q.1 q.2).bind fun b => (f a b).map fun z => (z, q.2))
def rsvs : List Rv → DE → Option (List D)
  | [], _ => some []
  | x :: xs, r => (rsv x r).bind fun d => (rsvs xs r).map fun ds => d :: ds
def cCall (f : List D → Option Rv) (cb : CB) : C := fun r => (cb r).bind fun q => ofO ((rsvs q.1 q.2).bind fun ds => (f ds).map fun z => (z, q.2))
def cMt (f : Str → List D → Option Rv) (c : C) (cb : CB) : C := fun r => (c r).bind fun p => match p.1 with
  | .fr (.str x) => (cb p.2).bind fun q => ofO ((rsvs q.1 q.2).bind fun ds => (f x ds).map fun z => (z, q.2))
  | _ => .no
section
variable {K : PySem.W.Frag} {B : Bd} {W : Wx} {F F' F1 F2 : Fz} {H H' H1 H2 : Hp} {s : St} {r r' r1 r2 : DE}
theorem rsvs_ok (e : ES K B F H s r) : ∀ {vs : List V} {xs : List Rv} {ds : List D}, RvAll K B F H s r vs xs → rsvs xs r = some ds → RqAll K F H vs ds
  | _, _, _, .nil, h => by
    cases h
    exact .nil
  | _, _, _, .cons a b, h => by
    unfold rsvs at h
    obtain ⟨d, h1, h⟩ := Option.bind_eq_some_iff.mp h
    obtain ⟨ds, h2, rfl⟩ := Option.map_eq_some_iff.mp h
    exact .cons (rsv_ok e a h1) (rsvs_ok e b h2)
theorem bin_mono {rr : R2} {f : D → D → Option Rv} {ca cb : C} {ta tb : TE} (hf : OpOk K rr f) (ma : ∀ s H Q, tC K B W ca s H Q → ta s H Q) (mb : ∀ s H Q, tC K B W cb s H Q → tb s H Q) (s : St) (H : Hp) (Q : VK)
    (h : tC K B W (cBin f ca cb) s H Q) : tOp rr ta tb s H Q := by
  obtain ⟨F, r, es, hO⟩ := h
  refine ma _ _ _ (tC_bind es hO fun p v F1 H1 p1 ok1 fr1 hO1 => mb _ _ _ (tC_bind p1.es hO1 fun q w F2 H2 p2 ok2 fr2 hO2 => ?_))
  obtain ⟨⟨z, r2⟩, h1, h2⟩ := hO2.ofO
  obtain ⟨a, ha, h1⟩ := Option.bind_eq_some_iff.mp h1
  obtain ⟨b, hb, h1⟩ := Option.bind_eq_some_iff.mp h1
  obtain ⟨z', hz, e⟩ := Option.map_eq_some_iff.mp h1
  cases e
  exact hf F2 H2 v w a b z Q p2.es.dom (rsv_ok p2.es (ok1.pst p2) ha) (rsv_ok p2.es ok2 hb) hz fun v F' H' al n => al_end (p := p1.trans p2) al n h2
theorem call_mono {rr : List V → Hp → VK → Prop} {f : List D → Option Rv} {cb : CB} {t : TA} (hf : CallOk K rr f) (m : ∀ s H Q, tBo K B W cb s H Q → t s H Q) (s : St) (H : Hp) (Q : VK)
    (h : tC K B W (cCall f cb) s H Q) : t s H fun vs H1 => rr vs H1 Q := by
  obtain ⟨F, r, es, hO⟩ := h
  refine m _ _ _ (tB_bind es hO fun q vs F1 H1 p1 ok1 hO1 => ?_)
  obtain ⟨⟨z, r2⟩, h1, h2⟩ := hO1.ofO
  obtain ⟨ds, ha, h1⟩ := Option.bind_eq_some_iff.mp h1
  obtain ⟨z', hz, e⟩ := Option.map_eq_some_iff.mp h1
  cases e
  exact hf F1 H1 vs ds z Q p1.es.dom (rsvs_ok p1.es ok1 ha) hz fun v F' H' al n => al_end (p := p1) al n h2
theorem mt_mono {rr : V → List V → Hp → VK → Prop} {f : Str → List D → Option Rv} {c : C} {cb : CB} {to : TE} {t : TA} {P : V → Hp → Prop} (hf : MtOk K rr f) (hp : ∀ x H, P (.str x) H) (mo : ∀ s H Q, tC K B W c s H Q → to s H Q) (m : ∀ s H Q, tBo K B W cb s H Q → t s H Q) (s : St) (H : Hp) (Q : VK)
    (h : tC K B W (cMt f c cb) s H Q) : to s H fun x H1 => P x H1 ∧ t s H1 fun vs H2 => rr x vs H2 Q := by
  obtain ⟨F, r, es, hO⟩ := h
  refine mo _ _ _ (tC_bind es hO fun p v F1 H1 p1 ok1 _ hO1 => ?_)
  split at hO1
  · rename_i x e
    rw [e] at ok1
    have ok : Rp K F1 H1 v (.str x) := ok1
    cases ok with
    | str _ sk =>
      refine ⟨hp x H1, m _ _ _ (tB_bind p1.es hO1 fun q vs F2 H2 p2 ok2 hO2 => ?_)⟩
      obtain ⟨⟨z, r2⟩, h1, h2⟩ := hO2.ofO
      obtain ⟨ds, ha, h1⟩ := Option.bind_eq_some_iff.mp h1
      obtain ⟨z', hz, e⟩ := Option.map_eq_some_iff.mp h1
      cases e
      exact hf F2 H2 x vs ds z Q p2.es.dom sk (rsvs_ok p2.es ok2 ha) hz fun v F' H' al n => al_end (p := p1.trans p2) al n h2
  · exact hO1.elim
end
section
variable {X : Cx} {B : Bd} {W : Wx} {a b : Expr} {es : List Expr} {ca cb : C} {cs : CB} {pos : Pos} {rr : R2} {f : D → D → Option Rv}
theorem d_op {op : Operator} (ho : OpR X (binaryOp op) rr) (hf : OpOk X.K rr f) (ha : PE X a (tC X.K B W ca)) (hb : PE X b (tC X.K B W cb)) : PE X (.BinOp a op b pos) (tC X.K B W (cBin f ca cb)) :=
  PE_mono (pe_op ho ha hb) (bin_mono hf (fun _ _ _ h => h) fun _ _ _ h => h)
theorem d_cmp {op : CmpOp} (ho : OpR X (compareOp op) rr) (hf : OpOk X.K rr f) (ha : PE X a (tC X.K B W ca)) (hb : PE X b (tC X.K B W cb)) (hm : behindInMarks op b = false := by rfl) : PE X (.Compare a [op] [b] pos) (tC X.K B W (cBin f ca cb)) :=
  PE_mono (pe_cmpR ho ha hb hm) (bin_mono hf (fun _ _ _ h => h) fun _ _ _ h => h)
theorem d_ix (ho : IxR X rr) (hf : OpOk X.K rr f) (ha : PE X a (tC X.K B W ca)) (hb : PE X b (tC X.K B W cb)) (hs : PlainIx b := by exact fun _ _ => rfl) : PE X (.Subscript a b pos) (tC X.K B W (cBin f ca cb)) :=
  PE_mono (pe_ix ho ha hb hs) (bin_mono hf (fun _ _ _ h => h) fun _ _ _ h => h)
end
end Ed
end
section
namespace Ed
open PySem PySem.Spec L2

section
variable {K : PySem.W.Frag} {F F' : Fz} {H H' : Hp} {v : V} {i : Int} {b : Bool} {x : Str} {ds : List D}
theorem Rq.vInt (h : Rq K F H v (.int i)) : v = .int i := by
  cases h with
  | fz h => cases h; rfl
  | rt h => rcases h with ⟨_, _, e, _⟩ | ⟨_, _, e, _⟩ <;> cases e
theorem Rq.vBl (h : Rq K F H v (.bool b)) : v = .bl b := by
  cases h with
  | fz h => cases h; rfl
  | rt h => rcases h with ⟨_, _, e, _⟩ | ⟨_, _, e, _⟩ <;> cases e
theorem Rq.vNon (h : Rq K F H v .none) : v = .non := by
  cases h with
  | fz h => cases h; rfl
  | rt h => rcases h with ⟨_, _, e, _⟩ | ⟨_, _, e, _⟩ <;> cases e
theorem Rq.vStr (h : Rq K F H v (.str x)) : v = .str x ∧ sOk x := by
  cases h with
  | fz h => cases h with | str _ k => exact ⟨rfl, k⟩
  | rt h => rcases h with ⟨_, _, e, _⟩ | ⟨_, _, e, _⟩ <;> cases e
theorem Rq.vLst (h : Rq K F H v (.list ds)) : ∃ a xs, v = .ref a ∧ Rd H a (.lst xs) ∧ RpAll K F H xs ds := by
  cases h with
  | fz h => cases h with | lst f q r => exact ⟨_, _, rfl, q, r⟩
  | rt h =>
    rcases h with ⟨xs, es, e, q, r⟩ | ⟨_, _, e, _⟩
    · cases e
      exact ⟨_, xs, rfl, .of q, r⟩
    · cases e
theorem Rq.vTup (h : Rq K F H v (.tuple ds)) : ∃ a xs, v = .ref a ∧ SqT K H a xs ∧ RpAll K F H xs ds ∧ Rp K F H v (.tuple ds) := by
  cases h with
  | fz h =>
    have h' := h
    cases h with
    | tup q r => exact ⟨_, _, rfl, q.elim (fun q => .inl q.2) (fun q => q.seq H), r, h'⟩
  | rt h => rcases h with ⟨_, _, e, _⟩ | ⟨_, _, e, _⟩ <;> cases e
end

def cTestOf (c : C) : CT := fun r => (c r).bind fun p => match p.1 with
  | .fr (.bool k) => .ok (k, p.2)
  | _ => .no
def tru : D → Option Bool
  | .none => some false
  | .bool b => some b
  | .int i => some (i != 0)
  | .str x => some ((x.length : Int) != 0)
  | .list xs => some (!xs.isEmpty)
  | .tuple xs => some (!xs.isEmpty)
  | .dict _ => none
def cTruth (c : C) : CT := fun r => (c r).bind fun p => ofO ((rsv p.1 p.2).bind fun d => (tru d).map fun k => (k, p.2))
def cNotT (c : CT) : CT := fun r => (c r).bind fun p => .ok (!p.1, p.2)
def cAndT (a b : CT) : CT := fun r => (a r).bind fun p => match p.1 with
  | true => b p.2
  | false => .ok (false, p.2)
def cOrT (a b : CT) : CT := fun r => (a r).bind fun p => match p.1 with
  | true => .ok (true, p.2)
  | false => b p.2
def cIf (t : CT) (a b : C) : C := fun r => (t r).bind fun p => match p.1 with
  | true => a p.2
  | false => b p.2
/-- a and b, a or b as values: all but the last a truth -/
def cAnd (a b : C) : C := fun r => (a r).bind fun p => match p.1 with
  | .fr (.bool true) => b p.2
  | .fr (.bool false) => .ok (.fr (.bool false), p.2)
  | _ => .no
def cOr (a b : C) : C := fun r => (a r).bind fun p => match p.1 with
  | .fr (.bool false) => b p.2
  | .fr (.bool true) => .ok (.fr (.bool true), p.2)
  | _ => .no
def cNot (a : C) : C := fun r => (a r).bind fun p => match p.1 with
  | .fr (.bool k) => .ok (.fr (.bool (!k)), p.2)
  | _ => .no

section
variable {K : PySem.W.Frag} {B : Bd} {W : Wx} {F F' F1 F2 : Fz} {H H' H1 H2 : Hp} {s : St} {r r' r1 r2 : DE}
theorem test_mono {c : C} {t : TE} (m : ∀ s H Q, tC K B W c s H Q → t s H Q) (s : St) (H : Hp) (Q : Bool → Hp → Prop) (h : tT K B W (cTestOf c) s H Q) : t s H fun x H' => ∃ k, x = .bl k ∧ Q k H' := by
  obtain ⟨F, r, es, hO⟩ := h
  refine m _ _ _ (tC_bind es hO fun p v F1 H1 p1 ok1 _ hO1 => ?_)
  split at hO1
  · rename_i k e
    rw [e] at ok1
    have ok : Rp K F1 H1 v (.bool k) := ok1
    cases ok
    exact ⟨k, rfl, hO1 F1 H1 p1⟩
  · exact hO1.elim
theorem isEmpty_all {vs : List V} {ds : List D} (h : RpAll K F H vs ds) : vs.isEmpty = ds.isEmpty := by
  cases h <;> rfl
theorem tru_is {v : V} {d : D} {k : Bool} (h : Rq K F H v d) (e : tru d = some k) : TruV K v H k := by
  cases d with
  | none => cases h.vNon; cases e; exact rfl
  | bool b => cases h.vBl; cases e; exact rfl
  | int i => cases h.vInt; cases e; exact rfl
  | str x =>
    obtain ⟨rfl, sk⟩ := h.vStr
    cases e
    exact ⟨Nat.le_trans sk.len (by rw [sizeLine_eq]; decide), rfl⟩
  | list ds =>
    obtain ⟨a, xs, rfl, q, r⟩ := h.vLst
    cases e
    exact .inl ⟨xs, .inl q, by rw [isEmpty_all r]⟩
  | tuple ds =>
    obtain ⟨a, xs, rfl, q, r, _⟩ := h.vTup
    cases e
    exact .inr (.inl ⟨xs, q, by rw [isEmpty_all r]⟩)
  | dict ds => cases e
theorem truth_mono {c : C} {t : TE} (m : ∀ s H Q, tC K B W c s H Q → t s H Q) (s : St) (H : Hp) (Q : Bool → Hp → Prop) (h : tT K B W (cTruth c) s H Q) : t s H fun x H' => ∃ k, TruV K x H' k ∧ Q k H' := by
  obtain ⟨F, r, es, hO⟩ := h
  refine m _ _ _ (tC_bind es hO fun p v F1 H1 p1 ok1 _ hO1 => ?_)
  obtain ⟨⟨k, r2⟩, h1, h2⟩ := hO1.ofO
  obtain ⟨d, hd, h1⟩ := Option.bind_eq_some_iff.mp h1
  obtain ⟨k', hk, e⟩ := Option.map_eq_some_iff.mp h1
  cases e
  exact ⟨k, tru_is (rsv_ok p1.es ok1 hd) hk, h2 F1 H1 p1⟩
theorem OutP.tT {c : CT} {Q : Bool → Hp → Prop} (es : ES K B F H s r) (h : OutP (c r) (fun p => ∀ F' H', Pst K B F H s r F' H' p.2 → Q p.1 H') (EW K B W F H)) : tT K B W c s H Q := ⟨F, r, es, h⟩
/-- from a later state -/
theorem tT_later {c : CT} {Q : Bool → Hp → Prop} (p1 : Pst K B F H s r F1 H1 r1) (h : OutP (c r1) (fun p => ∀ F' H', Pst K B F H s r F' H' p.2 → Q p.1 H') (EW K B W F1 H1)) : tT K B W c s H1 Q :=
  ⟨F1, r1, p1.es, h.mono (fun p hp F' H' p2 => hp F' H' (p1.trans p2)) fun _ _ x => x⟩
theorem tC_later {c : C} {Q : VK} (p1 : Pst K B F H s r F1 H1 r1) (h : OutP (c r1) (fun p => ∀ v F' H', Pst K B F H s r F' H' p.2 → RvOk K B F' H' s p.2 v p.1 → Fresh H v p.1 → Q v H') (EW K B W F1 H1)) : tC K B W c s H1 Q := by
  refine ⟨F1, r1, p1.es, h.mono (fun p hp v F' H' p2 ok fr => hp v F' H' (p1.trans p2) ok ?_) fun _ _ x => x⟩
  cases hx : p.1 with
  | fr d => exact trivial
  | sl i => exact trivial
  | ow d =>
    intro a ha
    rw [hx] at fr
    exact p1.grow a (fr a ha)
end
section
variable {X : Cx} {B : Bd} {W : Wx} {a b e : Expr} {rest : List Expr} {ca cb c : C} {ta tb t : CT} {pos : Pos} {rr : R2} {f : D → D → Option Rv}
theorem d_cmpT {op : CmpOp} (ho : OpR X (compareOp op) rr) (hf : OpOk X.K rr f) (ha : PE X a (tC X.K B W ca)) (hb : PE X b (tC X.K B W cb)) (hm : behindInMarks op b = false := by rfl) : PT X (.Compare a [op] [b] pos) (tT X.K B W (cTestOf (cBin f ca cb))) :=
  PT_mono (pt_cmpR ho ha hb hm) (test_mono (bin_mono hf (fun _ _ _ h => h) fun _ _ _ h => h))
theorem d_truth (h : PE X e (tC X.K B W c)) (he : ∀ whole, isTrue e X.env whole = (do let v ← whole; standAt e.pos; holding [v] (truthy v)) := by intro _; rfl) : PT X e (tT X.K B W (cTruth c)) :=
  PT_mono (pt_truth h he) (truth_mono fun _ _ _ h => h)
theorem d_notT (h : PT X e (tT X.K B W t)) : PT X (.UnaryOp .Not e pos) (tT X.K B W (cNotT t)) :=
  PT_mono (pt_not h) fun s H Q ⟨F, r, es, hO⟩ => tT_bind es hO fun p F1 H1 p1 hO1 => hO1 F1 H1 p1
theorem d_and1 (h : PT X a (tT X.K B W ta)) : PW X (.BoolOp .And [a] pos) (tT X.K B W ta) := pw_and1 h
theorem d_or1 (h : PT X a (tT X.K B W ta)) : PW X (.BoolOp .Or [a] pos) (tT X.K B W ta) := pw_or1 h
theorem d_andT (h : PT X a (tT X.K B W ta)) (h2 : PW X (.BoolOp .And (b :: rest) pos) (tT X.K B W tb)) : PW X (.BoolOp .And (a :: b :: rest) pos) (tT X.K B W (cAndT ta tb)) :=
  PW_mono (pw_and h h2) fun s H Q ⟨F, r, es, hO⟩ => tT_bind es hO fun p F1 H1 p1 hO1 => by
    cases e : p.1 with
    | true => simp only [e] at hO1; exact iteT (tT_later p1 hO1)
    | false => simp only [e] at hO1; exact iteF (hO1 F1 H1 p1)
theorem d_orT (h : PT X a (tT X.K B W ta)) (h2 : PW X (.BoolOp .Or (b :: rest) pos) (tT X.K B W tb)) : PW X (.BoolOp .Or (a :: b :: rest) pos) (tT X.K B W (cOrT ta tb)) :=
  PW_mono (pw_or h h2) fun s H Q ⟨F, r, es, hO⟩ => tT_bind es hO fun p F1 H1 p1 hO1 => by
    cases e : p.1 with
    | true => simp only [e] at hO1; exact iteT (hO1 F1 H1 p1)
    | false => simp only [e] at hO1; exact iteF (tT_later p1 hO1)
theorem d_pw (h : PW X e (tT X.K B W t)) : PT X e (tT X.K B W t) := h.pt
theorem d_if {q : Expr} (h : PT X q (tT X.K B W t)) (ha : PE X a (tC X.K B W ca)) (hb : PE X b (tC X.K B W cb)) : PE X (.IfExp q a b pos) (tC X.K B W (cIf t ca cb)) :=
  PE_mono (pe_ifExp h ha hb) fun s H Q ⟨F, r, es, hO⟩ => tT_bind es hO fun p F1 H1 p1 hO1 => by
    cases e : p.1 with
    | true => simp only [e] at hO1; exact iteT (tC_later p1 hO1)
    | false => simp only [e] at hO1; exact iteF (tC_later p1 hO1)
theorem d_one {op} (h : PE X a (tC X.K B W ca)) : PE X (.BoolOp op [a] pos) (tC X.K B W ca) := pe_one h
theorem d_and (h : PE X a (tC X.K B W ca)) (h2 : PE X (.BoolOp .And (b :: rest) pos) (tC X.K B W cb)) : PE X (.BoolOp .And (a :: b :: rest) pos) (tC X.K B W (cAnd ca cb)) :=
  PE_mono (pe_and h h2) fun s H Q ⟨F, r, es, hO⟩ => tC_bind es hO fun p v F1 H1 p1 ok1 _ hO1 => by
    split at hO1
    · rename_i e
      rw [e] at ok1
      have ok : Rp X.K F1 H1 v (.bool true) := ok1
      cases ok
      exact ⟨true, rfl, iteT (tC_later p1 hO1)⟩
    · rename_i e
      rw [e] at ok1
      have ok : Rp X.K F1 H1 v (.bool false) := ok1
      cases ok
      exact ⟨false, rfl, iteF (hO1 _ F1 H1 p1 (.bl false) trivial)⟩
    · exact hO1.elim
theorem d_or (h : PE X a (tC X.K B W ca)) (h2 : PE X (.BoolOp .Or (b :: rest) pos) (tC X.K B W cb)) : PE X (.BoolOp .Or (a :: b :: rest) pos) (tC X.K B W (cOr ca cb)) :=
  PE_mono (pe_or h h2) fun s H Q ⟨F, r, es, hO⟩ => tC_bind es hO fun p v F1 H1 p1 ok1 _ hO1 => by
    split at hO1
    · rename_i e
      rw [e] at ok1
      have ok : Rp X.K F1 H1 v (.bool false) := ok1
      cases ok
      exact ⟨false, rfl, iteF (tC_later p1 hO1)⟩
    · rename_i e
      rw [e] at ok1
      have ok : Rp X.K F1 H1 v (.bool true) := ok1
      cases ok
      exact ⟨true, rfl, iteT (hO1 _ F1 H1 p1 (.bl true) trivial)⟩
    · exact hO1.elim
theorem d_not (h : PE X a (tC X.K B W ca)) : PE X (.UnaryOp .Not a pos) (tC X.K B W (cNot ca)) :=
  PE_mono (pe_not h) fun s H Q ⟨F, r, es, hO⟩ => tC_bind es hO fun p v F1 H1 p1 ok1 _ hO1 => by
    split at hO1
    · rename_i k e
      rw [e] at ok1
      have ok : Rp X.K F1 H1 v (.bool k) := ok1
      cases ok
      exact ⟨k, rfl, hO1 _ F1 H1 p1 (.bl _) trivial⟩
    · exact hO1.elim
end

def cChain (f g : D → D → Option Rv) (ca cb cc : C) : C := fun r => (ca r).bind fun p => (cb p.2).bind fun q =>
  (ofO ((rsv p.1 q.2).bind fun a => (rsv q.1 q.2).bind fun b => f a b)).bind fun z => match z with
    | .fr (.bool true) => (cc q.2).bind fun u => ofO ((rsv q.1 u.2).bind fun b => (rsv u.1 u.2).bind fun c => (g b c).map fun z => (z, u.2))
    | .fr (.bool false) => .ok (.fr (.bool false), q.2)
    | _ => .no
section
variable {X : Cx} {B : Bd} {W : Wx} {a b c : Expr} {ca cb cc : C} {pos : Pos} {rr rr' : R2} {f g : D → D → Option Rv}
theorem chain_mono {K : PySem.W.Frag} (hf : OpOk K rr f) (hg : OpOk K rr' g) (s : St) (H : Hp) (Q : VK) (h : tC K B W (cChain f g ca cb cc) s H Q) : tChain rr rr' (tC K B W ca) (tC K B W cb) (tC K B W cc) s H Q := by
  obtain ⟨F, r, es, hO⟩ := h
  refine tC_bind es hO fun p v F1 H1 p1 ok1 _ hO1 => tC_bind p1.es hO1 fun q w F2 H2 p2 ok2 _ hO2 => ?_
  obtain ⟨z, h1, h2⟩ := (OutP.bind hO2).ofO
  obtain ⟨x, ha, h1⟩ := Option.bind_eq_some_iff.mp h1
  obtain ⟨y, hb, h1⟩ := Option.bind_eq_some_iff.mp h1
  refine hf F2 H2 v w x y z _ p2.es.dom (rsv_ok p2.es (ok1.pst p2) ha) (rsv_ok p2.es ok2 hb) h1 fun v' F' H' al n => ?_
  have p3 := al.pst p2.es
  split at h2
  · have ok : Rp K F' H' v' (.bool true) := n
    cases ok
    refine ⟨true, rfl, iteT (tC_bind p3.es (h2.mono (fun _ x => x) (EW.step p3.ext)) fun u w' F4 H4 p4 ok4 _ hO4 => ?_)⟩
    obtain ⟨⟨z', r4⟩, g1, g2⟩ := hO4.ofO
    obtain ⟨y', hb', g1⟩ := Option.bind_eq_some_iff.mp g1
    obtain ⟨c', hc', g1⟩ := Option.bind_eq_some_iff.mp g1
    obtain ⟨z2, hz, e⟩ := Option.map_eq_some_iff.mp g1
    cases e
    exact hg F4 H4 w w' y' c' z' Q p4.es.dom (rsv_ok p4.es ((ok2.pst p3).pst p4) hb') (rsv_ok p4.es ok4 hc') hz fun v'' F'' H'' al' n' => al_end (p := ((p1.trans p2).trans p3).trans p4) al' n' g2
  · have ok : Rp K F' H' v' (.bool false) := n
    cases ok
    exact ⟨false, rfl, iteF (h2 _ F' H' ((p1.trans p2).trans p3) (.bl false) trivial)⟩
  · exact h2.elim
theorem d_chain {op op' : CmpOp} (ho : OpR X (compareOp op) rr) (ho' : OpR X (compareOp op') rr') (hf : OpOk X.K rr f) (hg : OpOk X.K rr' g) (ha : PE X a (tC X.K B W ca)) (hb : PE X b (tC X.K B W cb)) (hc : PE X c (tC X.K B W cc))
    (hm : lastMarks [op, op'] [b, c] = false := by with_unfolding_all rfl) : PE X (.Compare a [op, op'] [b, c] pos) (tC X.K B W (cChain f g ca cb cc)) := PE_mono (pe_chain ho ho' ha hb hc hm) (chain_mono hf hg)
theorem d_chainT {op op' : CmpOp} (ho : OpR X (compareOp op) rr) (ho' : OpR X (compareOp op') rr') (hf : OpOk X.K rr f) (hg : OpOk X.K rr' g) (ha : PE X a (tC X.K B W ca)) (hb : PE X b (tC X.K B W cb)) (hc : PE X c (tC X.K B W cc))
    (hm : lastMarks [op, op'] [b, c] = false := by with_unfolding_all rfl) : PT X (.Compare a [op, op'] [b, c] pos) (tT X.K B W (cTestOf (cChain f g ca cb cc))) := PT_mono (pt_chain ho ho' ha hb hc hm) (test_mono (chain_mono hf hg))
end

abbrev CO := DE → Out (Option Int × DE)
def cPNone : CO := fun r => .ok (none, r)
def cPSome (c : C) : CO := fun r => (c r).bind fun p => match p.1 with
  | .fr (.int i) => .ok (some i, p.2)
  | _ => .no
def tO (K : PySem.W.Frag) (B : Bd) (W : Wx) (c : CO) : TO := fun s H Q => ∃ F r, ES K B F H s r ∧
  OutP (c r) (fun p => ∀ F' H', Pst K B F H s r F' H' p.2 → Q p.1 H') (EW K B W F H)
def SlOk (K : PySem.W.Frag) (rr : V → Option Int → Option Int → Hp → VK → Prop) (f : D → Option Int → Option Int → Option Rv) : Prop := ∀ (F : Fz) (H : Hp) (x : V) (a : D) (lo hi : Option Int) (z : Rv) (Q : VK), (∀ c, F c → H c ≠ none) → Rq K F H x a → f a lo hi = some z →
  (∀ v F' H', Al F H F' H' → RvNew K H F' H' v z → Q v H') → rr x lo hi H Q
def cSl (f : D → Option Int → Option Int → Option Rv) (c : C) (lo hi : CO) : C := fun r => (c r).bind fun p => (lo p.2).bind fun q => (hi q.2).bind fun u =>
  ofO ((rsv p.1 u.2).bind fun a => (f a q.1 u.1).map fun z => (z, u.2))
section
variable {X : Cx} {B : Bd} {W : Wx} {e : Expr} {lo hi : Option Expr} {c : C} {cl ch : CO} {pos p2 : Pos} {rr : V → Option Int → Option Int → Hp → VK → Prop} {f : D → Option Int → Option Int → Option Rv}
theorem PO_mono {e : Option Expr} {t t' : TO} (h : PO X e t) (m : ∀ s H Q, t' s H Q → t s H Q) : PO X e t' := ⟨fun pins s σ H Q I q => h.run pins s σ H Q I (m _ _ _ q)⟩
theorem d_pnone : PO X none (tO X.K B W cPNone) := PO_mono po_none fun s H Q ⟨F, r, es, hO⟩ => hO F H (.refl es)
theorem d_psome (h : PE X e (tC X.K B W c)) : PO X (some e) (tO X.K B W (cPSome c)) := PO_mono (po_some h) fun s H Q ⟨F, r, es, hO⟩ => tC_bind es hO fun p v F1 H1 p1 ok1 _ hO1 => by
  split at hO1
  · rename_i i e
    rw [e] at ok1
    have ok : Rp X.K F1 H1 v (.int i) := ok1
    cases ok
    exact ⟨i, rfl, hO1 F1 H1 p1⟩
  · exact hO1.elim
theorem tO_bind {K : PySem.W.Frag} {F : Fz} {H : Hp} {s : St} {r : DE} {β : Type} {c : CO} {f : Option Int × DE → Out β} {P : β → Prop} {Q : Option Int → Hp → Prop} (es : ES K B F H s r) (hO : OutP ((c r).bind f) P (EW K B W F H))
    (h : ∀ p F1 H1, Pst K B F H s r F1 H1 p.2 → OutP (f p) P (EW K B W F1 H1) → Q p.1 H1) : tO K B W c s H Q :=
  ⟨F, r, es, hO.bind.mono (fun p hp F1 H1 ps => h p F1 H1 ps (hp.mono (fun _ x => x) (EW.step ps.ext))) fun _ _ x => x⟩
theorem d_slice (hr : SlR X rr) (hf : SlOk X.K rr f) (he : PE X e (tC X.K B W c)) (hl : PO X lo (tO X.K B W cl)) (hh : PO X hi (tO X.K B W ch)) : PE X (.Subscript e (.Slice lo hi none p2) pos) (tC X.K B W (cSl f c cl ch)) :=
  PE_mono (pe_slice hr he hl hh) fun s H Q ⟨F, r, es, hO⟩ => tC_bind es hO fun p v F1 H1 p1 ok1 _ hO1 => tO_bind p1.es hO1 fun q F2 H2 p2 hO2 => tO_bind p2.es hO2 fun u F3 H3 p3 hO3 => by
    obtain ⟨⟨z, r4⟩, h1, h2⟩ := hO3.ofO
    obtain ⟨a, ha, h1⟩ := Option.bind_eq_some_iff.mp h1
    obtain ⟨z', hz, e⟩ := Option.map_eq_some_iff.mp h1
    cases e
    exact hf F3 H3 v a q.1 u.1 z Q p3.es.dom (rsv_ok p3.es ((ok1.pst p2).pst p3) ha) hz fun v F' H' al n => al_end (p := (p1.trans p2).trans p3) al n h2
end

section
variable {X : Cx} {B : Bd} {W : Wx} {e o : Expr} {es : List Expr} {c : C} {cs : CB} {pos p apos : Pos} {x name : Str} {id T : String} {rr : List V → Hp → VK → Prop} {rm : V → List V → Hp → VK → Prop} {f : List D → Option Rv} {g : Str → List D → Option Rv}
theorem d_callB (hc : CallR X (.builtin id) rr) (hf : CallOk X.K rr f) (hg : Gl X x) (hm : X.mg x = none) (hv : bootBuiltins x = some (.builtin id)) (ha : PA X (e :: es) (tBo X.K B W cs)) (hn : x ≠ "__name__" := by decide) (hdb : (x == ("__debug__" : Str)) = false := by decide)
    (he : starEach (e :: es) X.env = (false, eval e X.env) :: starEach es X.env := by rfl) (hpl : (backTo pos (starEach es X.env)).any (·.1) = false := by rfl) : PE X (.Call (.Name x p) (e :: es) [] pos) (tC X.K B W (cCall f cs)) :=
  PE_mono (pe_callB hc hg hm hv ha hn hdb he hpl) (call_mono hf fun _ _ _ h => h)
theorem d_callTy (hc : CallR X (.type T) rr) (hf : CallOk X.K rr f) (hg : Gl X x) (hm : X.mg x = none) (hv : bootBuiltins x = some (.type T)) (ha : PA X (e :: es) (tBo X.K B W cs)) (hn : x ≠ "__name__" := by decide) (hdb : (x == ("__debug__" : Str)) = false := by decide)
    (he : starEach (e :: es) X.env = (false, eval e X.env) :: starEach es X.env := by rfl) (hpl : (backTo pos (starEach es X.env)).any (·.1) = false := by rfl) : PE X (.Call (.Name x p) (e :: es) [] pos) (tC X.K B W (cCall f cs)) :=
  PE_mono (pe_callTy hc hg hm hv ha hn hdb he hpl) (call_mono hf fun _ _ _ h => h)
end
end Ed
end
section
namespace Ed
open PySem PySem.Spec L2

def mutS (i : Nat) (d : D) (r : DE) : DE := match r.getD i .no with
  | .io _ => r.set i (.io d)
  | _ => r.set i (.ow d)
def ownD (r : DE) (i : Nat) : Option D := match r.getD i .no with
  | .io d => some d
  | .ow d => some d
  | _ => none
theorem ownD_of {r : DE} {i : Nat} {d : D} (h : ownD r i = some d) : (r[i]? = some (.ow d) ∧ ∀ d', mutS i d' r = r.set i (.ow d')) ∨ (r[i]? = some (.io d) ∧ ∀ d', mutS i d' r = r.set i (.io d')) := by
  unfold ownD at h
  cases q : r.getD i .no with
  | no => simp only [q] at h; cases h
  | fr e => simp only [q] at h; cases h
  | ow e =>
    simp only [q] at h
    cases h
    exact .inl ⟨getD_some q (by simp), fun d' => by unfold mutS; rw [q]⟩
  | io e =>
    simp only [q] at h
    cases h
    exact .inr ⟨getD_some q (by simp), fun d' => by unfold mutS; rw [q]⟩
section
variable {K : PySem.W.Frag} {B : Bd} {W : Wx} {F F' F1 F2 : Fz} {H H' H1 H2 : Hp} {s : St} {r r' r1 r2 : DE} {a : Addr} {d d' : D} {o : HO} {i : Nat}
theorem own_root (e : ES K B F H s r) (h : ownD r i = some d) : ∃ a, s[i]? = some (some (.ref a)) ∧ ¬ F a ∧ Root K F H a d ∧ OwAt r s a ∧ Live r i := by
  rcases ownD_of h with ⟨h, _⟩ | ⟨h, _⟩
  · obtain ⟨a, h1, h2, h3, _⟩ := e.ow i d h
    exact ⟨a, h1, h2, h3, ⟨i, _, h, trivial, h1⟩, _, h, by simp⟩
  · obtain ⟨_, a, h1, h2, h3, _⟩ := e.io i d h
    exact ⟨a, h1, h2, h3, ⟨i, _, h, trivial, h1⟩, _, h, by simp⟩
theorem ext_upd (hf : ¬ F a) : Ext F H F (upd H a o) := ⟨fun _ h => h, fun b u h q => by
  have ne : b ≠ a := fun z => hf (z ▸ h)
  unfold Rd at q ⊢
  rw [upd_ne ne]
  exact q⟩
theorem mut_ok (e : ES K B F H s r) (h : ownD r i = some d) (hs : s[i]? = some (some (.ref a))) (hr : Root K F (upd H a o) a d') : Pst K B F H s r F (upd H a o) (mutS i d' r) := by
  obtain ⟨a', g1, g2, g3, g4, g5⟩ := own_root e h
  rw [hs] at g1
  cases g1
  have ex := ext_upd (o := o) (H := H) g2
  have hz : B.H0 a = none ∨ B.io = some a := (e.owAt g4).2.2
  have key : ∃ q : D → Sl, (∀ d, q d ≠ .no ∧ isOw (q d)) ∧ r[i]? = some (q d) ∧ mutS i d' r = r.set i (q d') ∧ ((q = Sl.ow ∧ B.H0 a = none) ∨ (q = Sl.io ∧ i = 0 ∧ B.io = some a)) := by
    rcases ownD_of h with ⟨h, m⟩ | ⟨h, m⟩
    · obtain ⟨b, k1, _, _, k4⟩ := e.ow i d h
      rw [hs] at k1
      cases k1
      exact ⟨Sl.ow, fun d => ⟨by simp, trivial⟩, h, m d', .inl ⟨rfl, k4⟩⟩
    · obtain ⟨k0, b, k1, _, _, k4⟩ := e.io i d h
      rw [hs] at k1
      cases k1
      exact ⟨Sl.io, fun d => ⟨by simp, trivial⟩, h, m d', .inr ⟨rfl, k0, k4⟩⟩
  obtain ⟨q, q1, q2, q3, q4⟩ := key
  have neo : ∀ j x b, j ≠ i → r[j]? = some x → isOw x → s[j]? = some (some (V.ref b)) → b ≠ a := fun j x b hj h1 h2 h3 z => by
    subst z
    cases x with
    | no => exact h2
    | fr _ => exact h2
    | ow d1 =>
      obtain ⟨c, k1, _, _, k4⟩ := e.ow j d1 h1
      rw [h3] at k1
      cases k1
      rcases q4 with ⟨rfl, q5⟩ | ⟨rfl, q5, q6⟩
      · exact hj (e.sep j i b d1 d h1 q2 h3 hs)
      · exact (e.ioK b q6).2.1 k4
    | io d1 =>
      obtain ⟨k0, c, k1, _, _, k4⟩ := e.io j d1 h1
      rw [h3] at k1
      cases k1
      rcases q4 with ⟨rfl, q5⟩ | ⟨rfl, q5, q6⟩
      · exact (e.ioK b k4).2.1 q5
      · exact hj (k0.trans q5.symm)
  rw [q3]
  refine ⟨⟨by rw [List.length_set]; exact e.len, fun b h => ?_, e.sub, e.new, fun b u f h => ex.rd b u (e.sub b f) (e.kpF b u f h), fun b u h1 h2 h3 => ?_, fun j d1 w => ?_, fun j d1 w => ?_, fun j d1 w => ?_, fun j k b d1 d2 w1 w2 w3 w4 => ?_, fun b hb => ?_⟩,
    ex.sub, ex.rd, fun b h => .inl h, fun b u h1 h2 h3 => ?_, fun b h => ?_, fun j w => live_set (q1 d').1 w, fun j x w1 w2 => ?_⟩
  · by_cases z : b = a
    · subst z
      rw [upd_same]
      simp
    · rw [upd_ne z]
      exact e.dom b h
  · by_cases z : b = a
    · subst z
      rcases hz with hz | hz
      · rw [hz] at h1
        cases h1
      · exact absurd hz h3
    · rw [upd_ne z]
      exact e.kp b u h1 h2 h3
  · rcases set_cases w with ⟨z1, z2⟩ | ⟨hj, w⟩
    · have := (q1 d').2
      rw [← z2] at this
      exact this.elim
    · obtain ⟨v, g1, g2⟩ := e.fr j d1 w
      exact ⟨v, g1, g2.ext ex⟩
  · rcases set_cases w with ⟨z1, z2⟩ | ⟨hj, w⟩
    · rcases q4 with ⟨rfl, q5⟩ | ⟨rfl, q5, q6⟩
      · cases z2
        subst z1
        exact ⟨a, hs, g2, hr, q5⟩
      · cases z2
    · obtain ⟨b, k1, k2, k3, k4⟩ := e.ow j d1 w
      have ne := neo j _ b hj w trivial k1
      exact ⟨b, k1, k2, k3.ext ex fun o' h => by rw [upd_ne ne]; exact h, k4⟩
  · rcases set_cases w with ⟨z1, z2⟩ | ⟨hj, w⟩
    · rcases q4 with ⟨rfl, q5⟩ | ⟨rfl, q5, q6⟩
      · cases z2
      · cases z2
        subst z1
        exact ⟨q5, a, hs, g2, hr, q6⟩
    · obtain ⟨k0, b, k1, k2, k3, k4⟩ := e.io j d1 w
      have ne := neo j _ b hj w trivial k1
      exact ⟨k0, b, k1, k2, k3.ext ex fun o' h => by rw [upd_ne ne]; exact h, k4⟩
  · rcases set_cases w1 with ⟨z1, z2⟩ | ⟨hj, u1⟩
    · rcases set_cases w2 with ⟨y1, y2⟩ | ⟨hk, u2⟩
      · rw [z1, y1]
      · subst z1
        rw [hs] at w3
        cases w3
        exact absurd rfl (neo k _ a hk u2 trivial w4)
    · rcases set_cases w2 with ⟨y1, y2⟩ | ⟨hk, u2⟩
      · subst y1
        rw [hs] at w4
        cases w4
        exact absurd rfl (neo j _ a hj u1 trivial w3)
      · exact e.sep j k b d1 d2 u1 u2 w3 w4
  · obtain ⟨⟨d1, hd⟩, k2⟩ := e.ioK b hb
    refine ⟨?_, k2⟩
    by_cases z : i = 0
    · rcases q4 with ⟨rfl, q5⟩ | ⟨rfl, q5, q6⟩
      · subst z
        rw [hd] at q2
        cases q2
      · subst z
        have hl := (List.getElem?_eq_some_iff.mp q2).1
        exact ⟨d', List.getElem?_set_self hl⟩
    · exact ⟨d1, by rw [List.getElem?_set_ne z]; exact hd⟩
  · have ne : b ≠ a := fun z => h3 (z ▸ g4)
    rw [upd_ne ne]
    exact h1
  · by_cases z : b = a
    · subst z
      rw [upd_same] at h
      cases h
    · rw [upd_ne z] at h
      exact h
  · rcases set_cases w1 with ⟨z1, z2⟩ | ⟨_, w1⟩
    · exact ⟨q d, by rw [z1]; exact q2, (q1 d).2⟩
    · exact ⟨x, w1, w2⟩
end

def MutOk (K : PySem.W.Frag) (T : String) (rr : V → List V → Hp → VK → Prop) (f : D → List D → Option (D × D)) : Prop :=
  (∀ (F : Fz) (H : Hp) (a : Addr) (d : D) (ds : List D), Root K F H a d → (∃ ds y, f d ds = some y) → tyV K T (.ref a) H) ∧
  ∀ (F : Fz) (H : Hp) (a : Addr) (vs : List V) (d : D) (ds : List D) (d' z : D) (Q : VK), ¬ F a → Root K F H a d → RpAll K F H vs ds → f d ds = some (d', z) →
  (∀ v o, Root K F (upd H a o) a d' → Rp K F (upd H a o) v z → Q v (upd H a o)) → rr (.ref a) vs H Q
/-- chk: a look at the receiver ahead of the arguments -/
def cMut (chk : D → Bool) (f : D → List D → Option (D × D)) (i : Nat) (ca : CA) : C := fun r => match ownD r i with
  | none => .no
  | some d0 => match chk d0 with
    | false => .no
    | true => (ca r).bind fun q => ofO ((ownD q.2 i).bind fun d => (f d q.1).map fun y => (.fr y.2, mutS i y.1 q.2))
def isL : D → Bool
  | .list _ => true
  | _ => false
def isDc : D → Bool
  | .dict _ => true
  | _ => false
theorem tyV_L {K : PySem.W.Frag} {F : Fz} {H : Hp} {a : Addr} {d : D} (h : Root K F H a d) (e : isL d = true) : tyV K "list" (.ref a) H := by
  rcases h with ⟨xs, ds, rfl, q, _⟩ | ⟨_, _, rfl, _⟩
  · exact .inl ⟨rfl, xs, .inl (.of q)⟩
  · cases e
theorem tyV_D {K : PySem.W.Frag} {F : Fz} {H : Hp} {a : Addr} {d : D} (h : Root K F H a d) (e : isDc d = true) : tyV K "dict" (.ref a) H := by
  rcases h with ⟨_, _, rfl, _⟩ | ⟨kvs, ds, rfl, q, _⟩
  · cases e
  · exact .inr (.inr (.inl ⟨rfl, .inl ⟨kvs, q⟩⟩))
def MuOk (K : PySem.W.Frag) (rr : V → List V → Hp → VK → Prop) (f : D → List D → Option (D × D)) : Prop :=
  ∀ (F : Fz) (H : Hp) (a : Addr) (vs : List V) (d : D) (ds : List D) (d' z : D) (Q : VK), ¬ F a → Root K F H a d → RpAll K F H vs ds → f d ds = some (d', z) →
  (∀ v o, Root K F (upd H a o) a d' → Rp K F (upd H a o) v z → Q v (upd H a o)) → rr (.ref a) vs H Q
section
variable {K : PySem.W.Frag} {B : Bd} {W : Wx} {F F' F1 F2 : Fz} {H H' H1 H2 : Hp} {s : St} {r r' r1 r2 : DE} {i : Nat}
theorem live_s {v : V} (e : ES K B F H s r) (h : Live r i) : ∃ v, s[i]? = some (some v) := by
  obtain ⟨q, h1, h2⟩ := h
  cases q with
  | no => exact absurd rfl h2
  | fr d => obtain ⟨v, g, _⟩ := e.fr i d h1; exact ⟨v, g⟩
  | ow d => obtain ⟨v, g, _⟩ := e.ow i d h1; exact ⟨_, g⟩
  | io d => obtain ⟨_, v, g, _⟩ := e.io i d h1; exact ⟨_, g⟩
theorem mut_mono {rr : V → List V → Hp → VK → Prop} {f : D → List D → Option (D × D)} {chk : D → Bool} {ca : CA} {T : String} (hf : MuOk K rr f) (hc : ∀ {F H a d}, Root K F H a d → chk d = true → tyV K T (.ref a) H) (s : St) (H : Hp) (Q : VK)
    (h : tC K B W (cMut chk f i ca) s H Q) : tVar i s H fun x H1 => tyV K T x H1 ∧ tA' K B W ca s H1 fun vs H2 => rr x vs H2 Q := by
  obtain ⟨F, r, es, hO⟩ := h
  unfold cMut at hO
  cases q : ownD r i with
  | none => simp only [q] at hO; exact hO.elim
  | some d0 =>
    simp only [q] at hO
    obtain ⟨a, g1, g2, g3, _⟩ := own_root es q
    cases qc : chk d0 with
    | false => simp only [qc] at hO; exact hO.elim
    | true =>
      simp only [qc] at hO
      refine ⟨_, g1, hc g3 qc, tA_bind es hO fun p vs F1 H1 p1 ok1 hO1 => ?_⟩
      obtain ⟨⟨z, r2⟩, h1, h2⟩ := hO1.ofO
      obtain ⟨d, hd, h1⟩ := Option.bind_eq_some_iff.mp h1
      obtain ⟨⟨d', z'⟩, hz, e⟩ := Option.map_eq_some_iff.mp h1
      cases e
      obtain ⟨a', k1, k2, k3, _⟩ := own_root p1.es hd
      rw [g1] at k1
      cases k1
      refine hf F1 H1 a vs d p.1 d' z' Q k2 k3 ok1 hz fun v o hr hv => ?_
      have p2 := mut_ok p1.es hd g1 hr
      exact h2 v F1 _ (p1.trans p2) hv trivial
end
section
variable {X : Cx} {B : Bd} {W : Wx} {e : Expr} {es : List Expr} {ca : CA} {apos cpos npos : Pos} {T id : String} {name x : Str} {rr : V → List V → Hp → VK → Prop} {f : D → List D → Option (D × D)} {chk : D → Bool}
/-- x.m(e, ..) -/
theorem d_mut (i : Nat) (pa : PlainAttrs T) (slot : PySem.Slot T name id) (hty : typeOf (.builtin id) = pure (.type "method_descriptor")) (hm : MtR X id rr) (hf : MuOk X.K rr f) (hc : ∀ {F H a d}, Root X.K F H a d → chk d = true → tyV X.K T (.ref a) H) (ha : PA X (e :: es) (tA' X.K B W ca))
    (hN : X.N[i]? = some x := by rfl) (hv : Vis X.env.scope x := by first | exact Or.inl rfl | exact Or.inr (Or.inl rfl) | exact Or.inr (Or.inr rfl)) (hd : (x == ("__debug__" : Str)) = false := by decide) (hcd : (x == ("__classdict__" : Str)) = false := by decide)
    (hbase : attributeBase (.Name x npos) name X.env (eval (.Name x npos) X.env) = eval (.Name x npos) X.env := by rfl)
    (hfew : ((backTo cpos (starEach (e :: es) X.env)).all (fun x => !x.1) && (backToKw cpos (keywordEach [] X.env)).all (fun x => x.1.isSome)
      && decide ((e :: es).length + ([] : List Keyword).length + (if ([] : List Keyword).isEmpty then 0 else 1) < 30)) = true := by rfl)
    (hline : (apos.endLine == cpos.line) = true := by rfl) (hs : starEach (e :: es) X.env = (false, eval e X.env) :: starEach es X.env := by rfl) (hplain : (backTo cpos (starEach es X.env)).any (·.1) = false := by rfl) :
    PE X (.Call (.Attribute (.Name x npos) name apos) (e :: es) [] cpos) (tC X.K B W (cMut chk f i ca)) :=
  PE_mono (pe_bm pa slot hty hm (pe_var hN hv hd hcd) ha hbase hfew hline hs hplain) (mut_mono hf hc)
/-- x.m() -/
theorem d_mut0 (i : Nat) (pa : PlainAttrs T) (slot : PySem.Slot T name id) (hty : typeOf (.builtin id) = pure (.type "method_descriptor")) (hm : MtR X id rr) (hf : MuOk X.K rr f) (hc : ∀ {F H a d}, Root X.K F H a d → chk d = true → tyV X.K T (.ref a) H)
    (hN : X.N[i]? = some x := by rfl) (hv : Vis X.env.scope x := by first | exact Or.inl rfl | exact Or.inr (Or.inl rfl) | exact Or.inr (Or.inr rfl)) (hd : (x == ("__debug__" : Str)) = false := by decide) (hcd : (x == ("__classdict__" : Str)) = false := by decide)
    (hbase : attributeBase (.Name x npos) name X.env (eval (.Name x npos) X.env) = eval (.Name x npos) X.env := by rfl)
    (hline : (apos.endLine == cpos.line) = true := by rfl) :
    PE X (.Call (.Attribute (.Name x npos) name apos) [] [] cpos) (tC X.K B W (cMut chk f i cANil)) :=
  PE_mono (pe_bm0 pa slot hty hm (pe_var hN hv hd hcd) hbase hline) fun s H Q h => by
    obtain ⟨v, h1, h2, h3⟩ := mut_mono hf hc s H Q h
    refine ⟨v, h1, h2, ?_⟩
    obtain ⟨F, r, es, hO⟩ := h3
    exact hO [] F H (.refl es) .nil
end
end Ed
end
section
namespace Ed
open PySem PySem.Spec L2

inductive Fl where
  | nx (r : DE)
  | rt (x : Rv) (r : DE)
  | bk (r : DE)
  | ct (r : DE)
abbrev SC := DE → Out Fl
def FlP (K : PySem.W.Frag) (B : Bd) (F : Fz) (H : Hp) (D : Ends) : Fl → Prop
  | .nx r' => ∀ s' F' H', ES K B F' H' s' r' → Ext F H F' H' → D.nx s' H'
  | .rt x r' => ∀ v s' F' H', ES K B F' H' s' r' → Ext F H F' H' → RvOk K B F' H' s' r' v x → D.rt v H'
  | .bk r' => ∀ s' F' H', ES K B F' H' s' r' → Ext F H F' H' → D.bk s' H'
  | .ct r' => ∀ s' F' H', ES K B F' H' s' r' → Ext F H F' H' → D.ct s' H'
def tS (K : PySem.W.Frag) (B : Bd) (W : Wx) (c : SC) : TS := fun D s H => ∃ F r, ES K B F H s r ∧ OutP (c r) (FlP K B F H D) (EW K B W F H)

def cSkip : SC := fun r => .ok (.nx r)
def cSeq (a b : SC) : SC := fun r => (a r).bind fun fl => match fl with
  | .nx r' => b r'
  | .rt x r' => .ok (.rt x r')
  | .bk r' => .ok (.bk r')
  | .ct r' => .ok (.ct r')
def cIfS (t : CT) (a b : SC) : SC := fun r => (t r).bind fun p => match p.1 with
  | true => a p.2
  | false => b p.2
def cBrk : SC := fun r => .ok (.bk r)
def cCnt : SC := fun r => .ok (.ct r)
def cExp (c : C) : SC := fun r => (c r).bind fun p => .ok (.nx p.2)
def cRet (c : C) : SC := fun r => (c r).bind fun p => .ok (.rt p.1 p.2)
def cSet (i : Nat) (c : C) : SC := fun r => (c r).bind fun p => ofO ((sto i p.1 p.2).map .nx)
/-- name op= e: the name holds a frozen datum -/
def cAug (f : D → D → Option D) (i : Nat) (c : C) : SC := fun r => match r.getD i .no with
  | .fr d => (c r).bind fun p => ofO ((rsv p.1 p.2).bind fun b => (f d b).bind fun z => (sto i (.fr z) p.2).map .nx)
  | _ => .no

section
variable {K : PySem.W.Frag} {B : Bd} {W : Wx} {F F' F1 F2 : Fz} {H H' H1 H2 : Hp} {s s1 : St} {r r' r1 r2 : DE} {D : Ends}
theorem FlP.step (e : Ext F H F' H') {f : Fl} (h : FlP K B F H D f) : FlP K B F' H' D f := by
  cases f with
  | nx r' => exact fun s2 F2 H2 es e2 => h s2 F2 H2 es (e.trans e2)
  | rt x r' => exact fun v s2 F2 H2 es e2 ok => h v s2 F2 H2 es (e.trans e2) ok
  | bk r' => exact fun s2 F2 H2 es e2 => h s2 F2 H2 es (e.trans e2)
  | ct r' => exact fun s2 F2 H2 es e2 => h s2 F2 H2 es (e.trans e2)
theorem out_step (e : Ext F H F' H') {o : Out Fl} (h : OutP o (FlP K B F H D) (EW K B W F H)) : OutP o (FlP K B F' H' D) (EW K B W F' H') := h.mono (fun _ q => q.step e) (EW.step e)
end

section
variable {X : Cx} {B : Bd} {W : Wx} {e : Expr} {st : Stmt} {a b rest : List Stmt} {c : C} {t : CT} {ca cb : SC} {pos : Pos}
theorem d_nil : PSs X [] (tS X.K B W cSkip) := PSs_mono pss_nil fun D s H ⟨F, r, es, hO⟩ => hO s F H es .refl
theorem d_one' (h : PS X st (tS X.K B W ca)) : PSs X [st] (tS X.K B W ca) := pss_one h
theorem d_cons (h : PS X st (tS X.K B W ca)) (h2 : PSs X rest (tS X.K B W cb)) : PSs X (st :: rest) (tS X.K B W (cSeq ca cb)) :=
  PSs_mono (pss_cons h h2) fun D s H ⟨F, r, es, hO⟩ => ⟨F, r, es, hO.bind.mono (fun f hf => by
    cases f with
    | nx r' => exact fun s' F' H' es' e' => ⟨F', r', es', out_step e' hf⟩
    | rt x r' => exact hf
    | bk r' => exact hf
    | ct r' => exact hf) fun _ _ x => x⟩
theorem d_ifS {q : Expr} (h : PT X q (tT X.K B W t)) (ha : PSs X a (tS X.K B W ca)) (hb : PSs X b (tS X.K B W cb)) : PS X (.If q a b pos) (tS X.K B W (cIfS t ca cb)) :=
  PS_mono (ps_if h ha hb) fun D s H ⟨F, r, es, hO⟩ => tT_bind es hO fun p F1 H1 p1 hO1 => by
    cases e : p.1 with
    | true => simp only [e] at hO1; exact iteT ⟨F1, p.2, p1.es, hO1.mono (fun _ q => FlP.step p1.ext q) fun _ _ x => x⟩
    | false => simp only [e] at hO1; exact iteF ⟨F1, p.2, p1.es, hO1.mono (fun _ q => FlP.step p1.ext q) fun _ _ x => x⟩
theorem d_brk : PS X (.Break pos) (tS X.K B W cBrk) := PS_mono ps_break fun D s H ⟨F, r, es, hO⟩ => hO s F H es .refl
theorem d_cnt : PS X (.Continue pos) (tS X.K B W cCnt) := PS_mono ps_continue fun D s H ⟨F, r, es, hO⟩ => hO s F H es .refl
theorem d_pass : PS X (.Pass pos) (tS X.K B W cSkip) := PS_mono ps_pass fun D s H ⟨F, r, es, hO⟩ => hO s F H es .refl
theorem d_exp (h : PE X e (tC X.K B W c)) (hs : swapsWith e none pos.line X.env = pure false := by rfl) : PS X (.Expr e pos) (tS X.K B W (cExp c)) :=
  PS_mono (ps_expr h hs) fun D s H ⟨F, r, es, hO⟩ => tC_bind es hO fun p v F1 H1 p1 ok1 _ hO1 => hO1 s F1 H1 p1.es p1.ext
theorem d_ret (h : PE X e (tC X.K B W c)) : PS X (.Return (some e) pos) (tS X.K B W (cRet c)) :=
  PS_mono (ps_ret h) fun D s H ⟨F, r, es, hO⟩ => tC_bind es hO fun p v F1 H1 p1 ok1 _ hO1 => hO1 v s F1 H1 p1.es p1.ext ok1
theorem d_retN : PS X (.Return none pos) (tS X.K B W (cRet (cK .none))) :=
  PS_mono ps_retN fun D s H ⟨F, r, es, hO⟩ => hO .non s F H es .refl .non
theorem set_mono {K : PySem.W.Frag} {i : Nat} {D : Ends} {s : St} {H : Hp} (h : tS K B W (cSet i c) D s H) : tC K B W c s H fun x H1 => gName i x s H1 D.nx := by
  obtain ⟨F, r, es, hO⟩ := h
  refine tC_bind es hO fun p v F1 H1 p1 ok1 _ hO1 => ?_
  obtain ⟨f, h1, h2⟩ := hO1.ofO
  obtain ⟨r2, g1, rfl⟩ := Option.map_eq_some_iff.mp h1
  obtain ⟨F2, e2, x2⟩ := sto_ok p1.es ok1 g1
  exact h2 _ F2 H1 e2 (p1.ext.trans x2)
/-- x = e -/
theorem d_set (i : Nat) {x : Str} {pos' : Pos} (hN : X.N.Nodup) (h : PE X e (tC X.K B W c)) (hi : X.N[i]? = some x := by rfl) (hx : Loc X.env.scope x := by first | exact Or.inl rfl | exact Or.inr rfl) (hs : swapsWith e (some (.Name x pos')) pos.line X.env = pure false := by rfl)
    (hf : X.fn x = true ∨ X.env.scope.names.lookup x = some .local := by first | exact .inl rfl | exact .inr rfl | assumption) : PS X (.Assign [.Name x pos'] e pos) (tS X.K B W (cSet i c)) :=
  PS_mono (ps_set hN hi hx h hs hf) fun D s H h => set_mono h
/-- x op= e -/
theorem d_aug (i : Nat) {x : Str} {pos' : Pos} {op : Operator} {ti : TIp} {f : D → D → Option D} (hN : X.N.Nodup) (h : PE X e (tC X.K B W c)) (ho : PIp X op ti)
    (hf : ∀ (F : Fz) (H : Hp) (x y : V) (a b z : D) (Q : VK), Rp X.K F H x a → Rq X.K F H y b → f a b = some z → (∀ v, Rp X.K F H v z → Q v H) → ti x y H Q) (hi : X.N[i]? = some x := by rfl) (hx : Loc X.env.scope x := by first | exact Or.inl rfl | exact Or.inr rfl)
    (hfn : X.fn x = true ∨ X.env.scope.names.lookup x = some .local := by first | exact .inl rfl | exact .inr rfl | assumption) : PS X (.AugAssign (.Name x pos') op e pos) (tS X.K B W (cAug f i c)) :=
  PS_mono (ps_aug hN hi hx h ho hfn) fun D s H ⟨F, r, es, hO⟩ => by
    unfold cAug at hO
    cases q : r.getD i .no with
    | no => simp only [q] at hO; exact hO.elim
    | ow _ => simp only [q] at hO; exact hO.elim
    | io _ => simp only [q] at hO; exact hO.elim
    | fr d =>
      simp only [q] at hO
      obtain ⟨v, h1, h2⟩ := es.fr i d (getD_some q (by simp))
      refine ⟨v, h1, tC_bind es hO fun p w F1 H1 p1 ok1 _ hO1 => ?_⟩
      obtain ⟨fl, g1, g2⟩ := hO1.ofO
      obtain ⟨b, hb, g1⟩ := Option.bind_eq_some_iff.mp g1
      obtain ⟨z, hz, g1⟩ := Option.bind_eq_some_iff.mp g1
      obtain ⟨r2, k1, rfl⟩ := Option.map_eq_some_iff.mp g1
      refine hf F1 H1 v w d b z _ (h2.ext p1.ext) (rsv_ok p1.es ok1 hb) hz fun u hu => ?_
      obtain ⟨F2, e2, x2⟩ := sto_ok (x := .fr z) p1.es hu k1
      exact g2 _ F2 H1 e2 (p1.ext.trans x2)
end

def cSetIx (f : D → D → D → Option D) (j : Nat) (cv : CF) (ci : C) : SC := fun r => (cv r).bind fun p => match ownD p.2 j with
  | none => .no
  | some _ => (ci p.2).bind fun q => ofO ((ownD q.2 j).bind fun d => (rsv q.1 q.2).bind fun i => (f d i p.1).map fun d' => .nx (mutS j d' q.2))
def SetOk (K : PySem.W.Frag) (ts : TSet) (f : D → D → D → Option D) : Prop := ∀ (F : Fz) (H : Hp) (a : Addr) (d : D) (i v : V) (di dv d' : D) (Q : Hp → Prop), ¬ F a → Root K F H a d → Rq K F H i di → Rp K F H v dv → f d di dv = some d' →
  (∀ o, Root K F (upd H a o) a d' → Q (upd H a o)) → ts (.ref a) i v H Q
def cAugIx (get : D → D → Option D) (op : D → D → Option D) (set : D → D → D → Option D) (j : Nat) (ci cv : C) : SC := fun r => match ownD r j with
  | none => .no
  | some _ => (ci r).bind fun q => ofO ((ownD q.2 j).bind fun d => (rsv q.1 q.2).bind fun i => (get d i)) |>.bind fun x => (cv q.2).bind fun u =>
      ofO ((rsv u.1 u.2).bind fun y => (op x y).bind fun z => (ownD u.2 j).bind fun d => (rsv q.1 u.2).bind fun i => (set d i z).map fun d' => .nx (mutS j d' u.2))
section
variable {X : Cx} {B : Bd} {W : Wx} {e i : Expr} {c ci : C} {cv : CF} {pos tpos npos : Pos} {x : Str} {ts : TSet} {f : D → D → D → Option D}
theorem d_setIx (j : Nat) (hv : PE X e (tF X.K B W cv)) (hi : PE X i (tC X.K B W ci)) (hs : PSet X ts) (hf : SetOk X.K ts f) (hN : X.N[j]? = some x := by rfl) (hx : Vis X.env.scope x := by first | exact Or.inl rfl | exact Or.inr (Or.inl rfl) | exact Or.inr (Or.inr rfl))
    (hd : (x == ("__debug__" : Str)) = false := by decide) (hcd : (x == ("__classdict__" : Str)) = false := by decide)
    (ha : ∀ v, assign (.Subscript (.Name x npos) i tpos) X.env v = (do
      let ov ← holding [v] (eval (.Name x npos) X.env)
      let iv ← holding [v, ov] (eval i X.env)
      standAt tpos
      holding [v, ov, iv] (setItem ov iv v)
      release [v, ov, iv] []) := by intro _; rfl)
    (h1 : swapsWithSole [.Subscript (.Name x npos) i tpos] e pos.line X.env = pure false := by rfl) (h2 : swappedStores [.Subscript (.Name x npos) i tpos] e X.env = pure none := by rfl)
    (h3 : (assignEach [.Subscript (.Name x npos) i tpos] X.env).map (·.2) = [assign (.Subscript (.Name x npos) i tpos) X.env] := by rfl) : PS X (.Assign [.Subscript (.Name x npos) i tpos] e pos) (tS X.K B W (cSetIx f j cv ci)) :=
  PS_mono (ps_asg hv (pg_sub (pe_var hN hx hd hcd) hi hs ha) h1 h2 h3) fun D s H ⟨F, r, es, hO⟩ => tF_bind es hO fun p v F1 H1 p1 ok1 hO1 => by
    cases q : ownD p.2 j with
    | none => simp only [q] at hO1; exact hO1.elim
    | some d0 =>
      simp only [q] at hO1
      obtain ⟨a, g1, _⟩ := own_root p1.es q
      refine ⟨_, g1, tC_bind p1.es hO1 fun q w F2 H2 p2 ok2 _ hO2 => ?_⟩
      obtain ⟨fl, k1, k2⟩ := hO2.ofO
      obtain ⟨d, hd, k1⟩ := Option.bind_eq_some_iff.mp k1
      obtain ⟨di, hdi, k1⟩ := Option.bind_eq_some_iff.mp k1
      obtain ⟨d', hd', rfl⟩ := Option.map_eq_some_iff.mp k1
      obtain ⟨a', m1, m2, m3, _⟩ := own_root p2.es hd
      rw [g1] at m1
      cases m1
      refine hf F2 H2 a d w v di p.1 d' _ m2 m3 (rsv_ok p2.es ok2 hdi) (ok1.ext p2.ext) hd' fun o hr => ?_
      have p3 := mut_ok p2.es hd g1 hr
      exact k2 s F2 _ p3.es ((p1.ext.trans p2.ext).trans p3.ext)
def GetOk (K : PySem.W.Frag) (tg : V → V → Hp → VK → Prop) (f : D → D → Option D) : Prop := ∀ (F : Fz) (H : Hp) (a : Addr) (d : D) (i : V) (di z : D) (Q : VK), Root K F H a d → Rq K F H i di → f d di = some z → (∀ v, Rp K F H v z → Q v H) → tg (.ref a) i H Q
theorem d_augIx (j : Nat) {op : Operator} {tget : V → V → Hp → VK → Prop} {tip : TIp} {get opf : D → D → Option D} (hi : PE X i (tC X.K B W ci)) (hg : PGet X tget) (hgf : GetOk X.K tget get) (hv : PE X e (tC X.K B W c)) (hp : PIp X op tip)
    (hpf : ∀ (F : Fz) (H : Hp) (x y : V) (a b z : D) (Q : VK), Rp X.K F H x a → Rq X.K F H y b → opf a b = some z → (∀ v, Rp X.K F H v z → Q v H) → tip x y H Q) (hs : PSet X ts) (hf : SetOk X.K ts f)
    (hN : X.N[j]? = some x := by rfl) (hx : Vis X.env.scope x := by first | exact Or.inl rfl | exact Or.inr (Or.inl rfl) | exact Or.inr (Or.inr rfl))
    (hd : (x == ("__debug__" : Str)) = false := by decide) (hcd : (x == ("__classdict__" : Str)) = false := by decide)
    (ha : ∀ ov iv new, augStore i ov iv new = (do holding [new, ov, iv] (setItem ov iv new); release [new, ov, iv] []; pure .next) := by intros; rfl) :
    PS X (.AugAssign (.Subscript (.Name x npos) i tpos) op e pos) (tS X.K B W (cAugIx get opf f j ci c)) :=
  PS_mono (ps_augS (pe_var hN hx hd hcd) hi hg hv hp hs ha) fun D s H ⟨F, r, es, hO⟩ => by
    unfold cAugIx at hO
    cases q0 : ownD r j with
    | none => simp only [q0] at hO; exact hO.elim
    | some d0 =>
      simp only [q0] at hO
      obtain ⟨a, g1, _⟩ := own_root es q0
      refine ⟨_, g1, tC_bind es hO fun q w F1 H1 p1 ok1 _ hO1 => ?_⟩
      obtain ⟨x, k1, hO1⟩ := hO1.bind.ofO
      obtain ⟨d, hd, k1⟩ := Option.bind_eq_some_iff.mp k1
      obtain ⟨di, hdi, k1⟩ := Option.bind_eq_some_iff.mp k1
      obtain ⟨a', m1, m2, m3, _⟩ := own_root p1.es hd
      rw [g1] at m1
      cases m1
      refine hgf F1 H1 a d w di x _ m3 (rsv_ok p1.es ok1 hdi) k1 fun v hv => tC_bind p1.es hO1 fun u y F2 H2 p2 ok2 _ hO2 => ?_
      obtain ⟨fl, k1, k2⟩ := hO2.ofO
      obtain ⟨dy, hdy, k1⟩ := Option.bind_eq_some_iff.mp k1
      obtain ⟨z, hz, k1⟩ := Option.bind_eq_some_iff.mp k1
      obtain ⟨d2, hd2, k1⟩ := Option.bind_eq_some_iff.mp k1
      obtain ⟨di2, hdi2, k1⟩ := Option.bind_eq_some_iff.mp k1
      obtain ⟨d', hd', rfl⟩ := Option.map_eq_some_iff.mp k1
      refine hpf F2 H2 v y x dy z _ (hv.ext p2.ext) (rsv_ok p2.es ok2 hdy) hz fun zv hzv => ?_
      obtain ⟨a', m1, m2, m3, _⟩ := own_root p2.es hd2
      rw [g1] at m1
      cases m1
      refine hf F2 H2 a d2 w zv di2 z d' _ m2 m3 (rsv_ok p2.es (ok1.pst p2) hdi2) hzv hd' fun o hr => ?_
      have p3 := mut_ok p2.es hd2 g1 hr
      exact k2 s F2 _ p3.es ((p1.ext.trans p2.ext).trans p3.ext)
end

/-- at most n turns -/
def whileN (t : CT) (body : SC) : Nat → SC
  | 0, _ => .no
  | n + 1, r => (t r).bind fun p => match p.1 with
    | false => .ok (.nx p.2)
    | true => (body p.2).bind fun fl => match fl with
      | .nx r' => whileN t body n r'
      | .ct r' => whileN t body n r'
      | .bk r' => .ok (.nx r')
      | .rt x r' => .ok (.rt x r')
section
variable {X : Cx} {B : Bd} {W : Wx} {e : Expr} {body : List Stmt} {t : CT} {cb : SC} {pos : Pos}
theorem d_while (n : Nat) (hp : PassesOwn (model X.prog X.w) X.A X.env X.xe) (hc : PT X e (tT X.K B W t)) (hb : PSs X body (tS X.K B W cb)) : PS X (.While e body [] pos) (tS X.K B W (whileN t cb n)) :=
  PS_mono (ps_while hp hc hb) fun D s0 H0 ⟨F0, r0, es0, hO0⟩ => by
    refine ⟨fun m s H => ∃ F r, ES X.K B F H s r ∧ OutP (whileN t cb m r) (FlP X.K B F H D) (EW X.K B W F H), ⟨n, F0, r0, es0, hO0⟩, ?_⟩
    rintro m s H ⟨F, r, es, hO⟩
    cases m with
    | zero => exact hO.elim
    | succ m =>
      refine tT_bind es hO fun p F1 H1 p1 hO1 => ?_
      cases q : p.1 with
      | false =>
        simp only [q] at hO1
        rw [if_neg (by simp)]
        exact hO1 s F1 H1 p1.es p1.ext
      | true =>
        simp only [q] at hO1
        rw [if_pos rfl]
        refine ⟨fun s' H' => ∃ F r, ES X.K B F H' s' r ∧ OutP (whileN t cb m r) (FlP X.K B F H' D) (EW X.K B W F H'), fun s' H' h => ⟨m, Nat.lt_succ_self m, h⟩, F1, p.2, p1.es, hO1.bind.mono (fun f hf => ?_) fun _ _ x => x⟩
        cases f with
        | nx r' => exact fun s2 F2 H2 es2 e2 => ⟨F2, r', es2, hf.mono (fun _ q => FlP.step (p1.ext.trans e2) q) (EW.step e2)⟩
        | ct r' => exact fun s2 F2 H2 es2 e2 => ⟨F2, r', es2, hf.mono (fun _ q => FlP.step (p1.ext.trans e2) q) (EW.step e2)⟩
        | bk r' => exact fun s2 F2 H2 es2 e2 => hf s2 F2 H2 es2 (p1.ext.trans e2)
        | rt x r' => exact fun v s2 F2 H2 es2 e2 ok => hf v s2 F2 H2 es2 (p1.ext.trans e2) ok
end
end Ed
end
section
namespace Ed
open PySem PySem.Spec L2

abbrev As := D → DE → Option DE
abbrev Ass := List D → DE → Option DE
def SameOut (vs : List Nat) (s s' : St) : Prop := s'.length = s.length ∧ ∀ j : Nat, j ∉ vs → s'[j]? = s[j]?
theorem SameOut.trans {vs ws : List Nat} {s s1 s2 : St} (a : SameOut vs s s1) (b : SameOut ws s1 s2) : SameOut (vs ++ ws) s s2 :=
  ⟨b.1.trans a.1, fun j h => (b.2 j fun z => h (List.mem_append_right _ z)).trans (a.2 j fun z => h (List.mem_append_left _ z))⟩
def tG (K : PySem.W.Frag) (B : Bd) (vs : List Nat) (asg : As) : TG := fun v s H Q => ∃ F r d r', ES K B F H s r ∧ Rp K F H v d ∧ asg d r = some r' ∧ ∀ s', ES K B F H s' r' → SameOut vs s s' → Q s' H
def tGs (K : PySem.W.Frag) (B : Bd) (vs : List Nat) (asg : Ass) : TGs := fun us s H Q => ∃ F r ds r', ES K B F H s r ∧ RpAll K F H us ds ∧ asg ds r = some r' ∧ ∀ s', ES K B F H s' r' → SameOut vs s s' → Q s' H
def aNm (i : Nat) : As := fun d r => sto i (.fr d) r
def aNil : Ass := fun ds r => match ds with
  | [] => some r
  | _ => none
def aCons (a : As) (b : Ass) : Ass := fun ds r => match ds with
  | [] => none
  | d :: ds => (a d r).bind fun r' => b ds r'
def aTup (n : Nat) (b : Ass) : As := fun d r => match d with
  | .tuple ds => if ds.length = n then b ds r else none
  | _ => none
section
variable {X : Cx} {B : Bd} {e : Expr} {es : List Expr} {pos : Pos} {vs ws : List Nat} {a : As} {b : Ass}
theorem sto_fr_ok {K : PySem.W.Frag} {F : Fz} {H : Hp} {s : St} {r r' : DE} {v : V} {d : D} {i : Nat} (e : ES K B F H s r) (ok : Rp K F H v d) (h : sto i (.fr d) r = some r') : ES K B F H (s.set i (some v)) r' := by
  obtain ⟨hi, nio, h⟩ := sto_inv h
  cases h
  exact sto_fr e (by rw [e.len]; exact hi) nio ok
theorem d_gnm (i : Nat) {x : Str} (hN : X.N.Nodup) (hi : X.N[i]? = some x := by rfl) (hx : Loc X.env.scope x := by first | exact Or.inl rfl | exact Or.inr rfl) (hf : X.fn x = true ∨ X.env.scope.names.lookup x = some .local := by first | exact .inl rfl | exact .inr rfl | assumption) :
    PG X (.Name x pos) (tG X.K B [i] (aNm i)) := ⟨fun pins s σ H v u Q I r ⟨F, rr, d, r', es, rp, ha, q⟩ => (pg_name hN hi hx hf).run pins s σ H v u Q I r (q _ (sto_fr_ok es rp ha) ⟨List.length_set .., fun j hj => List.getElem?_set_ne fun z => hj (by simp [z])⟩)⟩
theorem d_gnil : PGs X [] (tGs X.K B [] aNil) := ⟨fun pins s σ H us u Q I r ⟨F, rr, ds, r', es, rp, ha, q⟩ => by
  refine pgs_nil.run pins s σ H us u Q I r ?_
  cases rp with
  | nil =>
    cases ha
    exact ⟨rfl, q σ es ⟨rfl, fun _ _ => rfl⟩⟩
  | cons _ _ => cases ha⟩
theorem d_gcons (h : PG X e (tG X.K B vs a)) (h2 : PGs X es (tGs X.K B ws b)) (hs : (assignEach (e :: es) X.env).map (·.2) = assign e X.env :: (assignEach es X.env).map (·.2) := by rfl) : PGs X (e :: es) (tGs X.K B (vs ++ ws) (aCons a b)) :=
  ⟨fun pins s σ H us u Q I r ⟨F, rr, ds, r', es', rp, ha, q⟩ => by
    refine (pgs_cons h h2 hs).run pins s σ H us u Q I r ?_
    cases rp with
    | nil => cases ha
    | cons r1 r2 =>
      obtain ⟨r3, g1, g2⟩ := Option.bind_eq_some_iff.mp ha
      exact ⟨_, _, rfl, F, rr, _, r3, es', r1, g1, fun s1 es1 so1 => ⟨F, r3, _, r', es1, r2, g2, fun s2 es2 so2 => q s2 es2 (so1.trans so2)⟩⟩⟩
theorem d_gtup {n k : Nat} (hc : X.calm = true) (h : PGs X es (tGs X.K B vs b)) (hn : (assignEach es X.env).length = n := by rfl) (hst : (assignEach es X.env).findIdx? (·.1) = none := by rfl) : PG X (.Tuple es k pos) (tG X.K B vs (aTup n b)) :=
  ⟨fun pins s σ H v u Q I r ⟨F, rr, d, r', es', rp, ha, q⟩ => by
    refine (pg_tup hc h hn hst).run pins s σ H v u Q I r ?_
    cases rp with
    | @tup a xs ds k rs =>
      have ha : (if ds.length = n then b ds rr else none) = some r' := ha
      split at ha
      · rename_i hl
        exact ⟨a, xs, rfl, k.elim (fun k => .inl k.2) (fun k => k.seq H), by rw [rs.length]; exact hl, F, rr, ds, r', es', rs, ha, q⟩
      · cases ha
    | _ => cases ha⟩
end

abbrev CI := DE → Out (List D × DE)
structure ItOk (K : PySem.W.Frag) (F0 : Fz) (H0 : Hp) (J : It) (ds : List D) : Prop where
  go : ∀ F H, Ext F0 H0 F H → ∀ i, i < ds.length → J.go i H
  stop : ∀ F H, Ext F0 H0 F H → J.stop ds.length H
  yld : ∀ F H, Ext F0 H0 F H → (∀ a, F a → H a ≠ none) → ∀ (i : Nat) (d : D), ds[i]? = some d → ∀ x H', J.yld i H x H' → ∃ F', Al F H F' H' ∧ Rp K F' H' x d
  len : ds.length ≤ 16777216
def tI (K : PySem.W.Frag) (B : Bd) (W : Wx) (c : CI) : TI := fun s H R => ∃ F r, ES K B F H s r ∧
  OutP (c r) (fun p => ∀ J F' H', Pst K B F H s r F' H' p.2 → ItOk K F' H' J p.1 → R J H') (EW K B W F H)
def sgn (c : Nat) : D := .str ⟨#[c]⟩
def items : D → Option (List D)
  | .list ds => some ds
  | .tuple ds => some ds
  | .str x => some (x.cps.toList.map sgn)
  | _ => none
def cIt (c : CF) : CI := fun r => (c r).bind fun p => ofO ((items p.1).map fun ds => (ds, p.2))
theorem ItOk.lst {K : PySem.W.Frag} {F : Fz} {H : Hp} {a : Addr} {xs : List V} {ds : List D} (hf : F a) (hr : Rd H a (.lst xs)) (h : RpAll K F H xs ds) (hl : ds.length ≤ 16777216) : ItOk K F H (Itl K a) ds := by
  have hlen := h.length
  refine ⟨fun F1 H1 e i hi => ?_, fun F1 H1 e => ?_, fun F1 H1 e dm i d hd x H' hy => ?_, hl⟩
  · have hi' : i < xs.length := by omega
    exact ⟨xs, xs[i], .inl (e.rd a _ hf hr), List.getElem?_eq_getElem hi'⟩
  · exact ⟨xs, .inl (e.rd a _ hf hr), by omega⟩
  · obtain ⟨rfl, hy⟩ := hy
    obtain ⟨v, h1, h2⟩ := h.at hd
    have := hy xs (.inl (e.rd a _ hf hr))
    rw [h1] at this
    cases this
    exact ⟨F1, .refl dm, h2.ext e⟩
theorem ItOk.tup {K : PySem.W.Frag} {F : Fz} {H : Hp} {a : Addr} {xs : List V} {ds : List D} (hq : (F a ∧ Rd H a (.tup xs)) ∨ KT K a xs) (h : RpAll K F H xs ds) (hl : ds.length ≤ 16777216) : ItOk K F H (Itt K a) ds := by
  have hlen := h.length
  have sq : ∀ F1 H1, Ext F H F1 H1 → SqT K H1 a xs := fun F1 H1 e => hq.elim (fun q => .inl (e.rd a _ q.1 q.2)) fun q => q.seq H1
  refine ⟨fun F1 H1 e i hi => ?_, fun F1 H1 e => ?_, fun F1 H1 e dm i d hd x H' hy => ?_, hl⟩
  · have hi' : i < xs.length := by omega
    exact ⟨xs, xs[i], sq F1 H1 e, List.getElem?_eq_getElem hi'⟩
  · exact ⟨xs, sq F1 H1 e, by omega⟩
  · obtain ⟨rfl, hy⟩ := hy
    obtain ⟨v, h1, h2⟩ := h.at hd
    have := hy xs (sq F1 _ e)
    rw [h1] at this
    cases this
    exact ⟨F1, .refl dm, h2.ext e⟩
theorem ItOk.str {K : PySem.W.Frag} {F : Fz} {H : Hp} {x : Str} (sk : sOk x) : ItOk K F H (Its x) (x.cps.toList.map sgn) := by
  refine ⟨fun F1 H1 e i hi => ?_, fun F1 H1 e => ?_, fun F1 H1 e dm i d hd y H' hy => ?_, ?_⟩
  · rw [List.length_map, Array.length_toList] at hi
    exact hi
  · rw [List.length_map, Array.length_toList]
    exact Nat.le_refl _
  · obtain ⟨rfl, c, h1, rfl⟩ := hy
    rw [List.getElem?_map, Array.getElem?_toList, h1] at hd
    cases hd
    refine ⟨F1, .refl dm, .str _ ⟨by show 1 ≤ big; decide, fun c' hc' => ?_⟩⟩
    have : c' = c := by simpa using hc'
    subst this
    exact sk.sg c' (Array.mem_toList_iff.mpr (Array.mem_of_getElem? h1))
  · rw [List.length_map]
    have h : x.length ≤ 8000000 := sk.len
    have : x.cps.toList.length = x.length := Array.length_toList
    omega
section
variable {X : Cx} {B : Bd} {W : Wx} {e tg : Expr} {c : CF} {pos : Pos}
theorem len_ok {pins : List (Addr × Obj)} {σ : St} {H : Hp} {s : Shared} {a : Addr} {xs : List V} (I : Inv X pins σ H s) (h : SqL X.K H a xs ∨ SqT X.K H a xs) : xs.length ≤ 16777216 := by
  rw [← sizeLine_eq]
  rcases h with h | h
  · obtain ⟨_, _, _, z⟩ := I.list h
    exact z
  · obtain ⟨_, _, _, z⟩ := I.tuple h
    exact z
theorem one_fp {pins : List (Addr × Obj)} {σ : St} {H : Hp} {s : Shared} (I : Inv X pins σ H s) : ∀ b ∈ [s.heap.objs.size], FpOk X pins H b := fun b hb => by
  have e : b = s.heap.objs.size := by simpa using hb
  subst e
  exact I.fpOk (Nat.le_refl _) (I.hok.fresh (Nat.le_refl _))
/-- a list, a tuple, a text walked -/
theorem d_it (h : PE X e (tF X.K B W c)) : PI X tg e (tI X.K B W (cIt c)) := by
  refine ⟨fun pins s σ H R I ⟨F, r, es, hO⟩ => ?_⟩
  refine thn (h.run pins s σ H (fun v H1 => ∃ (p : D × DE) (F1 : Fz), Pst X.K B F H σ r F1 H1 p.2 ∧ Rp X.K F1 H1 v p.1 ∧ ∃ ds, items p.1 = some ds ∧ ∀ J F' H', Pst X.K B F H σ r F' H' p.2 → ItOk X.K F' H' J ds → R J H') I
    (tF_bind es hO fun p v F1 H1 p1 ok1 hO1 => ?_)) fun v s1 ⟨x, H1, I1, r1, p, F1, p1, rp, ds, hds, q⟩ => ?_
  · obtain ⟨⟨ds, r2⟩, g1, g2⟩ := hO1.ofO
    obtain ⟨ds', g3, e⟩ := Option.map_eq_some_iff.mp g1
    cases e
    exact ⟨p, F1, p1, ok1, ds, g3, g2⟩
  · obtain ⟨d, r'⟩ := p
    cases rp with
    | @lst a xs ds' hf hr rs =>
      cases hds
      cases r1
      obtain ⟨its, rv, pl, hz⟩ := I1.list (.inl hr)
      exact wpAny_pyIter_list pl.isList ⟨s1.heap.objs.size, [s1.heap.objs.size], _, _, H1, rfl, I1.kept (t' := s1.toks) fun b o e => Heap.get?_push_of_some _ e, turn_list a _, ⟨_, Heap.get?_push_size _ rfl, rfl, rfl⟩, one_fp I1,
        q _ F1 H1 p1 (.lst hf hr rs (by rw [← rs.length]; exact len_ok I1 (.inl (.inl hr))))⟩
    | @tup a xs ds' k rs =>
      cases hds
      cases r1
      have sq : SqT X.K H1 a xs := k.elim (fun q => .inl q.2) fun q => q.seq H1
      obtain ⟨its, rv, pl, hz⟩ := I1.tuple sq
      exact wpAny_pyIter_tuple (show s1.heap.IsTuple a its.toArray from pl) ⟨s1.heap.objs.size, [s1.heap.objs.size], _, _, H1, rfl, I1.kept (t' := s1.toks) fun b o e => Heap.get?_push_of_some _ e, turn_tuple a _, ⟨_, Heap.get?_push_size _ rfl, rfl, rfl⟩, one_fp I1,
        q _ F1 H1 p1 (.tup k rs (by rw [← rs.length]; exact len_ok I1 (.inr sq)))⟩
    | str x sk =>
      cases hds
      obtain ⟨t, rfl⟩ := r1
      have qq := q _ F1 H1 p1 (.str sk)
      cases ha : x.cps.all (· < 128)
      · exact wpAny_pyIter_wide ha (pi_one (tk := s1.toks) I1 _ (turn_str _ x t "str_iterator" (.inr rfl)) ⟨_, Heap.get?_push_size _ rfl, rfl, rfl⟩ qq)
      · exact wpAny_pyIter_ascii ha (pi_one (tk := s1.toks) I1 _ (turn_str _ x t "str_ascii_iterator" (.inl rfl)) ⟨_, Heap.get?_push_size _ rfl, rfl, rfl⟩ qq)
    | non => cases hds
    | bl b => cases hds
    | int i => cases hds
    | dct _ _ _ => cases hds
    | scr _ => cases hds
end

def rng (lo : Int) (n : Nat) : List D := (List.range n).map fun i => .int (lo + (i : Nat))
def cR1 (c : C) : CI := fun r => (c r).bind fun p => match p.1 with
  | .fr (.int j) => if -16777216 ≤ j ∧ j ≤ 16777216 then .ok (rng 0 j.toNat, p.2) else .no
  | _ => .no
def cR2 (c d : C) : CI := fun r => (c r).bind fun p => (d p.2).bind fun q => match p.1, q.1 with
  | .fr (.int i), .fr (.int j) => if (-16777216 ≤ i ∧ i ≤ 16777216) ∧ (-16777216 ≤ j ∧ j ≤ 16777216) ∧ j - i ≤ 16777216 then .ok (rng i (j - i).toNat, q.2) else .no
  | _, _ => .no
theorem ItOk.rng {K : PySem.W.Frag} {F : Fz} {H : Hp} {lo : Int} {n : Nat} (hn : n ≤ 16777216) : ItOk K F H (Itr lo n) (rng lo n) := by
  have hl : (Ed.rng lo n).length = n := by unfold Ed.rng; rw [List.length_map, List.length_range]
  refine ⟨fun F1 H1 e i hi => by rw [hl] at hi; exact hi, fun F1 H1 e => by rw [hl]; exact Nat.le_refl _, fun F1 H1 e dm i d hd x H' hy => ?_, by rw [hl]; exact hn⟩
  obtain ⟨rfl, rfl⟩ := hy
  unfold Ed.rng at hd
  rw [List.getElem?_map] at hd
  obtain ⟨j, h1, rfl⟩ := Option.map_eq_some_iff.mp hd
  have hj : i = j := by
    rw [List.getElem?_range (by have := (List.getElem?_eq_some_iff.mp h1).1; rw [List.length_range] at this; exact this)] at h1
    exact Option.some.inj h1
  subst hj
  exact ⟨F1, .refl dm, .int _⟩
section
variable {X : Cx} {B : Bd} {W : Wx} {a b tg : Expr} {ca cb : C} {p pos : Pos}
theorem PI_mono {tg e : Expr} {t t' : TI} (h : PI X tg e t) (m : ∀ s H R, t' s H R → t s H R) : PI X tg e t' := ⟨fun pins s σ H R I q => h.run pins s σ H R I (m _ _ _ q)⟩
theorem d_R1 (hg : Gl X "range") (hm : X.mg "range" = none) (ha : PE X a (tC X.K B W ca)) (hs : starEach [a] X.env = [(false, eval a X.env)] := by rfl) : PI X tg (.Call (.Name "range" p) [a] [] pos) (tI X.K B W (cR1 ca)) :=
  PI_mono (pi_range1 hg hm (pa_cons ha pa_nil hs) hs) fun s H R ⟨F, r, es, hO⟩ => tC_bind es hO fun p v F1 H1 p1 ok1 _ hO1 => by
    split at hO1
    · rename_i j e
      rw [e] at ok1
      have ok : Rp X.K F1 H1 v (.int j) := ok1
      cases ok
      split at hO1
      · rename_i hj
        exact ⟨j, rfl, by omega, by omega, hO1 _ F1 H1 p1 (.rng (by omega))⟩
      · exact hO1.elim
    · exact hO1.elim
theorem d_R2 (hg : Gl X "range") (hm : X.mg "range" = none) (ha : PE X a (tC X.K B W ca)) (hb : PE X b (tC X.K B W cb)) (hs : starEach [a, b] X.env = [(false, eval a X.env), (false, eval b X.env)] := by rfl) (hs2 : starEach [b] X.env = [(false, eval b X.env)] := by rfl) : PI X tg (.Call (.Name "range" p) [a, b] [] pos) (tI X.K B W (cR2 ca cb)) :=
  PI_mono (pi_range2 hg hm (pa_cons ha (pa_cons hb pa_nil hs2) (by rw [hs, hs2])) hs hs2) fun s H R ⟨F, r, es, hO⟩ => tC_bind es hO fun p v F1 H1 p1 ok1 _ hO1 => tC_bind p1.es hO1 fun q w F2 H2 p2 ok2 _ hO2 => by
    split at hO2
    · rename_i i j e1 e2
      rw [e1] at ok1
      rw [e2] at ok2
      have ok : Rp X.K F1 H1 v (.int i) := ok1
      have ok' : Rp X.K F2 H2 w (.int j) := ok2
      cases ok
      cases ok'
      split at hO2
      · rename_i hj
        exact ⟨i, j, rfl, ⟨by omega, by omega, by omega, by omega⟩, hO2 _ F2 H2 (p1.trans p2) (.rng (by omega))⟩
      · exact hO2.elim
    · exact hO2.elim
end

def forD (a : As) (body : SC) : List D → SC
  | [], r => .ok (.nx r)
  | d :: ds, r => (ofO (a d r)).bind fun r1 => (body r1).bind fun fl => match fl with
    | .nx r2 => forD a body ds r2
    | .ct r2 => forD a body ds r2
    | .bk r2 => .ok (.nx r2)
    | .rt x r2 => .ok (.rt x r2)
def cFor (a : As) (it : CI) (body : SC) : SC := fun r => (it r).bind fun p => forD a body p.1 p.2
section
variable {X : Cx} {B : Bd} {W : Wx} {tg iter : Expr} {body : List Stmt} {vs : List Nat} {a : As} {ci : CI} {cb : SC} {pos : Pos}
theorem tI_bind {K : PySem.W.Frag} {F : Fz} {H : Hp} {s : St} {r : DE} {β : Type} {c : CI} {f : List D × DE → Out β} {P : β → Prop} {R : It → Hp → Prop} (es : ES K B F H s r) (hO : OutP ((c r).bind f) P (EW K B W F H))
    (h : ∀ p J F1 H1, Pst K B F H s r F1 H1 p.2 → ItOk K F1 H1 J p.1 → OutP (f p) P (EW K B W F1 H1) → R J H1) : tI K B W c s H R :=
  ⟨F, r, es, hO.bind.mono (fun p hp J F1 H1 ps ok => h p J F1 H1 ps ok (hp.mono (fun _ x => x) (EW.step ps.ext))) fun _ _ x => x⟩
theorem drop_cons {ds : List D} {i : Nat} (h : i < ds.length) : ds.drop i = ds[i] :: ds.drop (i + 1) := List.drop_eq_getElem_cons h
theorem d_for (hp : PassesOwn (model X.prog X.w) X.A X.env X.xe) (hc : X.calm = true) (hi : PI X tg iter (tI X.K B W ci)) (hg : PG X tg (tG X.K B vs a)) (hb : PSs X body (tS X.K B W cb))
    (hs : ∀ x, foldedSetIterable iter X.env x = pure x := by intro _; rfl) : PS X (.For tg iter body [] pos) (tS X.K B W (cFor a ci cb)) :=
  PS_mono (ps_for hp hc hi hg hb hs) fun D s0 H0 ⟨F0, r0, es0, hO0⟩ => tI_bind es0 hO0 fun p J F1 H1 p1 ok1 hO1 => by
    obtain ⟨ds, r1⟩ := p
    refine ⟨fun i m s H => ∃ F r, i + m = ds.length ∧ ES X.K B F H s r ∧ Ext F1 H1 F H ∧ OutP (forD a cb (ds.drop i) r) (FlP X.K B F H D) (EW X.K B W F H),
      ⟨ds.length, F1, r1, by simp, p1.es, .refl, hO1.mono (fun _ q => FlP.step p1.ext q) fun _ _ x => x⟩, ?_⟩
    rintro i m s H ⟨F, r, hm, es, ex, hO⟩
    by_cases h : i < ds.length
    · refine .inr ⟨ok1.go F H ex i h, fun s' H' => ∃ F' r', ES X.K B F' H' s' r' ∧ Ext F1 H1 F' H' ∧ OutP (forD a cb (ds.drop (i + 1)) r') (FlP X.K B F' H' D) (EW X.K B W F' H'), fun s' H' ⟨F', r', e1, e2, e3⟩ => ⟨m - 1, by omega, F', r', by omega, e1, e2, e3⟩, fun x H' hy => ?_⟩
      obtain ⟨F', al, rp⟩ := ok1.yld F H ex es.dom i ds[i] (List.getElem?_eq_getElem h) x H' hy
      have ps := al.pst es
      rw [drop_cons h] at hO
      obtain ⟨r2, g1, g2⟩ := hO.bind.ofO
      refine ⟨F', r, _, r2, ps.es, rp, g1, fun s' es' _ => ⟨F', r2, es', (g2.mono (fun _ x => x) (EW.step ps.ext)).bind.mono (fun f hf => ?_) fun _ _ x => x⟩⟩
      cases f with
      | nx r3 => exact fun s2 F2 H2 es2 e2 => ⟨F2, r3, es2, ex.trans (ps.ext.trans e2), hf.mono (fun _ q => FlP.step (ps.ext.trans e2) q) (EW.step e2)⟩
      | ct r3 => exact fun s2 F2 H2 es2 e2 => ⟨F2, r3, es2, ex.trans (ps.ext.trans e2), hf.mono (fun _ q => FlP.step (ps.ext.trans e2) q) (EW.step e2)⟩
      | bk r3 => exact fun s2 F2 H2 es2 e2 => hf s2 F2 H2 es2 (ps.ext.trans e2)
      | rt x r3 => exact fun v s2 F2 H2 es2 e2 ok => hf v s2 F2 H2 es2 (ps.ext.trans e2) ok
    · have hl : i = ds.length := by omega
      subst hl
      rw [List.drop_length] at hO
      exact .inl ⟨ok1.stop F H ex, hO s F H es .refl⟩
end

def clr (vs : List Nat) (r : DE) : DE := match vs with
  | [] => r
  | v :: vs => (clr vs r).set v .no
def clear (vs : List Nat) (r : DE) : Bool := vs.all fun v => match r[v]? with
  | some .no => true
  | _ => false
def lcD (vs : List Nat) (a : As) (t : CT) (c : CF) : List D → DE → Out (List D × DE)
  | [], r => .ok ([], r)
  | d :: ds, r => (ofO (a d r)).bind fun r1 => (t r1).bind fun p => match p.1 with
    | true => (c p.2).bind fun q => (lcD vs a t c ds (clr vs q.2)).bind fun w => .ok (q.1 :: w.1, w.2)
    | false => lcD vs a t c ds (clr vs p.2)
/-- nothing is raised out of a comprehension -/
def noEx {α : Type} : Out α → Out α
  | .ok a => .ok a
  | _ => .no
theorem OutP.noEx {α : Type} {o : Out α} {P : α → Prop} {E E' : Exn → DE → Prop} (h : OutP (noEx o) P E) : OutP o P E' := by
  cases o with
  | no => exact h
  | ok a => exact h
  | ex x r => exact h.elim
def cLc (vs : List Nat) (a : As) (it : CI) (t : CT) (c : CF) : C := fun r => (it r).bind fun p => match clear vs p.2 with
  | true => (noEx (lcD vs a t c p.1 p.2)).bind fun w => .ok (.ow (.list w.1), w.2)
  | false => .no
def cYes : CT := fun r => .ok (true, r)

def AsOk (vs : List Nat) (a : As) : Prop := ∀ d r r', a d r = some r' → r'.length = r.length ∧ (∀ i, i ∉ vs → r'[i]? = r[i]?) ∧ ∀ i, i ∈ vs → ∃ d', r'[i]? = some (Sl.fr d')
def AssOk (vs : List Nat) (a : Ass) : Prop := ∀ ds r r', a ds r = some r' → r'.length = r.length ∧ (∀ i, i ∉ vs → r'[i]? = r[i]?) ∧ ∀ i, i ∈ vs → ∃ d', r'[i]? = some (Sl.fr d')
theorem aNm_ok (i : Nat) : AsOk [i] (aNm i) := fun d r r' h => by
  obtain ⟨hi, _, h⟩ := sto_inv h
  cases h
  refine ⟨List.length_set .., fun j hj => List.getElem?_set_ne fun z => hj (by simp [z]), fun j hj => ⟨d, ?_⟩⟩
  have : j = i := by simpa using hj
  subst this
  exact List.getElem?_set_self hi
theorem aNil_ok : AssOk [] aNil := fun ds r r' h => by
  cases ds with
  | nil => cases h; exact ⟨rfl, fun _ _ => rfl, fun _ h => absurd h (by simp)⟩
  | cons _ _ => cases h
theorem aCons_ok {vs ws : List Nat} {a : As} {b : Ass} (ha : AsOk vs a) (hb : AssOk ws b) : AssOk (vs ++ ws) (aCons a b) := fun ds r r' h => by
  cases ds with
  | nil => cases h
  | cons d ds =>
    obtain ⟨r1, g1, g2⟩ := Option.bind_eq_some_iff.mp h
    obtain ⟨l1, o1, i1⟩ := ha d r r1 g1
    obtain ⟨l2, o2, i2⟩ := hb ds r1 r' g2
    refine ⟨l2.trans l1, fun j hj => (o2 j fun z => hj (List.mem_append_right _ z)).trans (o1 j fun z => hj (List.mem_append_left _ z)), fun j hj => ?_⟩
    by_cases z : j ∈ ws
    · exact i2 j z
    · rcases List.mem_append.mp hj with q | q
      · rw [o2 j z]
        exact i1 j q
      · exact absurd q z
theorem aTup_ok {vs : List Nat} {n : Nat} {b : Ass} (hb : AssOk vs b) : AsOk vs (aTup n b) := fun d r r' h => by
  cases d with
  | tuple ds =>
    have h : (if ds.length = n then b ds r else none) = some r' := h
    split at h
    · exact hb ds r r' h
    · cases h
  | _ => cases h
theorem wipe_same : ∀ (vs : List Nat) (s : St), SameOut vs s (wipe s vs)
  | [], s => ⟨rfl, fun _ _ => rfl⟩
  | v :: vs, s => by
    obtain ⟨h1, h2⟩ := wipe_same vs s
    refine ⟨wipe_length s (v :: vs), fun j hj => ?_⟩
    show ((wipe s vs).set v none)[j]? = s[j]?
    rw [List.getElem?_set_ne fun z => hj (by simp [z])]
    exact h2 j fun z => hj (List.mem_cons_of_mem _ z)
theorem wipe_none : ∀ (vs : List Nat) (s : St) (j : Nat), j ∈ vs → j < s.length → (wipe s vs)[j]? = some none
  | [], _, _, h, _ => absurd h (by simp)
  | v :: vs, s, j, h, hl => by
    show ((wipe s vs).set v none)[j]? = some none
    by_cases z : v = j
    · subst z
      exact List.getElem?_set_self (by rw [wipe_length]; exact hl)
    · rw [List.getElem?_set_ne z]
      exact wipe_none vs s j ((List.mem_cons.mp h).resolve_left fun q => z q.symm) hl
theorem wipe_eq {vs : List Nat} {s s2 : St} (h : SameOut vs s s2) : wipe s2 vs = wipe s vs := by
  have a := wipe_same vs s
  have b := wipe_same vs s2
  refine List.ext_getElem? fun j => ?_
  by_cases z : j ∈ vs
  · by_cases hl : j < s.length
    · rw [wipe_none vs s j z hl, wipe_none vs s2 j z (by rw [h.1]; exact hl)]
    · rw [List.getElem?_eq_none (by rw [wipe_length, h.1]; omega), List.getElem?_eq_none (by rw [wipe_length]; omega)]
  · rw [a.2 j z, b.2 j z, h.2 j z]
theorem clr_len : ∀ (vs : List Nat) (r : DE), (clr vs r).length = r.length
  | [], _ => rfl
  | v :: vs, r => by
    show ((clr vs r).set v .no).length = _
    rw [List.length_set, clr_len vs r]
theorem clr_out : ∀ (vs : List Nat) (r : DE) (j : Nat), j ∉ vs → (clr vs r)[j]? = r[j]?
  | [], _, _, _ => rfl
  | v :: vs, r, j, h => by
    show ((clr vs r).set v .no)[j]? = _
    rw [List.getElem?_set_ne fun z => h (by simp [z])]
    exact clr_out vs r j fun z => h (List.mem_cons_of_mem _ z)
theorem clr_in : ∀ (vs : List Nat) (r : DE) (j : Nat) (q : Sl), j ∈ vs → (clr vs r)[j]? = some q → q = .no
  | [], _, _, _, h, _ => absurd h (by simp)
  | v :: vs, r, j, q, h, e => by
    have e : ((clr vs r).set v .no)[j]? = some q := e
    rcases set_cases e with ⟨_, z⟩ | ⟨hj, z⟩
    · exact z
    · exact clr_in vs r j q ((List.mem_cons.mp h).resolve_left hj) z
theorem clear_no {vs : List Nat} {r : DE} (h : clear vs r = true) {j : Nat} (hj : j ∈ vs) : r[j]? = some .no := by
  have := List.all_eq_true.mp h j hj
  cases q : r[j]? with
  | none => simp only [q] at this; cases this
  | some x =>
    simp only [q] at this
    cases x with
    | no => rfl
    | fr _ => cases this
    | ow _ => cases this
    | io _ => cases this
section
variable {K : PySem.W.Frag} {B : Bd} {W : Wx} {F F' F1 F2 : Fz} {H H' H1 H2 : Hp} {s s1 s2 : St} {r r' r1 r2 r3 : DE} {vs : List Nat} {D : Addr} {o : HO}
/-- other values in slots that are nothing -/
theorem ES.swap (e : ES K B F H s r) (h : SameOut vs s s2) (hn : ∀ (j : Nat) (q : Sl), j ∈ vs → r[j]? = some q → q = Sl.no) : ES K B F H s2 r := by
  have key : ∀ (j : Nat) (q : Sl), r[j]? = some q → q ≠ Sl.no → s2[j]? = s[j]? := fun j q h1 h2 => h.2 j fun z => h2 (hn j q z h1)
  refine ⟨h.1.trans e.len, e.dom, e.sub, e.new, e.kpF, e.kp, fun j d q => ?_, fun j d q => ?_, fun j d q => ?_, fun j k b d1 d2 q1 q2 q3 q4 => ?_, e.ioK⟩
  · rw [key j _ q (by simp)]
    exact e.fr j d q
  · rw [key j _ q (by simp)]
    exact e.ow j d q
  · rw [key j _ q (by simp)]
    exact e.io j d q
  · rw [key j _ q1 (by simp)] at q3
    rw [key k _ q2 (by simp)] at q4
    exact e.sep j k b d1 d2 q1 q2 q3 q4
theorem OwAt.swap {a : Addr} (h : SameOut vs s s2) (hn : ∀ (j : Nat) (q : Sl), j ∈ vs → r[j]? = some q → q = Sl.no) (w : OwAt r s2 a) : OwAt r s a := by
  obtain ⟨i, q, h1, h2, h3⟩ := w
  refine ⟨i, q, h1, h2, ?_⟩
  rw [← h.2 i fun z => by rw [hn i q z h1] at h2; exact h2]
  exact h3
theorem SameOut.symm (h : SameOut vs s s2) : SameOut vs s2 s := ⟨h.1.symm, fun j hj => (h.2 j hj).symm⟩
theorem Pst.swap (p : Pst K B F H s r F' H' r') (h : SameOut vs s s2) (hn : ∀ (j : Nat) (q : Sl), j ∈ vs → r[j]? = some q → q = Sl.no) (hn' : ∀ (j : Nat) (q : Sl), j ∈ vs → r'[j]? = some q → q = Sl.no) : Pst K B F H s2 r F' H' r' :=
  ⟨p.es.swap h hn', p.sub, p.rd, fun a z => (p.new a z).imp id fun q => q.imp id fun w => w.swap h.symm hn, fun a o h1 h2 h3 => p.kp a o h1 h2 fun w => h3 (w.swap h.symm hn), p.grow, p.live, p.ow⟩
theorem nor_clr (j : Nat) (q : Sl) (hj : j ∈ vs) (h : (clr vs r)[j]? = some q) : q = Sl.no := clr_in vs r j q hj h
theorem nor_clear (h : clear vs r = true) (j : Nat) (q : Sl) (hj : j ∈ vs) (e : r[j]? = some q) : q = Sl.no := by
  rw [clear_no h hj] at e
  cases e
  rfl
theorem clr_clear (h : ∀ j, j ∈ vs → j < r.length) : clear vs (clr vs r) = true := List.all_eq_true.mpr fun j hj => by
  have hl : j < (clr vs r).length := by rw [clr_len]; exact h j hj
  have e := List.getElem?_eq_getElem hl
  rw [clr_in vs r j _ hj e] at e
  rw [e]
/-- a turn: the target set, something evaluated, the target's slots forgotten -/
theorem turn_back (e : ES K B F H s r) (hc : clear vs r = true) (so : SameOut vs s s2) (hlen : r2.length = r.length) (hout : ∀ i : Nat, i ∉ vs → r2[i]? = r[i]?) (hin : ∀ i : Nat, i ∈ vs → ∃ d', r2[i]? = some (Sl.fr d'))
    (p : Pst K B F H s2 r2 F' H' r3) : Pst K B F H s r F' H' (clr vs r3) := by
  have ow2 : ∀ a, OwAt r2 s2 a → OwAt r s a := fun a ⟨i, q, h1, h2, h3⟩ => by
    by_cases z : i ∈ vs
    · obtain ⟨d', hd⟩ := hin i z
      rw [hd] at h1
      cases h1
      exact h2.elim
    · exact ⟨i, q, by rw [← hout i z]; exact h1, h2, by rw [← so.2 i z]; exact h3⟩
  have n0 : ∀ b, B.io = some b → 0 ∉ vs := fun b hb z => by
    obtain ⟨⟨d, hd⟩, _⟩ := e.ioK b hb
    rw [clear_no hc z] at hd
    cases hd
  have es2 : ES K B F' H' s2 (clr vs r3) := by
    have q := p.es
    have key : ∀ (j : Nat) (x : Sl), (clr vs r3)[j]? = some x → x ≠ Sl.no → r3[j]? = some x := fun j x h1 h2 => by
      by_cases z : j ∈ vs
      · exact absurd (clr_in vs r3 j x z h1) h2
      · rw [← clr_out vs r3 j z]
        exact h1
    refine ⟨by rw [clr_len]; exact q.len, q.dom, q.sub, q.new, q.kpF, q.kp, fun j d w => q.fr j d (key j _ w (by simp)), fun j d w => q.ow j d (key j _ w (by simp)), fun j d w => q.io j d (key j _ w (by simp)),
      fun j k b d1 d2 w1 w2 => q.sep j k b d1 d2 (key j _ w1 (by simp)) (key k _ w2 (by simp)), fun b hb => ?_⟩
    obtain ⟨⟨d, hd⟩, z2⟩ := q.ioK b hb
    exact ⟨⟨d, by rw [clr_out vs r3 0 (n0 b hb)]; exact hd⟩, z2⟩
  refine ⟨es2.swap so.symm fun j q => nor_clr j q, p.sub, p.rd, fun a h => (p.new a h).imp id fun q => q.imp id (ow2 a), fun a o h1 h2 h3 => p.kp a o h1 h2 fun w => h3 (ow2 a w), p.grow, fun i h => ?_, fun i q h1 h2 => ?_⟩
  · have z : i ∉ vs := fun z => by
      obtain ⟨q, h1, h2⟩ := h
      exact h2 (nor_clear hc i q z h1)
    obtain ⟨q, h1, h2⟩ := h
    obtain ⟨q', h3, h4⟩ := p.live i ⟨q, by rw [hout i z]; exact h1, h2⟩
    exact ⟨q', by rw [clr_out vs r3 i z]; exact h3, h4⟩
  · by_cases z : i ∈ vs
    · rw [clr_in vs r3 i q z h1] at h2
      exact h2.elim
    · rw [clr_out vs r3 i z] at h1
      obtain ⟨q', h3, h4⟩ := p.ow i q h1 h2
      exact ⟨q', by rw [← hout i z]; exact h3, h4⟩
/-- an object of nobody's changes -/
theorem Pst.tmp (p : Pst K B F H s r F' H' r') (hD : H D = none) (h0 : B.H0 D = none) (hf : ¬ F' D) (hw : ¬ OwAt r' s D) : Pst K B F H s r F' (upd H' D o) r' := by
  have q := p.es
  have ex := ext_upd (o := o) (H := H') hf
  have neF : ∀ b, F' b → b ≠ D := fun b h z => hf (z ▸ h)
  have ne0 : ∀ b u, B.H0 b = some u → b ≠ D := fun b u h z => by subst z; rw [h0] at h; cases h
  have neo : ∀ (i : Nat) (x : Sl) (b : Addr), r'[i]? = some x → isOw x → s[i]? = some (some (V.ref b)) → b ≠ D := fun i x b h1 h2 h3 z => hw ⟨i, x, h1, h2, by rw [← z]; exact h3⟩
  refine ⟨⟨q.len, fun b h => by rw [upd_ne (neF b h)]; exact q.dom b h, q.sub, q.new, fun b u h1 h2 => ex.rd b u (q.sub b h1) (q.kpF b u h1 h2), fun b u h1 h2 h3 => by rw [upd_ne (ne0 b u h1)]; exact q.kp b u h1 h2 h3, fun j d w => ?_, fun j d w => ?_, fun j d w => ?_, q.sep, q.ioK⟩,
    p.sub, fun a u h1 h2 => ex.rd a u (p.sub a h1) (p.rd a u h1 h2), p.new, fun a u h1 h2 h3 => ?_, fun a h => ?_, p.live, p.ow⟩
  · obtain ⟨v, g1, g2⟩ := q.fr j d w
    exact ⟨v, g1, g2.ext ex⟩
  · obtain ⟨a, g1, g2, g3, g4⟩ := q.ow j d w
    exact ⟨a, g1, g2, g3.ext ex fun o' h => by rw [upd_ne (neo j _ a w trivial g1)]; exact h, g4⟩
  · obtain ⟨g0, a, g1, g2, g3, g4⟩ := q.io j d w
    exact ⟨g0, a, g1, g2, g3.ext ex fun o' h => by rw [upd_ne (neo j _ a w trivial g1)]; exact h, g4⟩
  · have ne : a ≠ D := fun z => by subst z; rw [hD] at h1; cases h1
    rw [upd_ne ne]
    exact p.kp a u h1 h2 h3
  · by_cases z : a = D
    · rw [z]
      exact hD
    · rw [upd_ne z] at h
      exact p.grow a h
theorem Pst.keepsD (p : Pst K B F H s r F' H' r') (h : H D = some o) (hf : ¬ F D) (hw : ¬ OwAt r s D) : H' D = some o ∧ ¬ F' D ∧ ¬ OwAt r' s D :=
  ⟨p.kp D o h hf hw, fun z => by
    rcases p.new D z with z | z | z
    · exact hf z
    · rw [h] at z
      cases z
    · exact hw z, fun z => hw (p.owB z)⟩
end
end Ed
end
section
namespace Ed
open PySem PySem.Spec L2

/-- nothing may be raised -/
def Wno : Wx := fun _ _ _ _ _ => False
theorem lc_mono {K : PySem.W.Frag} {B : Bd} {W : Wx} {vs : List Nat} {a : As} {ci : CI} {t : CT} {c : CF} {g : TG} {tt : TT} {te : TE} (ha : AsOk vs a)
    (mg : ∀ v s H Q, tG K B vs a v s H Q → g v s H Q) (mt : ∀ s H Q, tT K B Wno t s H Q → tt s H Q) (me : ∀ s H Q, tF K B Wno c s H Q → te s H Q)
    (s0 : St) (H0 : Hp) (Q : VK) (h : tC K B W (cLc vs a ci t c) s0 H0 Q) : tLc (tI K B W ci) g tt te vs s0 H0 Q := by
  obtain ⟨F, r, es, hO⟩ := h
  refine tI_bind es hO fun p J F1 H1 p1 ok1 hO1 => ?_
  obtain ⟨ds, r1⟩ := p
  cases hc : clear vs r1 with
  | false => simp only [hc] at hO1; exact hO1.elim
  | true =>
  simp only [hc] at hO1
  intro D hD
  have hO2 := hO1.bind.noEx (E' := EW K B Wno F1 H1)
  have h0 : B.H0 D = none := p1.es.old hD
  have hF : ¬ F1 D := not_frz p1.es.dom hD
  have hw : ¬ OwAt r1 s0 D := fun z => by
    obtain ⟨_, ⟨d, hd⟩, _⟩ := p1.es.owAt z
    obtain ⟨o, ho⟩ := hd.some
    rw [hD] at ho
    cases ho
  have sw := wipe_same vs s0
  have P0 : Pst K B F1 H1 (wipe s0 vs) r1 F1 (upd H1 D (.lst [])) r1 := ((Pst.refl p1.es).tmp hD h0 hF hw).swap sw (nor_clear hc) (nor_clear hc)
  have hlen := ok1.len
  have ok1 : ItOk K F1 H1 J ds := ok1
  have hlen : ds.length ≤ 16777216 := hlen
  refine ⟨fun i m Hc => ∃ Fc rc acc accD, i + m = ds.length ∧ Pst K B F1 H1 (wipe s0 vs) r1 Fc Hc rc ∧ clear vs rc = true ∧ ¬ Fc D ∧ ¬ OwAt rc (wipe s0 vs) D ∧ Hc D = some (.lst acc) ∧ RpAll K Fc Hc acc accD ∧ acc.length ≤ i ∧
      OutP (lcD vs a t c (ds.drop i) rc) (fun w => ∀ v F' H', Pst K B F H0 s0 r F' H' w.2 → RvOk K B F' H' s0 w.2 v (.ow (.list (accD ++ w.1))) → Fresh H0 v (.ow (.list (accD ++ w.1))) → Q v H') (EW K B Wno Fc Hc),
    ⟨ds.length, F1, r1, [], [], by simp, P0, hc, hF, fun z => hw (z.swap sw (nor_clear hc)), upd_same, .nil, Nat.le_refl _, hO2.mono (fun w hw => hw) (EW.step P0.ext)⟩, ?_⟩
  rintro i m Hc ⟨Fc, rc, acc, accD, hm, P, hcc, nF, nW, hD', racc, hal, hO⟩
  by_cases hi : i < ds.length
  · refine .inr ⟨ok1.go Fc Hc P.ext i hi, fun Hn => ∃ Fc rc acc accD, i + 1 + (m - 1) = ds.length ∧ Pst K B F1 H1 (wipe s0 vs) r1 Fc Hn rc ∧ clear vs rc = true ∧ ¬ Fc D ∧ ¬ OwAt rc (wipe s0 vs) D ∧ Hn D = some (.lst acc) ∧ RpAll K Fc Hn acc accD ∧ acc.length ≤ i + 1 ∧
        OutP (lcD vs a t c (ds.drop (i + 1)) rc) (fun w => ∀ v F' H', Pst K B F H0 s0 r F' H' w.2 → RvOk K B F' H' s0 w.2 v (.ow (.list (accD ++ w.1))) → Fresh H0 v (.ow (.list (accD ++ w.1))) → Q v H') (EW K B Wno Fc Hn),
      fun Hn hn => ⟨m - 1, by omega, hn⟩, fun x H' hy => ?_⟩
    obtain ⟨F', al, rp⟩ := ok1.yld Fc Hc P.ext P.es.dom i ds[i] (List.getElem?_eq_getElem hi) x H' hy
    have ps := al.pst P.es
    obtain ⟨k1, k2, k3⟩ := ps.keepsD hD' nF nW
    rw [drop_cons hi] at hO
    obtain ⟨r2, g1, hO3⟩ := hO.bind.ofO
    obtain ⟨hl2, hout, hin⟩ := ha _ _ _ g1
    refine mg _ _ _ _ ⟨F', rc, ds[i], r2, ps.es, rp, g1, fun s2 es2 so2 => ⟨(wipe_eq so2).trans (wipe_eq sw), mt _ _ _ (tT_bind es2 (hO3.mono (fun _ x => x) (EW.step ps.ext)) fun q F3 H3 p3 hO4 => ?_)⟩⟩
    have inb : ∀ {r' : DE}, r'.length = r2.length → clear vs (clr vs r') = true := fun {r'} hl => clr_clear fun j hj => by
      have := clear_no hcc hj
      have hj' := (List.getElem?_eq_some_iff.mp this).1
      rw [hl, hl2]
      exact hj'
    cases hq : q.1 with
    | false =>
      simp only [hq] at hO4
      rw [if_neg (by simp)]
      have tb := turn_back ps.es hcc so2 hl2 hout hin p3
      obtain ⟨m1, m2, m3⟩ := tb.keepsD k1 k2 k3
      exact ⟨F3, clr vs q.2, acc, accD, by omega, P.trans (ps.trans tb), inb (by rw [← p3.es.len, ← es2.len]), m2, m3, m1, racc.ext (ps.trans tb).ext, by omega, hO4⟩
    | true =>
      simp only [hq] at hO4
      rw [if_pos rfl]
      refine me _ _ _ (tF_bind p3.es hO4 fun u y F4 H4 p4 ok4 hO5 => ?_)
      have tb := turn_back ps.es hcc so2 hl2 hout hin (p3.trans p4)
      obtain ⟨m1, m2, m3⟩ := tb.keepsD k1 k2 k3
      have PT := (P.trans (ps.trans tb)).tmp (o := .lst (acc ++ [y])) hD h0 m2 m3
      have ex := ext_upd (o := .lst (acc ++ [y])) (H := H4) m2
      refine ⟨acc, m1, by rw [sizeLine_eq]; omega, F4, clr vs u.2, acc ++ [y], accD ++ [u.1], by omega, PT, inb (by rw [← p4.es.len, ← es2.len]), m2, m3, upd_same, ((racc.ext (ps.trans tb).ext).app (.one ok4)).ext ex, by rw [List.length_append, List.length_singleton]; omega, (hO5.bind.mono (fun w hw => ?_) (EW.step ex))⟩
      have e : accD ++ [u.1] ++ w.1 = accD ++ (u.1 :: w.1) := by rw [List.append_assoc]; rfl
      rw [e]
      exact hw
  · have hl : i = ds.length := by omega
    subst hl
    rw [List.drop_length] at hO
    refine .inl ⟨ok1.stop Fc Hc P.ext, ?_⟩
    have hO : ∀ v F' H', Pst K B F H0 s0 r F' H' rc → RvOk K B F' H' s0 rc v (.ow (.list (accD ++ []))) → Fresh H0 v (.ow (.list (accD ++ []))) → Q v H' := hO
    rw [List.append_nil] at hO
    have PB := P.swap sw.symm (nor_clear hc) (nor_clear hcc)
    refine hO (.ref D) Fc Hc (p1.trans PB) ⟨D, rfl, nF, .inl ⟨acc, accD, rfl, hD', racc⟩, h0, fun z => nW (z.swap sw.symm (nor_clear hcc))⟩ fun b e => ?_
    cases e
    exact p1.grow D hD

section
variable {X : Cx} {B : Bd} {W : Wx} {elt tg iter : Expr} {ifs : List Expr} {scope : Scope} {own : List (Str × Nat)} {pos spos py : Pos} {a : As} {ci : CI} {t : CT} {c : CF} {y : Str}
theorem d_yes : PTs X [] (tT X.K B W cYes) := ⟨fun pins s σ H Q I ⟨F, r, es, hO⟩ => pts_nil.run pins s σ H Q I (hO F H (.refl es))⟩
theorem d_tone {q : Expr} (h : PT X q (tT X.K B W t)) : PTs X [q] (tT X.K B W t) := pts_one h
/-- [e for x in xs if ..] as a value -/
theorem d_lc (hc : X.calm = true) (hN : X.N.Nodup) (hi : PI X tg iter (tI X.K B W ci)) (ok : BlkOk X.N X.env.scope scope own) (ha : AsOk (own.map (·.2)) a)
    (hg : ∀ (s : Shared) (H : Hp) (C : Addr) (cl : List (Str × Addr)) (fp : List Addr), PG (X.blk s H scope (compEnvC scope cl C X.env) fp) tg (tG X.K B (own.map (·.2)) a))
    (ht : ∀ (s : Shared) (H : Hp) (C : Addr) (cl : List (Str × Addr)) (fp : List Addr), PTs (X.blk s H scope (compEnvC scope cl C X.env) fp) ifs (tT X.K B Wno t))
    (he : ∀ (s : Shared) (H : Hp) (C : Addr) (cl : List (Str × Addr)) (fp : List Addr), PE (X.blk s H scope (compEnvC scope cl C X.env) fp) elt (tF X.K B Wno c)) (hs : ∀ x, foldedSetIterable iter X.env x = pure x := by intro _; rfl) :
    PE X (.ListComp elt [⟨tg, iter, ifs, 0⟩] scope pos) (tC X.K B W (cLc (own.map (·.2)) a ci t c)) :=
  PE_mono (pe_lc hc hN hi ok hg ht he hs) (lc_mono ha (fun _ _ _ _ h => h) (fun _ _ _ h => h) fun _ _ _ h => h)
/-- y = [..] on one line, y a local -/
theorem d_setLc (i : Nat) (hc : X.calm = true) (hN : X.N.Nodup) (hi : PI X tg iter (tI X.K B W ci)) (ok : BlkOk X.N X.env.scope scope own) (ha : AsOk (own.map (·.2)) a)
    (hg : ∀ (s : Shared) (H : Hp) (C : Addr) (cl : List (Str × Addr)) (fp : List Addr), PG (X.blk s H scope (compEnvC scope cl C X.env) fp) tg (tG X.K B (own.map (·.2)) a))
    (ht : ∀ (s : Shared) (H : Hp) (C : Addr) (cl : List (Str × Addr)) (fp : List Addr), PTs (X.blk s H scope (compEnvC scope cl C X.env) fp) ifs (tT X.K B Wno t))
    (he : ∀ (s : Shared) (H : Hp) (C : Addr) (cl : List (Str × Addr)) (fp : List Addr), PE (X.blk s H scope (compEnvC scope cl C X.env) fp) elt (tF X.K B Wno c))
    (hsw : swapsWith (.ListComp elt [⟨tg, iter, ifs, 0⟩] scope pos) (some (.Name y py)) spos.line X.env = pure true)
    (hy : X.N[i]? = some y := by rfl) (hyl : X.env.scope.names.lookup y = some .local := by rfl) (hs : ∀ x, foldedSetIterable iter X.env x = pure x := by intro _; rfl) :
    PS X (.Assign [.Name y py] (.ListComp elt [⟨tg, iter, ifs, 0⟩] scope pos) spos) (tS X.K B W (cSet i (cLc (own.map (·.2)) a ci t c))) :=
  PS_mono (ps_setLc hc hN hy hyl hsw hi ok hg ht he hs) fun D s H h => lc_mono ha (fun _ _ _ _ h => h) (fun _ _ _ h => h) (fun _ _ _ h => h) s H _ (set_mono h)
end
end Ed
end
section
namespace Ed
open PySem PySem.Spec L2
open PyProof.Rows (envOfC)

structure FnG (P : Program) (w : World) (K : PySem.W.Frag) (mg : Str → Option Value) (base : Heap) (CX : CXT) (k : Nat) (f : Addr) (fd : FuncData) (ps : List Str) (sp : Sp) : Prop where
  len : ∀ vs H Q E, sp vs H Q E → vs.length = ps.length
  run : ∀ (A : Around) (o : List Env) (s : Shared) (H : Hp) (args : Args) (us : List Value) (vs : List V) (Q : VK) (E : XK), Room k A → A.guards = some [] → Env0 P w K mg base A o s H → BindsTo s fd args (ps.zip us) → Vals vs us → sp vs H Q E →
    codeAny (model P w) A (.call (.ref f) args) (CR CX o P w H s Q E) s
section
variable {P : Program} {w : World} {K : PySem.W.Frag} {mg : Str → Option Value} {base : Heap} {CX : CXT} {k : Nat} {f : Addr} {fd : FuncData} {ps : List Str} {sp : Sp}
theorem FnG.up {j : Nat} (F : FnG P w K mg base CX j f fd ps sp) (h : j ≤ k) : FnG P w K mg base CX k f fd ps sp :=
  ⟨F.len, fun A o s H args us vs Q E hr => F.run A o s H args us vs Q E (hr.mono h)⟩
end
section
variable {X : Cx} {CX : CXT} {k : Nat} {f : Addr} {fd : FuncData} {ps : List Str} {sp : Sp} {dvs : List V} {ds : List Value} {E : XK} {x : Str} {p pos : Pos} {e : Expr} {es : List Expr} {t : TA}
/-- f(e, ..), f a def -/
theorem pe_callG (F : FnG X.prog X.w X.K X.mg X.base CX k f fd ps sp) (hr : Room k X.A) (hgd : X.A.guards = some []) (hg : Gl X x) (hm : X.mg x = some (.ref f)) (hk : PySem.W.keepIn X.K (.ref f) = true) (hb : Binds X.K fd ps ds) (hd : Vals dvs ds) (hx : Passes CX X E)
    (ha : PA X (e :: es) t) (hdb : (x == ("__debug__" : Str)) = false := by decide) (he : starEach (e :: es) X.env = (false, eval e X.env) :: starEach es X.env := by rfl) (hpl : (backTo pos (starEach es X.env)).any (·.1) = false := by rfl) :
    PE X (.Call (.Name x p) (e :: es) [] pos) (tCall sp dvs E t) := by
  refine ⟨fun pins s σ H Q I h => wpAny_Call_Name_kw (ld_glob I hg hm (PySem.W.callWith_K (h₀ := X.base) I.ok.mod.kin hk (thn (ha.run pos pins s σ H _ I h) fun us s1 ⟨vs, H1, I1, r, q⟩ => ⟨I1.kIn, ?_⟩) he hpl) hdb)⟩
  have q : sp (vs ++ dvs) H1 Q E := q
  have r2 := Vals.append r hd
  have hl : (us ++ ds).length = ps.length := r2.length.symm.trans (F.len _ _ _ _ q)
  refine wpAny_call (codeAny_mono (F.run X.A X.stack s1 H1 ⟨us, []⟩ (us ++ ds) (vs ++ dvs) Q E hr hgd I1.env0 (hb s1 us I1.kIn hl) r2 q) fun a s' b => ?_)
  cases a with
  | error z => exact hx pins σ H1 s1 z s' I1 b
  | ok fl =>
    cases fl with
    | ret u => exact I1.after b
    | next => exact b.elim
    | brk => exact b.elim
    | cont => exact b.elim
end

/-- a def by its body -/
theorem fnG_of {CX : CXT} {P : Program} {w : World} {K : PySem.W.Frag} {mg : Str → Option Value} {base : Heap} {k : Nat} {f : Addr} {name qual : Str} {params : Arguments} {body : List Stmt} {scope : Scope} {dV kV doc pm cdv ct oc : Value} {an od : Option Addr}
    {osl : Array (Option Value)} {N ps : List Str} {sp : Sp} (lk : K.lookup f = some ⟨oc, od, .func (PySem.W.fnOf name qual params body scope dV kV doc pm an cdv ct), osl⟩) (hcd : PySem.W.codeIn K cdv qual = true) (S : FnScope N ps scope)
    (len : ∀ vs H Q E, sp vs H Q E → vs.length = ps.length)
    (hbody : ∀ (A : Around) (o : List Env) (s : Shared) (H : Hp) (vs : List V) (Q : VK) (E : XK), Room k (A.deeper (envOfC qual scope s.heap.objs.size f cdv)) → A.guards = some [] → sp vs H Q E →
      ∃ t, PSs (cxOf CX P w K mg base N qual scope f cdv A o s H E) body t ∧ t { nx := fun _ H' => Q .non H', rt := Q } (L2.start N vs) H) :
    FnG P w K mg base CX (k + 1) f (PySem.W.fnOf name qual params body scope dV kV doc pm an cdv ct) ps sp := ⟨len, by
  intro A o s H args us vs Q E hr hgd e0 hb r hsp
  have back : ∀ b u, base.get? b = some u → s.heap.get? b = some u := fun b u z => (e0.bs b u z).1
  have KX : K.In s.heap := e0.mod.kin.keeps back
  have lim : s.heap.NoLimit := e0.mod.nolimit.keeps back
  obtain ⟨t, ht, hq⟩ := hbody A o s H vs Q E (hr.deeper _) hgd hsp
  refine codeAny_call_function hr.depth (KX _ _ lk) rfl S.co S.gen rfl (PySem.W.codeRec_of KX hcd) (hb _ _ _ _ (wpAny_newFunctionEnv_cells S.kind (fun y hy => ?_) fun env he s1 x => ?_))
  · rcases S.par y.1 (List.of_mem_zip (a := y.1) (b := y.2) hy).1 with z | z
    · exact .inl z
    · exact .inr ⟨z, PySem.W.cellsFrom_some _ _ _ (.inl z)⟩
  · subst he
    refine ⟨lim.keeps x.toInCall.keep, codeAny_func (wpAny_mono (ht.run [] s1 (L2.start N vs) H _ (inv_start S hr.hd e0 (len _ _ _ _ hsp) r x) hq) (fun fl s' hs => ?_) fun e s' hs => hs)⟩
    cases fl with
    | ret u =>
      obtain ⟨v, _, H', J, rv, q⟩ := hs
      exact ⟨v, H', J.os, J.bare, J.base, J.hok, rv, q⟩
    | next =>
      obtain ⟨_, H', J, q⟩ := hs
      exact ⟨V.non, H', J.os, J.bare, J.base, J.hok, rfl, q⟩
    | brk =>
      obtain ⟨_, _, _, q⟩ := hs
      exact q.elim
    | cont =>
      obtain ⟨_, _, _, q⟩ := hs
      exact q.elim⟩

inductive FOut where
  | no
  | ok (x : Rv) (o : Option D)
def ArgOk (K : PySem.W.Frag) (F : Fz) (H : Hp) (ioa : Option Addr) (vs : List V) (ds : List D) : Prop := match ioa with
  | none => RpAll K F H vs ds
  | some a => ∃ vs' d ds', vs = .ref a :: vs' ∧ ds = d :: ds' ∧ ¬ F a ∧ Root K F H a d ∧ RpAll K F H vs' ds'
structure CPost (K : PySem.W.Frag) (F : Fz) (H : Hp) (ioa : Option Addr) (F' : Fz) (H' : Hp) (o : Option D) : Prop where
  sub : ∀ a, F a → F' a
  new : ∀ a, F' a → F a ∨ H a = none
  dom : ∀ a, F' a → H' a ≠ none
  rd : ∀ a u, F a → Rd H a u → Rd H' a u
  kp : ∀ a u, H a = some u → ¬ F a → ioa ≠ some a → H' a = some u
  io : ∀ a, ioa = some a → ¬ F' a ∧ ∃ d, o = some d ∧ Root K F' H' a d
/-- io: the first argument is an owned root, which may be changed -/
def spF (K : PySem.W.Frag) (io : Bool) (np : Nat) (sem : List D → FOut) : Sp := fun vs H Q _ => vs.length = np ∧ ∃ F ds ioa, ioa.isSome = io ∧ (∀ a, F a → H a ≠ none) ∧ ArgOk K F H ioa vs ds ∧ match sem ds with
  | .no => False
  | .ok x o => ∀ v F' H', CPost K F H ioa F' H' o → RvNew K H F' H' v x → Q v H'
def fin (io : Bool) (x : Rv) (r : DE) : FOut :=
  let o := match io with
    | true => match r.getD 0 .no with
      | .io d => some d
      | _ => none
    | false => none
  match x with
  | .fr d => .ok (.fr d) o
  | .ow d => .ok (.ow d) o
  | .sl i => match r.getD i .no with
    | .fr d => .ok (.fr d) o
    | .ow d => .ok (.ow d) o
    | _ => .no
def st0 (io : Bool) (n : Nat) (ds : List D) : DE := (match io, ds with
  | true, d :: ds => .io d :: ds.map .fr
  | _, _ => ds.map .fr) ++ List.replicate (n - ds.length) .no
def runF (io : Bool) (n : Nat) (c : SC) (ds : List D) : FOut := match c (st0 io n ds) with
  | .ok (.rt x r) => fin io x r
  | .ok (.nx r) => fin io (.fr .none) r
  | _ => .no
section
variable {K : PySem.W.Frag} {B : Bd} {W : Wx} {F F' F1 F2 : Fz} {H H' H1 H2 : Hp} {s : St} {r r' r1 r2 : DE}
theorem start_get (N : List Str) (vs : List V) (i : Nat) (v : V) (h : vs[i]? = some v) : (L2.start N vs)[i]? = some (some v) := by
  unfold L2.start
  have hl := (List.getElem?_eq_some_iff.mp h).1
  rw [List.getElem?_append_left (by rw [List.length_map]; exact hl), List.getElem?_map, h]
  rfl
theorem map_fr {ds : List D} {j : Nat} {q : Sl} {m : Nat} (h : (ds.map Sl.fr ++ List.replicate m Sl.no)[j]? = some q) : (∃ d, ds[j]? = some d ∧ q = .fr d) ∨ q = .no := by
  by_cases hl : j < ds.length
  · rw [List.getElem?_append_left (by rw [List.length_map]; exact hl), List.getElem?_map, List.getElem?_eq_getElem hl] at h
    cases h
    exact .inl ⟨_, List.getElem?_eq_getElem hl, rfl⟩
  · rw [List.getElem?_append_right (by rw [List.length_map]; omega), List.getElem?_replicate] at h
    split at h
    · cases h
      exact .inr rfl
    · cases h
theorem rp_at {vs : List V} {ds : List D} : ∀ {i : Nat} {d : D}, RpAll K F H vs ds → ds[i]? = some d → ∃ v, vs[i]? = some v ∧ Rp K F H v d := fun a b => a.at b
theorem es_start {N : List Str} {vs : List V} {ds : List D} {ioa : Option Addr} (hd : ∀ a, F a → H a ≠ none) (ha : ArgOk K F H ioa vs ds) (hn : vs.length ≤ N.length) : ES K ⟨F, H, ioa⟩ F H (L2.start N vs) (st0 ioa.isSome N.length ds) := by
  cases ioa with
  | none =>
    have ha : RpAll K F H vs ds := ha
    have e : st0 (none : Option Addr).isSome N.length ds = ds.map Sl.fr ++ List.replicate (N.length - ds.length) Sl.no := by
      unfold st0
      cases ds <;> rfl
    rw [e]
    refine ⟨?_, hd, fun _ h => h, fun _ h => .inl h, fun _ _ _ h => h, fun _ _ h _ _ => h, fun j d q => ?_, fun j d q => ?_, fun j d q => ?_, fun j k b d1 d2 q1 q2 => ?_, fun b hb => ?_⟩
    · unfold L2.start
      rw [List.length_append, List.length_append, List.length_map, List.length_map, List.length_replicate, List.length_replicate, ha.length]
    · rcases map_fr q with ⟨d', h1, h2⟩ | h1
      · cases h2
        obtain ⟨v, g1, g2⟩ := ha.at h1
        exact ⟨v, start_get N vs j v g1, g2⟩
      · cases h1
    · rcases map_fr q with ⟨d', h1, h2⟩ | h1 <;> cases ‹_›
    · rcases map_fr q with ⟨d', h1, h2⟩ | h1 <;> cases ‹_›
    · rcases map_fr q1 with ⟨d', h1, h2⟩ | h1 <;> cases ‹_›
    · cases hb
  | some a =>
    obtain ⟨vs', d0, ds', rfl, rfl, nf, hr, ha⟩ := ha
    have e : st0 (some a).isSome N.length (d0 :: ds') = Sl.io d0 :: (ds'.map Sl.fr ++ List.replicate (N.length - (d0 :: ds').length) Sl.no) := rfl
    rw [e]
    have g0 : (L2.start N (V.ref a :: vs'))[0]? = some (some (.ref a)) := start_get N _ 0 _ rfl
    refine ⟨?_, hd, fun _ h => h, fun _ h => .inl h, fun _ _ _ h => h, fun _ _ h _ _ => h, fun j d q => ?_, fun j d q => ?_, fun j d q => ?_, fun j k b d1 d2 q1 q2 => ?_, fun b hb => ?_⟩
    · unfold L2.start
      have hl := ha.length
      simp only [List.length_append, List.length_cons, List.length_map, List.length_replicate, hl]
      omega
    · cases j with
      | zero => cases q
      | succ j =>
        have q : (ds'.map Sl.fr ++ List.replicate (N.length - (d0 :: ds').length) Sl.no)[j]? = some (.fr d) := by simpa using q
        rcases map_fr q with ⟨d', h1, h2⟩ | h1
        · cases h2
          obtain ⟨v, g1, g2⟩ := ha.at h1
          exact ⟨v, start_get N _ (j + 1) v (by simpa using g1), g2⟩
        · cases h1
    · cases j with
      | zero => cases q
      | succ j =>
        have q : (ds'.map Sl.fr ++ List.replicate (N.length - (d0 :: ds').length) Sl.no)[j]? = some (.ow d) := by simpa using q
        rcases map_fr q with ⟨d', h1, h2⟩ | h1 <;> cases ‹_›
    · cases j with
      | zero => cases q; exact ⟨rfl, a, g0, nf, hr, rfl⟩
      | succ j =>
        have q : (ds'.map Sl.fr ++ List.replicate (N.length - (d0 :: ds').length) Sl.no)[j]? = some (.io d) := by simpa using q
        rcases map_fr q with ⟨d', h1, h2⟩ | h1 <;> cases ‹_›
    · cases j with
      | zero => cases q1
      | succ j =>
        have q : (ds'.map Sl.fr ++ List.replicate (N.length - (d0 :: ds').length) Sl.no)[j]? = some (.ow d1) := by simpa using q1
        rcases map_fr q with ⟨d', h1, h2⟩ | h1 <;> cases ‹_›
    · cases hb
      obtain ⟨o, ho⟩ := hr.some
      exact ⟨⟨d0, rfl⟩, by rw [show (⟨F, H, some a⟩ : Bd).H0 = H from rfl, ho]; simp, nf⟩
/-- a def's end -/
theorem fin_ok {ioa : Option Addr} {v : V} {x y : Rv} {o : Option D} (e : ES K ⟨F, H, ioa⟩ F' H' s r) (ok : RvOk K ⟨F, H, ioa⟩ F' H' s r v x) (h : fin ioa.isSome x r = .ok y o) : CPost K F H ioa F' H' o ∧ RvNew K H F' H' v y := by
  have hio : ∀ a, ioa = some a → ∃ d, r.getD 0 .no = .io d ∧ ¬ F' a ∧ Root K F' H' a d := fun a ha => by
    obtain ⟨⟨d, hd⟩, _⟩ := e.ioK a ha
    obtain ⟨_, b, _, g2, g3, g4⟩ := e.io 0 d hd
    have g4 : ioa = some b := g4
    rw [ha] at g4
    cases g4
    exact ⟨d, by rw [List.getD_eq_getElem?_getD, hd]; rfl, g2, g3⟩
  have ho : ∀ a, ioa = some a → ¬ F' a ∧ ∃ d, o = some d ∧ Root K F' H' a d := fun a ha => by
    obtain ⟨d, g1, g2, g3⟩ := hio a ha
    refine ⟨g2, d, ?_, g3⟩
    subst ha
    unfold fin at h
    simp only [Option.isSome_some, g1] at h
    split at h
    · cases h; rfl
    · cases h; rfl
    · split at h
      · cases h; rfl
      · cases h; rfl
      · cases h
  refine ⟨⟨e.sub, e.new, e.dom, e.kpF, fun a u h1 h2 h3 => e.kp a u h1 h2 h3, ho⟩, ?_⟩
  unfold fin at h
  cases x with
  | fr d => cases h; exact ok
  | ow d =>
    cases h
    obtain ⟨a, h1, h2, h3, h4, _⟩ := ok
    exact ⟨a, h1, h2, h4, h3⟩
  | sl i =>
    dsimp only at h
    cases q : r.getD i .no with
    | no => rw [q] at h; cases h
    | io d => rw [q] at h; cases h
    | fr d =>
      rw [q] at h
      cases h
      obtain ⟨v', g1, g2⟩ := e.fr i d (getD_some q (by simp))
      rw [ok.1] at g1
      cases g1
      exact g2
    | ow d =>
      rw [q] at h
      cases h
      obtain ⟨a, g1, g2, g3, g4⟩ := e.ow i d (getD_some q (by simp))
      rw [ok.1] at g1
      cases g1
      exact ⟨a, rfl, g2, g4, g3⟩
end
/-- the contract of a def from its body -/
theorem fn_body {P : Program} {w : World} {K : PySem.W.Frag} {mg : Str → Option Value} {base : Heap} {k : Nat} {x qual : Str} {st : Stmt} {f : Addr} {fd : FuncData} {N ps : List Str} {io : Bool} {c : SC} (Fn : Fun K x qual st f fd) (S : FnScope N ps (defScope st))
    (hb : ∀ (cdv : Value) (A : Around) (o : List Env) (s : Shared) (H : Hp) (E : XK) (B : Bd), Room k (A.deeper (envOfC qual (defScope st) s.heap.objs.size f cdv)) → A.guards = some [] →
      PSs (cxOf CX0 P w K mg base N qual (defScope st) f cdv A o s H E).nox (defBody st) (tS K B Wno c)) : FnG P w K mg base CX0 (k + 1) f fd ps (spF K io ps.length (runF io N.length c)) := by
  obtain ⟨oc, od, kV, doc, pm, an, cdv, ct, osl, rfl, lk, hcd⟩ := Fn.ex
  refine fnG_of lk hcd S (fun vs H Q E h => h.1) fun A o s H vs Q E hr hgd hsp => ?_
  obtain ⟨hl, F, ds, ioa, rfl, hd, ha, hs⟩ := hsp
  refine ⟨_, (hb cdv A o s H E ⟨F, H, ioa⟩ hr hgd).nox, F, _, es_start hd ha ?_, ?_⟩
  · rw [hl, ← S.pre, List.length_take]
    exact Nat.min_le_right _ _
  · unfold runF at hs
    cases q : c (st0 ioa.isSome N.length ds) with
    | no => rw [q] at hs; exact hs
    | ex x r => rw [q] at hs; exact hs.elim
    | ok fl =>
      rw [q] at hs
      cases fl with
      | nx r' =>
        dsimp only at hs
        intro s' F' H' es' _
        cases g : fin ioa.isSome (.fr .none) r' with
        | no => rw [g] at hs; exact hs.elim
        | ok y o' =>
          rw [g] at hs
          obtain ⟨h1, h2⟩ := fin_ok (v := .non) (x := .fr .none) es' Rp.non g
          exact hs _ F' H' h1 h2
      | rt z r' =>
        dsimp only at hs
        intro v s' F' H' es' _ ok
        cases g : fin ioa.isSome z r' with
        | no => rw [g] at hs; exact hs.elim
        | ok y o' =>
          rw [g] at hs
          obtain ⟨h1, h2⟩ := fin_ok es' ok g
          exact hs _ F' H' h1 h2
      | bk r' => exact hs.elim
      | ct r' => exact hs.elim
end Ed
end
section
namespace Ed
open PySem PySem.Spec L2
open PyProof.Rows (envOfC IntsAre AllBare)

def cCallF (np : Nat) (sem : List D → FOut) (ca : CA) : C := fun r => (ca r).bind fun q => if q.1.length = np then match sem q.1 with
    | .ok x _ => .ok (x, q.2)
    | .no => .no
  else .no
/-- the first argument is the owned name j -/
def cCallI (np : Nat) (sem : List D → FOut) (j : Nat) (ca : CA) : C := fun r => match ownD r j with
  | none => .no
  | some _ => (ca r).bind fun q => match ownD q.2 j with
    | none => .no
    | some d => if (d :: q.1).length = np then match sem (d :: q.1) with
        | .ok x (some d') => .ok (x, mutS j d' q.2)
        | _ => .no
      else .no
section
variable {K : PySem.W.Frag} {B : Bd} {W : Wx} {F F' F1 F2 : Fz} {H H' H1 H2 : Hp} {s : St} {r r' r1 r2 : DE} {o : Option D} {a : Addr} {d d' : D} {i : Nat}
theorem cpost_old {ioa : Option Addr} (c : CPost K F H ioa F' H' o) (h : H' a = none) : H a = none := by
  cases q : H a with
  | none => rfl
  | some u =>
    by_cases f : F a
    · exact absurd h (c.dom a (c.sub a f))
    · by_cases z : ioa = some a
      · obtain ⟨_, d, _, hr⟩ := c.io a z
        obtain ⟨o', ho⟩ := hr.some
        rw [h] at ho
        cases ho
      · have := c.kp a u q f z
        rw [h] at this
        cases this
/-- the state behind a call -/
theorem cpost_pst {ioa : Option Addr} (e : ES K B F H s r) (c : CPost K F H ioa F' H' o)
    (hi : ∀ a, ioa = some a → ∃ j d d', ownD r j = some d ∧ s[j]? = some (some (V.ref a)) ∧ o = some d' ∧ r' = mutS j d' r) (hn : ioa = none → r' = r) : Pst K B F H s r F' H' r' := by
  have ex : Ext F H F' H' := ⟨c.sub, c.rd⟩
  have nFH : ∀ b u, B.H0 b = some u → ¬ B.F0 b → ¬ F b := fun b u h1 h2 h3 => by
    rcases e.new b h3 with z | z
    · exact h2 z
    · rw [h1] at z
      cases z
  -- what the slots are
  have key : (∀ (i : Nat) (q : Sl), r'[i]? = some q → (r[i]? = some q ∧ ∀ b, isOw q → s[i]? = some (some (V.ref b)) → ioa ≠ some b) ∨ (∃ a d d', ioa = some a ∧ s[i]? = some (some (V.ref a)) ∧ o = some d' ∧ ((r[i]? = some (.ow d) ∧ q = .ow d') ∨ (r[i]? = some (.io d) ∧ q = .io d')))) ∧
      r'.length = r.length ∧ (∀ i, Live r i → Live r' i) ∧ (∀ a, ioa = some a → OwAt r s a) ∧ (∀ d0, r[0]? = some (.io d0) → ∃ d1, r'[0]? = some (.io d1)) := by
    cases q : ioa with
    | none =>
      rw [hn q]
      exact ⟨fun i x h => .inl ⟨h, fun b _ _ z => (nomatch z)⟩, rfl, fun _ h => h, fun a z => (nomatch z), fun d0 h => ⟨d0, h⟩⟩
    | some a =>
      obtain ⟨j, d, d', g1, g2, g3, rfl⟩ := hi a q
      obtain ⟨a', k1, k2, k3, k4, k5⟩ := own_root e g1
      rw [g2] at k1
      cases k1
      have sepa : ∀ (i : Nat) (x : Sl) (b : Addr), i ≠ j → r[i]? = some x → isOw x → s[i]? = some (some (V.ref b)) → b ≠ a := fun i x b hj h1 h2 h3 z => by
        subst z
        rcases ownD_of g1 with ⟨h, _⟩ | ⟨h, _⟩
        · obtain ⟨c1, l1, _, _, l4⟩ := e.ow j d h
          rw [g2] at l1
          cases l1
          cases x with
          | no => exact h2
          | fr _ => exact h2
          | ow d1 => exact hj (e.sep i j b d1 d h1 h h3 g2)
          | io d1 =>
            obtain ⟨_, c2, m1, _, _, m4⟩ := e.io i d1 h1
            rw [h3] at m1
            cases m1
            exact (e.ioK b m4).2.1 l4
        · obtain ⟨l0, c1, l1, _, _, l4⟩ := e.io j d h
          rw [g2] at l1
          cases l1
          cases x with
          | no => exact h2
          | fr _ => exact h2
          | ow d1 =>
            obtain ⟨c2, m1, _, _, m4⟩ := e.ow i d1 h1
            rw [h3] at m1
            cases m1
            exact (e.ioK b l4).2.1 m4
          | io d1 => exact hj ((e.io i d1 h1).1.trans l0.symm)
      rcases ownD_of g1 with ⟨h, hm⟩ | ⟨h, hm⟩
      · rw [hm d']
        have hl := (List.getElem?_eq_some_iff.mp h).1
        refine ⟨fun i x hx => ?_, List.length_set .., fun i z => live_set (by simp) z, fun b z => by cases z; exact k4, fun d0 h0 => ?_⟩
        · rcases set_cases hx with ⟨z1, z2⟩ | ⟨hij, w⟩
          · subst z1
            exact .inr ⟨a, d, d', rfl, g2, g3, .inl ⟨h, z2⟩⟩
          · exact .inl ⟨w, fun b hb1 hb2 z => by cases z; exact sepa i x a hij w hb1 hb2 rfl⟩
        · by_cases z : j = 0
          · subst z
            rw [h] at h0
            cases h0
          · exact ⟨d0, by rw [List.getElem?_set_ne z]; exact h0⟩
      · rw [hm d']
        have hl := (List.getElem?_eq_some_iff.mp h).1
        refine ⟨fun i x hx => ?_, List.length_set .., fun i z => live_set (by simp) z, fun b z => by cases z; exact k4, fun d0 h0 => ?_⟩
        · rcases set_cases hx with ⟨z1, z2⟩ | ⟨hij, w⟩
          · subst z1
            exact .inr ⟨a, d, d', rfl, g2, g3, .inr ⟨h, z2⟩⟩
          · exact .inl ⟨w, fun b hb1 hb2 z => by cases z; exact sepa i x a hij w hb1 hb2 rfl⟩
        · by_cases z : j = 0
          · subst z
            exact ⟨d', List.getElem?_set_self hl⟩
          · exact ⟨d0, by rw [List.getElem?_set_ne z]; exact h0⟩
  obtain ⟨key, klen, klive, kow, kio⟩ := key
  refine ⟨⟨by rw [klen]; exact e.len, c.dom, fun b h => c.sub b (e.sub b h), fun b h => ?_, fun b u h1 h2 => ex.rd b u (e.sub b h1) (e.kpF b u h1 h2), fun b u h1 h2 h3 => ?_, fun j d q => ?_, fun j d q => ?_, fun j d q => ?_, fun j k b d1 d2 q1 q2 q3 q4 => ?_, fun b hb => ?_⟩,
    c.sub, c.rd, fun b h => (c.new b h).imp id .inl, fun b u h1 h2 h3 => ?_, fun b h => cpost_old c h, klive, fun i q h1 h2 => ?_⟩
  · rcases c.new b h with z | z
    · exact e.new b z
    · exact .inr (e.old z)
  · have nf := nFH b u h1 h2
    refine c.kp b u (e.kp b u h1 h2 h3) nf fun z => ?_
    rcases (e.owAt (kow b z)).2.2 with w | w
    · rw [h1] at w
      cases w
    · exact h3 w
  · rcases key j _ q with ⟨w, _⟩ | ⟨_, _, _, _, _, _, ⟨_, w⟩ | ⟨_, w⟩⟩
    · obtain ⟨v, g1, g2⟩ := e.fr j d w
      exact ⟨v, g1, g2.ext ex⟩
    · cases w
    · cases w
  · rcases key j _ q with ⟨w, hw⟩ | ⟨a, d1, d', g1, g2, g3, ⟨g4, w⟩ | ⟨_, w⟩⟩
    · obtain ⟨a, g1, g2, g3, g4⟩ := e.ow j d w
      obtain ⟨u, hu⟩ := g3.some
      refine ⟨a, g1, fun z => ?_, g3.ext ex fun o' h => c.kp a o' h g2 (hw a trivial g1), g4⟩
      rcases c.new a z with z | z
      · exact g2 z
      · rw [hu] at z
        cases z
    · cases w
      obtain ⟨k1, dd, k2, k3⟩ := c.io a g1
      rw [g3] at k2
      cases k2
      obtain ⟨b, m1, _, _, m4⟩ := e.ow j d1 g4
      rw [g2] at m1
      cases m1
      exact ⟨a, g2, k1, k3, m4⟩
    · cases w
  · rcases key j _ q with ⟨w, hw⟩ | ⟨a, d1, d', g1, g2, g3, ⟨_, w⟩ | ⟨g4, w⟩⟩
    · obtain ⟨g0, a, g1, g2, g3, g4⟩ := e.io j d w
      obtain ⟨u, hu⟩ := g3.some
      refine ⟨g0, a, g1, fun z => ?_, g3.ext ex fun o' h => c.kp a o' h g2 (hw a trivial g1), g4⟩
      rcases c.new a z with z | z
      · exact g2 z
      · rw [hu] at z
        cases z
    · cases w
    · cases w
      obtain ⟨k1, dd, k2, k3⟩ := c.io a g1
      rw [g3] at k2
      cases k2
      obtain ⟨m0, b, m1, _, _, m4⟩ := e.io j d1 g4
      rw [g2] at m1
      cases m1
      exact ⟨m0, a, g2, k1, k3, m4⟩
  · have back : ∀ (l : Nat) (d0 : D), r'[l]? = some (.ow d0) → ∃ d1, r[l]? = some (.ow d1) := fun l d0 w => by
      rcases key l _ w with ⟨w, _⟩ | ⟨_, d1, _, _, _, _, ⟨g4, w⟩ | ⟨_, w⟩⟩
      · exact ⟨d0, w⟩
      · exact ⟨d1, g4⟩
      · cases w
    obtain ⟨x1, y1⟩ := back j d1 q1
    obtain ⟨x2, y2⟩ := back k d2 q2
    exact e.sep j k b x1 x2 y1 y2 q3 q4
  · obtain ⟨⟨d0, h0⟩, g2⟩ := e.ioK b hb
    exact ⟨kio d0 h0, g2⟩
  · refine c.kp b u h1 h2 fun z => h3 (kow b z)
  · rcases key i q h1 with ⟨w, _⟩ | ⟨_, d1, _, _, _, _, ⟨g4, w⟩ | ⟨g4, w⟩⟩
    · exact ⟨q, w, h2⟩
    · exact ⟨_, g4, trivial⟩
    · exact ⟨_, g4, trivial⟩
theorem cpost_rv {v : V} {x : Rv} (e : ES K B F H s r) (p : Pst K B F H s r F' H' r') (h : RvNew K H F' H' v x) : RvOk K B F' H' s r' v x := by
  cases x with
  | fr d => exact h
  | sl i => exact h.elim
  | ow d =>
    obtain ⟨a, h1, h2, h3, h4⟩ := h
    refine ⟨a, h1, h2, h4, e.old h3, fun z => ?_⟩
    obtain ⟨_, ⟨d', hd⟩, _⟩ := e.owAt (p.owB z)
    obtain ⟨u, hu⟩ := hd.some
    rw [h3] at hu
    cases hu
theorem fresh_new {v : V} {x : Rv} (p : Pst K B F H s r F1 H1 r1) (h : RvNew K H1 F' H' v x) : Fresh H v x := by
  cases x with
  | fr d => exact trivial
  | sl i => exact trivial
  | ow d =>
    obtain ⟨a, rfl, _, h3, _⟩ := h
    intro b e
    cases e
    exact p.grow a h3
end
section
variable {X : Cx} {B : Bd} {W : Wx} {k : Nat} {f : Addr} {fd : FuncData} {ps : List Str} {x y : Str} {p pos npos : Pos} {e : Expr} {es : List Expr} {ca : CA} {np : Nat} {sem : List D → FOut}
/-- f(e, ..) -/
theorem d_call (F : FnG X.prog X.w X.K X.mg X.base CX0 k f fd ps (spF X.K false np sem)) (hr : Room k X.A) (hgd : X.A.guards = some []) (hg : Gl X x) (hm : X.mg x = some (.ref f)) (hk : PySem.W.keepIn X.K (.ref f) = true) (hb : Binds X.K fd ps [])
    (ha : PA X (e :: es) (tA' X.K B W ca)) (hdb : (x == ("__debug__" : Str)) = false := by decide) (he : starEach (e :: es) X.env = (false, eval e X.env) :: starEach es X.env := by rfl) (hpl : (backTo pos (starEach es X.env)).any (·.1) = false := by rfl) :
    PE X (.Call (.Name x p) (e :: es) [] pos) (tC X.K B W (cCallF np sem ca)) :=
  PE_mono (pe_callG F hr hgd hg hm hk hb .nil pass0 ha hdb he hpl) fun s H Q ⟨F0, r, es0, hO⟩ => tA_bind es0 hO fun q vs F1 H1 p1 ok1 hO1 => by
    split at hO1
    · rename_i hl
      refine ⟨by rw [List.append_nil, ok1.length]; exact hl, F1, q.1, none, rfl, p1.es.dom, by rw [List.append_nil]; exact ok1, ?_⟩
      cases z : sem q.1 with
      | no => simp only [z] at hO1; exact hO1
      | ok y o =>
        simp only [z] at hO1
        intro v F' H' cp nv
        have p2 := cpost_pst (r' := q.2) p1.es cp (fun a z => (nomatch z)) fun _ => rfl
        exact hO1 v F' H' (p1.trans p2) (cpost_rv p1.es p2 nv) (fresh_new p1 nv)
    · exact hO1.elim
/-- f(y, e, ..), the owned name y first -/
theorem d_callI (j : Nat) (F : FnG X.prog X.w X.K X.mg X.base CX0 k f fd ps (spF X.K true np sem)) (hr : Room k X.A) (hgd : X.A.guards = some []) (hg : Gl X x) (hm : X.mg x = some (.ref f)) (hk : PySem.W.keepIn X.K (.ref f) = true) (hb : Binds X.K fd ps [])
    (ha : PA X es (tA' X.K B W ca)) (hN : X.N[j]? = some y := by rfl) (hv : Vis X.env.scope y := by first | exact Or.inl rfl | exact Or.inr (Or.inl rfl) | exact Or.inr (Or.inr rfl)) (hd : (y == ("__debug__" : Str)) = false := by decide)
    (hcd : (y == ("__classdict__" : Str)) = false := by decide) (hdb : (x == ("__debug__" : Str)) = false := by decide) (he : starEach (.Name y npos :: es) X.env = (false, eval (.Name y npos) X.env) :: starEach es X.env := by rfl) (hpl : (backTo pos (starEach es X.env)).any (·.1) = false := by rfl) :
    PE X (.Call (.Name x p) (.Name y npos :: es) [] pos) (tC X.K B W (cCallI np sem j ca)) :=
  PE_mono (pe_callG F hr hgd hg hm hk hb .nil pass0 (pa_cons (pe_var hN hv hd hcd) ha he) hdb he hpl) fun s H Q ⟨F0, r, es0, hO⟩ => by
    unfold cCallI at hO
    cases q0 : ownD r j with
    | none => simp only [q0] at hO; exact hO.elim
    | some d0 =>
      simp only [q0] at hO
      obtain ⟨a, g1, _⟩ := own_root es0 q0
      refine ⟨_, g1, tA_bind es0 hO fun q vs F1 H1 p1 ok1 hO1 => ?_⟩
      cases q1 : ownD q.2 j with
      | none => simp only [q1] at hO1; exact hO1.elim
      | some d =>
        simp only [q1] at hO1
        obtain ⟨a', k1, k2, k3, _⟩ := own_root p1.es q1
        rw [g1] at k1
        cases k1
        split at hO1
        · rename_i hl
          refine ⟨by rw [List.append_nil, List.length_cons, ok1.length]; exact hl, F1, d :: q.1, some a, rfl, p1.es.dom, ⟨vs, d, q.1, by rw [List.append_nil], rfl, k2, k3, ok1⟩, ?_⟩
          cases z : sem (d :: q.1) with
          | no => simp only [z] at hO1; exact hO1
          | ok y o =>
            cases o with
            | none => simp only [z] at hO1; exact hO1.elim
            | some d' =>
              simp only [z] at hO1
              intro v F' H' cp nv
              have p2 := cpost_pst (r' := mutS j d' q.2) p1.es cp (fun b hb => by cases hb; exact ⟨j, d, d', q1, g1, rfl, rfl⟩) fun z => (nomatch z)
              exact hO1 v F' H' (p1.trans p2) (cpost_rv p1.es p2 nv) (fresh_new p1 nv)
        · exact hO1.elim
end

theorem law_callG {P : Program} {w : World} {K : PySem.W.Frag} {mg mb : Str → Option Value} {k : Nat} {fa a : Addr} {fd : FuncData} {x : Str} {sp : Sp} {s1 : Shared} {vs : List Value} {ns : List Int}
    (KX : K.In s1.heap) (hns : s1.heap.Ns mainGlobals mg) (hb : s1.heap.Ns builtinsNs mb) (hbb : ∀ x : Str, x ≠ "__name__" → mb x = bootBuiltins x) (hlim : s1.heap.NoLimit) (hg : s1.gens = #[])
    (ha : s1.heap.get? a = some { cls := .type "list", data := .seq vs.toArray }) (hi : IntsAre vs ns) (hl : ns.length ≤ sizeLine) (hr : Room k callerA)
    (F : ∀ base : Heap, K.In base → base.Ns mainGlobals mg → FnG P w K mg base CX0 k fa fd [x] sp) (hbind : ∀ (s : Shared) (u : Value), BindsTo s fd ⟨[u], []⟩ [(x, u)])
    (hsp : ∀ (H : Hp) (G : Fz), (∀ b, G b → H b ≠ none) → Rp K G H (.ref a) (scrD ns) → sp [.ref a] H (fun v _ => v = .bl true) E0) :
    codeAny (model P w) callerA (.call (.ref fa) ⟨[.ref a], []⟩) (fun r s' => r = .ok (.ret (.bool true)) ∧ OldK s1.heap s'.heap ∧ s'.os = s1.os ∧ AllBare s'.gens) s1 := by
  have rv := vals_ints hi
  have lenV := hi.length
  -- what is tracked: the script alone, or nothing
  have main : ∀ (H : Hp) (ob : Obj), (∀ b o, s1.heap.get? b = some o → H b ≠ none → o = ob) → (∃ ob' xs, ob = ob' ∧ ob'.data = .seq xs) → (∀ b o, K.lookup b = some o → H b = none) → HOk P w H s1.heap → (∀ b u, H b = some u → u = .frz ob (.lst (ns.map V.int)) ∧ s1.heap.get? b = some ob) →
      (∃ G : Fz, (∀ b, G b → H b ≠ none) ∧ Rp K G H (.ref a) (scrD ns)) → codeAny (model P w) callerA (.call (.ref fa) ⟨[.ref a], []⟩) (fun r s' => r = .ok (.ret (.bool true)) ∧ OldK s1.heap s'.heap ∧ s'.os = s1.os ∧ AllBare s'.gens) s1 := by
    intro H ob nA hob hKn hok hO ⟨G, hG, rp⟩
    have inn : ∀ {b : Addr} {o : Obj}, s1.heap.get? b = some o → o ≠ ob → (hidT s1.heap H).get? b = some o := fun {b o} h1 h2 => hidT_get h1 (Classical.byContradiction fun z => h2 (nA b o h1 z))
    have nsK : ∀ {b : Addr} {m : Str → Option Value}, s1.heap.Ns b m → (hidT s1.heap H).Ns b m := fun {b m} ⟨o, es, ep, h1, h2, h3⟩ => ⟨o, es, ep, inn h1 (fun z => by
      obtain ⟨ob', xs, e1, e2⟩ := hob
      subst z e1
      rw [h2] at e2
      cases e2), h2, h3⟩
    have hKb : K.In (hidT s1.heap H) := fun b o h1 => hidT_get (KX b o h1) (hKn b o h1)
    have hM : Mod K mg (hidT s1.heap H) := ⟨hKb, nsK hns, ⟨mb, nsK hb, hbb⟩, let ⟨mc, h1, h2⟩ := hlim; ⟨mc, nsK h1, h2⟩⟩
    have e0 : Env0 P w K mg (hidT s1.heap H) callerA [] s1 H := ⟨rfl, hM, fun b o e => of_hidT e, Nat.le_of_eq (hidT_size _ _), trivial, fun b hb => absurd (show b ∈ ([] : List Addr) from hb) (by simp), hok, .of_eq hg⟩
    refine codeAny_mono ((F _ hKb (nsK hns)).run callerA [] s1 H ⟨[.ref a], []⟩ [.ref a] [.ref a] _ _ hr rfl e0 (hbind s1 (.ref a)) (.cons rfl .nil) (hsp H G hG rp)) fun r s' h => ?_
    cases r with
    | error e => exact False.elim h
    | ok fl =>
      cases fl with
      | next => exact False.elim h
      | brk => exact False.elim h
      | cont => exact False.elim h
      | ret u =>
        obtain ⟨v, H', os, bare, un, hok', r', q⟩ := h
        have q : v = .bl true := q
        subst q
        obtain rfl : u = Value.bool true := r'
        refine ⟨rfl, OldK.of_keep fun b o e => ?_, os, bare⟩
        cases z : H b with
        | none => exact un.keep b o e z (by intro y; exact absurd (show b ∈ ([] : List Addr) from y) (by simp)) (by simp)
        | some u =>
          obtain ⟨rfl, e1⟩ := hO b u z
          obtain ⟨e2, _⟩ := hok' b _ (un.frzs b ob _ z)
          rw [e] at e1
          cases e1
          exact e2
  cases hk : K.lookup a with
  | some o =>
    have e := KX a o hk
    rw [ha] at e
    cases e
    refine main (fun _ => none) { cls := .type "list", data := .seq vs.toArray } (fun b o _ h => absurd rfl h) ⟨_, _, rfl, rfl⟩ (fun _ _ _ => rfl) (fun b u z => nomatch z) (fun b u z => nomatch z) ⟨fun _ => False, fun b h => h.elim, .scr (.inr (.inr ⟨_, vs.toArray, _, hk, rfl, rfl, rfl, by rw [List.size_toArray, lenV]; exact hl, by simpa using rv⟩))⟩
  | none =>
    have hA : ∀ b u, (if b = a then some (HO.frz { cls := .type "list", data := .seq vs.toArray } (.lst (ns.map V.int))) else none) = some u → b = a ∧ u = .frz { cls := .type "list", data := .seq vs.toArray } (.lst (ns.map V.int)) := fun b u z => by
      by_cases e : b = a
      · rw [if_pos e] at z
        cases z
        exact ⟨e, rfl⟩
      · rw [if_neg e] at z
        cases z
    refine main (fun b => if b = a then some (.frz { cls := .type "list", data := .seq vs.toArray } (.lst (ns.map V.int))) else none) { cls := .type "list", data := .seq vs.toArray } (fun b o h1 h2 => ?_) ⟨_, _, rfl, rfl⟩ (fun b o h => ?_) (fun b u z => ?_) (fun b u z => ?_) ⟨fun b => b = a, fun b h => ?_, .scr (.inl ⟨rfl, .inr ⟨_, if_pos rfl⟩⟩)⟩
    · by_cases e : b = a
      · subst e
        rw [ha] at h1
        cases h1
        rfl
      · exact absurd (if_neg e) h2
    · exact if_neg fun e => by subst e; rw [hk] at h; cases h
    · obtain ⟨e1, e2⟩ := hA b u z
      subst e1 e2
      exact ⟨ha, by rw [List.length_map]; exact hl, vs, _, rv, ha⟩
    · obtain ⟨e1, e2⟩ := hA b u z
      subst e1
      exact ⟨e2, ha⟩
    · show (if b = a then _ else _) ≠ none
      rw [if_pos h]
      simp
theorem walk_G {l : PySem.W.OpenLaw} {n k : Nat} {q : Program} {loose : List Str} {XP : (Str → Option Value) → Heap → Prop} {YP : World → Heap → Prop} {d : DefRec} {K : Params → PySem.W.Frag} {sp : World → Sp} {x : Str}
    (hn : l.most = some n) (hn2 : n ≤ sizeLine) (hdf : d.params.defaults = []) (hr : Room k callerA)
    (hY : ∀ (w : World) (h : Heap), YP w h → (K w.params).In h)
    (F : ∀ (w : World) (mg : Str → Option Value) (fa : Addr) (h : Heap), (K w.params).In h → h.Ns mainGlobals mg → mg d.name = some (.ref fa) →
      ∃ fd : FuncData, (∀ (s : Shared) (u : Value), BindsTo s fd ⟨[u], []⟩ [(x, u)]) ∧
        ∀ base : Heap, (K w.params).In base → base.Ns mainGlobals mg → FnG l.prog w (K w.params) mg base CX0 k fa fd [x] (sp w))
    (hsp : ∀ (w : World) (H : Hp) (G : Fz) (a : Addr) (ns : List Int), ns.length ≤ n → (∀ b, G b → H b ≠ none) → Rp (K w.params) G H (.ref a) (scrD ns) → sp w [.ref a] H (fun v _ => v = .bl true) E0) :
    PySem.W.WalkO q loose XP YP l.row.toRowW d [] (fun f vs => PySem.call f vs) := by
  refine Att.attach_call hn hdf fun w s0 s1 mg mb fa o pm cd doc a vs ns G Y ho hd hcd hmg hobj hints hlen hg => ?_
  have KX := hY w _ Y
  obtain ⟨fd, hb, hF⟩ := F w mg fa _ KX G.T.g hmg
  exact law_callG KX G.T.g G.T.b G.T.builtins G.T.nolimit hg hobj hints (Nat.le_trans hlen hn2) hr hF hb (fun H G' hG rp => hsp w H G' a ns hlen hG rp)
end Ed
end
section
namespace Ed
open PySem PySem.Spec L2 TL

section
variable {K : PySem.W.Frag} {F : Fz} {H : Hp} {Q : VK}
theorem ret {v : V} {z : Rv} (hd : ∀ c, F c → H c ≠ none) (h : RvNew K H F H v z) (q : ∀ v F' H', Al F H F' H' → RvNew K H F' H' v z → Q v H') : Q v H := q v F H (.refl hd) h
theorem retI {i : Int} (hd : ∀ c, F c → H c ≠ none) (q : ∀ v F' H', Al F H F' H' → RvNew K H F' H' v (.fr (.int i)) → Q v H') : Q (.int i) H := ret hd (show RvNew K H F H (.int i) (.fr (.int i)) from Rp.int i) q
theorem retB {b : Bool} (hd : ∀ c, F c → H c ≠ none) (q : ∀ v F' H', Al F H F' H' → RvNew K H F' H' v (.fr (.bool b)) → Q v H') : Q (.bl b) H := ret hd (show RvNew K H F H (.bl b) (.fr (.bool b)) from Rp.bl b) q
theorem retS {x : Str} (hd : ∀ c, F c → H c ≠ none) (hs : sOk x) (q : ∀ v F' H', Al F H F' H' → RvNew K H F' H' v (.fr (.str x)) → Q v H') : Q (.str x) H := ret hd (show RvNew K H F H (.str x) (.fr (.str x)) from Rp.str x hs) q
theorem retL {xs : List V} {ds : List D} {p : Addr} (hd : ∀ c, F c → H c ≠ none) (h : RpAll K F H xs ds) (hp : H p = none) (q : ∀ v F' H', Al F H F' H' → RvNew K H F' H' v (.ow (.list ds)) → Q v H') : Q (.ref p) (upd H p (.lst xs)) :=
  let ⟨al, n⟩ := new_lst hd hp h
  q _ _ _ al n
theorem retT {xs : List V} {ds : List D} {p : Addr} (hd : ∀ c, F c → H c ≠ none) (h : RpAll K F H xs ds) (hp : H p = none) (q : ∀ v F' H', Al F H F' H' → RvNew K H F' H' v (.fr (.tuple ds)) → Q v H') : Q (.ref p) (upd H p (.tup xs)) :=
  let ⟨al, n⟩ := new_tup hd hp h
  q _ _ _ al n
end

theorem sOk.app {x y : Str} (hx : sOk x) (hy : sOk y) (h : x.length + y.length ≤ big) : sOk (x ++ y) := by
  refine ⟨?_, fun c hc => ?_⟩
  · have : (x ++ y).length = x.length + y.length := by rw [len_tl, tl_append, List.length_append, ← len_tl, ← len_tl]
    omega
  · have hc : c ∈ tl (x ++ y) := hc
    rw [tl_append] at hc
    rcases List.mem_append.mp hc with h | h
    · exact hx.sg c h
    · exact hy.sg c h
theorem sOk.sub {x y : Str} (hx : sOk x) (hl : y.length ≤ x.length) (h : ∀ c ∈ tl y, c ∈ tl x) : sOk y := ⟨Nat.le_trans hl hx.len, fun c hc => hx.sg c (h c hc)⟩
theorem tl_cutS (x : Str) (lo hi : Option Int) : tl (cutS x lo hi) = ((tl x).drop (HT.sIx x.length 0 lo)).take (HT.sIx x.length x.length hi - HT.sIx x.length 0 lo) := rfl
theorem sOk.cut {x : Str} (hx : sOk x) (lo hi : Option Int) : sOk (cutS x lo hi) := hx.sub (cutS_length x lo hi) fun c hc => by
  rw [tl_cutS] at hc
  exact List.mem_of_mem_drop (List.mem_of_mem_take hc)
theorem sOk.sgn {x : Str} (hx : sOk x) {c : Nat} (h : c ∈ tl x) : sOk ⟨#[c]⟩ := ⟨by show 1 ≤ big; decide, fun c' hc' => by
  have : c' = c := by simpa using hc'
  subst this
  exact hx.sg c' h⟩
theorem sOk.empty : sOk Str.empty := ⟨by decide, fun c hc => by simp [Str.empty] at hc⟩

section
variable {X : Cx} {pins : List (Addr × Obj)} {s : Shared} {σ : St} {H : Hp} {l : Addr} {xs : List V}
theorem lst_rd (I : L2.Inv X pins σ H s) (h : Rd H l (.lst xs)) : ∃ (its : List Value) (n : Nat), Vals xs its ∧ xs.length = its.length ∧ s.heap.get? l = some { cls := .type "list", data := .seq its.toArray n } := by
  obtain ⟨_, its, n, r, e⟩ := h.ok I.hok
  exact ⟨its, n, r, r.length, e⟩
def rCatR : R2 := fun x y H Q => ∃ l b xs zs, x = .ref l ∧ y = .ref b ∧ Rd H l (.lst xs) ∧ Rd H b (.lst zs) ∧ xs.length + zs.length ≤ sizeLine ∧ ∀ p, H p = none → Q (.ref p) (upd H p (.lst (xs ++ zs)))
theorem op_catR : OpR X (binaryOp .Add) rCatR := fun pins s σ H x y v u Q I rx ry h => by
  obtain ⟨l, b, xs, zs, rfl, rfl, h1, h2, hz, q⟩ := h
  cases rx
  cases ry
  obtain ⟨its, n, r, hl, e⟩ := lst_rd I h1
  obtain ⟨its2, n2, r2, hl2, e2⟩ := lst_rd I h2
  refine PySem.P.add_list e e2 ?_ (by simp only [List.size_toArray]; omega)
  have ea : its.toArray ++ its2.toArray = (its ++ its2).toArray := List.append_toArray ..
  exact ea ▸ ⟨.ref _, _, I.lnew (t' := s.toks) (r.append r2) (by rw [List.length_append]; exact hz), rfl, q _ I.fresh⟩
end

def fAdd : D → D → Option Rv
  | .int i, .int j => some (.fr (.int (i + j)))
  | .str x, .str y => if x.length + y.length ≤ big then some (.fr (.str (x ++ y))) else none
  | .list xs, .list ys => if xs.length + ys.length ≤ 16777216 then some (.ow (.list (xs ++ ys))) else none
  | .tuple xs, .tuple ys => if xs.length + ys.length ≤ 16777216 then some (.fr (.tuple (xs ++ ys))) else none
  | _, _ => none
def rAdd4 (K : PySem.W.Frag) : R2 := fun x y H Q => rI0 (fun i j => .int (i + j)) x y H Q ∨ (∃ i j, x = .str i ∧ y = .str j ∧ i.length + j.length ≤ sizeLine ∧ Q (.str (i ++ j)) H) ∨ rCatR x y H Q ∨ rCatA K x y H Q
theorem op_add4 {X : Cx} : OpR X (binaryOp .Add) (rAdd4 X.K) := op_add.or (op_add_str.or (op_catR.or op_catA))
theorem line_big {n : Nat} (h : n ≤ big) : n ≤ sizeLine := Nat.le_trans h (by rw [sizeLine_eq]; decide)
theorem fAdd_ok {K : PySem.W.Frag} : OpOk K (rAdd4 K) fAdd := fun F H x y a b z Q hd ha hb h q => by
  unfold fAdd at h
  split at h
  · cases h
    cases ha.vInt
    cases hb.vInt
    exact .inl ⟨_, _, rfl, rfl, retI hd q⟩
  · split at h
    · rename_i hl
      cases h
      obtain ⟨rfl, s1⟩ := ha.vStr
      obtain ⟨rfl, s2⟩ := hb.vStr
      exact .inr (.inl ⟨_, _, rfl, rfl, line_big hl, retS hd (s1.app s2 hl) q⟩)
    · cases h
  · split at h
    · rename_i hl
      cases h
      obtain ⟨a1, xs, rfl, e1, r1⟩ := ha.vLst
      obtain ⟨a2, ys, rfl, e2, r2⟩ := hb.vLst
      exact .inr (.inr (.inl ⟨a1, a2, xs, ys, rfl, rfl, e1, e2, by rw [r1.length, r2.length, sizeLine_eq]; exact hl, fun p hp => retL hd (r1.app r2) hp q⟩))
    · cases h
  · split at h
    · rename_i hl
      cases h
      obtain ⟨a1, xs, rfl, e1, r1, p1⟩ := ha.vTup
      obtain ⟨a2, ys, rfl, e2, r2, p2⟩ := hb.vTup
      refine .inr (.inr (.inr ⟨a1, a2, xs, ys, rfl, rfl, e1, e2, by rw [r1.length, r2.length, sizeLine_eq]; exact hl, fun e => ?_, fun _ e => ?_, fun _ _ p hp => retT hd (r1.app r2) hp q⟩))
      · subst e
        cases r1
        exact ret hd (show RvNew K H F H _ (.fr (.tuple _)) from p2) q
      · subst e
        cases r2
        rw [List.append_nil] at q
        exact ret hd (show RvNew K H F H _ (.fr (.tuple _)) from p1) q
    · cases h
  · cases h
def fSub : D → D → Option Rv
  | .int i, .int j => some (.fr (.int (i - j)))
  | _, _ => none
theorem fSub_ok {K : PySem.W.Frag} : OpOk K (rI0 fun i j => .int (i - j)) fSub := fun F H x y a b z Q hd ha hb h q => by
  unfold fSub at h
  split at h
  · cases h
    cases ha.vInt
    cases hb.vInt
    exact ⟨_, _, rfl, rfl, retI hd q⟩
  · cases h
def fMod : D → D → Option Rv
  | .int i, .int j => if 0 < j then some (.fr (.int (i % j))) else none
  | _, _ => none
theorem fMod_ok {K : PySem.W.Frag} : OpOk K (rI (fun _ j => 0 < j) fun i j => .int (i % j)) fMod := fun F H x y a b z Q hd ha hb h q => by
  unfold fMod at h
  split at h
  · split at h
    · rename_i hj
      cases h
      cases ha.vInt
      cases hb.vInt
      exact ⟨_, _, rfl, rfl, hj, retI hd q⟩
    · cases h
  · cases h
def fDiv : D → D → Option Rv
  | .int i, .int j => if 0 < j ∧ j < 1073741824 then some (.fr (.int (i / j))) else none
  | _, _ => none
theorem fDiv_ok {K : PySem.W.Frag} : OpOk K (rI CDiv fun i j => .int (i / j)) fDiv := fun F H x y a b z Q hd ha hb h q => by
  unfold fDiv at h
  split at h
  · split at h
    · rename_i hj
      cases h
      cases ha.vInt
      cases hb.vInt
      exact ⟨_, _, rfl, rfl, hj, retI hd q⟩
    · cases h
  · cases h
def fPow : D → D → Option Rv
  | .int i, .int j => if 0 ≤ j ∧ j ≤ 1000000 ∧ i.natAbs < 2 ^ 64 then some (.fr (.int (i ^ j.toNat))) else none
  | _, _ => none
theorem fPow_ok {K : PySem.W.Frag} : OpOk K (rI CPow fun i j => .int (i ^ j.toNat)) fPow := fun F H x y a b z Q hd ha hb h q => by
  unfold fPow at h
  split at h
  · split at h
    · rename_i hj
      cases h
      cases ha.vInt
      cases hb.vInt
      exact ⟨_, _, rfl, rfl, hj, retI hd q⟩
    · cases h
  · cases h
/-- a text some times over -/
def repS (x : Str) (n : Nat) : Str := ⟨((List.replicate n (tl x)).flatten).toArray⟩
theorem tl_repS (x : Str) (n : Nat) : tl (repS x n) = (List.replicate n (tl x)).flatten := rfl
theorem repS_fold (x : Str) (n : Nat) : (List.replicate n x.cps).foldl (· ++ ·) #[] = (repS x n).cps := by
  have : ∀ (m : Nat) (acc : List Nat), (List.replicate m x.cps).foldl (· ++ ·) acc.toArray = (acc ++ (List.replicate m (tl x)).flatten).toArray := by
    intro m
    induction m with
    | zero => intro acc; simp
    | succ m ih =>
      intro acc
      rw [List.replicate_succ, List.foldl_cons]
      have e : acc.toArray ++ x.cps = (acc ++ tl x).toArray := by simp [tl]
      rw [e, ih, List.replicate_succ, List.flatten_cons, List.append_assoc]
  have h := this n []
  rw [List.nil_append] at h
  exact h
theorem len_repS (x : Str) (n : Nat) : (repS x n).length = n * x.length := by
  rw [len_tl, tl_repS, PyProof.Rows.lm_len_rep_flat, ← len_tl]
def rRepS : R2 := fun x y H Q => ∃ z k, x = .str z ∧ y = .int k ∧ 0 ≤ k ∧ z.length * k.toNat ≤ big ∧ k ≤ big ∧ Q (.str (repS z k.toNat)) H
theorem op_repS {X : Cx} : OpR X (binaryOp .Mult) rRepS := fun pins s σ H x y v u Q I rx ry h => by
  obtain ⟨z, k, rfl, rfl, h0, hz, hk, q⟩ := h
  obtain ⟨t, rfl⟩ := rx
  obtain ⟨t', rfl⟩ := ry
  have hk : k ≤ 8000000 := hk
  have hz : z.length * k.toNat ≤ 8000000 := hz
  refine PySem.P.mul_str ?_ (fun h1 h2 => ?_) (fun h1 h2 => ?_) ?_
  · rw [decide_eq_false (by omega), decide_eq_false (by omega)]
    rfl
  · intro h3
    have e : (z.length : Int) * k = ((z.length * k.toNat : Nat) : Int) := by
      rw [Int.natCast_mul, Int.toNat_of_nonneg h0]
    have h4 : (z.length : Int) ≤ (2 ^ 63 - 1) / k := Int.le_ediv_of_mul_le (by omega) (by rw [e]; omega)
    omega
  · show decide (z.length * k.toNat > sizeLine) = false
    exact decide_eq_false (by rw [sizeLine_eq]; omega)
  · by_cases h1 : k < 1
    · rw [if_pos h1]
      have : k = 0 := by omega
      subst this
      exact ⟨by decide, .str Str.empty, H, I.tok _, ⟨_, rfl⟩, by
        have e : repS z (0 : Int).toNat = Str.empty := rfl
        rw [← e]
        exact q⟩
    · rw [if_neg h1]
      by_cases h2 : (k == 1 || z.length == 0) = true
      · rw [if_pos h2]
        have e : repS z k.toNat = z := by
          refine ext_tl ?_
          rw [tl_repS]
          rw [Bool.or_eq_true] at h2
          rcases h2 with h2 | h2
          · have : k = 1 := by simpa using h2
            subst this
            simp
          · have : tl z = [] := by
              have : z.length = 0 := by simpa using h2
              rw [len_tl] at this
              exact List.length_eq_zero_iff.mp this
            rw [this]
            simp
        rw [e] at q
        exact ⟨.str z, H, I, ⟨_, rfl⟩, q⟩
      · rw [if_neg h2, repS_fold]
        refine ⟨?_, .str (repS z k.toNat), H, I.tok _, ⟨_, rfl⟩, q⟩
        show (repS z k.toNat).length ≤ sizeLine
        rw [len_repS, sizeLine_eq, Nat.mul_comm]
        omega
def fMul : D → D → Option Rv
  | .int i, .int j => if (-(2 ^ 64) < i ∧ i < 2 ^ 64) ∨ (-(2 ^ 64) < j ∧ j < 2 ^ 64) then some (.fr (.int (i * j))) else none
  | .str x, .int k => if 0 ≤ k ∧ x.length * k.toNat ≤ big ∧ k ≤ big then some (.fr (.str (repS x k.toNat))) else none
  | .list xs, .int k => if 0 ≤ k ∧ k ≤ 1000000 ∧ xs.length * k.toNat ≤ 16777216 then some (.ow (.list (List.replicate k.toNat xs).flatten)) else none
  | _, _ => none
def rMul3 (K : PySem.W.Frag) : R2 := fun x y H Q => rI CMul (fun i j => .int (i * j)) x y H Q ∨ rRepS x y H Q ∨ rRep x y H Q
theorem op_mul3 {X : Cx} : OpR X (binaryOp .Mult) (rMul3 X.K) := op_mul.or (op_repS.or op_rep)
def fMul2 : D → D → Option Rv
  | .list _, _ => none
  | a, b => fMul a b
theorem fMul_ok {K : PySem.W.Frag} : OpOk K (rMul3 K) fMul2 := fun F H x y a b z Q hd ha hb h q => by
  unfold fMul2 at h
  split at h
  · cases h
  · unfold fMul at h
    split at h
    · split at h
      · rename_i hj
        cases h
        cases ha.vInt
        cases hb.vInt
        exact .inl ⟨_, _, rfl, rfl, hj, retI hd q⟩
      · cases h
    · split at h
      · rename_i hj
        cases h
        obtain ⟨rfl, sk⟩ := ha.vStr
        cases hb.vInt
        refine .inr (.inl ⟨_, _, rfl, rfl, hj.1, hj.2.1, hj.2.2, retS hd ⟨by rw [len_repS, Nat.mul_comm]; exact hj.2.1, fun c hc => ?_⟩ q⟩)
        have hc : c ∈ (List.replicate _ (tl _)).flatten := hc
        obtain ⟨l, hl, hc⟩ := List.mem_flatten.mp hc
        rw [(List.mem_replicate.mp hl).2] at hc
        exact sk.sg c hc
      · cases h
    · rename_i hno
      exact absurd rfl (hno _)
    · cases h
def fNeg : D → Option Rv
  | .int i => some (.fr (.int (-i)))
  | _ => none
def cUn (f : D → Option Rv) (c : C) : C := fun r => (c r).bind fun p => ofO ((rsv p.1 p.2).bind fun d => (f d).map fun z => (z, p.2))
section
variable {X : Cx} {B : Bd} {W : Wx} {e : Expr} {c : C} {pos : Pos}
theorem d_neg (h : PE X e (tC X.K B W c)) : PE X (.UnaryOp .USub e pos) (tC X.K B W (cUn fNeg c)) := PE_mono (pe_un un_neg h) fun s H Q ⟨F, r, es, hO⟩ => tC_bind es hO fun p v F1 H1 p1 ok1 _ hO1 => by
  obtain ⟨⟨z, r2⟩, h1, h2⟩ := hO1.ofO
  obtain ⟨d, hd, h1⟩ := Option.bind_eq_some_iff.mp h1
  obtain ⟨z', hz, e⟩ := Option.map_eq_some_iff.mp h1
  cases e
  unfold fNeg at hz
  split at hz
  · cases hz
    have rq := rsv_ok p1.es ok1 hd
    cases rq.vInt
    exact ⟨_, rfl, retI p1.es.dom fun v F' H' al n => al_end (p := p1) al n h2⟩
  · cases hz
end
end Ed
end
section
namespace Ed
open PySem PySem.Spec L2 TL

mutual
theorem dp_of {K : PySem.W.Frag} {F : Fz} {H : Hp} : ∀ (d : D) (v : V), Rp K F H v d → d.hasDict = false → Dp K H v d ∧ d.canLay0 = true
  | .none, _, h, _ => by cases h; exact ⟨.non, rfl⟩
  | .bool b, _, h, _ => by cases h; exact ⟨.bl b, rfl⟩
  | .int i, _, h, _ => by cases h; exact ⟨.int i, rfl⟩
  | .str x, _, h, _ => by
    cases h with
    | str _ sk => exact ⟨.str x, by
      show x.cps.all (· < 0x110000) = true
      rw [Array.all_eq_true']
      exact fun c hc => decide_eq_true (sk.sg c (Array.mem_toList_iff.mpr hc))⟩
  | .list ds, _, h, hn => by
    cases h with
    | lst f q r =>
      obtain ⟨h1, h2⟩ := dps_of ds _ r hn
      exact ⟨.lst (.inl q) h1, h2⟩
  | .tuple ds, _, h, hn => by
    cases h with
    | tup q r =>
      obtain ⟨h1, h2⟩ := dps_of ds _ r hn
      exact ⟨.tup (q.elim (fun q => .inl q.2) fun q => q.seq H) h1, h2⟩
  | .dict _, _, _, hn => by cases hn
theorem dps_of {K : PySem.W.Frag} {F : Fz} {H : Hp} : ∀ (ds : List D) (vs : List V), RpAll K F H vs ds → PyData.hasDictAll ds = false → DpAll K H vs ds ∧ PyData.canLayAll0 ds = true
  | [], _, h, _ => by cases h; exact ⟨.nil, rfl⟩
  | d :: ds, _, h, hn => by
    cases h with
    | cons a b =>
      have hn : (d.hasDict || PyData.hasDictAll ds) = false := hn
      rw [Bool.or_eq_false_iff] at hn
      obtain ⟨h1, h2⟩ := dp_of d _ a hn.1
      obtain ⟨h3, h4⟩ := dps_of ds _ b hn.2
      refine ⟨.cons h1 h3, ?_⟩
      show (d.canLay0 && PyData.canLayAll0 ds) = true
      rw [h2, h4]
      rfl
end
/-- no dict in it, not too deep -/
def plainD (d : D) : Bool := !d.hasDict && decide (d.depth ≤ 60)
theorem rq_dp {K : PySem.W.Frag} {F : Fz} {H : Hp} {v : V} {d : D} (h : Rq K F H v d) (p : plainD d = true) : Dp K H v d ∧ SeqAt.shaped d = true := by
  unfold plainD at p
  rw [Bool.and_eq_true] at p
  have hn : d.hasDict = false := by simpa using p.1
  have hdp : d.depth ≤ 60 := of_decide_eq_true p.2
  have fin : Dp K H v d ∧ d.canLay0 = true → Dp K H v d ∧ SeqAt.shaped d = true := fun ⟨h1, h2⟩ => ⟨h1, by
    show (d.canLay0 && decide (d.depth ≤ 64)) = true
    rw [h2, decide_eq_true (by omega)]
    rfl⟩
  cases h with
  | fz h => exact fin (dp_of d v h hn)
  | rt h =>
    rcases h with ⟨xs, ds, rfl, q, r⟩ | ⟨_, _, rfl, _⟩
    · obtain ⟨h1, h2⟩ := dps_of ds xs r hn
      exact fin ⟨.lst (.inl (.of q)) h1, h2⟩
    · cases hn

def fEq (a b : D) : Option Rv := match plainD a && plainD b with
  | true => some (.fr (.bool (PyData.eqv a b)))
  | false => none
def fNe (a b : D) : Option Rv := match plainD a && plainD b with
  | true => some (.fr (.bool (!PyData.eqv a b)))
  | false => none
theorem fEq_ok {K : PySem.W.Frag} : OpOk K (rEqD K) fEq := fun F H x y a b z Q hd ha hb h q => by
  unfold fEq at h
  cases p : (plainD a && plainD b) with
  | false => rw [p] at h; cases h
  | true =>
    rw [p] at h
    cases h
    rw [Bool.and_eq_true] at p
    obtain ⟨h1, h2⟩ := rq_dp ha p.1
    obtain ⟨h3, h4⟩ := rq_dp hb p.2
    exact ⟨a, b, h1, h3, h2, h4, retB hd q⟩
theorem fNe_ok {K : PySem.W.Frag} : OpOk K (rNeD K) fNe := fun F H x y a b z Q hd ha hb h q => by
  unfold fNe at h
  cases p : (plainD a && plainD b) with
  | false => rw [p] at h; cases h
  | true =>
    rw [p] at h
    cases h
    rw [Bool.and_eq_true] at p
    obtain ⟨h1, h2⟩ := rq_dp ha p.1
    obtain ⟨h3, h4⟩ := rq_dp hb p.2
    exact ⟨a, b, h1, h3, h2, h4, retB hd q⟩
def fLt : D → D → Option Rv
  | .int i, .int j => some (.fr (.bool (decide (i < j))))
  | .str x, .str y => some (.fr (.bool (decide (tl x < tl y))))
  | _, _ => none
def fLe : D → D → Option Rv
  | .int i, .int j => some (.fr (.bool (decide (i ≤ j))))
  | .str x, .str y => some (.fr (.bool (!decide (tl y < tl x))))
  | _, _ => none
def fGt (a b : D) : Option Rv := fLt b a
def fGe (a b : D) : Option Rv := fLe b a
def rStrB (g : Str → Str → Bool) : R2 := fun x y H Q => ∃ i j, x = .str i ∧ y = .str j ∧ Q (.bl (g i j)) H
theorem fLt_ok {K : PySem.W.Frag} : OpOk K (fun x y H Q => rI0 (fun i j => .bl (decide (i < j))) x y H Q ∨ rStrB (fun i j => decide (i.cps.toList < j.cps.toList)) x y H Q) fLt := fun F H x y a b z Q hd ha hb h q => by
  unfold fLt at h
  split at h
  · cases h
    cases ha.vInt
    cases hb.vInt
    exact .inl ⟨_, _, rfl, rfl, retB hd q⟩
  · cases h
    obtain ⟨rfl, _⟩ := ha.vStr
    obtain ⟨rfl, _⟩ := hb.vStr
    exact .inr ⟨_, _, rfl, rfl, retB hd q⟩
  · cases h
theorem fLe_ok {K : PySem.W.Frag} : OpOk K (fun x y H Q => rI0 (fun i j => .bl (decide (i ≤ j))) x y H Q ∨ rStrB (fun i j => !decide (j.cps.toList < i.cps.toList)) x y H Q) fLe := fun F H x y a b z Q hd ha hb h q => by
  unfold fLe at h
  split at h
  · cases h
    cases ha.vInt
    cases hb.vInt
    exact .inl ⟨_, _, rfl, rfl, retB hd q⟩
  · cases h
    obtain ⟨rfl, _⟩ := ha.vStr
    obtain ⟨rfl, _⟩ := hb.vStr
    exact .inr ⟨_, _, rfl, rfl, retB hd q⟩
  · cases h
theorem fGt_ok {K : PySem.W.Frag} : OpOk K (fun x y H Q => rI0 (fun i j => .bl (decide (j < i))) x y H Q ∨ rStrB (fun i j => decide (j.cps.toList < i.cps.toList)) x y H Q) fGt := fun F H x y a b z Q hd ha hb h q => by
  unfold fGt fLt at h
  split at h
  · cases h
    cases ha.vInt
    cases hb.vInt
    exact .inl ⟨_, _, rfl, rfl, retB hd q⟩
  · cases h
    obtain ⟨rfl, _⟩ := ha.vStr
    obtain ⟨rfl, _⟩ := hb.vStr
    exact .inr ⟨_, _, rfl, rfl, retB hd q⟩
  · cases h
theorem fGe_ok {K : PySem.W.Frag} : OpOk K (fun x y H Q => rI0 (fun i j => .bl (decide (j ≤ i))) x y H Q ∨ rStrB (fun i j => !decide (i.cps.toList < j.cps.toList)) x y H Q) fGe := fun F H x y a b z Q hd ha hb h q => by
  unfold fGe fLe at h
  split at h
  · cases h
    cases ha.vInt
    cases hb.vInt
    exact .inl ⟨_, _, rfl, rfl, retB hd q⟩
  · cases h
    obtain ⟨rfl, _⟩ := ha.vStr
    obtain ⟨rfl, _⟩ := hb.vStr
    exact .inr ⟨_, _, rfl, rfl, retB hd q⟩
  · cases h
section
variable {X : Cx}
theorem op_lt2 : OpR X (compareOp .Lt) (fun x y H Q => rI0 (fun i j => .bl (decide (i < j))) x y H Q ∨ rStrB (fun i j => decide (i.cps.toList < j.cps.toList)) x y H Q) := op_lt.or op_lt_str
theorem op_le2 : OpR X (compareOp .LtE) (fun x y H Q => rI0 (fun i j => .bl (decide (i ≤ j))) x y H Q ∨ rStrB (fun i j => !decide (j.cps.toList < i.cps.toList)) x y H Q) := op_le.or op_le_str
theorem op_gt2 : OpR X (compareOp .Gt) (fun x y H Q => rI0 (fun i j => .bl (decide (j < i))) x y H Q ∨ rStrB (fun i j => decide (j.cps.toList < i.cps.toList)) x y H Q) := op_gt.or op_gt_str
theorem op_ge2 : OpR X (compareOp .GtE) (fun x y H Q => rI0 (fun i j => .bl (decide (j ≤ i))) x y H Q ∨ rStrB (fun i j => !decide (i.cps.toList < j.cps.toList)) x y H Q) := op_ge.or op_ge_str
end

/-- whether the one text is in the other -/
def inS (x y : Str) : Bool := !(Builtin.Str.occurrences y x 0 y.length 1).isEmpty
def isIn : D → D → Option Bool
  | .str x, .str y => some (inS x y)
  | d, .list ds => match plainD d && plainD (.list ds) with
    | true => some (ds.any fun z => PyData.eqv z d)
    | false => none
  | d, .tuple ds => match plainD d && plainD (.tuple ds) with
    | true => some (ds.any fun z => PyData.eqv z d)
    | false => none
  | _, _ => none
def fIn (a b : D) : Option Rv := (isIn a b).map fun k => .fr (.bool k)
def fNin (a b : D) : Option Rv := (isIn a b).map fun k => .fr (.bool (!k))
def rInT (K : PySem.W.Frag) (neg : Bool) : R2 := fun x y H Q => ∃ d ds, Dp K H x d ∧ Dp K H y (.tuple ds) ∧ SeqAt.shaped d = true ∧ SeqAt.shaped (.tuple ds) = true ∧ Q (.bl (if neg then !(ds.any fun z => PyData.eqv z d) else ds.any fun z => PyData.eqv z d)) H
section
variable {X : Cx}
theorem op_inT (hu : X.A.units + 65 < cLine) : OpR X (compareOp .In) (rInT X.K false) := fun pins s σ H x y v u Q I rx ry h => by
  obtain ⟨d, ds, hd, he, sd, se, q⟩ := h
  obtain ⟨as, r1⟩ := Dp.reads I d x v hd rx
  obtain ⟨bs, r2⟩ := Dp.reads I (.tuple ds) y u he ry
  exact SeqAt.in_tuple_reads r2 r1 (SeqAt.canLay_of_shaped se) (SeqAt.canLay_of_shaped sd) (PyProof.Rows.room_in_shaped sd hu) ⟨.bl _, H, I, rfl, q⟩
theorem op_ninT (hu : X.A.units + 65 < cLine) : OpR X (compareOp .NotIn) (rInT X.K true) := fun pins s σ H x y v u Q I rx ry h => by
  obtain ⟨d, ds, hd, he, sd, se, q⟩ := h
  obtain ⟨as, r1⟩ := Dp.reads I d x v hd rx
  obtain ⟨bs, r2⟩ := Dp.reads I (.tuple ds) y u he ry
  exact SeqAt.notIn_tuple_reads r2 r1 (SeqAt.canLay_of_shaped se) (SeqAt.canLay_of_shaped sd) (PyProof.Rows.room_in_shaped sd hu) ⟨.bl _, H, I, rfl, q⟩
def rIn3 (K : PySem.W.Frag) : R2 := fun x y H Q => (∃ i j, x = .str i ∧ y = .str j ∧ Q (.bl (!(Builtin.Str.occurrences j i 0 j.length 1).isEmpty)) H) ∨ rInD K x y H Q ∨ rInT K false x y H Q
def rNin3 (K : PySem.W.Frag) : R2 := fun x y H Q => (∃ i j, x = .str i ∧ y = .str j ∧ Q (.bl (!(!(Builtin.Str.occurrences j i 0 j.length 1).isEmpty))) H) ∨ rNotInD K x y H Q ∨ rInT K true x y H Q
theorem op_in3 (hu : X.A.units + 65 < cLine) : OpR X (compareOp .In) (rIn3 X.K) := op_in_str.or ((op_inD hu).or (op_inT hu))
theorem op_nin3 (hu : X.A.units + 65 < cLine) : OpR X (compareOp .NotIn) (rNin3 X.K) := op_notIn_str.or ((op_notInD hu).or (op_ninT hu))
theorem isIn_cases {K : PySem.W.Frag} {F : Fz} {H : Hp} {x y : V} {a b : D} {k : Bool} (ha : Rq K F H x a) (hb : Rq K F H y b) (h : isIn a b = some k) :
    (∃ i j, x = .str i ∧ y = .str j ∧ k = inS i j) ∨ (∃ ds, Dp K H x a ∧ Dp K H y (.list ds) ∧ SeqAt.shaped a = true ∧ SeqAt.shaped (.list ds) = true ∧ k = ds.any fun z => PyData.eqv z a) ∨
      (∃ ds, Dp K H x a ∧ Dp K H y (.tuple ds) ∧ SeqAt.shaped a = true ∧ SeqAt.shaped (.tuple ds) = true ∧ k = ds.any fun z => PyData.eqv z a) := by
  unfold isIn at h
  split at h
  · cases h
    obtain ⟨rfl, _⟩ := ha.vStr
    obtain ⟨rfl, _⟩ := hb.vStr
    exact .inl ⟨_, _, rfl, rfl, rfl⟩
  · rename_i ds
    cases p : (plainD a && plainD (.list ds)) with
    | false => rw [p] at h; cases h
    | true =>
      rw [p] at h
      cases h
      rw [Bool.and_eq_true] at p
      obtain ⟨h1, h2⟩ := rq_dp ha p.1
      obtain ⟨h3, h4⟩ := rq_dp hb p.2
      exact .inr (.inl ⟨ds, h1, h3, h2, h4, rfl⟩)
  · rename_i ds
    cases p : (plainD a && plainD (.tuple ds)) with
    | false => rw [p] at h; cases h
    | true =>
      rw [p] at h
      cases h
      rw [Bool.and_eq_true] at p
      obtain ⟨h1, h2⟩ := rq_dp ha p.1
      obtain ⟨h3, h4⟩ := rq_dp hb p.2
      exact .inr (.inr ⟨ds, h1, h3, h2, h4, rfl⟩)
  · cases h
theorem fIn_ok {K : PySem.W.Frag} : OpOk K (rIn3 K) fIn := fun F H x y a b z Q hd ha hb h q => by
  obtain ⟨k, hk, rfl⟩ := Option.map_eq_some_iff.mp h
  rcases isIn_cases ha hb hk with ⟨i, j, rfl, rfl, rfl⟩ | ⟨ds, h1, h2, h3, h4, rfl⟩ | ⟨ds, h1, h2, h3, h4, rfl⟩
  · exact .inl ⟨i, j, rfl, rfl, retB hd q⟩
  · exact .inr (.inl ⟨a, ds, h1, h2, h3, h4, retB hd q⟩)
  · exact .inr (.inr ⟨a, ds, h1, h2, h3, h4, retB hd q⟩)
theorem fNin_ok {K : PySem.W.Frag} : OpOk K (rNin3 K) fNin := fun F H x y a b z Q hd ha hb h q => by
  obtain ⟨k, hk, rfl⟩ := Option.map_eq_some_iff.mp h
  rcases isIn_cases ha hb hk with ⟨i, j, rfl, rfl, rfl⟩ | ⟨ds, h1, h2, h3, h4, rfl⟩ | ⟨ds, h1, h2, h3, h4, rfl⟩
  · exact .inl ⟨i, j, rfl, rfl, retB hd q⟩
  · exact .inr (.inl ⟨a, ds, h1, h2, h3, h4, retB hd q⟩)
  · exact .inr (.inr ⟨a, ds, h1, h2, h3, h4, retB hd q⟩)
end

def isN : D → Bool
  | .none => true
  | _ => false
def fIs (a b : D) : Option Rv := match isN b with
  | true => some (.fr (.bool (isN a)))
  | false => none
def fIsnt (a b : D) : Option Rv := match isN b with
  | true => some (.fr (.bool (!isN a)))
  | false => none
theorem isN_v {K : PySem.W.Frag} {F : Fz} {H : Hp} {v : V} {d : D} (h : Rq K F H v d) : decide (v = .non) = isN d := by
  cases d with
  | none => cases h.vNon; rfl
  | bool b => cases h.vBl; rfl
  | int i => cases h.vInt; rfl
  | str x => obtain ⟨rfl, _⟩ := h.vStr; rfl
  | list ds => obtain ⟨a, xs, rfl, _⟩ := h.vLst; rfl
  | tuple ds => obtain ⟨a, xs, rfl, _⟩ := h.vTup; rfl
  | dict ds =>
    cases h with
    | fz h => cases h <;> rfl
    | rt h => rfl
def rIsN (neg : Bool) : R2 := fun x y H Q => y = .non ∧ Q (.bl (if neg then !decide (x = .non) else decide (x = .non))) H
theorem fIs_ok {K : PySem.W.Frag} : OpOk K (rIsN false) fIs := fun F H x y a b z Q hd ha hb h q => by
  unfold fIs at h
  cases p : isN b with
  | false => rw [p] at h; cases h
  | true =>
    rw [p] at h
    cases h
    have e : decide (y = .non) = true := (isN_v hb).trans p
    refine ⟨of_decide_eq_true e, ?_⟩
    have : (if false = true then !decide (x = V.non) else decide (x = V.non)) = isN a := isN_v ha
    rw [this]
    exact retB hd q
theorem fIsnt_ok {K : PySem.W.Frag} : OpOk K (rIsN true) fIsnt := fun F H x y a b z Q hd ha hb h q => by
  unfold fIsnt at h
  cases p : isN b with
  | false => rw [p] at h; cases h
  | true =>
    rw [p] at h
    cases h
    have e : decide (y = .non) = true := (isN_v hb).trans p
    refine ⟨of_decide_eq_true e, ?_⟩
    have : (if true = true then !decide (x = V.non) else decide (x = V.non)) = !isN a := congrArg not (isN_v ha)
    rw [this]
    exact retB hd q
section
variable {X : Cx}
theorem op_is2 : OpR X (compareOp .Is) (rIsN false) := op_isN
theorem op_isnt2 : OpR X (compareOp .IsNot) (rIsN true) := op_notN
end

def fIx : D → D → Option Rv
  | .list ds, .int i => (atI ds i).map .fr
  | .tuple ds, .int i => (atI ds i).map .fr
  | .str x, .int i => (atI (tl x) i).map fun c => .fr (sgn c)
  | _, _ => none
theorem atI_rp {K : PySem.W.Frag} {F : Fz} {H : Hp} {xs : List V} {ds : List D} {i : Int} {d : D} (r : RpAll K F H xs ds) (h : atI ds i = some d) : ∃ v, atI xs i = some v ∧ Rp K F H v d := by
  unfold atI at h ⊢
  obtain ⟨j, h1, h2⟩ := Option.bind_eq_some_iff.mp h
  obtain ⟨v, h3, h4⟩ := r.at h2
  rw [r.length]
  exact ⟨v, Option.bind_eq_some_iff.mpr ⟨j, h1, h3⟩, h4⟩
theorem atI_mem {α : Type} {xs : List α} {i : Int} {x : α} (h : atI xs i = some x) : x ∈ xs := by
  unfold atI at h
  obtain ⟨j, _, h2⟩ := Option.bind_eq_some_iff.mp h
  exact List.mem_of_getElem? h2
theorem fIx_ok {K : PySem.W.Frag} : OpOk K (rIx K) fIx := fun F H x y a b z Q hd ha hb h q => by
  unfold fIx at h
  split at h
  · obtain ⟨d, h1, rfl⟩ := Option.map_eq_some_iff.mp h
    obtain ⟨p, xs, rfl, e, r⟩ := ha.vLst
    cases hb.vInt
    obtain ⟨v, h2, h3⟩ := atI_rp r h1
    exact .inl ⟨p, xs, _, v, rfl, rfl, .inl e, h2, ret hd (show RvNew K H F H v (.fr d) from h3) q⟩
  · obtain ⟨d, h1, rfl⟩ := Option.map_eq_some_iff.mp h
    obtain ⟨p, xs, rfl, e, r, _⟩ := ha.vTup
    cases hb.vInt
    obtain ⟨v, h2, h3⟩ := atI_rp r h1
    exact .inr (.inl ⟨p, xs, _, v, rfl, rfl, e, h2, ret hd (show RvNew K H F H v (.fr d) from h3) q⟩)
  · obtain ⟨c, h1, rfl⟩ := Option.map_eq_some_iff.mp h
    obtain ⟨rfl, sk⟩ := ha.vStr
    cases hb.vInt
    exact .inr (.inr ⟨_, _, c, rfl, rfl, line_big sk.len, h1, retS hd (sk.sgn (atI_mem h1)) q⟩)
  · cases h

def cutD (xs : List D) (lo hi : Option Int) : List D := (xs.drop (HT.sIx xs.length 0 lo)).take (HT.sIx xs.length xs.length hi - HT.sIx xs.length 0 lo)
theorem RpAll.cut {K : PySem.W.Frag} {F : Fz} {H : Hp} {xs : List V} {ds : List D} (r : RpAll K F H xs ds) (lo hi : Option Int) : RpAll K F H (cutV xs lo hi) (cutD ds lo hi) := by
  unfold cutV cutD
  rw [r.length]
  exact (r.drop _).take _
def intsOf : List D → Option (List Int)
  | [] => some []
  | .int i :: ds => (intsOf ds).map fun l => i :: l
  | _ => none
theorem intsOf_map : ∀ {ds : List D} {ns : List Int}, intsOf ds = some ns → ds = ns.map .int
  | [], _, h => by cases h; rfl
  | .int i :: ds, _, h => by
    obtain ⟨l, h1, rfl⟩ := Option.map_eq_some_iff.mp h
    rw [intsOf_map h1]
    rfl
  | .none :: _, _, h => by cases h
  | .bool _ :: _, _, h => by cases h
  | .str _ :: _, _, h => by cases h
  | .list _ :: _, _, h => by cases h
  | .tuple _ :: _, _, h => by cases h
  | .dict _ :: _, _, h => by cases h
theorem intsOf_ints : ∀ ns : List Int, intsOf (ns.map .int) = some ns
  | [] => rfl
  | i :: ns => by
    show (intsOf (ns.map .int)).map _ = _
    rw [intsOf_ints ns]
    rfl
def fSl : D → Option Int → Option Int → Option Rv
  | .list ds, lo, hi => some (.ow (.list (cutD ds lo hi)))
  | .tuple ds, lo, hi => some (.fr (.tuple (cutD ds lo hi)))
  | .str x, lo, hi => some (.fr (.str (cutS x lo hi)))
  | .dict [(.none, .list ds)], lo, hi => some (.ow (.list (cutD ds lo hi)))
  | _, _, _ => none
def rSl3 (K : PySem.W.Frag) : V → Option Int → Option Int → Hp → VK → Prop := fun x lo hi H Q => rSlL K x lo hi H Q ∨ rSlA K x lo hi H Q ∨ rSlS x lo hi H Q
theorem sl_3 {X : Cx} : SlR X (rSl3 X.K) := sl_list.or (sl_tupA.or sl_str)
theorem ints_rp {K : PySem.W.Frag} {F : Fz} {H : Hp} : ∀ ns : List Int, RpAll K F H (ns.map V.int) (ns.map .int)
  | [] => .nil
  | i :: ns => .cons (.int i) (ints_rp ns)
theorem RpKv.head {K : PySem.W.Frag} {F : Fz} {H : Hp} {kvs : List (Key × V)} {ds : List (D × D)} {d : D} {r : List (D × D)} (e : ds = (.none, d) :: r) (h : RpKv K F H kvs ds) : False := by
  cases h with
  | nil => cases e
  | @cons k v d' r' ds' a b =>
    injection e with e _
    injection e with e _
    cases k <;> simp [kD] at e
theorem fSl_ok {K : PySem.W.Frag} : SlOk K (rSl3 K) fSl := fun F H x a lo hi z Q hd ha h q => by
  unfold fSl at h
  split at h
  · cases h
    obtain ⟨p, xs, rfl, e, r⟩ := ha.vLst
    exact .inl ⟨p, xs, rfl, .inl e, fun p hp => retL hd (r.cut lo hi) hp q⟩
  · cases h
    obtain ⟨p, xs, rfl, e, r, w⟩ := ha.vTup
    refine .inr (.inl ⟨p, xs, rfl, e, fun hw => ?_, fun _ p hp => retT hd (r.cut lo hi) hp q⟩)
    refine ret hd (show RvNew K H F H _ (.fr (.tuple _)) from ?_) q
    rw [r.length] at hw
    unfold cutD
    rw [hw.1, hw.2, List.drop_zero, Nat.sub_zero, List.take_length]
    exact w
  · cases h
    obtain ⟨rfl, sk⟩ := ha.vStr
    exact .inr (.inr ⟨_, rfl, line_big sk.len, retS hd (sk.cut lo hi) q⟩)
  · rename_i ds
    cases h
    have key : ∃ (p : Addr) (ns : List Int), x = .ref p ∧ SqL K H p (ns.map V.int) ∧ ds = ns.map .int := by
      cases ha with
      | fz h =>
        generalize hg : PyData.dict [(PyData.none, PyData.list ds)] = g at h
        cases h with
        | scr k =>
          unfold scrD at hg
          injection hg with hg
          injection hg with hg
          injection hg with _ hg
          injection hg with hg
          exact ⟨_, _, rfl, k.elim (fun k => .inl k.2) fun k => k.seq H, hg⟩
        | dct f k r =>
          injection hg with hg
          exact (RpKv.head hg.symm r).elim
        | _ => cases hg
      | rt h =>
        rcases h with ⟨_, _, e, _⟩ | ⟨kvs, es, e, k, r⟩
        · cases e
        · cases e
          exact (RpKv.head rfl r).elim
    obtain ⟨p, ns, rfl, e, rfl⟩ := key
    exact .inl ⟨p, _, rfl, e, fun p hp => retL hd ((ints_rp ns).cut lo hi) hp q⟩
  · cases h
end Ed
end
section
namespace Ed
open PySem PySem.Spec L2 TL

section
variable {X : Cx} {B : Bd} {W : Wx} {e o : Expr} {es : List Expr} {c : C} {cs : CB} {apos cpos : Pos} {name : Str} {id : String} {rm : V → List V → Hp → VK → Prop} {g : Str → List D → Option Rv}
theorem d_mt (hf : MtOk X.K rm g) (hm : MtR X id rm) (slot : PySem.Slot "str" name id) (hty : typeOf (.builtin id) = pure (.type "method_descriptor")) (ho : PE X o (tC X.K B W c)) (ha : PA X (e :: es) (tBo X.K B W cs))
    (hbase : attributeBase o name X.env (eval o X.env) = eval o X.env := by rfl)
    (hfew : ((backTo cpos (starEach (e :: es) X.env)).all (fun x => !x.1) && (backToKw cpos (keywordEach [] X.env)).all (fun x => x.1.isSome)
      && decide ((e :: es).length + ([] : List Keyword).length + (if ([] : List Keyword).isEmpty then 0 else 1) < 30)) = true := by rfl)
    (hline : (apos.endLine == cpos.line) = true := by rfl) (hs : starEach (e :: es) X.env = (false, eval e X.env) :: starEach es X.env := by rfl) (hplain : (backTo cpos (starEach es X.env)).any (·.1) = false := by rfl) :
    PE X (.Call (.Attribute o name apos) (e :: es) [] cpos) (tC X.K B W (cMt g c cs)) :=
  PE_mono (pe_bm F.plainAttrs_str slot hty hm ho ha hbase hfew hline hs hplain) (mt_mono hf (P := fun x H => tyV X.K "str" x H) (fun _ _ => rfl) (fun _ _ _ h => h) fun _ _ _ h => h)
theorem d_mt0 (hf : MtOk X.K rm g) (hm : MtR X id rm) (slot : PySem.Slot "str" name id) (hty : typeOf (.builtin id) = pure (.type "method_descriptor")) (ho : PE X o (tC X.K B W c))
    (hbase : attributeBase o name X.env (eval o X.env) = eval o X.env := by rfl) (hline : (apos.endLine == cpos.line) = true := by rfl) :
    PE X (.Call (.Attribute o name apos) [] [] cpos) (tC X.K B W (cMt g c cBNil)) :=
  PE_mono (pe_bm0 F.plainAttrs_str slot hty hm ho hbase hline) fun s H Q h => by
    have k := mt_mono hf (P := fun x H => tyV X.K "str" x H) (fun _ _ => rfl) (fun _ _ _ h => h) (fun _ _ _ h => h) s H Q h
    obtain ⟨F, r, es, hO⟩ := k
    exact ⟨F, r, es, hO.mono (fun p hp v F' H' ps ok fr => by
      obtain ⟨h1, F2, r2, es2, h2⟩ := hp v F' H' ps ok fr
      exact ⟨h1, h2 [] F2 _ (.refl es2) .nil⟩) fun _ _ x => x⟩
end
/-- a text by its signs -/
def mkS (l : List Nat) : Str := ⟨l.toArray⟩
theorem tl_mkS (l : List Nat) : tl (mkS l) = l := rfl
theorem mkS_tl (x : Str) : mkS (tl x) = x := rfl
def strsOf : List D → Option (List Str)
  | [] => some []
  | .str x :: ds => (strsOf ds).map fun l => x :: l
  | _ => none
theorem strsOf_map : ∀ {ds : List D} {ns : List Str}, strsOf ds = some ns → ds = ns.map .str
  | [], _, h => by cases h; rfl
  | .str i :: ds, _, h => by
    obtain ⟨l, h1, rfl⟩ := Option.map_eq_some_iff.mp h
    rw [strsOf_map h1]
    rfl
  | .none :: _, _, h => by cases h
  | .bool _ :: _, _, h => by cases h
  | .int _ :: _, _, h => by cases h
  | .list _ :: _, _, h => by cases h
  | .tuple _ :: _, _, h => by cases h
  | .dict _ :: _, _, h => by cases h
theorem strsOf_strs : ∀ ns : List Str, strsOf (ns.map .str) = some ns
  | [] => rfl
  | i :: ns => by
    show (strsOf (ns.map .str)).map _ = _
    rw [strsOf_strs ns]
    rfl
theorem strs_rp {K : PySem.W.Frag} {F : Fz} {H : Hp} : ∀ {ys : List Str}, (∀ y ∈ ys, sOk y) → RpAll K F H (ys.map V.str) (ys.map .str)
  | [], _ => .nil
  | i :: ns, h => .cons (.str i (h i (List.mem_cons_self ..))) (strs_rp fun y hy => h y (List.mem_cons_of_mem _ hy))
theorem rp_strs {K : PySem.W.Frag} {F : Fz} {H : Hp} : ∀ {ys : List Str} {vs : List V}, RpAll K F H vs (ys.map .str) → vs = ys.map V.str ∧ ∀ y ∈ ys, sOk y
  | [], _, h => by cases h; exact ⟨rfl, fun y hy => absurd hy (by simp)⟩
  | y :: ys, _, h => by
    cases h with
    | cons a b =>
      obtain ⟨rfl, h2⟩ := rp_strs b
      cases a with
      | str _ sk => exact ⟨rfl, fun z hz => by
        rcases List.mem_cons.mp hz with rfl | hz
        · exact sk
        · exact h2 z hz⟩
theorem spl_mem {S : List Nat} : ∀ (l : List Nat) (k : Nat) (acc : List Nat), ∀ p ∈ spl S k acc l, ∀ c ∈ p, c ∈ acc ∨ c ∈ l
  | [], k, acc => by
    intro p hp c hc
    rw [spl_nil] at hp
    rw [List.mem_singleton.mp hp] at hc
    exact .inl hc
  | x :: l, 0, acc => by
    intro p hp c hc
    unfold spl at hp
    split at hp
    · rcases List.mem_cons.mp hp with rfl | hp
      · exact .inl hc
      · rcases spl_mem l _ _ p hp c hc with z | z
        · cases z
        · exact .inr (List.mem_cons_of_mem _ z)
    · rcases spl_mem l _ _ p hp c hc with z | z
      · rcases List.mem_append.mp z with z | z
        · exact .inl z
        · rw [List.mem_singleton.mp z]; exact .inr (List.mem_cons_self ..)
      · exact .inr (List.mem_cons_of_mem _ z)
  | x :: l, k + 1, acc => by
    intro p hp c hc
    have hp : p ∈ spl S k acc l := hp
    rcases spl_mem l _ _ p hp c hc with z | z
    · exact .inl z
    · exact .inr (List.mem_cons_of_mem _ z)
theorem spl_len {S : List Nat} : ∀ (l : List Nat) (k : Nat) (acc : List Nat), ∀ p ∈ spl S k acc l, p.length ≤ acc.length + l.length
  | [], k, acc => by
    intro p hp
    rw [spl_nil] at hp
    rw [List.mem_singleton.mp hp]
    omega
  | x :: l, 0, acc => by
    intro p hp
    unfold spl at hp
    rw [List.length_cons]
    split at hp
    · rcases List.mem_cons.mp hp with rfl | hp
      · omega
      · have := spl_len l _ _ p hp
        rw [List.length_nil] at this
        omega
    · have := spl_len l _ _ p hp
      rw [List.length_append, List.length_singleton] at this
      omega
  | x :: l, k + 1, acc => by
    intro p hp
    have hp : p ∈ spl S k acc l := hp
    have := spl_len l _ _ p hp
    rw [List.length_cons]
    omega
def fSplit (a : Str) : List D → Option Rv
  | [.str b] => if b.length ≠ 0 ∧ b.cps.all (· < 256) = true then some (.ow (.list ((spl (tl b) 0 [] (tl a)).map fun l => .str (mkS l)))) else none
  | _ => none
def rSplit : V → List V → Hp → VK → Prop := fun x xs H Q => ∃ a b, x = .str a ∧ xs = [.str b] ∧ (b.length == 0) = false ∧ a.length + 2 ≤ sizeLine ∧ rNewStrs (Txt.split a b) H Q
theorem fSplit_ok {K : PySem.W.Frag} : MtOk K rSplit fSplit := fun F H x xs ds z Q hd sk hr h q => by
  unfold fSplit at h
  split at h
  · rename_i b
    split at h
    · rename_i hb
      cases h
      cases hr with
      | cons r1 r2 =>
        cases r2
        obtain ⟨rfl, _⟩ := r1.vStr
        have e : (Txt.split x b).map tl = spl (tl b) 0 [] (tl x) := split_spl x b (fun e => hb.1 (by rw [len_tl, e]; rfl)) (kind_ok hb.2)
        have e2 : Txt.split x b = (spl (tl b) 0 [] (tl x)).map mkS := by
          rw [← e, List.map_map]
          exact (List.map_id _).symm
        have hx : x.length ≤ 8000000 := sk.len
        refine ⟨x, b, rfl, rfl, by simpa using hb.1, by rw [sizeLine_eq]; omega, fun p hp => ?_⟩
        rw [e2]
        refine retL hd (?_ : RpAll K F H _ _) hp q
        have := strs_rp (K := K) (F := F) (H := H) (ys := (spl (tl b) 0 [] (tl x)).map mkS) fun y hy => by
          obtain ⟨l, hl, rfl⟩ := List.mem_map.mp hy
          refine ⟨?_, fun c hc => ?_⟩
          · have := spl_len _ _ _ l hl
            rw [List.length_nil, Nat.zero_add, ← len_tl] at this
            exact Nat.le_trans this hx
          · rcases spl_mem _ _ _ l hl c hc with z | z
            · cases z
            · exact sk.sg c z
        rw [List.map_map (g := PyData.str)] at this
        exact this
    · cases h
  · cases h
theorem joinL_mem {S : List Nat} : ∀ (ps : List (List Nat)), ∀ c ∈ joinL S ps, c ∈ S ∨ ∃ p ∈ ps, c ∈ p
  | [], c, h => by cases h
  | [p], c, h => .inr ⟨p, List.mem_singleton.mpr rfl, h⟩
  | p :: q :: r, c, h => by
    have h : c ∈ p ++ (S ++ joinL S (q :: r)) := h
    rcases List.mem_append.mp h with h | h
    · exact .inr ⟨p, List.mem_cons_self .., h⟩
    · rcases List.mem_append.mp h with h | h
      · exact .inl h
      · rcases joinL_mem (q :: r) c h with z | ⟨p', z1, z2⟩
        · exact .inl z
        · exact .inr ⟨p', List.mem_cons_of_mem _ z1, z2⟩
theorem joinL_len {S : List Nat} : ∀ (ps : List (List Nat)), (joinL S ps).length ≤ (ps.map (·.length)).sum + ps.length * S.length
  | [] => by show 0 ≤ _; omega
  | [p] => by show p.length ≤ p.length + 0 + _; omega
  | p :: q :: r => by
    have e : (joinL S (p :: q :: r)).length = p.length + (S.length + (joinL S (q :: r)).length) := by
      show (p ++ (S ++ joinL S (q :: r))).length = _
      rw [List.length_append, List.length_append]
    have := joinL_len (S := S) (q :: r)
    rw [e, List.map_cons, List.sum_cons, List.length_cons, Nat.add_mul]
    omega
def fJoin (a : Str) : List D → Option Rv
  | [.list ds] => (strsOf ds).bind fun ys => if (ys.map (·.length)).sum + ys.length * a.length ≤ big then some (.fr (.str (mkS (joinL (tl a) (ys.map tl))))) else none
  | [.tuple ds] => (strsOf ds).bind fun ys => if (ys.map (·.length)).sum + ys.length * a.length ≤ big then some (.fr (.str (mkS (joinL (tl a) (ys.map tl))))) else none
  | _ => none
def rJoin (K : PySem.W.Frag) : V → List V → Hp → VK → Prop := fun x xs H Q => ∃ a p, ∃ ys : List Str, x = .str a ∧ xs = [.ref p] ∧ (SqL K H p (ys.map V.str) ∨ SqT K H p (ys.map V.str)) ∧
  (ys.map (·.length)).sum + ys.length * a.length ≤ 16777216 ∧ Q (.str (Txt.join a ys)) H
theorem join_mk (a : Str) (ys : List Str) : Txt.join a ys = mkS (joinL (tl a) (ys.map tl)) := by
  rw [← tl_join, ← join_eq]
  rfl
theorem join_sok {a : Str} {ys : List Str} (ha : sOk a) (hy : ∀ y ∈ ys, sOk y) (h : (ys.map (·.length)).sum + ys.length * a.length ≤ big) : sOk (mkS (joinL (tl a) (ys.map tl))) := by
  refine ⟨?_, fun c hc => ?_⟩
  · have := joinL_len (S := tl a) (ys.map tl)
    rw [List.map_map, List.length_map, ← len_tl] at this
    have e : (ys.map ((fun x : List Nat => x.length) ∘ tl)) = ys.map (·.length) := List.map_congr_left fun y _ => (len_tl y).symm
    rw [e] at this
    exact Nat.le_trans this h
  · rcases joinL_mem _ c hc with z | ⟨p, z1, z2⟩
    · exact ha.sg c z
    · obtain ⟨y, h1, rfl⟩ := List.mem_map.mp z1
      exact (hy y h1).sg c z2
theorem fJoin_ok {K : PySem.W.Frag} : MtOk K (rJoin K) fJoin := fun F H x xs ds z Q hd sk hr h q => by
  unfold fJoin at h
  have hbig : ∀ {n : Nat}, n ≤ big → n ≤ 16777216 := fun {n} h => Nat.le_trans h (by decide)
  split at h
  · obtain ⟨ys, h1, h2⟩ := Option.bind_eq_some_iff.mp h
    split at h2
    · rename_i hz
      cases h2
      rw [strsOf_map h1] at hr
      cases hr with
      | cons r1 r2 =>
        cases r2
        obtain ⟨a, vs, rfl, e, r⟩ := r1.vLst
        obtain ⟨rfl, hy⟩ := rp_strs r
        refine ⟨x, a, ys, rfl, rfl, .inl (.inl e), hbig hz, ?_⟩
        rw [join_mk]
        exact retS hd (join_sok sk hy hz) q
    · cases h2
  · obtain ⟨ys, h1, h2⟩ := Option.bind_eq_some_iff.mp h
    split at h2
    · rename_i hz
      cases h2
      rw [strsOf_map h1] at hr
      cases hr with
      | cons r1 r2 =>
        cases r2
        obtain ⟨a, vs, rfl, e, r, _⟩ := r1.vTup
        obtain ⟨rfl, hy⟩ := rp_strs r
        refine ⟨x, a, ys, rfl, rfl, .inr e, hbig hz, ?_⟩
        rw [join_mk]
        exact retS hd (join_sok sk hy hz) q
    · cases h2
  · cases h

section
variable {K : PySem.W.Frag}
theorem RqAll.one {F : Fz} {H : Hp} {vs : List V} {d : D} (h : RqAll K F H vs [d]) : ∃ v, vs = [v] ∧ Rq K F H v d := by
  cases h with
  | cons a b => cases b; exact ⟨_, rfl, a⟩
def fLen : List D → Option Rv
  | [.str x] => some (.fr (.int (x.length : Nat)))
  | [.list xs] => some (.fr (.int (xs.length : Nat)))
  | [.tuple xs] => some (.fr (.int (xs.length : Nat)))
  | _ => none
theorem fLen_ok : CallOk K (fun xs H Q => ∃ x n, xs = [x] ∧ LenV K x H n ∧ Q (.int n) H) fLen := fun F H xs ds z Q hd hr h q => by
  unfold fLen at h
  split at h
  · cases h
    obtain ⟨v, rfl, r⟩ := hr.one
    obtain ⟨rfl, sk⟩ := r.vStr
    exact ⟨_, _, rfl, ⟨line_big sk.len, rfl⟩, retI hd q⟩
  · cases h
    obtain ⟨v, rfl, r⟩ := hr.one
    obtain ⟨a, vs, rfl, e, r⟩ := r.vLst
    exact ⟨_, _, rfl, .inl ⟨vs, .inl e, r.length.symm⟩, retI hd q⟩
  · cases h
    obtain ⟨v, rfl, r⟩ := hr.one
    obtain ⟨a, vs, rfl, e, r, _⟩ := r.vTup
    exact ⟨_, _, rfl, .inr ⟨vs, e, r.length.symm⟩, retI hd q⟩
  · cases h
def fAbs : List D → Option Rv
  | [.int i] => some (.fr (.int (if i < 0 then -i else i)))
  | _ => none
theorem fAbs_ok : CallOk K (fun xs H Q => ∃ i, xs = [.int i] ∧ Q (.int (if i < 0 then -i else i)) H) fAbs := fun F H xs ds z Q hd hr h q => by
  unfold fAbs at h
  split at h
  · cases h
    obtain ⟨v, rfl, r⟩ := hr.one
    cases r.vInt
    exact ⟨_, rfl, retI hd q⟩
  · cases h
def fInt : List D → Option Rv
  | [.int i] => some (.fr (.int i))
  | [.bool b] => some (.fr (.int (if b then 1 else 0)))
  | [.str x] => if x.length ≤ 640 then (PySem.intText? x).map fun n => .fr (.int n) else none
  | _ => none
def rInt2 : List V → Hp → VK → Prop := fun xs H Q => ((∃ i, xs = [.int i] ∧ Q (.int i) H) ∨ ∃ k, xs = [.bl k] ∧ Q (.int (if k then 1 else 0)) H) ∨ ∃ a n, xs = [.str a] ∧ PySem.intText? a = some n ∧ a.length ≤ 640 ∧ Q (.int n) H
theorem call_int2 {X : Cx} : CallR X (.type "int") rInt2 := call_int1.or call_int_str
theorem fInt_ok : CallOk K rInt2 fInt := fun F H xs ds z Q hd hr h q => by
  unfold fInt at h
  split at h
  · cases h
    obtain ⟨v, rfl, r⟩ := hr.one
    cases r.vInt
    exact .inl (.inl ⟨_, rfl, retI hd q⟩)
  · cases h
    obtain ⟨v, rfl, r⟩ := hr.one
    cases r.vBl
    exact .inl (.inr ⟨_, rfl, retI hd q⟩)
  · split at h
    · rename_i hl
      obtain ⟨n, h1, rfl⟩ := Option.map_eq_some_iff.mp h
      obtain ⟨v, rfl, r⟩ := hr.one
      obtain ⟨rfl, sk⟩ := r.vStr
      exact .inr ⟨_, n, rfl, h1, hl, retI hd q⟩
    · cases h
  · cases h
def fStr : List D → Option Rv
  | [.int i] => if i.natAbs.log2 < 1920 then some (.fr (.str (toString i))) else none
  | [.str x] => some (.fr (.str x))
  | _ => none
def rStr2 : List V → Hp → VK → Prop := fun xs H Q => (∃ i, xs = [.int i] ∧ i.natAbs.log2 < 1920 ∧ Q (.str (toString i)) H) ∨ ∃ a, xs = [.str a] ∧ Q (.str a) H
theorem call_str2 {X : Cx} : CallR X (.type "str") rStr2 := call_str_int.or SkE.call_str_str
theorem sOk_int {i : Int} (h : i.natAbs.log2 < 1920) : sOk (toString i : String) := by
  refine ⟨Nat.le_trans (PyProof.Rows.int_text_len_1921 h) (by decide), fun c hc => ?_⟩
  rw [PyProof.Rows.signs_ofString] at hc
  obtain ⟨ch, h1, rfl⟩ := List.mem_map.mp hc
  exact Nat.lt_trans (int_ascii i ch h1) (by decide)
theorem fStr_ok : CallOk K rStr2 fStr := fun F H xs ds z Q hd hr h q => by
  unfold fStr at h
  split at h
  · split at h
    · rename_i hl
      cases h
      obtain ⟨v, rfl, r⟩ := hr.one
      cases r.vInt
      exact .inl ⟨_, rfl, hl, retS hd (sOk_int hl) q⟩
    · cases h
  · cases h
    obtain ⟨v, rfl, r⟩ := hr.one
    obtain ⟨rfl, sk⟩ := r.vStr
    exact .inr ⟨_, rfl, retS hd sk q⟩
  · cases h
def blsOf : List D → Option (List Bool)
  | [] => some []
  | .bool x :: ds => (blsOf ds).map fun l => x :: l
  | _ => none
theorem blsOf_map : ∀ {ds : List D} {ns : List Bool}, blsOf ds = some ns → ds = ns.map .bool
  | [], _, h => by cases h; rfl
  | .bool i :: ds, _, h => by
    obtain ⟨l, h1, rfl⟩ := Option.map_eq_some_iff.mp h
    rw [blsOf_map h1]
    rfl
  | .none :: _, _, h => by cases h
  | .str _ :: _, _, h => by cases h
  | .int _ :: _, _, h => by cases h
  | .list _ :: _, _, h => by cases h
  | .tuple _ :: _, _, h => by cases h
  | .dict _ :: _, _, h => by cases h
theorem blsOf_bls : ∀ ns : List Bool, blsOf (ns.map .bool) = some ns
  | [] => rfl
  | i :: ns => by
    show (blsOf (ns.map .bool)).map _ = _
    rw [blsOf_bls ns]
    rfl
theorem rp_bls {F : Fz} {H : Hp} : ∀ {ys : List Bool} {vs : List V}, RpAll K F H vs (ys.map .bool) → vs = ys.map V.bl
  | [], _, h => by cases h; rfl
  | y :: ys, _, h => by
    cases h with
    | cons a b =>
      rw [rp_bls b]
      cases a
      rfl
def fAll : List D → Option Rv
  | [.list ds] => (blsOf ds).map fun bs => .fr (.bool (bs.all id))
  | _ => none
def fAny : List D → Option Rv
  | [.list ds] => (blsOf ds).map fun bs => .fr (.bool (bs.any id))
  | _ => none
theorem fAll_ok : CallOk K (rAll K) fAll := fun F H xs ds z Q hd hr h q => by
  unfold fAll at h
  split at h
  · obtain ⟨bs, h1, rfl⟩ := Option.map_eq_some_iff.mp h
    rw [blsOf_map h1] at hr
    obtain ⟨v, rfl, r⟩ := hr.one
    obtain ⟨a, vs, rfl, e, r⟩ := r.vLst
    rw [rp_bls r] at e
    exact ⟨a, bs, rfl, .inl e, retB hd q⟩
  · cases h
theorem fAny_ok : CallOk K (rAny K) fAny := fun F H xs ds z Q hd hr h q => by
  unfold fAny at h
  split at h
  · obtain ⟨bs, h1, rfl⟩ := Option.map_eq_some_iff.mp h
    rw [blsOf_map h1] at hr
    obtain ⟨v, rfl, r⟩ := hr.one
    obtain ⟨a, vs, rfl, e, r⟩ := r.vLst
    rw [rp_bls r] at e
    exact ⟨a, bs, rfl, .inl e, retB hd q⟩
  · cases h
def fTuple : List D → Option Rv
  | [.list ds] => some (.fr (.tuple ds))
  | [.tuple ds] => some (.fr (.tuple ds))
  | _ => none
theorem fTuple_ok : CallOk K (fun xs H Q => ∃ p ys, xs = [.ref p] ∧ ((SqL K H p ys ∧ ∀ l, H l = none → Q (.ref l) (upd H l (.tup ys))) ∨ (SqT K H p ys ∧ Q (.ref p) H))) fTuple := fun F H xs ds z Q hd hr h q => by
  unfold fTuple at h
  split at h
  · cases h
    obtain ⟨v, rfl, r⟩ := hr.one
    obtain ⟨a, vs, rfl, e, r⟩ := r.vLst
    exact ⟨a, vs, rfl, .inl ⟨.inl e, fun p hp => retT hd r hp q⟩⟩
  · cases h
    obtain ⟨v, rfl, r⟩ := hr.one
    obtain ⟨a, vs, rfl, e, r, w⟩ := r.vTup
    exact ⟨a, vs, rfl, .inr ⟨e, ret hd (show RvNew K H F H _ (.fr (.tuple _)) from w) q⟩⟩
  · cases h
def fList : List D → Option Rv
  | [.list ds] => some (.ow (.list ds))
  | [.tuple ds] => some (.ow (.list ds))
  | _ => none
theorem fList_ok : CallOk K (fun xs H Q => ∃ p ys, xs = [.ref p] ∧ (SqL K H p ys ∨ SqT K H p ys) ∧ ∀ l, H l = none → Q (.ref l) (upd H l (.lst ys))) fList := fun F H xs ds z Q hd hr h q => by
  unfold fList at h
  split at h
  · cases h
    obtain ⟨v, rfl, r⟩ := hr.one
    obtain ⟨a, vs, rfl, e, r⟩ := r.vLst
    exact ⟨a, vs, rfl, .inl (.inl e), fun p hp => retL hd r hp q⟩
  · cases h
    obtain ⟨v, rfl, r⟩ := hr.one
    obtain ⟨a, vs, rfl, e, r, _⟩ := r.vTup
    exact ⟨a, vs, rfl, .inr e, fun p hp => retL hd r hp q⟩
  · cases h
end

def tyName : D → Option String
  | .none => some "NoneType"
  | .bool _ => some "bool"
  | .int _ => some "int"
  | .str _ => some "str"
  | .list _ => some "list"
  | .tuple _ => some "tuple"
  | .dict _ => none
def fIsi (T : String) (d : D) : Option Rv := (tyName d).bind fun t => (kitB t T).map fun b => .fr (.bool b)
theorem KT.ty {K : PySem.W.Frag} {a : Addr} {xs : List V} {H : Hp} (h : SqT K H a xs) : TyX K H (.ref a) (.type "tuple") := by
  rcases h with (h | ⟨o, h⟩) | ⟨o, vs, n, h, h1, h2⟩
  · exact .base (.tup h)
  · exact .fTuple h
  · exact .kTuple h h1
theorem tyName_ok {K : PySem.W.Frag} {F : Fz} {H : Hp} {v : V} {d : D} {t : String} (h : Rq K F H v d) (e : tyName d = some t) : TyX K H v (.type t) := by
  cases d with
  | none => cases h.vNon; cases e; exact .base .non
  | bool b => cases h.vBl; cases e; exact .base (.bl b)
  | int i => cases h.vInt; cases e; exact .base (.int i)
  | str x => obtain ⟨rfl, _⟩ := h.vStr; cases e; exact .base (.str x)
  | list ds =>
    obtain ⟨a, xs, rfl, q, _⟩ := h.vLst
    cases e
    rcases q with q | ⟨o, q⟩
    · exact .base (.lst q)
    · exact .base (.frz q)
  | tuple ds =>
    obtain ⟨a, xs, rfl, q, _⟩ := h.vTup
    cases e
    exact KT.ty q
  | dict ds => cases e
section
variable {X : Cx} {B : Bd} {W : Wx} {e : Expr} {c : C} {p q pos : Pos} {x : Str} {T : String}
theorem d_isi (he : PE X e (tC X.K B W c)) (hg : Gl X "isinstance") (hm : X.mg "isinstance" = none) (gT : Gl X x) (mT : X.mg x = none) (vT : bootBuiltins x = some (.type T)) (hn : x ≠ "__name__" := by decide) (hd : (x == ("__debug__" : Str)) = false := by decide)
    (hs1 : starEach [e, .Name x q] X.env = (false, eval e X.env) :: starEach [.Name x q] X.env := by rfl) (hs2 : starEach [.Name x q] X.env = (false, eval (.Name x q) X.env) :: starEach [] X.env := by rfl)
    (hpl : (backTo pos (starEach [.Name x q] X.env)).any (·.1) = false := by rfl) : PE X (.Call (.Name "isinstance" p) [e, .Name x q] [] pos) (tC X.K B W (cUn (fIsi T) c)) :=
  PE_mono (pe_callB call_isi hg hm PyProof.Rows.boot_isinstance (pa_cons he (pa_cons (pe_bltn (v := .ty T) gT mT vT rfl hn hd) pa_nil hs2) hs1) (by decide) (by decide) hs1 hpl) fun s H Q ⟨F, r, es, hO⟩ => tC_bind es hO fun p v F1 H1 p1 ok1 _ hO1 => by
    obtain ⟨⟨z, r2⟩, h1, h2⟩ := hO1.ofO
    obtain ⟨d, hd, h1⟩ := Option.bind_eq_some_iff.mp h1
    obtain ⟨z', hz, e⟩ := Option.map_eq_some_iff.mp h1
    cases e
    obtain ⟨t, ht, hz⟩ := Option.bind_eq_some_iff.mp hz
    obtain ⟨b, hb, rfl⟩ := Option.map_eq_some_iff.mp hz
    have rq := rsv_ok p1.es ok1 hd
    exact ⟨v, .ty T, .type t, .type T, b, rfl, .ty T, tyName_ok rq ht, kit_ty hb, retB p1.es.dom fun v F' H' al n => al_end (p := p1) al n h2⟩
end
def shO (d : D) : Option Str := match plainD d && d.showable && decide (d.shown.length ≤ 16777216) with
  | true => some d.shown
  | false => none
def cRepEq (ca cb : C) : C := fun r => (ca r).bind fun p => (ofO ((rsv p.1 p.2).bind shO)).bind fun x => (cb p.2).bind fun q =>
  ofO ((rsv q.1 q.2).bind fun b => (shO b).map fun y => (.fr (.bool (decide (x = y))), q.2))
def rRepr (K : PySem.W.Frag) : List V → Hp → VK → Prop := fun xs H Q => ∃ v d, xs = [v] ∧ Dp K H v d ∧ d.hasDict = false ∧ d.depth ≤ 60 ∧ d.showable = true ∧ d.shown.length ≤ 16777216 ∧ Q (.str d.shown) H
theorem shO_ok {K : PySem.W.Frag} {F : Fz} {H : Hp} {v : V} {d : D} {x : Str} {Q : VK} (h : Rq K F H v d) (e : shO d = some x) (q : Q (.str x) H) : rRepr K [v] H Q := by
  unfold shO at e
  cases p : (plainD d && d.showable && decide (d.shown.length ≤ 16777216)) with
  | false => rw [p] at e; cases e
  | true =>
    rw [p] at e
    cases e
    rw [Bool.and_eq_true, Bool.and_eq_true] at p
    obtain ⟨⟨p1, p2⟩, p3⟩ := p
    have dp := (rq_dp h p1).1
    unfold plainD at p1
    rw [Bool.and_eq_true] at p1
    exact ⟨v, d, rfl, dp, by simpa using p1.1, of_decide_eq_true p1.2, p2, of_decide_eq_true p3, q⟩
section
variable {X : Cx} {B : Bd} {W : Wx} {a b : Expr} {ca cb : C} {p q p' q' pos : Pos}
theorem call_repr1 (hg : X.A.guards = some []) (hu : X.A.units + 65 < cLine) : CallR X (.builtin "repr") (rRepr X.K) := by
  intro pins s σ H xs us Q I r h
  obtain ⟨v, d, rfl, hd, hn, hdp, hs, hl, q⟩ := h
  obtain ⟨u, rfl, rx⟩ := vals1 r
  have hl : d.shown.length ≤ sizeLine := by rw [sizeLine_eq]; exact hl
  have hd' := hd
  cases hd with
  | non => cases rx; exact PySem.P.repr_of_none ⟨.str _, H, I.tok _, ⟨_, rfl⟩, q⟩
  | bl b => cases rx; exact PySem.P.repr_of_bool ⟨.str _, H, I.tok _, ⟨_, rfl⟩, q⟩
  | int i => obtain ⟨t, rfl⟩ := rx; exact PySem.P.repr_of_int (of_decide_eq_true hs) ⟨.str _, H, I.tok _, ⟨_, rfl⟩, q⟩
  | str x => obtain ⟨t, rfl⟩ := rx; exact PySem.P.repr_of_str ⟨.str _, H, I.tok _, ⟨_, rfl⟩, q⟩ hl
  | lst _ _ =>
    obtain ⟨as, rd⟩ := Dp.reads I _ _ u hd' rx
    cases rx
    exact repr_of_reads' rd hs (fun z => by rw [hn] at z; cases z) hg (by omega) (fun _ _ e => e) (fun h' u tk k => ⟨.str _, H, I.kept k, ⟨_, rfl⟩, q⟩) hl
  | tup _ _ =>
    obtain ⟨as, rd⟩ := Dp.reads I _ _ u hd' rx
    cases rx
    exact repr_of_reads' rd hs (fun z => by rw [hn] at z; cases z) hg (by omega) (fun _ _ e => e) (fun h' u tk k => ⟨.str _, H, I.kept k, ⟨_, rfl⟩, q⟩) hl
theorem d_reprEq (hgd : X.A.guards = some []) (hu : X.A.units + 65 < cLine) (hg : Gl X "repr") (hm : X.mg "repr" = none) (ha : PE X a (tC X.K B W ca)) (hb : PE X b (tC X.K B W cb))
    (hv : bootBuiltins "repr" = some (.builtin "repr") := by rfl)
    (hsa : starEach [a] X.env = (false, eval a X.env) :: starEach [] X.env := by rfl) (hsb : starEach [b] X.env = (false, eval b X.env) :: starEach [] X.env := by rfl)
    (hm2 : behindInMarks .Eq (.Call (.Name "repr" p') [b] [] q') = false := by rfl)
    (hpl : (backTo q (starEach [] X.env)).any (·.1) = false := by rfl) (hpl' : (backTo q' (starEach [] X.env)).any (·.1) = false := by rfl) :
    PE X (.Compare (.Call (.Name "repr" p) [a] [] q) [.Eq] [.Call (.Name "repr" p') [b] [] q'] pos) (tC X.K B W (cRepEq ca cb)) :=
  PE_mono (pe_cmpR op_eq (pe_callB (call_repr1 hgd hu) hg hm hv (pa_cons ha pa_nil hsa) (by decide) (by decide) hsa hpl) (pe_callB (call_repr1 hgd hu) hg hm hv (pa_cons hb pa_nil hsb) (by decide) (by decide) hsb hpl') hm2) fun s H Q ⟨F, r, es, hO⟩ =>
    tC_bind es hO fun p v F1 H1 p1 ok1 _ hO1 => by
      obtain ⟨x, h1, hO1⟩ := hO1.bind.ofO
      obtain ⟨d, hd, h1⟩ := Option.bind_eq_some_iff.mp h1
      refine (show rRepr X.K [v] H1 (fun x H1 => tC X.K B W cb s H1 fun w H2 => rRepr X.K [w] H2 fun y H2 => rEq x y H2 Q) from shO_ok (rsv_ok p1.es ok1 hd) h1 ?_)
      refine tC_bind p1.es hO1 fun q w F2 H2 p2 ok2 _ hO2 => ?_
      obtain ⟨⟨z, r2⟩, g1, g2⟩ := hO2.ofO
      obtain ⟨d2, hd2, g1⟩ := Option.bind_eq_some_iff.mp g1
      obtain ⟨y, hy, e⟩ := Option.map_eq_some_iff.mp g1
      cases e
      refine shO_ok (rsv_ok p2.es ok2 hd2) hy ⟨rfl, ?_⟩
      have e : decide (V.str x = V.str y) = decide (x = y) := by simp
      rw [e]
      exact g2 _ F2 H2 (p1.trans p2) (.bl _) trivial
end
def atD (d i : D) : Option D := match d, i with
  | .list ds, .int k => atI ds k
  | _, _ => none
def setD (d i x : D) : Option D := match d, i with
  | .list ds, .int k => (ixN ds.length k).map fun j => .list (ds.set j x)
  | _, _ => none
def rGetL : V → V → Hp → VK → Prop := fun o i H Q => ∃ p xs k v, o = .ref p ∧ i = .int k ∧ H p = some (.lst xs) ∧ atI xs k = some v ∧ Q v H
section
variable {X : Cx}
theorem get_listR : PGet X rGetL := by
  intro pins s σ H o i ov iv Q I ro ri h
  obtain ⟨p, xs, k, z, rfl, rfl, hq, he, q⟩ := h
  cases ro
  obtain ⟨t, rfl⟩ := ri
  obtain ⟨its, r, pl, hz⟩ := I.list (.inl (.of hq))
  obtain ⟨j, h1, h2, h3, h4, h5⟩ := atI_get he
  obtain ⟨w, ew, rw'⟩ := r.get h2
  have hl := r.length
  have hn := line63
  have fin : EP X pins σ Q w s := ⟨z, H, I, rw', q⟩
  by_cases h0 : 0 ≤ k
  · have hj : k.toNat = j := by
      rw [seqIndex_of h0 h5] at h1
      exact Option.some.inj h1
    exact wpAny_getItem_list pl.isList h0 (by omega) (by rw [hj]; simpa using ew) fin
  · have hj : (k + (its.toArray.size : Int)).toNat = j := by
      rw [seqIndex_neg (by omega) h4] at h1
      rw [List.size_toArray, ← hl]
      exact Option.some.inj h1
    exact wpAny_getItem_list_neg pl.isList (by omega) (by rw [List.size_toArray] <;> omega) (by omega) (by rw [hj]; simpa using ew) fin
theorem getL_ok {K : PySem.W.Frag} : GetOk K rGetL atD := fun F H a d i di z Q hr hi h q => by
  unfold atD at h
  split at h
  · cases hi.vInt
    rcases hr with ⟨xs, es, e, h1, r⟩ | ⟨_, _, e, _⟩
    · cases e
      obtain ⟨v, h2, h3⟩ := atI_rp r h
      exact ⟨a, xs, _, v, rfl, rfl, h1, h2, q v h3⟩
    · cases e
  · cases h
theorem setL_ok {K : PySem.W.Frag} : SetOk K rSetL setD := fun F H a d i v di dv d' Q nf hr hi hv h q => by
  unfold setD at h
  split at h
  · obtain ⟨j, h1, rfl⟩ := Option.map_eq_some_iff.mp h
    cases hi.vInt
    rcases hr with ⟨xs, es, e, h2, r⟩ | ⟨_, _, e, _⟩
    · cases e
      refine ⟨a, xs, _, j, rfl, rfl, h2, by rw [r.length]; exact h1, q _ ?_⟩
      have ex := ext_upd (o := .lst (xs.set j v)) (H := H) nf
      exact .inl ⟨_, _, rfl, upd_same, (r.set hv j).ext ex⟩
    · cases e
  · cases h
def fAppend : D → List D → Option (D × D)
  | .list ds, [x] => if ds.length < 16777216 then some (.list (ds ++ [x]), .none) else none
  | _, _ => none
theorem append_ok {K : PySem.W.Frag} : MuOk K rAppend fAppend := fun F H a vs d ds d' z Q nf hr hv h q => by
  unfold fAppend at h
  split at h
  · split at h
    · rename_i hl
      cases h
      rcases hr with ⟨xs, es, e, h2, r⟩ | ⟨_, _, e, _⟩
      · cases e
        cases hv with
        | @cons y _ _ _ r1 r2 =>
          cases r2
          have ex := ext_upd (o := .lst (xs ++ [y])) (H := H) nf
          exact ⟨a, xs, _, rfl, rfl, h2, by rw [r.length, sizeLine_eq]; exact hl, q _ _ (.inl ⟨_, _, rfl, upd_same, (r.app (.one r1)).ext ex⟩) .non⟩
      · cases e
    · cases h
  · cases h
def fInsert : D → List D → Option (D × D)
  | .list ds, [.int i, x] => if ds.length < 16777216 ∧ 0 ≤ i ∧ i < 2 ^ 63 then some (.list (ds.take i.toNat ++ [x] ++ ds.drop i.toNat), .none) else none
  | _, _ => none
def rInsert : V → List V → Hp → VK → Prop := fun x vs H Q => ∃ (l : Addr) (xs : List V) (i : Int) (y : V), x = .ref l ∧ vs = [.int i, y] ∧ H l = some (.lst xs) ∧ xs.length < sizeLine ∧ 0 ≤ i ∧ i < 2 ^ 63 ∧
    Q .non (upd H l (.lst (xs.take i.toNat ++ [y] ++ xs.drop i.toNat)))
theorem insert_ok {K : PySem.W.Frag} : MuOk K rInsert fInsert := fun F H a vs d ds d' z Q nf hr hv h q => by
  unfold fInsert at h
  split at h
  · rename_i ds i x
    split at h
    · rename_i hl
      cases h
      rcases hr with ⟨xs, es, e, h2, r⟩ | ⟨_, _, e, _⟩
      · cases e
        cases hv with
        | cons r1 r2 =>
          cases r2 with
          | @cons y _ _ _ r2 r3 =>
            cases r3
            cases r1
            have ex := ext_upd (o := .lst (xs.take i.toNat ++ [y] ++ xs.drop i.toNat)) (H := H) nf
            exact ⟨a, xs, _, _, rfl, rfl, h2, by rw [r.length, sizeLine_eq]; exact hl.1, hl.2.1, hl.2.2, q _ _ (.inl ⟨_, _, rfl, upd_same, (((r.take _).app (.one r2)).app (r.drop _)).ext ex⟩) .non⟩
      · cases e
    · cases h
  · cases h
/-- x[i] op= y: the values -/
theorem ipI_ok {K : PySem.W.Frag} {g : Int → Int → Int} {f : D → D → Option D} (hf : ∀ a b z, f a b = some z → ∃ i j, a = .int i ∧ b = .int j ∧ z = .int (g i j)) :
    ∀ (F : Fz) (H : Hp) (x y : V) (a b z : D) (Q : VK), Rp K F H x a → Rq K F H y b → f a b = some z → (∀ v, Rp K F H v z → Q v H) → ipI g x y H Q := fun F H x y a b z Q hx hy h q => by
  obtain ⟨i, j, rfl, rfl, rfl⟩ := hf a b z h
  cases hx
  cases hy.vInt
  exact ⟨i, j, rfl, rfl, q _ (.int _)⟩
def iAdd : D → D → Option D
  | .int i, .int j => some (.int (i + j))
  | _, _ => none
theorem iAdd_ok (a b z : D) (h : iAdd a b = some z) : ∃ i j, a = .int i ∧ b = .int j ∧ z = .int (i + j) := by
  unfold iAdd at h
  split at h
  · cases h; exact ⟨_, _, rfl, rfl, rfl⟩
  · cases h
end
def rng3 (lo c : Int) (n : Nat) : List D := (List.range n).map fun i => .int (lo + (i : Nat) * c)
def cR3 (a b c : C) : CI := fun r => (a r).bind fun p => (b p.2).bind fun q => (c q.2).bind fun u => match p.1, q.1, u.1 with
  | .fr (.int 0), .fr (.int j), .fr (.int k) => if 1 ≤ k ∧ k < 1000000 ∧ 0 ≤ j ∧ j ≤ 1000000 then .ok (rng3 0 k ((j + k - 1) / k).toNat, u.2) else .no
  | _, _, _ => .no
theorem small_pos {j k : Int} (h1 : 1 ≤ k) (h2 : k < 1000000) (h3 : 0 ≤ j) (h4 : j ≤ 1000000) : RgC 0 j k ((j + k - 1) / k).toNat := by
  refine ⟨by omega, by omega, ?_, ?_⟩
  · unfold Builtin.Range.small
    rw [PyProof.Rows.rangeSize_pos h1 h3]
    have k0 : 0 ≤ (j + k - 1) / k := Int.ediv_nonneg (by omega) (by omega)
    have k1 : (j + k - 1) / k ≤ j + k - 1 := Int.ediv_le_self _ (by omega)
    simp only [Builtin.Range.rangeFitsLong, Bool.and_eq_true, Bool.or_eq_true, decide_eq_true_eq, beq_iff_eq, show k > 0 by omega, if_true]
    omega
  · rw [PyProof.Rows.rangeSize_pos h1 h3]
    have : 0 ≤ (j + k - 1) / k := Int.ediv_nonneg (by omega) (by omega)
    omega
theorem ItOk.rng3 {K : PySem.W.Frag} {F : Fz} {H : Hp} {lo c : Int} {n : Nat} (hn : n ≤ 16777216) : ItOk K F H (Itc lo c n) (rng3 lo c n) := by
  have hl : (Ed.rng3 lo c n).length = n := by unfold Ed.rng3; rw [List.length_map, List.length_range]
  refine ⟨fun F1 H1 e i hi => by rw [hl] at hi; exact hi, fun F1 H1 e => by rw [hl]; exact Nat.le_refl _, fun F1 H1 e dm i d hd x H' hy => ?_, by rw [hl]; exact hn⟩
  obtain ⟨rfl, rfl⟩ := hy
  unfold Ed.rng3 at hd
  rw [List.getElem?_map] at hd
  obtain ⟨j, h1, rfl⟩ := Option.map_eq_some_iff.mp hd
  have hj : i = j := by
    rw [List.getElem?_range (by have := (List.getElem?_eq_some_iff.mp h1).1; rw [List.length_range] at this; exact this)] at h1
    exact Option.some.inj h1
  subst hj
  exact ⟨F1, .refl dm, .int _⟩
section
variable {X : Cx} {B : Bd} {W : Wx} {a b c tg : Expr} {ca cb cc : C} {p pos : Pos}
theorem d_R3 (hg : Gl X "range") (hm : X.mg "range" = none) (ha : PE X a (tC X.K B W ca)) (hb : PE X b (tC X.K B W cb)) (hc : PE X c (tC X.K B W cc))
    (hs : starEach [a, b, c] X.env = (false, eval a X.env) :: starEach [b, c] X.env := by rfl) (hs2 : starEach [b, c] X.env = (false, eval b X.env) :: starEach [c] X.env := by rfl) (hs3 : starEach [c] X.env = (false, eval c X.env) :: starEach [] X.env := by rfl)
    (hpl : (backTo pos (starEach [b, c] X.env)).any (·.1) = false := by rfl) : PI X tg (.Call (.Name "range" p) [a, b, c] [] pos) (tI X.K B W (cR3 ca cb cc)) :=
  PI_mono (pi_range3 hg hm (pa_cons ha (pa_cons hb (pa_cons hc pa_nil hs3) hs2) hs) hs hpl) fun s H R ⟨F, r, es, hO⟩ => tC_bind es hO fun p v F1 H1 p1 ok1 _ hO1 => tC_bind p1.es hO1 fun q w F2 H2 p2 ok2 _ hO2 => tC_bind p2.es hO2 fun u y F3 H3 p3 ok3 _ hO3 => by
    split at hO3
    · rename_i j k e1 e2 e3
      rw [e1] at ok1
      rw [e2] at ok2
      rw [e3] at ok3
      have ok : Rp X.K F1 H1 v (.int 0) := ok1
      have ok' : Rp X.K F2 H2 w (.int j) := ok2
      have ok'' : Rp X.K F3 H3 y (.int k) := ok3
      cases ok
      cases ok'
      cases ok''
      split at hO3
      · rename_i hj
        refine ⟨0, j, k, _, rfl, small_pos hj.1 hj.2.1 hj.2.2.1 hj.2.2.2, hO3 _ F3 H3 ((p1.trans p2).trans p3) (.rng3 ?_)⟩
        have : (j + k - 1) / k ≤ j + k - 1 := Int.ediv_le_self _ (by omega)
        omega
      · exact hO3.elim
    · exact hO3.elim
end
end Ed
end
section
namespace Ed
open PySem PySem.Spec L2
open PyProof.Rows (envOfC)

def cAsg (a : As) (c : CF) : SC := fun r => (c r).bind fun p => ofO ((a p.1 p.2).map .nx)
def cPar (i j : Nat) (ca : CA) : SC := fun r => (ca r).bind fun p => match p.1 with
  | [x, y] => ofO ((aNm i x p.2).bind fun r1 => (aNm j y r1).map .nx)
  | _ => .no
def cPar3 (i j l : Nat) (ca : CA) : SC := fun r => (ca r).bind fun p => match p.1 with
  | [x, y, z] => ofO ((aNm i x p.2).bind fun r1 => (aNm j y r1).bind fun r2 => (aNm l z r2).map .nx)
  | _ => .no
section
variable {X : Cx} {B : Bd} {W : Wx} {tg e a b c : Expr} {cf : CF} {ca : CA} {vs : List Nat} {as : As} {pos px py pz pt pt2 : Pos} {i j l : Nat} {x y z : Str} {kt k2 : Nat}
theorem d_asg (h : PE X e (tF X.K B W cf)) (hg : PG X tg (tG X.K B vs as)) (h1 : swapsWithSole [tg] e pos.line X.env = pure false := by rfl) (h2 : swappedStores [tg] e X.env = pure none := by rfl)
    (h3 : (assignEach [tg] X.env).map (·.2) = [assign tg X.env] := by rfl) : PS X (.Assign [tg] e pos) (tS X.K B W (cAsg as cf)) :=
  PS_mono (ps_asg h hg h1 h2 h3) fun D s H ⟨F, r, es, hO⟩ => tF_bind es hO fun p v F1 H1 p1 ok1 hO1 => by
    obtain ⟨fl, k1, k2⟩ := hO1.ofO
    obtain ⟨r2, g1, rfl⟩ := Option.map_eq_some_iff.mp k1
    exact ⟨F1, p.2, p.1, r2, p1.es, ok1, g1, fun s' es' _ => k2 s' F1 H1 es' p1.ext⟩
theorem d_par (i j : Nat) (hc : X.calm = true) (hN : X.N.Nodup) (ha : PA X [a, b] (tA' X.K B W ca)) (hi : X.N[i]? = some x := by rfl) (hj : X.N[j]? = some y := by rfl) (hij : i ≠ j := by decide)
    (hx : X.env.scope.names.lookup x = some .local := by rfl) (hy : X.env.scope.names.lookup y = some .local := by rfl)
    (hw : swappedStores [.Tuple [.Name x px, .Name y py] kt pt] (.Tuple [a, b] k2 pt2) X.env = pure (some [x, y]) := by rfl)
    (hs : swapsWithSole [.Tuple [.Name x px, .Name y py] kt pt] (.Tuple [a, b] k2 pt2) pos.line X.env = pure false := by rfl) :
    PS X (.Assign [.Tuple [.Name x px, .Name y py] kt pt] (.Tuple [a, b] k2 pt2) pos) (tS X.K B W (cPar i j ca)) :=
  PS_mono (ps_par hc hN hi hj hij hx hy ha hw hs) fun D s H ⟨F, r, es, hO⟩ => tA_bind es hO fun p vs F1 H1 p1 ok1 hO1 => by
    split at hO1
    · rename_i d1 d2 e
      rw [e] at ok1
      cases ok1 with
      | cons a1 r1 =>
        cases r1 with
        | cons a2 r2 =>
          cases r2
          obtain ⟨fl, k1, k2⟩ := hO1.ofO
          obtain ⟨r3, g1, k1⟩ := Option.bind_eq_some_iff.mp k1
          obtain ⟨r4, g2, rfl⟩ := Option.map_eq_some_iff.mp k1
          exact ⟨_, _, rfl, k2 _ F1 H1 (sto_fr_ok (sto_fr_ok p1.es a1 g1) a2 g2) p1.ext⟩
    · exact hO1.elim
theorem d_par3 (i j l : Nat) (hc : X.calm = true) (hN : X.N.Nodup) (ha : PA X [a, b, c] (tA' X.K B W ca)) (hi : X.N[i]? = some x := by rfl) (hj : X.N[j]? = some y := by rfl) (hl : X.N[l]? = some z := by rfl) (hij : i ≠ j := by decide) (hil : i ≠ l := by decide) (hjl : j ≠ l := by decide)
    (hx : X.env.scope.names.lookup x = some .local := by rfl) (hy : X.env.scope.names.lookup y = some .local := by rfl) (hz : X.env.scope.names.lookup z = some .local := by rfl)
    (hw : swappedStores [.Tuple [.Name x px, .Name y py, .Name z pz] kt pt] (.Tuple [a, b, c] k2 pt2) X.env = pure (some [x, y, z]) := by rfl)
    (hs : swapsWithSole [.Tuple [.Name x px, .Name y py, .Name z pz] kt pt] (.Tuple [a, b, c] k2 pt2) pos.line X.env = pure false := by rfl) :
    PS X (.Assign [.Tuple [.Name x px, .Name y py, .Name z pz] kt pt] (.Tuple [a, b, c] k2 pt2) pos) (tS X.K B W (cPar3 i j l ca)) :=
  PS_mono (ps_par3 hc hN hi hj hl hij hil hjl hx hy hz ha hw hs) fun D s H ⟨F, r, es, hO⟩ => tA_bind es hO fun p vs F1 H1 p1 ok1 hO1 => by
    split at hO1
    · rename_i d1 d2 d3 e
      rw [e] at ok1
      cases ok1 with
      | cons a1 r1 =>
        cases r1 with
        | cons a2 r2 =>
          cases r2 with
          | cons a3 r3 =>
            cases r3
            obtain ⟨fl, k1, k2⟩ := hO1.ofO
            obtain ⟨r3, g1, k1⟩ := Option.bind_eq_some_iff.mp k1
            obtain ⟨r4, g2, k1⟩ := Option.bind_eq_some_iff.mp k1
            obtain ⟨r5, g3, rfl⟩ := Option.map_eq_some_iff.mp k1
            exact ⟨_, _, _, rfl, k2 _ F1 H1 (sto_fr_ok (sto_fr_ok (sto_fr_ok p1.es a1 g1) a2 g2) a3 g3) p1.ext⟩
    · exact hO1.elim
end

def fgt1 (i : Nat) (r : DE) : DE := match r.getD i .no with
  | .io _ => r
  | _ => r.set i .no
def fgt : List Nat → DE → DE
  | [], r => r
  | i :: is, r => fgt is (fgt1 i r)
def cFgt (is : List Nat) (c : SC) : SC := fun r => c (fgt is r)
section
variable {K : PySem.W.Frag} {B : Bd} {W : Wx} {F : Fz} {H : Hp} {s : St} {r : DE}
theorem fgt1_ok (i : Nat) (e : ES K B F H s r) : ES K B F H s (fgt1 i r) := by
  have key : ∀ (w : ∀ d, r[i]? ≠ some (.io d)), ES K B F H s (r.set i .no) := fun w => by
    have back : ∀ (j : Nat) (q : Sl), q ≠ .no → (r.set i .no)[j]? = some q → r[j]? = some q := fun j q hq h => by
      rcases set_cases h with ⟨_, z⟩ | ⟨_, z⟩
      · exact absurd z hq
      · exact z
    refine ⟨by rw [List.length_set]; exact e.len, e.dom, e.sub, e.new, e.kpF, e.kp, fun j d q => e.fr j d (back j _ (by simp) q), fun j d q => e.ow j d (back j _ (by simp) q), fun j d q => e.io j d (back j _ (by simp) q),
      fun j k a d d' q1 q2 => e.sep j k a d d' (back j _ (by simp) q1) (back k _ (by simp) q2), fun a ha => ?_⟩
    obtain ⟨⟨d, hd⟩, h2⟩ := e.ioK a ha
    refine ⟨⟨d, ?_⟩, h2⟩
    by_cases z : i = 0
    · subst z
      exact absurd hd (w d)
    · rw [List.getElem?_set_ne z]
      exact hd
  unfold fgt1
  cases q : r.getD i .no with
  | io d => exact e
  | no => exact key fun d z => by rw [List.getD_eq_getElem?_getD, z] at q; cases q
  | fr d' => exact key fun d z => by rw [List.getD_eq_getElem?_getD, z] at q; cases q
  | ow d' => exact key fun d z => by rw [List.getD_eq_getElem?_getD, z] at q; cases q
theorem fgt_ok : ∀ (is : List Nat) {r : DE}, ES K B F H s r → ES K B F H s (fgt is r)
  | [], _, e => e
  | i :: is, _, e => fgt_ok is (fgt1_ok i e)
theorem d_fgt {X : Cx} {st : Stmt} {c : SC} (is : List Nat) (h : PS X st (tS X.K B W c)) : PS X st (tS X.K B W (cFgt is c)) :=
  PS_mono h fun D s H ⟨F, r, es, hO⟩ => ⟨F, fgt is r, fgt_ok is es, hO⟩
end

def FnAt (K : PySem.W.Frag) (mg : Str → Option Value) (x : Str) (st : Stmt) (ps : List Str) : Prop := ∃ (fa : Addr) (fd : FuncData), mg x = some (.ref fa) ∧ Fun K x x st fa fd ∧ Binds K fd ps []
def OkF (P : Program) (w : World) (K : PySem.W.Frag) (mg : Str → Option Value) (base : Heap) (k : Nat) (x : Str) (ps : List Str) (sp : Sp) : Prop :=
  ∃ (fa : Addr) (fd : FuncData), mg x = some (.ref fa) ∧ PySem.W.keepIn K (.ref fa) = true ∧ Binds K fd ps [] ∧ FnG P w K mg base CX0 k fa fd ps sp
section
variable {P : Program} {w : World} {K : PySem.W.Frag} {mg : Str → Option Value} {base : Heap} {k : Nat} {x : Str} {st : Stmt} {N ps : List Str} {io : Bool} {c : SC}
theorem okF_of (a : FnAt K mg x st ps) (S : FnScope N ps (defScope st))
    (hb : ∀ (f : Addr) (cdv : Value) (A : Around) (o : List Env) (s : Shared) (H : Hp) (E : XK) (B : Bd), Room k (A.deeper (envOfC x (defScope st) s.heap.objs.size f cdv)) → A.guards = some [] →
      PSs (cxOf CX0 P w K mg base N x (defScope st) f cdv A o s H E).nox (defBody st) (tS K B Wno c)) : OkF P w K mg base (k + 1) x ps (spF K io ps.length (runF io N.length c)) := by
  obtain ⟨fa, fd, h1, h2, h3⟩ := a
  exact ⟨fa, fd, h1, h2.kp, h3, fn_body h2 S fun cdv A o s H E B hr hgd => hb fa cdv A o s H E B hr hgd⟩
theorem OkF.up {j : Nat} {sp : Sp} (h : OkF P w K mg base j x ps sp) (hj : j ≤ k) : OkF P w K mg base k x ps sp := by
  obtain ⟨fa, fd, h1, h2, h3, h4⟩ := h
  exact ⟨fa, fd, h1, h2, h3, h4.up hj⟩
theorem hu4 {A : Around} (hr : Room k A) : A.units + 64 < cLine := by have := hr.un; omega
theorem hu5 {A : Around} (hr : Room k A) : A.units + 65 < cLine := by have := hr.un; omega
end
end Ed
end
section
namespace Ed
open PySem PySem.Spec L2 TL

theorem law_sp {K : PySem.W.Frag} {H : Hp} {G : Fz} {a : Addr} {ns : List Int} {r : List D → FOut} (hG : ∀ b, G b → H b ≠ none) (rp : Rp K G H (.ref a) (scrD ns)) (h : r [scrD ns] = .ok (.fr (.bool true)) none) :
    spF K false 1 r [.ref a] H (fun v _ => v = .bl true) L2.E0 := by
  refine ⟨rfl, G, [scrD ns], none, rfl, hG, .cons rp .nil, ?_⟩
  rw [h]
  intro v F' H' _ nv
  have nv : Rp K F' H' v (.bool true) := nv
  cases nv
  rfl

theorem atI0 {α : Type} {x : α} {l : List α} : atI (x :: l) 0 = some x := by
  unfold atI ixN
  rw [if_pos (by decide), if_pos (by rw [List.length_cons]; omega)]
  rfl
theorem atI1 {α : Type} {x y : α} {l : List α} : atI (x :: y :: l) 1 = some y := by
  unfold atI ixN
  rw [if_pos (by decide), if_pos (by rw [List.length_cons, List.length_cons]; omega)]
  rfl
theorem atI2 {α : Type} {x y z : α} {l : List α} : atI (x :: y :: z :: l) 2 = some z := by
  unfold atI ixN
  rw [if_pos (by decide), if_pos (by rw [List.length_cons, List.length_cons, List.length_cons]; omega)]
  rfl
theorem atI3 {α : Type} {x y z u : α} {l : List α} : atI (x :: y :: z :: u :: l) 3 = some u := by
  unfold atI ixN
  rw [if_pos (by decide), if_pos (by rw [List.length_cons, List.length_cons, List.length_cons, List.length_cons]; omega)]
  rfl
/-- the bag -/
def bagD (z s i : Int) (cs : List Int) : D := .list [.int z, .int s, .int i, .list (cs.map .int)]
def isBag (d : D) : Prop := ∃ z s i cs, d = bagD z s i cs ∧ cs.length ≤ 63
end Ed
end
section
namespace Ed
open PySem PySem.Spec L2 TL
section
variable {α β : Type}
theorem b_ok (a : α) (f : α → Out β) : (Out.ok a).bind f = f a := rfl
theorem b_no (f : α → Out β) : (Out.no : Out α).bind f = .no := rfl
theorem oo_some (a : α) : ofO (some a) = .ok a := rfl
theorem oo_none : ofO (none : Option α) = .no := rfl
end
section
variable (r : DE) (i j l np : Nat) (d d' : D) (ds : List D) (x y z : Rv) (xs : List Rv) (k : Bool) (c ca cb cc : C) (cf : CF) (cs : CA) (bs : CB) (t t2 : CT) (a b : SC) (f g : D → D → Option Rv) (h : List D → Option Rv) (u : D → Option Rv) (m : Str → List D → Option Rv) (sem : List D → FOut) (s : Str) (lo hi : CO) (p : DE → Out (List D × DE)) (vs : List Nat) (as : As)
  (ass : Ass) (w : Sl) (n n1 n2 : Int)
/- slots -/
theorem g_fr : (Sl.fr d :: r).getD 0 .no = .fr d := rfl
theorem g_z : (w :: r).getD 0 .no = w := rfl
theorem g_s : (w :: r).getD (i + 1) .no = r.getD i .no := rfl
theorem sl_s : slD (w :: r) (i + 1) = slD r i := rfl
theorem sl_fr : slD (.fr d :: r) 0 = some d := rfl
theorem sl_ow : slD (.ow d :: r) 0 = some d := rfl
theorem sl_io : slD (.io d :: r) 0 = some d := rfl
theorem rv_fr : rsv (.fr d) r = some d := rfl
theorem rv_ow : rsv (.ow d) r = some d := rfl
theorem rv_sl : rsv (.sl i) r = slD r i := rfl
theorem fz_fr : frz (.fr d) r = some (d, r) := rfl
theorem fz_ow : frz (.ow d) r = some (d, r) := rfl
def kCo (w : Sl) (p : D × DE) : D × DE := (p.1, w :: p.2)
theorem kCo_ : kCo w (d, r) = (d, w :: r) := rfl
theorem fz_s : frz (.sl (i + 1)) (w :: r) = (frz (.sl i) r).map (kCo w) := by
  show (match r.getD i .no with | .fr d => some (d, w :: r) | .ow d => some (d, w :: r.set i (.fr d)) | _ => none) = ((match r.getD i .no with | .fr d => some (d, r) | .ow d => some (d, r.set i (.fr d)) | _ => none) : Option (D × DE)).map (kCo w)
  cases r.getD i .no <;> rfl
theorem fz_zf : frz (.sl 0) (.fr d :: r) = some (d, .fr d :: r) := rfl
theorem fz_zo : frz (.sl 0) (.ow d :: r) = some (d, .fr d :: r) := rfl
theorem om_some {α β : Type} (f : α → β) (a : α) : (some a).map f = some (f a) := rfl
theorem ob_some {α β : Type} (f : α → Option β) (a : α) : (some a).bind f = f a := rfl
theorem om_none {α β : Type} (f : α → β) : (none : Option α).map f = none := rfl
/- own -/
theorem ow_s : ownD (w :: r) (i + 1) = ownD r i := rfl
theorem ow_ow : ownD (.ow d :: r) 0 = some d := rfl
theorem ow_io : ownD (.io d :: r) 0 = some d := rfl
theorem mu_s : mutS (i + 1) d (w :: r) = w :: mutS i d r := by
  show (match r.getD i .no with | .io _ => w :: r.set i (.io d) | _ => w :: r.set i (.ow d)) = w :: (match r.getD i .no with | .io _ => r.set i (.io d) | _ => r.set i (.ow d))
  cases r.getD i .no <;> rfl
theorem mu_ow : mutS 0 d (.ow d' :: r) = .ow d :: r := rfl
theorem mu_io : mutS 0 d (.io d' :: r) = .io d :: r := rfl
/- sto -/
theorem st_s : sto (i + 1) (.fr d) (w :: r) = (sto i (.fr d) r).map (List.cons w) := by
  show (match r[i]? with | none => none | some q => match isIo q with | true => none | false => some (w :: r.set i (.fr d))) = ((match r[i]? with | none => none | some q => match isIo q with | true => none | false => some (r.set i (.fr d))) : Option DE).map (List.cons w)
  cases r[i]? with
  | none => rfl
  | some q => dsimp only; cases isIo q <;> rfl
theorem st_so : sto (i + 1) (.ow d) (w :: r) = (sto i (.ow d) r).map (List.cons w) := by
  show (match r[i]? with | none => none | some q => match isIo q with | true => none | false => some (w :: r.set i (.ow d))) = ((match r[i]? with | none => none | some q => match isIo q with | true => none | false => some (r.set i (.ow d))) : Option DE).map (List.cons w)
  cases r[i]? with
  | none => rfl
  | some q => dsimp only; cases isIo q <;> rfl
theorem st_zn : sto 0 (.fr d) (.no :: r) = some (.fr d :: r) := rfl
theorem st_zf : sto 0 (.fr d) (.fr d' :: r) = some (.fr d :: r) := rfl
theorem st_zo : sto 0 (.fr d) (.ow d' :: r) = some (.fr d :: r) := rfl
theorem so_zn : sto 0 (.ow d) (.no :: r) = some (.ow d :: r) := rfl
theorem so_zf : sto 0 (.ow d) (.fr d' :: r) = some (.ow d :: r) := rfl
theorem so_zo : sto 0 (.ow d) (.ow d' :: r) = some (.ow d :: r) := rfl
/- names, constants -/
def vNm (i : Nat) (r : DE) : Sl → Out (Rv × DE)
  | .no => .no
  | .fr d => .ok (.fr d, r)
  | .ow _ => .ok (.sl i, r)
  | .io _ => .ok (.sl i, r)
theorem v_nm : cNm i r = vNm i r (r.getD i .no) := by unfold cNm vNm; cases r.getD i .no <;> rfl
theorem v_nmf : vNm i r (.fr d) = .ok (.fr d, r) := rfl
theorem v_nmo : vNm i r (.ow d) = .ok (.sl i, r) := rfl
theorem v_nmi : vNm i r (.io d) = .ok (.sl i, r) := rfl
theorem v_k : cK d r = .ok (.fr d, r) := rfl
/- parts -/
def kFz (p : Rv × DE) : Out (D × DE) := ofO (frz p.1 p.2)
theorem v_fz : cFz c r = (c r).bind kFz := rfl
theorem k_fz : kFz (x, r) = ofO (frz x r) := rfl
def kA2 (d : D) (q : List D × DE) : Out (List D × DE) := .ok (d :: q.1, q.2)
def kA1 (cs : CA) (p : D × DE) : Out (List D × DE) := (cs p.2).bind (kA2 p.1)
theorem v_anil : cANil r = .ok ([], r) := rfl
theorem v_acons : cACons cf cs r = (cf r).bind (kA1 cs) := rfl
theorem k_a1 : kA1 cs (d, r) = (cs r).bind (kA2 d) := rfl
theorem k_a2 : kA2 d (ds, r) = .ok (d :: ds, r) := rfl
def kB2' (x : Rv) (q : List Rv × DE) : Out (List Rv × DE) := .ok (x :: q.1, q.2)
def kB1' (cs : CB) (p : Rv × DE) : Out (List Rv × DE) := (cs p.2).bind (kB2' p.1)
theorem v_bnil : cBNil r = .ok ([], r) := rfl
theorem v_bcons : cBCons c bs r = (c r).bind (kB1' bs) := rfl
theorem k_b1 : kB1' bs (x, r) = (bs r).bind (kB2' x) := rfl
theorem k_b2 : kB2' x (xs, r) = .ok (x :: xs, r) := rfl
/- displays -/
def kTup (p : List D × DE) : Out (Rv × DE) := if p.1.length ≤ 16777216 then .ok (.fr (.tuple p.1), p.2) else .no
def kLst (p : List D × DE) : Out (Rv × DE) := if p.1.length ≤ 16777216 then .ok (.ow (.list p.1), p.2) else .no
theorem v_tup : cTup cs r = (cs r).bind kTup := rfl
theorem v_lst : cLst cs r = (cs r).bind kLst := rfl
theorem k_tup (hl : ds.length ≤ 16777216) : kTup (ds, r) = .ok (.fr (.tuple ds), r) := if_pos hl
theorem k_lst (hl : ds.length ≤ 16777216) : kLst (ds, r) = .ok (.ow (.list ds), r) := if_pos hl
/- operators -/
def vR (r : DE) : Option Rv → Out (Rv × DE)
  | some z => .ok (z, r)
  | none => .no
def vB (f : D → D → Option Rv) (r : DE) : Option D → Option D → Out (Rv × DE)
  | some a, some b => vR r (f a b)
  | _, _ => .no
def kO2 (f : D → D → Option Rv) (x : Rv) (q : Rv × DE) : Out (Rv × DE) := ofO ((rsv x q.2).bind fun a => (rsv q.1 q.2).bind fun b => (f a b).map fun z => (z, q.2))
def kO1 (f : D → D → Option Rv) (cb : C) (p : Rv × DE) : Out (Rv × DE) := (cb p.2).bind (kO2 f p.1)
theorem v_bin : cBin f ca cb r = (ca r).bind (kO1 f cb) := rfl
theorem k_o1 : kO1 f cb (x, r) = (cb r).bind (kO2 f x) := rfl
theorem k_o2 : kO2 f x (y, r) = vB f r (rsv x r) (rsv y r) := by
  unfold kO2
  show ofO ((rsv x r).bind fun a => (rsv y r).bind fun b => (f a b).map fun z => (z, r)) = _
  cases rsv x r with
  | none => rfl
  | some a =>
    cases rsv y r with
    | none => rfl
    | some b =>
      show ofO ((f a b).map fun z => (z, r)) = vR r (f a b)
      cases f a b <;> rfl
theorem v_b : vB f r (some d) (some d') = vR r (f d d') := rfl
theorem v_r : vR r (some z) = .ok (z, r) := rfl
def vU (u : D → Option Rv) (r : DE) : Option D → Out (Rv × DE)
  | some a => vR r (u a)
  | none => .no
def kU (u : D → Option Rv) (p : Rv × DE) : Out (Rv × DE) := ofO ((rsv p.1 p.2).bind fun d => (u d).map fun z => (z, p.2))
theorem v_un : cUn u c r = (c r).bind (kU u) := rfl
theorem k_un : kU u (x, r) = vU u r (rsv x r) := by
  unfold kU
  show ofO ((rsv x r).bind fun a => (u a).map fun z => (z, r)) = _
  cases rsv x r with
  | none => rfl
  | some a =>
    show ofO ((u a).map fun z => (z, r)) = vR r (u a)
    cases u a <;> rfl
theorem v_u : vU u r (some d) = vR r (u d) := rfl
/- calls of built-ins -/
theorem rvs_nil : rsvs [] r = some [] := rfl
def vCons : Option D → Option (List D) → Option (List D)
  | some d, some ds => some (d :: ds)
  | _, _ => none
theorem rvs_cons : rsvs (x :: xs) r = vCons (rsv x r) (rsvs xs r) := by
  show ((rsv x r).bind fun d => (rsvs xs r).map fun ds => d :: ds) = vCons (rsv x r) (rsvs xs r)
  cases rsv x r with
  | none => rfl
  | some d => cases rsvs xs r <;> rfl
theorem v_cons : vCons (some d) (some ds) = some (d :: ds) := rfl
def vL (h : List D → Option Rv) (r : DE) : Option (List D) → Out (Rv × DE)
  | some a => vR r (h a)
  | none => .no
def kC (h : List D → Option Rv) (q : List Rv × DE) : Out (Rv × DE) := ofO ((rsvs q.1 q.2).bind fun ds => (h ds).map fun z => (z, q.2))
theorem v_call : cCall h bs r = (bs r).bind (kC h) := rfl
theorem k_call : kC h (xs, r) = vL h r (rsvs xs r) := by
  unfold kC
  show ofO ((rsvs xs r).bind fun a => (h a).map fun z => (z, r)) = _
  cases rsvs xs r with
  | none => rfl
  | some a =>
    show ofO ((h a).map fun z => (z, r)) = vR r (h a)
    cases h a <;> rfl
theorem v_l : vL h r (some ds) = vR r (h ds) := rfl
/- methods of texts -/
def kM (m : Str → List D → Option Rv) (bs : CB) (p : Rv × DE) : Out (Rv × DE) := match p.1 with
  | .fr (.str x) => (bs p.2).bind (kC (m x))
  | _ => .no
theorem v_mt : cMt m c bs r = (c r).bind (kM m bs) := rfl
theorem k_mt : kM m bs (.fr (.str s), r) = (bs r).bind (kC (m s)) := rfl
/- tests -/
def kT (p : Rv × DE) : Out (Bool × DE) := match p.1 with
  | .fr (.bool k) => .ok (k, p.2)
  | _ => .no
theorem v_testOf : cTestOf c r = (c r).bind kT := rfl
theorem k_t : kT (.fr (.bool k), r) = .ok (k, r) := rfl
def vK (r : DE) : Option Bool → Out (Bool × DE)
  | some k => .ok (k, r)
  | none => .no
def vTr (r : DE) : Option D → Out (Bool × DE)
  | some d => vK r (tru d)
  | none => .no
def kTr (p : Rv × DE) : Out (Bool × DE) := ofO ((rsv p.1 p.2).bind fun d => (tru d).map fun k => (k, p.2))
theorem v_truth : cTruth c r = (c r).bind kTr := rfl
theorem k_tr : kTr (x, r) = vTr r (rsv x r) := by
  unfold kTr
  show ofO ((rsv x r).bind fun d => (tru d).map fun k => (k, r)) = _
  cases rsv x r with
  | none => rfl
  | some d =>
    show ofO ((tru d).map fun k => (k, r)) = vK r (tru d)
    cases tru d <;> rfl
theorem v_tr : vTr r (some d) = vK r (tru d) := rfl
theorem v_kk : vK r (some k) = .ok (k, r) := rfl
theorem tru_b : tru (.bool k) = some k := rfl
def kNT (p : Bool × DE) : Out (Bool × DE) := .ok (!p.1, p.2)
theorem v_notT : cNotT t r = (t r).bind kNT := rfl
theorem k_nt : kNT (k, r) = .ok (!k, r) := rfl
def kAT (t : CT) (p : Bool × DE) : Out (Bool × DE) := match p.1 with
  | true => t p.2
  | false => .ok (false, p.2)
def kOT (t : CT) (p : Bool × DE) : Out (Bool × DE) := match p.1 with
  | true => .ok (true, p.2)
  | false => t p.2
theorem v_andT : cAndT t t2 r = (t r).bind (kAT t2) := rfl
theorem v_orT : cOrT t t2 r = (t r).bind (kOT t2) := rfl
theorem k_at1 : kAT t (true, r) = t r := rfl
theorem k_at0 : kAT t (false, r) = .ok (false, r) := rfl
theorem k_ot1 : kOT t (true, r) = .ok (true, r) := rfl
theorem k_ot0 : kOT t (false, r) = t r := rfl
def kIfE (a b : C) (p : Bool × DE) : Out (Rv × DE) := match p.1 with
  | true => a p.2
  | false => b p.2
theorem v_if : cIf t ca cb r = (t r).bind (kIfE ca cb) := rfl
theorem k_if1 : kIfE ca cb (true, r) = ca r := rfl
theorem k_if0 : kIfE ca cb (false, r) = cb r := rfl
def kAnd (b : C) (p : Rv × DE) : Out (Rv × DE) := match p.1 with
  | .fr (.bool true) => b p.2
  | .fr (.bool false) => .ok (.fr (.bool false), p.2)
  | _ => .no
def kOr (b : C) (p : Rv × DE) : Out (Rv × DE) := match p.1 with
  | .fr (.bool false) => b p.2
  | .fr (.bool true) => .ok (.fr (.bool true), p.2)
  | _ => .no
def kNot (p : Rv × DE) : Out (Rv × DE) := match p.1 with
  | .fr (.bool k) => .ok (.fr (.bool (!k)), p.2)
  | _ => .no
theorem v_and : cAnd ca cb r = (ca r).bind (kAnd cb) := rfl
theorem v_or : cOr ca cb r = (ca r).bind (kOr cb) := rfl
theorem v_not : cNot c r = (c r).bind kNot := rfl
theorem k_and1 : kAnd cb (.fr (.bool true), r) = cb r := rfl
theorem k_and0 : kAnd cb (.fr (.bool false), r) = .ok (.fr (.bool false), r) := rfl
theorem k_or1 : kOr cb (.fr (.bool true), r) = .ok (.fr (.bool true), r) := rfl
theorem k_or0 : kOr cb (.fr (.bool false), r) = cb r := rfl
theorem k_not : kNot (.fr (.bool k), r) = .ok (.fr (.bool (!k)), r) := rfl
/- chains -/
def kCh4 (r : DE) (f : D → D → Option Rv) (x : Rv) (u : Rv × DE) : Out (Rv × DE) := ofO ((rsv x u.2).bind fun b => (rsv u.1 u.2).bind fun c => (f b c).map fun z => (z, u.2))
def kCh3 (g : D → D → Option Rv) (cc : C) (x : Rv) (r : DE) (z : Rv) : Out (Rv × DE) := match z with
  | .fr (.bool true) => (cc r).bind fun u => ofO ((rsv x u.2).bind fun b => (rsv u.1 u.2).bind fun c => (g b c).map fun z => (z, u.2))
  | .fr (.bool false) => .ok (.fr (.bool false), r)
  | _ => .no
def vB' (f : D → D → Option Rv) : Option D → Option D → Out Rv
  | some a, some b => ofO (f a b)
  | _, _ => .no
def kCh2 (f g : D → D → Option Rv) (cc : C) (x : Rv) (q : Rv × DE) : Out (Rv × DE) := (ofO ((rsv x q.2).bind fun a => (rsv q.1 q.2).bind fun b => f a b)).bind (kCh3 g cc q.1 q.2)
def kCh1 (f g : D → D → Option Rv) (cb cc : C) (p : Rv × DE) : Out (Rv × DE) := (cb p.2).bind (kCh2 f g cc p.1)
theorem v_chain : cChain f g ca cb cc r = (ca r).bind (kCh1 f g cb cc) := rfl
theorem k_ch1 : kCh1 f g cb cc (x, r) = (cb r).bind (kCh2 f g cc x) := rfl
theorem k_ch2 : kCh2 f g cc x (y, r) = (vB' f (rsv x r) (rsv y r)).bind (kCh3 g cc y r) := by
  unfold kCh2
  show (ofO ((rsv x r).bind fun a => (rsv y r).bind fun b => f a b)).bind (kCh3 g cc y r) = _
  cases rsv x r with
  | none => rfl
  | some a => cases rsv y r <;> rfl
theorem v_b' : vB' f (some d) (some d') = ofO (f d d') := rfl
theorem k_ch3t : kCh3 g cc x r (.fr (.bool true)) = (cc r).bind (kO2 g x) := rfl
theorem k_ch3f : kCh3 g cc x r (.fr (.bool false)) = .ok (.fr (.bool false), r) := rfl
/- slices -/
theorem v_pn : cPNone r = .ok (none, r) := rfl
def kP (p : Rv × DE) : Out (Option Int × DE) := match p.1 with
  | .fr (.int i) => .ok (some i, p.2)
  | _ => .no
theorem v_ps : cPSome c r = (c r).bind kP := rfl
theorem k_p : kP (.fr (.int n), r) = .ok (some n, r) := rfl
def kS3 (f : D → Option Int → Option Int → Option Rv) (x : Rv) (q : Option Int) (u : Option Int × DE) : Out (Rv × DE) := ofO ((rsv x u.2).bind fun a => (f a q u.1).map fun z => (z, u.2))
def kS2 (f : D → Option Int → Option Int → Option Rv) (x : Rv) (hi : CO) (q : Option Int × DE) : Out (Rv × DE) := (hi q.2).bind (kS3 f x q.1)
def kS1 (f : D → Option Int → Option Int → Option Rv) (lo hi : CO) (p : Rv × DE) : Out (Rv × DE) := (lo p.2).bind (kS2 f p.1 hi)
def vS (f : D → Option Int → Option Int → Option Rv) (r : DE) (q u : Option Int) : Option D → Out (Rv × DE)
  | some a => vR r (f a q u)
  | none => .no
variable (e : D → Option Int → Option Int → Option Rv) (q1 q2 : Option Int)
theorem v_sl : cSl e c lo hi r = (c r).bind (kS1 e lo hi) := rfl
theorem k_s1 : kS1 e lo hi (x, r) = (lo r).bind (kS2 e x hi) := rfl
theorem k_s2 : kS2 e x hi (q1, r) = (hi r).bind (kS3 e x q1) := rfl
theorem k_s3 : kS3 e x q1 (q2, r) = vS e r q1 q2 (rsv x r) := by
  unfold kS3
  show ofO ((rsv x r).bind fun a => (e a q1 q2).map fun z => (z, r)) = _
  cases rsv x r with
  | none => rfl
  | some a =>
    show ofO ((e a q1 q2).map fun z => (z, r)) = vR r (e a q1 q2)
    cases e a q1 q2 <;> rfl
theorem v_s : vS e r q1 q2 (some d) = vR r (e d q1 q2) := rfl
/- statements -/
def kSeq (b : SC) : Fl → Out Fl
  | .nx r => b r
  | .rt x r => .ok (.rt x r)
  | .bk r => .ok (.bk r)
  | .ct r => .ok (.ct r)
theorem v_seq : cSeq a b r = (a r).bind (kSeq b) := by unfold cSeq; cases a r with | ok fl => cases fl <;> rfl | no => rfl | ex _ _ => rfl
theorem k_snx : kSeq b (.nx r) = b r := rfl
theorem k_srt : kSeq b (.rt x r) = .ok (.rt x r) := rfl
theorem k_sbk : kSeq b (.bk r) = .ok (.bk r) := rfl
theorem k_sct : kSeq b (.ct r) = .ok (.ct r) := rfl
def kIfS (a b : SC) (p : Bool × DE) : Out Fl := match p.1 with
  | true => a p.2
  | false => b p.2
theorem v_ifS : cIfS t a b r = (t r).bind (kIfS a b) := rfl
theorem k_ifS1 : kIfS a b (true, r) = a r := rfl
theorem k_ifS0 : kIfS a b (false, r) = b r := rfl
theorem v_skip : cSkip r = .ok (.nx r) := rfl
theorem v_brk : cBrk r = .ok (.bk r) := rfl
theorem v_cnt : cCnt r = .ok (.ct r) := rfl
def kExp (p : Rv × DE) : Out Fl := .ok (.nx p.2)
def kRet (p : Rv × DE) : Out Fl := .ok (.rt p.1 p.2)
theorem v_exp : cExp c r = (c r).bind kExp := rfl
theorem v_ret : cRet c r = (c r).bind kRet := rfl
theorem k_exp : kExp (x, r) = .ok (.nx r) := rfl
theorem k_ret : kRet (x, r) = .ok (.rt x r) := rfl
def vN : Option DE → Out Fl
  | some r => .ok (.nx r)
  | none => .no
theorem vN_of (o : Option DE) : ofO (o.map Fl.nx) = vN o := by cases o <;> rfl
def kSet (i : Nat) (p : Rv × DE) : Out Fl := ofO ((sto i p.1 p.2).map .nx)
theorem v_set : cSet i c r = (c r).bind (kSet i) := rfl
theorem k_set : kSet i (x, r) = vN (sto i x r) := vN_of _
theorem v_n : vN (some r) = .ok (.nx r) := rfl
def kAsg (as : As) (p : D × DE) : Out Fl := ofO ((as p.1 p.2).map .nx)
theorem v_asg : cAsg as cf r = (cf r).bind (kAsg as) := rfl
theorem k_asg : kAsg as (d, r) = vN (as d r) := vN_of _
theorem a_nm : aNm i d r = sto i (.fr d) r := rfl
theorem a_nil : aNil [] r = some r := rfl
def kAs (b : Ass) (ds : List D) (r : DE) : Option DE := b ds r
theorem a_cons : aCons as ass (d :: ds) r = (as d r).bind (kAs ass ds) := rfl
theorem k_as : kAs ass ds r = ass ds r := rfl
theorem a_tup (hl : ds.length = i) : aTup i ass (.tuple ds) r = ass ds r := if_pos hl
def kPar (i j : Nat) (p : List D × DE) : Out Fl := match p.1 with
  | [x, y] => ofO ((aNm i x p.2).bind fun r1 => (aNm j y r1).map .nx)
  | _ => .no
def kPar3 (i j l : Nat) (p : List D × DE) : Out Fl := match p.1 with
  | [x, y, z] => ofO ((aNm i x p.2).bind fun r1 => (aNm j y r1).bind fun r2 => (aNm l z r2).map .nx)
  | _ => .no
theorem v_par : cPar i j cs r = (cs r).bind (kPar i j) := by unfold cPar; cases cs r with | ok p => rfl | no => rfl | ex _ _ => rfl
theorem v_par3 : cPar3 i j l cs r = (cs r).bind (kPar3 i j l) := by unfold cPar3; cases cs r with | ok p => rfl | no => rfl | ex _ _ => rfl
theorem k_par : kPar i j ([d, d'], r) = vN ((sto i (.fr d) r).bind (aNm j d')) := by
  show ofO ((aNm i d r).bind fun r1 => (aNm j d' r1).map Fl.nx) = _
  show ofO ((sto i (.fr d) r).bind fun r1 => (aNm j d' r1).map Fl.nx) = _
  cases sto i (.fr d) r with
  | none => rfl
  | some r1 => exact vN_of _
variable (d2 : D)
def kAN (j : Nat) (d : D) (r : DE) : Option DE := aNm j d r
theorem k_par3 : kPar3 i j l ([d, d', d2], r) = vN (((sto i (.fr d) r).bind (aNm j d')).bind (aNm l d2)) := by
  show ofO ((sto i (.fr d) r).bind fun r1 => (aNm j d' r1).bind fun r2 => (aNm l d2 r2).map Fl.nx) = _
  cases sto i (.fr d) r with
  | none => rfl
  | some r1 =>
    show ofO ((aNm j d' r1).bind fun r2 => (aNm l d2 r2).map Fl.nx) = vN ((aNm j d' r1).bind (aNm l d2))
    cases aNm j d' r1 with
    | none => rfl
    | some r2 => exact vN_of _
/- stores -/
def vX (f : D → D → D → Option D) (j : Nat) (r : DE) (v : D) : Option D → Option D → Out Fl
  | some d, some i => vN ((f d i v).map fun d' => mutS j d' r)
  | _, _ => .no
variable (e3 : D → D → D → Option D) (e2 e2' : D → D → Option D)
def kX2 (f : D → D → D → Option D) (j : Nat) (v : D) (q : Rv × DE) : Out Fl := ofO ((ownD q.2 j).bind fun d => (rsv q.1 q.2).bind fun i => (f d i v).map fun d' => .nx (mutS j d' q.2))
def vX1 (f : D → D → D → Option D) (j : Nat) (ci : C) (v : D) (r : DE) : Option D → Out Fl
  | none => .no
  | some _ => (ci r).bind (kX2 f j v)
def kX1 (f : D → D → D → Option D) (j : Nat) (ci : C) (p : D × DE) : Out Fl := vX1 f j ci p.1 p.2 (ownD p.2 j)
theorem v_setIx : cSetIx e3 j cf c r = (cf r).bind (kX1 e3 j c) := by
  unfold cSetIx
  cases cf r with
  | no => rfl
  | ex _ _ => rfl
  | ok p =>
    show (match ownD p.2 j with | none => Out.no | some _ => _) = vX1 e3 j c p.1 p.2 (ownD p.2 j)
    cases ownD p.2 j <;> rfl
theorem k_x1 : kX1 e3 j c (d, r) = vX1 e3 j c d r (ownD r j) := rfl
theorem v_x1 : vX1 e3 j c d r (some d') = (c r).bind (kX2 e3 j d) := rfl
def kMu (j : Nat) (r : DE) (d : D) : DE := mutS j d r
theorem k_mu : kMu j r d = mutS j d r := rfl
def vX2 (f : D → D → D → Option D) (j : Nat) (v : D) (r : DE) : Option D → Option D → Out Fl
  | some d, some i => vN ((f d i v).map (kMu j r))
  | _, _ => .no
theorem k_x2 : kX2 e3 j d (x, r) = vX2 e3 j d r (ownD r j) (rsv x r) := by
  unfold kX2
  show ofO ((ownD r j).bind fun a => (rsv x r).bind fun i => (e3 a i d).map fun d' => Fl.nx (mutS j d' r)) = _
  cases ownD r j with
  | none => rfl
  | some a =>
    cases rsv x r with
    | none => rfl
    | some b =>
      show ofO ((e3 a b d).map fun d' => Fl.nx (mutS j d' r)) = vN ((e3 a b d).map (kMu j r))
      cases e3 a b d <;> rfl
theorem v_x2 : vX2 e3 j d r (some d') (some d2) = vN ((e3 d' d2 d).map (kMu j r)) := rfl
/- x[i] op= e -/
def kG3 (op : D → D → Option D) (set : D → D → D → Option D) (j : Nat) (iv : Rv) (x : D) (u : Rv × DE) : Out Fl :=
  ofO ((rsv u.1 u.2).bind fun y => (op x y).bind fun z => (ownD u.2 j).bind fun d => (rsv iv u.2).bind fun i => (set d i z).map fun d' => .nx (mutS j d' u.2))
def kG2 (op : D → D → Option D) (set : D → D → D → Option D) (j : Nat) (cv : C) (q : Rv × DE) (x : D) : Out Fl := (cv q.2).bind (kG3 op set j q.1 x)
def kG1 (get op : D → D → Option D) (set : D → D → D → Option D) (j : Nat) (cv : C) (q : Rv × DE) : Out Fl := (ofO ((ownD q.2 j).bind fun d => (rsv q.1 q.2).bind fun i => get d i)).bind (kG2 op set j cv q)
def vG1 (get op : D → D → Option D) (set : D → D → D → Option D) (j : Nat) (ci cv : C) (r : DE) : Option D → Out Fl
  | none => .no
  | some _ => (ci r).bind (kG1 get op set j cv)
theorem v_augIx : cAugIx e2 e2' e3 j c cc r = vG1 e2 e2' e3 j c cc r (ownD r j) := by
  unfold cAugIx vG1
  cases ownD r j with
  | none => rfl
  | some d =>
    dsimp only
    cases c r <;> rfl
theorem v_g1 : vG1 e2 e2' e3 j c cc r (some d) = (c r).bind (kG1 e2 e2' e3 j cc) := rfl
def vB2 (get : D → D → Option D) : Option D → Option D → Out D
  | some a, some b => ofO (get a b)
  | _, _ => .no
theorem k_g1 : kG1 e2 e2' e3 j cc (x, r) = (vB2 e2 (ownD r j) (rsv x r)).bind (kG2 e2' e3 j cc (x, r)) := by
  unfold kG1
  show (ofO ((ownD r j).bind fun d => (rsv x r).bind fun i => e2 d i)).bind _ = _
  cases ownD r j with
  | none => rfl
  | some a => cases rsv x r <;> rfl
theorem v_b2 : vB2 e2 (some d) (some d') = ofO (e2 d d') := rfl
theorem k_g2 : kG2 e2' e3 j cc (x, r) d = (cc r).bind (kG3 e2' e3 j x d) := rfl
def vG4 (set : D → D → D → Option D) (j : Nat) (r : DE) (dj di : Option D) : Option D → Out Fl
  | some z => vX2 set j z r dj di
  | none => .no
def vG3 (op : D → D → Option D) (set : D → D → D → Option D) (j : Nat) (r : DE) (x : D) (dj di : Option D) : Option D → Out Fl
  | some y => vG4 set j r dj di (op x y)
  | none => .no
theorem k_g3 : kG3 e2' e3 j x d (y, r) = vG3 e2' e3 j r d (ownD r j) (rsv x r) (rsv y r) := by
  unfold kG3
  show ofO ((rsv y r).bind fun w => (e2' d w).bind fun z => (ownD r j).bind fun a => (rsv x r).bind fun i => (e3 a i z).map fun d' => Fl.nx (mutS j d' r)) = _
  cases rsv y r with
  | none => rfl
  | some w =>
    show ofO ((e2' d w).bind fun z => (ownD r j).bind fun a => (rsv x r).bind fun i => (e3 a i z).map fun d' => Fl.nx (mutS j d' r)) = vG4 e3 j r (ownD r j) (rsv x r) (e2' d w)
    cases e2' d w with
    | none => rfl
    | some z => exact k_x2 r j z x e3
theorem v_g3 : vG3 e2' e3 j r d (some d') (some d2) (some z') = vG4 e3 j r (some d') (some d2) (e2' d z') := rfl
theorem v_g4 : vG4 e3 j r (some d') (some d2) (some d) = vX2 e3 j d r (some d') (some d2) := rfl
/- x op= e -/
def kAu (f : D → D → Option D) (i : Nat) (d : D) (p : Rv × DE) : Out Fl := ofO ((rsv p.1 p.2).bind fun b => (f d b).bind fun z => (sto i (.fr z) p.2).map .nx)
def vAu (f : D → D → Option D) (i : Nat) (c : C) (r : DE) : Sl → Out Fl
  | .fr d => (c r).bind (kAu f i d)
  | _ => .no
theorem v_aug : cAug e2 i c r = vAu e2 i c r (r.getD i .no) := by unfold cAug vAu; cases r.getD i .no <;> rfl
theorem v_au : vAu e2 i c r (.fr d) = (c r).bind (kAu e2 i d) := rfl
def vAu2 (i : Nat) (r : DE) : Option D → Out Fl
  | some z => vN (sto i (.fr z) r)
  | none => .no
def vAu1 (f : D → D → Option D) (i : Nat) (d : D) (r : DE) : Option D → Out Fl
  | some b => vAu2 i r (f d b)
  | none => .no
theorem k_au : kAu e2 i d (x, r) = vAu1 e2 i d r (rsv x r) := by
  unfold kAu
  show ofO ((rsv x r).bind fun b => (e2 d b).bind fun z => (sto i (.fr z) r).map Fl.nx) = _
  cases rsv x r with
  | none => rfl
  | some b =>
    show ofO ((e2 d b).bind fun z => (sto i (.fr z) r).map .nx) = vAu2 i r (e2 d b)
    cases e2 d b with
    | none => rfl
    | some z => exact vN_of _
theorem v_au1 : vAu1 e2 i d r (some d') = vAu2 i r (e2 d d') := rfl
theorem v_au2 : vAu2 i r (some d) = vN (sto i (.fr d) r) := rfl
/- methods that change -/
variable (chk : D → Bool) (mf : D → List D → Option (D × D))
def kMt (f : D → List D → Option (D × D)) (i : Nat) (q : List D × DE) : Out (Rv × DE) := ofO ((ownD q.2 i).bind fun d => (f d q.1).map fun y => (.fr y.2, mutS i y.1 q.2))
def vM1 (f : D → List D → Option (D × D)) (i : Nat) (ca : CA) (r : DE) : Bool → Out (Rv × DE)
  | false => .no
  | true => (ca r).bind (kMt f i)
def vM0 (chk : D → Bool) (f : D → List D → Option (D × D)) (i : Nat) (ca : CA) (r : DE) : Option D → Out (Rv × DE)
  | none => .no
  | some d => vM1 f i ca r (chk d)
theorem v_mut : cMut chk mf i cs r = vM0 chk mf i cs r (ownD r i) := by
  unfold cMut vM0
  cases ownD r i with
  | none => rfl
  | some d => dsimp only; unfold vM1; cases chk d <;> rfl
theorem v_m0 : vM0 chk mf i cs r (some d) = vM1 mf i cs r (chk d) := rfl
theorem v_m1 : vM1 mf i cs r true = (cs r).bind (kMt mf i) := rfl
def vM3 (i : Nat) (r : DE) : Option (D × D) → Out (Rv × DE)
  | some y => .ok (.fr y.2, mutS i y.1 r)
  | none => .no
def vM2 (f : D → List D → Option (D × D)) (i : Nat) (ds : List D) (r : DE) : Option D → Out (Rv × DE)
  | some d => vM3 i r (f d ds)
  | none => .no
theorem k_m : kMt mf i (ds, r) = vM2 mf i ds r (ownD r i) := by
  unfold kMt
  show ofO ((ownD r i).bind fun d => (mf d ds).map fun y => (Rv.fr y.2, mutS i y.1 r)) = _
  cases ownD r i with
  | none => rfl
  | some d =>
    show ofO ((mf d ds).map fun y => (Rv.fr y.2, mutS i y.1 r)) = vM3 i r (mf d ds)
    cases mf d ds <;> rfl
theorem v_m2 : vM2 mf i ds r (some d) = vM3 i r (mf d ds) := rfl
theorem v_m3 : vM3 i r (some (d, d')) = .ok (.fr d', mutS i d r) := rfl
/- calls of defs -/
variable (o : Option D)
def vC2 (r : DE) : FOut → Out (Rv × DE)
  | .ok x _ => .ok (x, r)
  | .no => .no
def kCF (np : Nat) (sem : List D → FOut) (q : List D × DE) : Out (Rv × DE) := if q.1.length = np then vC2 q.2 (sem q.1) else .no
theorem v_callF : cCallF np sem cs r = (cs r).bind (kCF np sem) := by
  unfold cCallF
  cases cs r with
  | no => rfl
  | ex _ _ => rfl
  | ok q =>
    show (if q.1.length = np then _ else _) = if q.1.length = np then _ else _
    split
    · cases sem q.1 <;> rfl
    · rfl
theorem k_cf (hl : ds.length = np) : kCF np sem (ds, r) = vC2 r (sem ds) := if_pos hl
theorem v_c2 : vC2 r (.ok x o) = .ok (x, r) := rfl
def vI3 (j : Nat) (r : DE) : FOut → Out (Rv × DE)
  | .ok x (some d') => .ok (x, mutS j d' r)
  | _ => .no
def vI2 (np : Nat) (sem : List D → FOut) (j : Nat) (ds : List D) (r : DE) : Option D → Out (Rv × DE)
  | none => .no
  | some d => if (d :: ds).length = np then vI3 j r (sem (d :: ds)) else .no
def kCI (np : Nat) (sem : List D → FOut) (j : Nat) (q : List D × DE) : Out (Rv × DE) := vI2 np sem j q.1 q.2 (ownD q.2 j)
def vI1 (np : Nat) (sem : List D → FOut) (j : Nat) (ca : CA) (r : DE) : Option D → Out (Rv × DE)
  | none => .no
  | some _ => (ca r).bind (kCI np sem j)
theorem v_callI : cCallI np sem j cs r = vI1 np sem j cs r (ownD r j) := by
  unfold cCallI vI1
  cases ownD r j with
  | none => rfl
  | some _ =>
    dsimp only
    cases cs r with
    | no => rfl
    | ex _ _ => rfl
    | ok q =>
      show _ = vI2 np sem j q.1 q.2 (ownD q.2 j)
      show (match ownD q.2 j with | none => Out.no | some d => _) = _
      cases ownD q.2 j with
      | none => rfl
      | some d =>
        show (if (d :: q.1).length = np then _ else _) = if (d :: q.1).length = np then _ else _
        split
        · cases sem (d :: q.1) with
          | no => rfl
          | ok x o => cases o <;> rfl
        · rfl
theorem v_i1 : vI1 np sem j cs r (some d) = (cs r).bind (kCI np sem j) := rfl
theorem k_ci : kCI np sem j (ds, r) = vI2 np sem j ds r (ownD r j) := rfl
theorem v_i2 (hl : ds.length + 1 = np) : vI2 np sem j ds r (some d) = vI3 j r (sem (d :: ds)) := if_pos hl
theorem v_i3 : vI3 j r (.ok x (some d)) = .ok (x, mutS j d r) := rfl
/- what is walked -/
def vIt (r : DE) : Option (List D) → Out (List D × DE)
  | some ds => .ok (ds, r)
  | none => .no
def kIt (p : D × DE) : Out (List D × DE) := ofO ((items p.1).map fun ds => (ds, p.2))
theorem v_it : cIt cf r = (cf r).bind kIt := rfl
theorem k_it : kIt (d, r) = vIt r (items d) := by
  unfold kIt
  show ofO ((items d).map fun ds => (ds, r)) = _
  cases items d <;> rfl
theorem v_itS : vIt r (some ds) = .ok (ds, r) := rfl
theorem it_l : items (.list ds) = some ds := rfl
theorem it_t : items (.tuple ds) = some ds := rfl
theorem it_s : items (.str s) = some ((tl s).map sgn) := rfl
def kR1 (p : Rv × DE) : Out (List D × DE) := match p.1 with
  | .fr (.int j) => if -16777216 ≤ j ∧ j ≤ 16777216 then .ok (rng 0 j.toNat, p.2) else .no
  | _ => .no
theorem v_R1 : cR1 c r = (c r).bind kR1 := rfl
theorem k_R1 (h1 : -16777216 ≤ n) (h2 : n ≤ 16777216) : kR1 (.fr (.int n), r) = .ok (rng 0 n.toNat, r) := if_pos ⟨h1, h2⟩
/- loops -/
def kFor (as : As) (b : SC) (p : List D × DE) : Out Fl := forD as b p.1 p.2
theorem v_for : cFor as p b r = (p r).bind (kFor as b) := rfl
theorem k_for : kFor as b (ds, r) = forD as b ds r := rfl
def vLc (vs : List Nat) (as : As) (t : CT) (c : CF) (ds : List D) (r : DE) : Bool → Out (Rv × DE)
  | true => (noEx (lcD vs as t c ds r)).bind fun w => .ok (.ow (.list w.1), w.2)
  | false => .no
def kLc (vs : List Nat) (as : As) (t : CT) (c : CF) (p : List D × DE) : Out (Rv × DE) := vLc vs as t c p.1 p.2 (clear vs p.2)
theorem v_lc : cLc vs as p t cf r = (p r).bind (kLc vs as t cf) := by
  unfold cLc
  cases p r with
  | no => rfl
  | ex _ _ => rfl
  | ok q =>
    show (match clear vs q.2 with | true => _ | false => _) = vLc vs as t cf q.1 q.2 (clear vs q.2)
    cases clear vs q.2 <;> rfl
theorem k_lc : kLc vs as t cf (ds, r) = vLc vs as t cf ds r (clear vs r) := rfl
theorem v_lcT : vLc vs as t cf ds r true = (noEx (lcD vs as t cf ds r)).bind fun w => .ok (.ow (.list w.1), w.2) := rfl
theorem cl_1s : clear [i + 1] (w :: r) = clear [i] r := rfl
theorem cl_1z : clear [0] (.no :: r) = true := rfl
theorem v_yes : cYes r = .ok (true, r) := rfl
theorem v_fgt : cFgt vs a r = a (fgt vs r) := rfl
/- ends -/
def vF (io : Bool) : Out Fl → FOut
  | .ok (.rt x r) => fin io x r
  | .ok (.nx r) => fin io (.fr .none) r
  | _ => .no
theorem v_run (io : Bool) : runF io i a ds = vF io (a (st0 io i ds)) := by
  unfold runF vF
  cases a (st0 io i ds) with
  | no => rfl
  | ex _ _ => rfl
  | ok fl => cases fl <;> rfl
theorem v_frt (io : Bool) : vF io (.ok (.rt x r)) = fin io x r := rfl
theorem v_fnx (io : Bool) : vF io (.ok (.nx r)) = fin io (.fr .none) r := rfl
theorem f_ff : fin false (.fr d) r = .ok (.fr d) none := rfl
theorem f_fo : fin false (.ow d) r = .ok (.ow d) none := rfl
theorem f_tf : fin true (.fr d) (.io d' :: r) = .ok (.fr d) (some d') := rfl
theorem f_to : fin true (.ow d) (.io d' :: r) = .ok (.ow d) (some d') := rfl
def vE (o : Option D) : Sl → FOut
  | .fr d => .ok (.fr d) o
  | .ow d => .ok (.ow d) o
  | _ => .no
theorem f_fs : fin false (.sl i) r = vE none (r.getD i .no) := by
  unfold fin vE
  first
    | (dsimp only; done)
    | (dsimp only; cases r.getD i .no <;> rfl)
theorem f_ts : fin true (.sl (i + 1)) (.io d :: r) = vE (some d) (r.getD i .no) := by
  unfold fin vE
  dsimp only
  show (match r.getD i .no with | .fr _ => _ | .ow _ => _ | _ => _) = _
  cases r.getD i .no <;> rfl
theorem v_ef : vE o (.fr d) = .ok (.fr d) o := rfl
theorem v_eo : vE o (.ow d) = .ok (.ow d) o := rfl
end
/- start -/
theorem st_f (n : Nat) (ds : List D) : st0 false n ds = ds.map Sl.fr ++ List.replicate (n - ds.length) Sl.no := rfl
theorem st_t (n : Nat) (d : D) (ds : List D) : st0 true n (d :: ds) = .io d :: (ds.map Sl.fr ++ List.replicate (n - (ds.length + 1)) Sl.no) := rfl
theorem mf_nil : List.map Sl.fr [] = [] := rfl
theorem mf_cons (d : D) (ds : List D) : List.map Sl.fr (d :: ds) = .fr d :: List.map Sl.fr ds := rfl
theorem rep_s (n : Nat) : List.replicate (n + 1) Sl.no = .no :: List.replicate n .no := rfl
theorem rep_z : List.replicate 0 Sl.no = [] := rfl
/- data -/
section
variable (i j : Int) (x y : Str) (xs ys : List D) (a b : D)
theorem f_addI : fAdd (.int i) (.int j) = some (.fr (.int (i + j))) := rfl
theorem f_addS (h : x.length + y.length ≤ big) : fAdd (.str x) (.str y) = some (.fr (.str (x ++ y))) := if_pos h
theorem f_addL (h : xs.length + ys.length ≤ 16777216) : fAdd (.list xs) (.list ys) = some (.ow (.list (xs ++ ys))) := if_pos h
theorem f_addT (h : xs.length + ys.length ≤ 16777216) : fAdd (.tuple xs) (.tuple ys) = some (.fr (.tuple (xs ++ ys))) := if_pos h
theorem f_sub : fSub (.int i) (.int j) = some (.fr (.int (i - j))) := rfl
theorem f_mod (h : 0 < j) : fMod (.int i) (.int j) = some (.fr (.int (i % j))) := if_pos h
theorem f_div (h : 0 < j) (h2 : j < 1073741824) : fDiv (.int i) (.int j) = some (.fr (.int (i / j))) := if_pos ⟨h, h2⟩
theorem f_mulI (h : -18446744073709551616 < i) (h2 : i < 18446744073709551616) : fMul2 (.int i) (.int j) = some (.fr (.int (i * j))) := if_pos (.inl ⟨h, h2⟩)
theorem f_mulJ (h : -18446744073709551616 < j) (h2 : j < 18446744073709551616) : fMul2 (.int i) (.int j) = some (.fr (.int (i * j))) := if_pos (.inr ⟨h, h2⟩)
theorem f_mulM (k : Int) (h : 0 < k) (h2 : k < 18446744073709551616) : fMul2 (.int (i % k)) (.int j) = some (.fr (.int (i % k * j))) :=
  f_mulI _ _ (by have := Int.emod_nonneg i (show k ≠ 0 by omega); omega) (by have := Int.emod_lt_of_pos i h; omega)
theorem f_mulS (h : 0 ≤ j) (h2 : x.length * j.toNat ≤ big) (h3 : j ≤ big) : fMul2 (.str x) (.int j) = some (.fr (.str (repS x j.toNat))) := if_pos ⟨h, h2, h3⟩
theorem f_pow (h : 0 ≤ j) (h1 : j ≤ 1000000) (h2 : -18446744073709551616 < i) (h3 : i < 18446744073709551616) : fPow (.int i) (.int j) = some (.fr (.int (i ^ j.toNat))) := if_pos ⟨h, h1, by omega⟩
theorem f_neg : fNeg (.int i) = some (.fr (.int (-i))) := rfl
theorem f_eq (h : plainD a = true) (h2 : plainD b = true) : fEq a b = some (.fr (.bool (PyData.eqv a b))) := by
  unfold fEq
  rw [h, h2]
  rfl
theorem f_ne (h : plainD a = true) (h2 : plainD b = true) : fNe a b = some (.fr (.bool (!PyData.eqv a b))) := by
  unfold fNe
  rw [h, h2]
  rfl
theorem f_eqI : fEq (.int i) (.int j) = some (.fr (.bool (i == j))) := rfl
theorem f_eqS : fEq (.str x) (.str y) = some (.fr (.bool (x == y))) := rfl
theorem f_neI : fNe (.int i) (.int j) = some (.fr (.bool (!(i == j)))) := rfl
theorem f_neS : fNe (.str x) (.str y) = some (.fr (.bool (!(x == y)))) := rfl
theorem f_ltI : fLt (.int i) (.int j) = some (.fr (.bool (decide (i < j)))) := rfl
theorem f_leI : fLe (.int i) (.int j) = some (.fr (.bool (decide (i ≤ j)))) := rfl
theorem f_gtI : fGt (.int i) (.int j) = some (.fr (.bool (decide (j < i)))) := rfl
theorem f_geI : fGe (.int i) (.int j) = some (.fr (.bool (decide (j ≤ i)))) := rfl
theorem f_ltS : fLt (.str x) (.str y) = some (.fr (.bool (decide (tl x < tl y)))) := rfl
theorem f_is : fIs a .none = some (.fr (.bool (isN a))) := rfl
theorem f_isnt : fIsnt a .none = some (.fr (.bool (!isN a))) := rfl
theorem f_ixL : fIx (.list xs) (.int i) = (atI xs i).map .fr := rfl
theorem f_ixT : fIx (.tuple xs) (.int i) = (atI xs i).map .fr := rfl
theorem a_d : atD (.list xs) (.int i) = atI xs i := rfl
theorem se_0 : setD (.list (a :: xs)) (.int 0) b = some (.list (b :: xs)) := by
  unfold setD ixN
  dsimp only
  rw [if_pos (by decide), if_pos (by rw [List.length_cons]; omega)]
  rfl
theorem se_1 (a' : D) : setD (.list (a' :: a :: xs)) (.int 1) b = some (.list (a' :: b :: xs)) := by
  unfold setD ixN
  dsimp only
  rw [if_pos (by decide), if_pos (by rw [List.length_cons, List.length_cons]; omega)]
  rfl
theorem se_2 (a' a2 : D) : setD (.list (a' :: a2 :: a :: xs)) (.int 2) b = some (.list (a' :: a2 :: b :: xs)) := by
  unfold setD ixN
  dsimp only
  rw [if_pos (by decide), if_pos (by rw [List.length_cons, List.length_cons, List.length_cons]; omega)]
  rfl
theorem i_add : iAdd (.int i) (.int j) = some (.int (i + j)) := rfl
theorem f_slL (lo hi : Option Int) : fSl (.list xs) lo hi = some (.ow (.list (cutD xs lo hi))) := by unfold fSl; rfl
theorem f_slT (lo hi : Option Int) : fSl (.tuple xs) lo hi = some (.fr (.tuple (cutD xs lo hi))) := by unfold fSl; rfl
theorem f_slS (lo hi : Option Int) : fSl (.str x) lo hi = some (.fr (.str (cutS x lo hi))) := by unfold fSl; rfl
theorem f_slR (ns : List Int) (lo hi : Option Int) : fSl (scrD ns) lo hi = some (.ow (.list (cutD (ns.map .int) lo hi))) := by unfold fSl scrD; rfl
theorem f_lenS : fLen [.str x] = some (.fr (.int (x.length : Nat))) := rfl
theorem f_lenL : fLen [.list xs] = some (.fr (.int (xs.length : Nat))) := rfl
theorem f_lenT : fLen [.tuple xs] = some (.fr (.int (xs.length : Nat))) := rfl
theorem f_intI : fInt [.int i] = some (.fr (.int i)) := rfl
theorem f_intB (k : Bool) : fInt [.bool k] = some (.fr (.int (if k then 1 else 0))) := rfl
theorem f_abs : fAbs [.int i] = some (.fr (.int (if i < 0 then -i else i))) := rfl
theorem f_tupL : fTuple [.list xs] = some (.fr (.tuple xs)) := rfl
theorem f_tupT : fTuple [.tuple xs] = some (.fr (.tuple xs)) := rfl
theorem f_isi_s : fIsi "str" (.str x) = some (.fr (.bool true)) := by
  show (kitB "str" "str").map (fun b => Rv.fr (.bool b)) = _
  rw [show kitB "str" "str" = some true by decide]
  rfl
end
end Ed
end
section
namespace Ed
open PySem PySem.Spec L2 TL
def c_take : SC := cSeq (cIfS (cTestOf (cBin fEq (cBin fIx (cNm 0) (cK (.int 0))) (cK (.int 0)))) (cSeq (cSet 2 (cBin fIx (cBin fAdd (cSl fSl (cBin fIx (cNm 0) (cK (.int 3))) (cPSome (cBin fIx (cNm 0) (cK (.int 2)))) (cPNone)) (cLst (cACons (cFz (cK (.int 0))) (cANil)))) (cK (.int 0)))) (cSeq (cAugIx atD iAdd setD 0 (cK (.int 2)) (cK (.int 1))) (cSeq (cIfS (cTestOf (cBin fGe (cNm 2) (cBin fPow (cK (.int 10)) (cK (.int 18))))) (cSetIx setD 0 (cFz (cNm 2)) (cK (.int 0))) (cSkip)) (cSeq (cSet 3 (cBin fAdd (cBin fAdd (cBin fMul2 (cBin fIx (cNm 0) (cK (.int 1))) (cK (.int 48271))) (cBin fMod (cCall fInt (cBCons (cNm 2) (cBNil))) (cK (.int 2147483647)))) (cBin fMul2 (cK (.int 7919)) (cBin fIx (cNm 0) (cK (.int 2)))))) (cSetIx setD 0 (cFz (cBin fMod (cCall fInt (cBCons (cNm 3) (cBNil))) (cK (.int 2147483647)))) (cK (.int 1))))))) (cSkip)) (cSeq (cIfS (cTestOf (cBin fGt (cBin fIx (cNm 0) (cK (.int 0))) (cK (.int 0)))) (cSeq (cSet 4 (cBin fMod (cCall fInt (cBCons (cBin fIx (cNm 0) (cK (.int 0))) (cBNil))) (cNm 1))) (cSeq (cSetIx setD 0 (cFz (cBin fDiv (cCall fInt (cBCons (cBin fIx (cNm 0) (cK (.int 0))) (cBNil))) (cNm 1))) (cK (.int 0))) (cRet (cNm 4)))) (cSkip)) (cSeq (cSet 5 (cBin fMod (cCall fInt (cBCons (cBin fMul2 (cBin fAdd (cBin fIx (cNm 0) (cK (.int 1))) (cK (.int 1))) (cK (.int 39373))) (cBNil))) (cK (.int 1000000007)))) (cSeq (cSet 6 (cBin fMod (cCall fInt (cBCons (cBin fMul2 (cBin fMod (cCall fInt (cBCons (cBin fMul2 (cNm 5) (cNm 5)) (cBNil))) (cK (.int 998244353))) (cK (.int 30011))) (cBNil))) (cK (.int 998244353)))) (cRet (cBin fMod (cCall fInt (cBCons (cBin fDiv (cNm 6) (cK (.int 7))) (cBNil))) (cNm 1))))))
def r_take : List D → FOut := runF true 7 c_take
theorem cut_head (cs : List Int) (i : Int) : ∃ (c : Int) (r : List D), cutD (cs.map PyData.int) (some i) none ++ [PyData.int 0] = .int c :: r ∧ r.length + 1 ≤ cs.length + 1 := by
  have h : ∃ ns : List Int, cutD (cs.map PyData.int) (some i) none = ns.map .int ∧ ns.length ≤ cs.length := by
    unfold cutD
    refine ⟨((cs.drop (HT.sIx (cs.map PyData.int).length 0 (some i))).take (HT.sIx (cs.map PyData.int).length (cs.map PyData.int).length none - HT.sIx (cs.map PyData.int).length 0 (some i))), by rw [List.map_take, List.map_drop], ?_⟩
    rw [List.length_take, List.length_drop]
    omega
  obtain ⟨ns, h1, h2⟩ := h
  rw [h1]
  cases ns with
  | nil => exact ⟨0, [], rfl, by rw [List.length_nil]; omega⟩
  | cons n ns => exact ⟨n, ns.map PyData.int ++ [PyData.int 0], rfl, by rw [List.length_append, List.length_map, List.length_singleton]; rw [List.length_cons] at h2; omega⟩
theorem mb1 {a b : Int} (h : 0 < b) (h2 : b < 2 ^ 64) : -(2 ^ 64) < a % b ∧ a % b < 2 ^ 64 := ⟨by have := Int.emod_nonneg a (show b ≠ 0 by omega); omega, by have := Int.emod_lt_of_pos a h; omega⟩
theorem take_ok {b : D} {m : Int} (hb : isBag b) (hm : 0 < m) (hm2 : m < 1073741824) : ∃ v b', r_take [b, .int m] = .ok (.fr (.int v)) (some b') ∧ isBag b' ∧ 0 ≤ v ∧ v < m := by
  obtain ⟨z, s, i, cs, rfl, hc⟩ := hb
  have key : ∃ w z' s' i', r_take [bagD z s i cs, .int m] = .ok (.fr (.int (w % m))) (some (bagD z' s' i' cs)) := by
    have hi : i = 0 ∨ i ≠ 0 := by omega
    unfold r_take c_take
    rw [v_run]
    cases hz : (z == 0) with
    | false =>
      by_cases h1 : 0 < z
      · simp only [bagD, b_ok, b_no, oo_some, oo_none, g_fr, g_z, g_s, sl_s, sl_fr, sl_ow, sl_io, rv_fr, rv_ow, rv_sl, fz_fr, fz_ow, kCo_, fz_s, fz_zf, fz_zo, om_some, ob_some, om_none, ow_s, ow_ow, ow_io, mu_s, mu_ow, mu_io, st_s, st_so, st_zn, st_zf, st_zo, so_zn, so_zf, so_zo, v_nm, v_nmf, v_nmo, v_nmi, v_k, v_fz, k_fz, v_anil, v_acons, k_a1, k_a2, v_bnil, v_bcons, k_b1, k_b2, v_tup, v_lst, k_tup, k_lst, v_bin, k_o1, k_o2, v_b, v_r, v_un, k_un, v_u, rvs_nil, rvs_cons, v_cons, v_call, k_call, v_l, v_mt, k_mt, v_testOf, k_t, v_truth, k_tr, v_tr, v_kk, tru_b, v_notT, k_nt, v_andT, v_orT, k_at1, k_at0, k_ot1, k_ot0, v_if, k_if1, k_if0, v_and, v_or, v_not, k_and1, k_and0, k_or1, k_or0, k_not, v_chain, k_ch1, k_ch2, v_b', k_ch3t, k_ch3f, v_pn, v_ps, k_p, v_sl, k_s1, k_s2, k_s3, v_s, v_seq, k_snx, k_srt, k_sbk, k_sct, v_ifS, k_ifS1, k_ifS0, v_skip, v_brk, v_cnt, v_exp, v_ret, k_exp, k_ret, v_set, k_set, v_n, v_asg, k_asg, a_nm, a_nil, a_cons, k_as, a_tup, v_par, v_par3, k_par, k_par3, v_setIx, k_x1, v_x1, k_mu, k_x2, v_x2, v_augIx, v_g1, k_g1, v_b2, k_g2, k_g3, v_g3, v_g4, v_aug, v_au, k_au, v_au1, v_au2, v_mut, v_m0, v_m1, k_m, v_m2, v_m3, v_callF, k_cf, v_c2, v_callI, v_i1, k_ci, v_i2, v_i3, v_it, k_it, v_itS, it_l, it_t, it_s, v_R1, k_R1, v_for, k_for, v_lc, k_lc, v_lcT, cl_1s, cl_1z, v_yes, v_fgt, v_frt, v_fnx, f_ff, f_fo, f_tf, f_to, f_fs, f_ts, v_ef, v_eo, st_f, st_t, mf_nil, mf_cons, rep_s, rep_z, f_addI, f_addS, f_addL, f_addT, f_sub, f_mod, f_div, f_mulI, f_mulJ, f_mulM, f_mulS, f_pow, f_neg, f_eqI, f_eqS, f_neI, f_neS, f_ltI, f_leI, f_gtI, f_geI, f_ltS, f_is, f_isnt, f_ixL, f_ixT, a_d, se_0, se_1, se_2, i_add, f_slL, f_slT, f_slS, f_slR, f_lenS, f_lenL, f_lenT, f_intI, f_intB, f_abs, f_tupL, f_tupT, f_isi_s, atI0, atI1, atI2, atI3, List.length_cons, List.length_nil, List.cons_append, List.nil_append, Nat.reduceAdd, Nat.reduceSub, Nat.reduceLeDiff, Nat.reduceEqDiff, Int.reduceAdd, Int.reduceSub, Int.reduceMul, Int.reduceNeg, Int.reduceLT, Int.reduceLE, Int.reduceEq, Int.reduceBEq, Int.reducePow, Int.reduceToNat, Bool.not_true, Bool.not_false, decide_true, decide_false, true_and, and_true, hz, h1, hm, hm2]
        exact ⟨_, _, _, _, rfl⟩
      · simp only [bagD, b_ok, b_no, oo_some, oo_none, g_fr, g_z, g_s, sl_s, sl_fr, sl_ow, sl_io, rv_fr, rv_ow, rv_sl, fz_fr, fz_ow, kCo_, fz_s, fz_zf, fz_zo, om_some, ob_some, om_none, ow_s, ow_ow, ow_io, mu_s, mu_ow, mu_io, st_s, st_so, st_zn, st_zf, st_zo, so_zn, so_zf, so_zo, v_nm, v_nmf, v_nmo, v_nmi, v_k, v_fz, k_fz, v_anil, v_acons, k_a1, k_a2, v_bnil, v_bcons, k_b1, k_b2, v_tup, v_lst, k_tup, k_lst, v_bin, k_o1, k_o2, v_b, v_r, v_un, k_un, v_u, rvs_nil, rvs_cons, v_cons, v_call, k_call, v_l, v_mt, k_mt, v_testOf, k_t, v_truth, k_tr, v_tr, v_kk, tru_b, v_notT, k_nt, v_andT, v_orT, k_at1, k_at0, k_ot1, k_ot0, v_if, k_if1, k_if0, v_and, v_or, v_not, k_and1, k_and0, k_or1, k_or0, k_not, v_chain, k_ch1, k_ch2, v_b', k_ch3t, k_ch3f, v_pn, v_ps, k_p, v_sl, k_s1, k_s2, k_s3, v_s, v_seq, k_snx, k_srt, k_sbk, k_sct, v_ifS, k_ifS1, k_ifS0, v_skip, v_brk, v_cnt, v_exp, v_ret, k_exp, k_ret, v_set, k_set, v_n, v_asg, k_asg, a_nm, a_nil, a_cons, k_as, a_tup, v_par, v_par3, k_par, k_par3, v_setIx, k_x1, v_x1, k_mu, k_x2, v_x2, v_augIx, v_g1, k_g1, v_b2, k_g2, k_g3, v_g3, v_g4, v_aug, v_au, k_au, v_au1, v_au2, v_mut, v_m0, v_m1, k_m, v_m2, v_m3, v_callF, k_cf, v_c2, v_callI, v_i1, k_ci, v_i2, v_i3, v_it, k_it, v_itS, it_l, it_t, it_s, v_R1, k_R1, v_for, k_for, v_lc, k_lc, v_lcT, cl_1s, cl_1z, v_yes, v_fgt, v_frt, v_fnx, f_ff, f_fo, f_tf, f_to, f_fs, f_ts, v_ef, v_eo, st_f, st_t, mf_nil, mf_cons, rep_s, rep_z, f_addI, f_addS, f_addL, f_addT, f_sub, f_mod, f_div, f_mulI, f_mulJ, f_mulM, f_mulS, f_pow, f_neg, f_eqI, f_eqS, f_neI, f_neS, f_ltI, f_leI, f_gtI, f_geI, f_ltS, f_is, f_isnt, f_ixL, f_ixT, a_d, se_0, se_1, se_2, i_add, f_slL, f_slT, f_slS, f_slR, f_lenS, f_lenL, f_lenT, f_intI, f_intB, f_abs, f_tupL, f_tupT, f_isi_s, atI0, atI1, atI2, atI3, List.length_cons, List.length_nil, List.cons_append, List.nil_append, Nat.reduceAdd, Nat.reduceSub, Nat.reduceLeDiff, Nat.reduceEqDiff, Int.reduceAdd, Int.reduceSub, Int.reduceMul, Int.reduceNeg, Int.reduceLT, Int.reduceLE, Int.reduceEq, Int.reduceBEq, Int.reducePow, Int.reduceToNat, Bool.not_true, Bool.not_false, decide_true, decide_false, true_and, and_true, hz, h1, hm, hm2]
        exact ⟨_, _, _, _, rfl⟩
    | true =>
      obtain ⟨c, r, hr, hl⟩ := cut_head cs i
      have hlen : (cutD (cs.map PyData.int) (some i) none).length + 1 ≤ 16777216 := by
        have := congrArg List.length hr
        rw [List.length_append, List.length_singleton, List.length_cons] at this
        omega
      by_cases h2 : (1000000000000000000 : Int) ≤ c
      · have h3 : (0 : Int) < c := by omega
        simp only [bagD, b_ok, b_no, oo_some, oo_none, g_fr, g_z, g_s, sl_s, sl_fr, sl_ow, sl_io, rv_fr, rv_ow, rv_sl, fz_fr, fz_ow, kCo_, fz_s, fz_zf, fz_zo, om_some, ob_some, om_none, ow_s, ow_ow, ow_io, mu_s, mu_ow, mu_io, st_s, st_so, st_zn, st_zf, st_zo, so_zn, so_zf, so_zo, v_nm, v_nmf, v_nmo, v_nmi, v_k, v_fz, k_fz, v_anil, v_acons, k_a1, k_a2, v_bnil, v_bcons, k_b1, k_b2, v_tup, v_lst, k_tup, k_lst, v_bin, k_o1, k_o2, v_b, v_r, v_un, k_un, v_u, rvs_nil, rvs_cons, v_cons, v_call, k_call, v_l, v_mt, k_mt, v_testOf, k_t, v_truth, k_tr, v_tr, v_kk, tru_b, v_notT, k_nt, v_andT, v_orT, k_at1, k_at0, k_ot1, k_ot0, v_if, k_if1, k_if0, v_and, v_or, v_not, k_and1, k_and0, k_or1, k_or0, k_not, v_chain, k_ch1, k_ch2, v_b', k_ch3t, k_ch3f, v_pn, v_ps, k_p, v_sl, k_s1, k_s2, k_s3, v_s, v_seq, k_snx, k_srt, k_sbk, k_sct, v_ifS, k_ifS1, k_ifS0, v_skip, v_brk, v_cnt, v_exp, v_ret, k_exp, k_ret, v_set, k_set, v_n, v_asg, k_asg, a_nm, a_nil, a_cons, k_as, a_tup, v_par, v_par3, k_par, k_par3, v_setIx, k_x1, v_x1, k_mu, k_x2, v_x2, v_augIx, v_g1, k_g1, v_b2, k_g2, k_g3, v_g3, v_g4, v_aug, v_au, k_au, v_au1, v_au2, v_mut, v_m0, v_m1, k_m, v_m2, v_m3, v_callF, k_cf, v_c2, v_callI, v_i1, k_ci, v_i2, v_i3, v_it, k_it, v_itS, it_l, it_t, it_s, v_R1, k_R1, v_for, k_for, v_lc, k_lc, v_lcT, cl_1s, cl_1z, v_yes, v_fgt, v_frt, v_fnx, f_ff, f_fo, f_tf, f_to, f_fs, f_ts, v_ef, v_eo, st_f, st_t, mf_nil, mf_cons, rep_s, rep_z, f_addI, f_addS, f_addL, f_addT, f_sub, f_mod, f_div, f_mulI, f_mulJ, f_mulM, f_mulS, f_pow, f_neg, f_eqI, f_eqS, f_neI, f_neS, f_ltI, f_leI, f_gtI, f_geI, f_ltS, f_is, f_isnt, f_ixL, f_ixT, a_d, se_0, se_1, se_2, i_add, f_slL, f_slT, f_slS, f_slR, f_lenS, f_lenL, f_lenT, f_intI, f_intB, f_abs, f_tupL, f_tupT, f_isi_s, atI0, atI1, atI2, atI3, List.length_cons, List.length_nil, List.cons_append, List.nil_append, Nat.reduceAdd, Nat.reduceSub, Nat.reduceLeDiff, Nat.reduceEqDiff, Int.reduceAdd, Int.reduceSub, Int.reduceMul, Int.reduceNeg, Int.reduceLT, Int.reduceLE, Int.reduceEq, Int.reduceBEq, Int.reducePow, Int.reduceToNat, Bool.not_true, Bool.not_false, decide_true, decide_false, true_and, and_true, hz, hm, hm2, hr, hlen, h2, h3]
        exact ⟨_, _, _, _, rfl⟩
      · have hz' : z = 0 := by simpa using hz
        have h4 : ¬ (0 : Int) < z := by omega
        simp only [bagD, b_ok, b_no, oo_some, oo_none, g_fr, g_z, g_s, sl_s, sl_fr, sl_ow, sl_io, rv_fr, rv_ow, rv_sl, fz_fr, fz_ow, kCo_, fz_s, fz_zf, fz_zo, om_some, ob_some, om_none, ow_s, ow_ow, ow_io, mu_s, mu_ow, mu_io, st_s, st_so, st_zn, st_zf, st_zo, so_zn, so_zf, so_zo, v_nm, v_nmf, v_nmo, v_nmi, v_k, v_fz, k_fz, v_anil, v_acons, k_a1, k_a2, v_bnil, v_bcons, k_b1, k_b2, v_tup, v_lst, k_tup, k_lst, v_bin, k_o1, k_o2, v_b, v_r, v_un, k_un, v_u, rvs_nil, rvs_cons, v_cons, v_call, k_call, v_l, v_mt, k_mt, v_testOf, k_t, v_truth, k_tr, v_tr, v_kk, tru_b, v_notT, k_nt, v_andT, v_orT, k_at1, k_at0, k_ot1, k_ot0, v_if, k_if1, k_if0, v_and, v_or, v_not, k_and1, k_and0, k_or1, k_or0, k_not, v_chain, k_ch1, k_ch2, v_b', k_ch3t, k_ch3f, v_pn, v_ps, k_p, v_sl, k_s1, k_s2, k_s3, v_s, v_seq, k_snx, k_srt, k_sbk, k_sct, v_ifS, k_ifS1, k_ifS0, v_skip, v_brk, v_cnt, v_exp, v_ret, k_exp, k_ret, v_set, k_set, v_n, v_asg, k_asg, a_nm, a_nil, a_cons, k_as, a_tup, v_par, v_par3, k_par, k_par3, v_setIx, k_x1, v_x1, k_mu, k_x2, v_x2, v_augIx, v_g1, k_g1, v_b2, k_g2, k_g3, v_g3, v_g4, v_aug, v_au, k_au, v_au1, v_au2, v_mut, v_m0, v_m1, k_m, v_m2, v_m3, v_callF, k_cf, v_c2, v_callI, v_i1, k_ci, v_i2, v_i3, v_it, k_it, v_itS, it_l, it_t, it_s, v_R1, k_R1, v_for, k_for, v_lc, k_lc, v_lcT, cl_1s, cl_1z, v_yes, v_fgt, v_frt, v_fnx, f_ff, f_fo, f_tf, f_to, f_fs, f_ts, v_ef, v_eo, st_f, st_t, mf_nil, mf_cons, rep_s, rep_z, f_addI, f_addS, f_addL, f_addT, f_sub, f_mod, f_div, f_mulI, f_mulJ, f_mulM, f_mulS, f_pow, f_neg, f_eqI, f_eqS, f_neI, f_neS, f_ltI, f_leI, f_gtI, f_geI, f_ltS, f_is, f_isnt, f_ixL, f_ixT, a_d, se_0, se_1, se_2, i_add, f_slL, f_slT, f_slS, f_slR, f_lenS, f_lenL, f_lenT, f_intI, f_intB, f_abs, f_tupL, f_tupT, f_isi_s, atI0, atI1, atI2, atI3, List.length_cons, List.length_nil, List.cons_append, List.nil_append, Nat.reduceAdd, Nat.reduceSub, Nat.reduceLeDiff, Nat.reduceEqDiff, Int.reduceAdd, Int.reduceSub, Int.reduceMul, Int.reduceNeg, Int.reduceLT, Int.reduceLE, Int.reduceEq, Int.reduceBEq, Int.reducePow, Int.reduceToNat, Bool.not_true, Bool.not_false, decide_true, decide_false, true_and, and_true, hz, h4, hm, hm2, hr, hlen, h2]
        exact ⟨_, _, _, _, rfl⟩
  obtain ⟨w, z', s', i', h⟩ := key
  exact ⟨_, _, h, ⟨z', s', i', cs, rfl, hc⟩, Int.emod_nonneg _ (by omega), Int.emod_lt_of_pos _ hm⟩

theorem lc_gen {vs : List Nat} {as : As} {t : CT} {c : CF} {r : DE} (keep : D → Bool) (g : D → D) : ∀ ds : List D, (∀ d ∈ ds, ∃ r1, as d r = some r1 ∧ t r1 = .ok (keep d, r1) ∧ (keep d = true → c r1 = .ok (g d, r1)) ∧ clr vs r1 = r) → lcD vs as t c ds r = .ok ((ds.filter keep).map g, r)
  | [], _ => rfl
  | d :: ds, h => by
    obtain ⟨r1, h1, h2, h3, h4⟩ := h d (List.mem_cons_self ..)
    have ih := lc_gen keep g ds fun x hx => h x (List.mem_cons_of_mem _ hx)
    unfold lcD
    rw [h1]
    show (t r1).bind _ = _
    rw [h2]
    show (match keep d with | true => _ | false => _) = _
    cases k : keep d with
    | false =>
      rw [List.filter_cons_of_neg (by rw [k]; simp)]
      show lcD vs as t c ds (clr vs r1) = _
      rw [h4]
      exact ih
    | true =>
      rw [List.filter_cons_of_pos k]
      show (c r1).bind _ = _
      rw [h3 k]
      show (lcD vs as t c ds (clr vs r1)).bind _ = _
      rw [h4, ih]
      rfl
theorem lc_map {vs : List Nat} {as : As} {c : CF} {r : DE} (g : D → D) (ds : List D) (h : ∀ d ∈ ds, ∃ r1, as d r = some r1 ∧ c r1 = .ok (g d, r1) ∧ clr vs r1 = r) : lcD vs as cYes c ds r = .ok (ds.map g, r) := by
  have e := lc_gen (vs := vs) (as := as) (t := cYes) (c := c) (r := r) (fun _ => true) g ds fun d hd => by
    obtain ⟨r1, h1, h2, h3⟩ := h d hd
    exact ⟨r1, h1, rfl, fun _ => h2, h3⟩
  rw [e, List.filter_eq_self.mpr fun _ _ => rfl]
theorem lc_inv {vs : List Nat} {as : As} {c : CF} (Inv : DE → Prop) (El : D → Prop) : ∀ (ds : List D) (r : DE), (∀ d ∈ ds, ∀ r, Inv r → ∃ r1 r2 y, as d r = some r1 ∧ c r1 = .ok (y, r2) ∧ El y ∧ Inv (clr vs r2)) → Inv r →
    ∃ ys r', lcD vs as cYes c ds r = .ok (ys, r') ∧ Inv r' ∧ (∀ y ∈ ys, El y) ∧ ys.length = ds.length
  | [], r, _, hr => ⟨[], r, rfl, hr, fun y hy => absurd hy (by simp), rfl⟩
  | d :: ds, r, h, hr => by
    obtain ⟨r1, r2, y, h1, h2, h3, h4⟩ := h d (List.mem_cons_self ..) r hr
    obtain ⟨ys, r', g1, g2, g3, g4⟩ := lc_inv Inv El ds (clr vs r2) (fun x hx => h x (List.mem_cons_of_mem _ hx)) h4
    refine ⟨y :: ys, r', ?_, g2, fun z hz => ?_, by rw [List.length_cons, List.length_cons, g4]⟩
    · unfold lcD
      rw [h1]
      show (c r1).bind _ = _
      rw [h2]
      show (lcD vs as cYes c ds (clr vs r2)).bind _ = _
      rw [g1]
    · rcases List.mem_cons.mp hz with rfl | hz
      · exact h3
      · exact g3 z hz
/-- a loop that goes through -/
theorem for_inv {a : As} {body : SC} (Inv : DE → Prop) : ∀ (ds : List D) (r : DE), (∀ d ∈ ds, ∀ r, Inv r → ∃ r1 r2, a d r = some r1 ∧ (body r1 = .ok (.nx r2) ∨ body r1 = .ok (.ct r2)) ∧ Inv r2) → Inv r → ∃ r', forD a body ds r = .ok (.nx r') ∧ Inv r'
  | [], r, _, hr => ⟨r, rfl, hr⟩
  | d :: ds, r, h, hr => by
    obtain ⟨r1, r2, h1, h2, h3⟩ := h d (List.mem_cons_self ..) r hr
    obtain ⟨r', g1, g2⟩ := for_inv Inv ds r2 (fun x hx => h x (List.mem_cons_of_mem _ hx)) h3
    refine ⟨r', ?_, g2⟩
    unfold forD
    rw [h1]
    show (body r1).bind _ = _
    rcases h2 with h2 | h2
    · rw [h2]
      exact g1
    · rw [h2]
      exact g1
/-- a loop that tells at the first bad thing -/
theorem for_ret {a : As} {body : SC} (Inv : DE → Prop) (good : D → Bool) (x : Rv) : ∀ (ds : List D) (r : DE), (∀ d ∈ ds, ∀ r, Inv r → ∃ r1 r2, a d r = some r1 ∧ ((good d = true ∧ (body r1 = .ok (.nx r2) ∨ body r1 = .ok (.ct r2)) ∧ Inv r2) ∨ (good d = false ∧ body r1 = .ok (.rt x r2)))) → Inv r →
    ∃ r', (ds.all good = true ∧ forD a body ds r = .ok (.nx r') ∧ Inv r') ∨ (ds.all good = false ∧ forD a body ds r = .ok (.rt x r'))
  | [], r, _, hr => ⟨r, .inl ⟨rfl, rfl, hr⟩⟩
  | d :: ds, r, h, hr => by
    obtain ⟨r1, r2, h1, h2⟩ := h d (List.mem_cons_self ..) r hr
    rcases h2 with ⟨k, h2, h3⟩ | ⟨k, h2⟩
    · obtain ⟨r', g⟩ := for_ret Inv good x ds r2 (fun x hx => h x (List.mem_cons_of_mem _ hx)) h3
      have e : forD a body (d :: ds) r = forD a body ds r2 := by
        show (ofO (a d r)).bind _ = _
        rw [h1]
        show (body r1).bind _ = _
        rcases h2 with h2 | h2
        · rw [h2]
        · rw [h2]
      have e2 : (d :: ds).all good = ds.all good := by rw [List.all_cons, k, Bool.true_and]
      rw [e, e2]
      exact ⟨r', g⟩
    · refine ⟨r2, .inr ⟨by rw [List.all_cons, k, Bool.false_and], ?_⟩⟩
      show (ofO (a d r)).bind _ = _
      rw [h1]
      show (body r1).bind _ = _
      rw [h2]
def c_bag : SC := cRet (cLst (cACons (cFz (cK (.int 0))) (cACons (cFz (cK (.int 1234567891))) (cACons (cFz (cK (.int 0))) (cACons (cFz (cLc [1] (aNm 1) (cIt (cFz (cSl fSl (cNm 0) (cPNone) (cPSome (cK (.int 63)))))) (cYes) (cFz (cCall fAbs (cBCons (cNm 1) (cBNil)))))) (cANil))))))
def r_bag : List D → FOut := runF false 2 c_bag
def absD : D → D
  | .int i => .int (if i < 0 then -i else i)
  | d => d
theorem cut63 (ns : List Int) (h : ns.length ≤ 63) : cutD (ns.map PyData.int) none (some 63) = ns.map .int := by
  unfold cutD
  rw [show HT.sIx (ns.map PyData.int).length 0 none = 0 from rfl, List.drop_zero, Nat.sub_zero]
  refine List.take_of_length_le ?_
  rw [show HT.sIx (ns.map PyData.int).length (ns.map PyData.int).length (some 63) = min 63 (ns.map PyData.int).length from HT.sIx_nat _ _ 63, List.length_map]
  omega
theorem bag_ok {ns : List Int} (h : ns.length ≤ 63) : ∃ b, r_bag [scrD ns] = .ok (.ow b) none ∧ isBag b := by
  refine ⟨bagD 0 1234567891 0 (ns.map fun i => if i < 0 then -i else i), ?_, _, _, _, _, rfl, by rw [List.length_map]; exact h⟩
  unfold r_bag c_bag
  rw [v_run]
  simp only [b_ok, b_no, oo_some, oo_none, g_fr, g_z, g_s, sl_s, sl_fr, sl_ow, sl_io, rv_fr, rv_ow, rv_sl, fz_fr, fz_ow, kCo_, fz_s, fz_zf, fz_zo, om_some, ob_some, om_none, ow_s, ow_ow, ow_io, mu_s, mu_ow, mu_io, st_s, st_so, st_zn, st_zf, st_zo, so_zn, so_zf, so_zo, v_nm, v_nmf, v_nmo, v_nmi, v_k, v_fz, k_fz, v_anil, v_acons, k_a1, k_a2, v_bnil, v_bcons, k_b1, k_b2, v_tup, v_lst, k_tup, k_lst, v_bin, k_o1, k_o2, v_b, v_r, v_un, k_un, v_u, rvs_nil, rvs_cons, v_cons, v_call, k_call, v_l, v_mt, k_mt, v_testOf, k_t, v_truth, k_tr, v_tr, v_kk, tru_b, v_notT, k_nt, v_andT, v_orT, k_at1, k_at0, k_ot1, k_ot0, v_if, k_if1, k_if0, v_and, v_or, v_not, k_and1, k_and0, k_or1, k_or0, k_not, v_chain, k_ch1, k_ch2, v_b', k_ch3t, k_ch3f, v_pn, v_ps, k_p, v_sl, k_s1, k_s2, k_s3, v_s, v_seq, k_snx, k_srt, k_sbk, k_sct, v_ifS, k_ifS1, k_ifS0, v_skip, v_brk, v_cnt, v_exp, v_ret, k_exp, k_ret, v_set, k_set, v_n, v_asg, k_asg, a_nm, a_nil, a_cons, k_as, a_tup, v_par, v_par3, k_par, k_par3, v_setIx, k_x1, v_x1, k_mu, k_x2, v_x2, v_augIx, v_g1, k_g1, v_b2, k_g2, k_g3, v_g3, v_g4, v_aug, v_au, k_au, v_au1, v_au2, v_mut, v_m0, v_m1, k_m, v_m2, v_m3, v_callF, k_cf, v_c2, v_callI, v_i1, k_ci, v_i2, v_i3, v_it, k_it, v_itS, it_l, it_t, it_s, v_R1, k_R1, v_for, k_for, v_lc, k_lc, v_lcT, cl_1s, cl_1z, v_yes, v_fgt, v_frt, v_fnx, f_ff, f_fo, f_tf, f_to, f_fs, f_ts, v_ef, v_eo, st_f, st_t, mf_nil, mf_cons, rep_s, rep_z, f_addI, f_addS, f_addL, f_addT, f_sub, f_mod, f_div, f_mulI, f_mulJ, f_mulM, f_mulS, f_pow, f_neg, f_eqI, f_eqS, f_neI, f_neS, f_ltI, f_leI, f_gtI, f_geI, f_ltS, f_is, f_isnt, f_ixL, f_ixT, a_d, se_0, se_1, se_2, i_add, f_slL, f_slT, f_slS, f_slR, f_lenS, f_lenL, f_lenT, f_intI, f_intB, f_abs, f_tupL, f_tupT, f_isi_s, atI0, atI1, atI2, atI3, List.length_cons, List.length_nil, List.cons_append, List.nil_append, Nat.reduceAdd, Nat.reduceSub, Nat.reduceLeDiff, Nat.reduceEqDiff, Int.reduceAdd, Int.reduceSub, Int.reduceMul, Int.reduceNeg, Int.reduceLT, Int.reduceLE, Int.reduceEq, Int.reduceBEq, Int.reducePow, Int.reduceToNat, Bool.not_true, Bool.not_false, decide_true, decide_false, true_and, and_true, cut63 ns h]
  rw [lc_map absD]
  · simp only [noEx, b_ok, b_no, oo_some, oo_none, g_fr, g_z, g_s, sl_s, sl_fr, sl_ow, sl_io, rv_fr, rv_ow, rv_sl, fz_fr, fz_ow, kCo_, fz_s, fz_zf, fz_zo, om_some, ob_some, om_none, ow_s, ow_ow, ow_io, mu_s, mu_ow, mu_io, st_s, st_so, st_zn, st_zf, st_zo, so_zn, so_zf, so_zo, v_nm, v_nmf, v_nmo, v_nmi, v_k, v_fz, k_fz, v_anil, v_acons, k_a1, k_a2, v_bnil, v_bcons, k_b1, k_b2, v_tup, v_lst, k_tup, k_lst, v_bin, k_o1, k_o2, v_b, v_r, v_un, k_un, v_u, rvs_nil, rvs_cons, v_cons, v_call, k_call, v_l, v_mt, k_mt, v_testOf, k_t, v_truth, k_tr, v_tr, v_kk, tru_b, v_notT, k_nt, v_andT, v_orT, k_at1, k_at0, k_ot1, k_ot0, v_if, k_if1, k_if0, v_and, v_or, v_not, k_and1, k_and0, k_or1, k_or0, k_not, v_chain, k_ch1, k_ch2, v_b', k_ch3t, k_ch3f, v_pn, v_ps, k_p, v_sl, k_s1, k_s2, k_s3, v_s, v_seq, k_snx, k_srt, k_sbk, k_sct, v_ifS, k_ifS1, k_ifS0, v_skip, v_brk, v_cnt, v_exp, v_ret, k_exp, k_ret, v_set, k_set, v_n, v_asg, k_asg, a_nm, a_nil, a_cons, k_as, a_tup, v_par, v_par3, k_par, k_par3, v_setIx, k_x1, v_x1, k_mu, k_x2, v_x2, v_augIx, v_g1, k_g1, v_b2, k_g2, k_g3, v_g3, v_g4, v_aug, v_au, k_au, v_au1, v_au2, v_mut, v_m0, v_m1, k_m, v_m2, v_m3, v_callF, k_cf, v_c2, v_callI, v_i1, k_ci, v_i2, v_i3, v_it, k_it, v_itS, it_l, it_t, it_s, v_R1, k_R1, v_for, k_for, v_lc, k_lc, v_lcT, cl_1s, cl_1z, v_yes, v_fgt, v_frt, v_fnx, f_ff, f_fo, f_tf, f_to, f_fs, f_ts, v_ef, v_eo, st_f, st_t, mf_nil, mf_cons, rep_s, rep_z, f_addI, f_addS, f_addL, f_addT, f_sub, f_mod, f_div, f_mulI, f_mulJ, f_mulM, f_mulS, f_pow, f_neg, f_eqI, f_eqS, f_neI, f_neS, f_ltI, f_leI, f_gtI, f_geI, f_ltS, f_is, f_isnt, f_ixL, f_ixT, a_d, se_0, se_1, se_2, i_add, f_slL, f_slT, f_slS, f_slR, f_lenS, f_lenL, f_lenT, f_intI, f_intB, f_abs, f_tupL, f_tupT, f_isi_s, atI0, atI1, atI2, atI3, List.length_cons, List.length_nil, List.cons_append, List.nil_append, Nat.reduceAdd, Nat.reduceSub, Nat.reduceLeDiff, Nat.reduceEqDiff, Int.reduceAdd, Int.reduceSub, Int.reduceMul, Int.reduceNeg, Int.reduceLT, Int.reduceLE, Int.reduceEq, Int.reduceBEq, Int.reducePow, Int.reduceToNat, Bool.not_true, Bool.not_false, decide_true, decide_false, true_and, and_true, bagD, List.map_map]
    congr 4
  · intro d hd
    obtain ⟨i, _, rfl⟩ := List.mem_map.mp hd
    refine ⟨[.fr (scrD ns), .fr (.int i)], rfl, ?_, rfl⟩
    simp only [b_ok, b_no, oo_some, oo_none, g_fr, g_z, g_s, sl_s, sl_fr, sl_ow, sl_io, rv_fr, rv_ow, rv_sl, fz_fr, fz_ow, kCo_, fz_s, fz_zf, fz_zo, om_some, ob_some, om_none, ow_s, ow_ow, ow_io, mu_s, mu_ow, mu_io, st_s, st_so, st_zn, st_zf, st_zo, so_zn, so_zf, so_zo, v_nm, v_nmf, v_nmo, v_nmi, v_k, v_fz, k_fz, v_anil, v_acons, k_a1, k_a2, v_bnil, v_bcons, k_b1, k_b2, v_tup, v_lst, k_tup, k_lst, v_bin, k_o1, k_o2, v_b, v_r, v_un, k_un, v_u, rvs_nil, rvs_cons, v_cons, v_call, k_call, v_l, v_mt, k_mt, v_testOf, k_t, v_truth, k_tr, v_tr, v_kk, tru_b, v_notT, k_nt, v_andT, v_orT, k_at1, k_at0, k_ot1, k_ot0, v_if, k_if1, k_if0, v_and, v_or, v_not, k_and1, k_and0, k_or1, k_or0, k_not, v_chain, k_ch1, k_ch2, v_b', k_ch3t, k_ch3f, v_pn, v_ps, k_p, v_sl, k_s1, k_s2, k_s3, v_s, v_seq, k_snx, k_srt, k_sbk, k_sct, v_ifS, k_ifS1, k_ifS0, v_skip, v_brk, v_cnt, v_exp, v_ret, k_exp, k_ret, v_set, k_set, v_n, v_asg, k_asg, a_nm, a_nil, a_cons, k_as, a_tup, v_par, v_par3, k_par, k_par3, v_setIx, k_x1, v_x1, k_mu, k_x2, v_x2, v_augIx, v_g1, k_g1, v_b2, k_g2, k_g3, v_g3, v_g4, v_aug, v_au, k_au, v_au1, v_au2, v_mut, v_m0, v_m1, k_m, v_m2, v_m3, v_callF, k_cf, v_c2, v_callI, v_i1, k_ci, v_i2, v_i3, v_it, k_it, v_itS, it_l, it_t, it_s, v_R1, k_R1, v_for, k_for, v_lc, k_lc, v_lcT, cl_1s, cl_1z, v_yes, v_fgt, v_frt, v_fnx, f_ff, f_fo, f_tf, f_to, f_fs, f_ts, v_ef, v_eo, st_f, st_t, mf_nil, mf_cons, rep_s, rep_z, f_addI, f_addS, f_addL, f_addT, f_sub, f_mod, f_div, f_mulI, f_mulJ, f_mulM, f_mulS, f_pow, f_neg, f_eqI, f_eqS, f_neI, f_neS, f_ltI, f_leI, f_gtI, f_geI, f_ltS, f_is, f_isnt, f_ixL, f_ixT, a_d, se_0, se_1, se_2, i_add, f_slL, f_slT, f_slS, f_slR, f_lenS, f_lenL, f_lenT, f_intI, f_intB, f_abs, f_tupL, f_tupT, f_isi_s, atI0, atI1, atI2, atI3, List.length_cons, List.length_nil, List.cons_append, List.nil_append, Nat.reduceAdd, Nat.reduceSub, Nat.reduceLeDiff, Nat.reduceEqDiff, Int.reduceAdd, Int.reduceSub, Int.reduceMul, Int.reduceNeg, Int.reduceLT, Int.reduceLE, Int.reduceEq, Int.reduceBEq, Int.reducePow, Int.reduceToNat, Bool.not_true, Bool.not_false, decide_true, decide_false, true_and, and_true, absD]
def c_one : SC := cRet (cBin fIx (cNm 1) (cCallI 2 r_take 0 (cACons (cFz (cCall fLen (cBCons (cNm 1) (cBNil)))) (cANil))))
def r_one : List D → FOut := runF true 2 c_one
theorem atI_in {α : Type} {xs : List α} {v : Int} (h0 : 0 ≤ v) (h : v < xs.length) : ∃ x, atI xs v = some x ∧ x ∈ xs := by
  have hl : v.toNat < xs.length := by omega
  refine ⟨xs[v.toNat], ?_, List.getElem_mem hl⟩
  unfold atI ixN
  rw [if_pos h0, if_pos h]
  exact List.getElem?_eq_getElem hl
theorem one_ok {b : D} {ts : List D} (hb : isBag b) (h0 : ts ≠ []) (h : ts.length < 1000000) : ∃ x b', r_one [b, .list ts] = .ok (.fr x) (some b') ∧ isBag b' ∧ x ∈ ts := by
  have hl : 0 < ts.length := List.length_pos_iff.mpr h0
  obtain ⟨v, b', h1, h2, h3, h4⟩ := take_ok (m := (ts.length : Nat)) hb (by omega) (by omega)
  obtain ⟨x, h5, h6⟩ := atI_in (xs := ts) h3 h4
  refine ⟨x, b', ?_, h2, h6⟩
  unfold r_one c_one
  rw [v_run]
  simp only [b_ok, b_no, oo_some, oo_none, g_fr, g_z, g_s, sl_s, sl_fr, sl_ow, sl_io, rv_fr, rv_ow, rv_sl, fz_fr, fz_ow, kCo_, fz_s, fz_zf, fz_zo, om_some, ob_some, om_none, ow_s, ow_ow, ow_io, mu_s, mu_ow, mu_io, st_s, st_so, st_zn, st_zf, st_zo, so_zn, so_zf, so_zo, v_nm, v_nmf, v_nmo, v_nmi, v_k, v_fz, k_fz, v_anil, v_acons, k_a1, k_a2, v_bnil, v_bcons, k_b1, k_b2, v_tup, v_lst, k_tup, k_lst, v_bin, k_o1, k_o2, v_b, v_r, v_un, k_un, v_u, rvs_nil, rvs_cons, v_cons, v_call, k_call, v_l, v_mt, k_mt, v_testOf, k_t, v_truth, k_tr, v_tr, v_kk, tru_b, v_notT, k_nt, v_andT, v_orT, k_at1, k_at0, k_ot1, k_ot0, v_if, k_if1, k_if0, v_and, v_or, v_not, k_and1, k_and0, k_or1, k_or0, k_not, v_chain, k_ch1, k_ch2, v_b', k_ch3t, k_ch3f, v_pn, v_ps, k_p, v_sl, k_s1, k_s2, k_s3, v_s, v_seq, k_snx, k_srt, k_sbk, k_sct, v_ifS, k_ifS1, k_ifS0, v_skip, v_brk, v_cnt, v_exp, v_ret, k_exp, k_ret, v_set, k_set, v_n, v_asg, k_asg, a_nm, a_nil, a_cons, k_as, a_tup, v_par, v_par3, k_par, k_par3, v_setIx, k_x1, v_x1, k_mu, k_x2, v_x2, v_augIx, v_g1, k_g1, v_b2, k_g2, k_g3, v_g3, v_g4, v_aug, v_au, k_au, v_au1, v_au2, v_mut, v_m0, v_m1, k_m, v_m2, v_m3, v_callF, k_cf, v_c2, v_callI, v_i1, k_ci, v_i2, v_i3, v_it, k_it, v_itS, it_l, it_t, it_s, v_R1, k_R1, v_for, k_for, v_lc, k_lc, v_lcT, cl_1s, cl_1z, v_yes, v_fgt, v_frt, v_fnx, f_ff, f_fo, f_tf, f_to, f_fs, f_ts, v_ef, v_eo, st_f, st_t, mf_nil, mf_cons, rep_s, rep_z, f_addI, f_addS, f_addL, f_addT, f_sub, f_mod, f_div, f_mulI, f_mulJ, f_mulM, f_mulS, f_pow, f_neg, f_eqI, f_eqS, f_neI, f_neS, f_ltI, f_leI, f_gtI, f_geI, f_ltS, f_is, f_isnt, f_ixL, f_ixT, a_d, se_0, se_1, se_2, i_add, f_slL, f_slT, f_slS, f_slR, f_lenS, f_lenL, f_lenT, f_intI, f_intB, f_abs, f_tupL, f_tupT, f_isi_s, atI0, atI1, atI2, atI3, List.length_cons, List.length_nil, List.cons_append, List.nil_append, Nat.reduceAdd, Nat.reduceSub, Nat.reduceLeDiff, Nat.reduceEqDiff, Int.reduceAdd, Int.reduceSub, Int.reduceMul, Int.reduceNeg, Int.reduceLT, Int.reduceLE, Int.reduceEq, Int.reduceBEq, Int.reducePow, Int.reduceToNat, Bool.not_true, Bool.not_false, decide_true, decide_false, true_and, and_true, h1, h5]
structure okD (n w : Nat) (d : D) : Prop where
  hd : d.hasDict = false
  dp : d.depth ≤ n
  sh : d.showable = true
  lv : d.leavesShort 13 = true
  bk : d.bulk ≤ w
  ly : d.canLay0 = true
theorem okD.up {n w n' w' : Nat} {d : D} (h : okD n w d) (h1 : n ≤ n') (h2 : w ≤ w') : okD n' w' d := ⟨h.hd, Nat.le_trans h.dp h1, h.sh, h.lv, Nat.le_trans h.bk h2, h.ly⟩
theorem ok_none : okD 0 0 .none := ⟨rfl, Nat.le_refl _, rfl, rfl, Nat.le_refl _, rfl⟩
theorem ok_bool (b : Bool) : okD 0 0 (.bool b) := ⟨rfl, Nat.le_refl _, rfl, rfl, Nat.le_refl _, rfl⟩
theorem ok_str {x : Str} (h : sOk x) : okD 0 x.length (.str x) := by
  refine ⟨rfl, Nat.le_refl _, rfl, List.all_eq_true.mpr fun c hc => decide_eq_true (Nat.lt_of_lt_of_le (h.sg c hc) (by decide)), Nat.le_refl _, ?_⟩
  show x.cps.all (· < 0x110000) = true
  rw [Array.all_eq_true']
  exact fun c hc => decide_eq_true (h.sg c (Array.mem_toList_iff.mpr hc))
theorem ok_all {n w : Nat} : ∀ {xs : List D}, (∀ x ∈ xs, okD n w x) → PyData.hasDictAll xs = false ∧ PyData.depthAll xs ≤ n ∧ PyData.showableAll xs = true ∧ PyData.leavesShortAll 13 xs = true ∧ PyData.bulkAll xs ≤ xs.length * (w + 1) ∧ PyData.canLayAll0 xs = true
  | [], _ => ⟨rfl, Nat.zero_le _, rfl, rfl, by simp [PyData.bulkAll], rfl⟩
  | x :: xs, h => by
    obtain ⟨a1, a2, a3, a4, a5, a6⟩ := h x (List.mem_cons_self ..)
    obtain ⟨b1, b2, b3, b4, b5, b6⟩ := ok_all fun y hy => h y (List.mem_cons_of_mem _ hy)
    refine ⟨?_, ?_, ?_, ?_, ?_, ?_⟩
    · show (x.hasDict || PyData.hasDictAll xs) = false
      rw [a1, b1]
      rfl
    · simp only [PyData.depthAll]
      omega
    · show (x.showable && PyData.showableAll xs) = true
      rw [a3, b3]
      rfl
    · show (x.leavesShort 13 && PyData.leavesShortAll 13 xs) = true
      rw [a4, b4]
      rfl
    · show x.bulk + 1 + PyData.bulkAll xs ≤ _
      rw [List.length_cons, Nat.add_mul]
      omega
    · show (x.canLay0 && PyData.canLayAll0 xs) = true
      rw [a6, b6]
      rfl
theorem ok_list {n w : Nat} {xs : List D} (h : ∀ x ∈ xs, okD n w x) : okD (n + 1) (xs.length * (w + 1)) (.list xs) := by
  obtain ⟨b1, b2, b3, b4, b5, b6⟩ := ok_all h
  exact ⟨b1, by simp only [PyData.depth]; omega, b3, b4, b5, b6⟩
theorem ok_tup {n w : Nat} {xs : List D} (h : ∀ x ∈ xs, okD n w x) : okD (n + 1) (xs.length * (w + 1)) (.tuple xs) := by
  obtain ⟨b1, b2, b3, b4, b5, b6⟩ := ok_all h
  exact ⟨b1, by simp only [PyData.depth]; omega, b3, b4, b5, b6⟩
theorem okD.plain {n w : Nat} {d : D} (h : okD n w d) (hn : n ≤ 60) : plainD d = true := by
  unfold plainD
  rw [h.hd, decide_eq_true (Nat.le_trans h.dp hn)]
  rfl
theorem okD.shO {n w : Nat} {d : D} (h : okD n w d) (hn : n ≤ 60) (hw : w ≤ 1048576) : Ed.shO d = some d.shown := by
  unfold Ed.shO
  have e := PyData.shown_fits_bulk (B := 13) (by decide) (by decide) h.lv (Nat.le_trans h.bk hw)
  rw [sizeLine_eq] at e
  rw [h.plain hn, h.sh, decide_eq_true e]
  rfl
def c_alike : SC := cRet (cAnd (cBin fEq (cNm 0) (cNm 1)) (cRepEq (cNm 0) (cNm 1)))
def r_alike : List D → FOut := runF false 2 c_alike
theorem v_repEq {r : DE} {a b : D} {x y : Str} {i j : Nat} (hi : r.getD i .no = .fr a) (hj : r.getD j .no = .fr b) (h1 : shO a = some x) (h2 : shO b = some y) : cRepEq (cNm i) (cNm j) r = .ok (.fr (.bool (decide (x = y))), r) := by
  unfold cRepEq
  rw [v_nm, hi]
  show (ofO ((some a).bind shO)).bind _ = _
  rw [ob_some, h1]
  show (cNm j r).bind _ = _
  rw [v_nm, hj]
  show ofO ((some b).bind fun b => (shO b).map fun y => (Rv.fr (.bool (decide (x = y))), r)) = _
  rw [ob_some, h2]
  rfl
theorem alike_ok {n w : Nat} {d : D} (h : okD n w d) (hn : n ≤ 60) (hw : w ≤ 1048576) : r_alike [d, d] = .ok (.fr (.bool true)) none := by
  have p := h.plain hn
  have s := h.shO hn hw
  have e := SeqAt.eqv_refl d h.ly
  have q := v_repEq (r := [.fr d, .fr d]) (i := 0) (j := 1) rfl rfl s s
  unfold r_alike c_alike
  rw [v_run]
  simp only [b_ok, b_no, oo_some, oo_none, g_fr, g_z, g_s, sl_s, sl_fr, sl_ow, sl_io, rv_fr, rv_ow, rv_sl, fz_fr, fz_ow, kCo_, fz_s, fz_zf, fz_zo, om_some, ob_some, om_none, ow_s, ow_ow, ow_io, mu_s, mu_ow, mu_io, st_s, st_so, st_zn, st_zf, st_zo, so_zn, so_zf, so_zo, v_nm, v_nmf, v_nmo, v_nmi, v_k, v_fz, k_fz, v_anil, v_acons, k_a1, k_a2, v_bnil, v_bcons, k_b1, k_b2, v_tup, v_lst, k_tup, k_lst, v_bin, k_o1, k_o2, v_b, v_r, v_un, k_un, v_u, rvs_nil, rvs_cons, v_cons, v_call, k_call, v_l, v_mt, k_mt, v_testOf, k_t, v_truth, k_tr, v_tr, v_kk, tru_b, v_notT, k_nt, v_andT, v_orT, k_at1, k_at0, k_ot1, k_ot0, v_if, k_if1, k_if0, v_and, v_or, v_not, k_and1, k_and0, k_or1, k_or0, k_not, v_chain, k_ch1, k_ch2, v_b', k_ch3t, k_ch3f, v_pn, v_ps, k_p, v_sl, k_s1, k_s2, k_s3, v_s, v_seq, k_snx, k_srt, k_sbk, k_sct, v_ifS, k_ifS1, k_ifS0, v_skip, v_brk, v_cnt, v_exp, v_ret, k_exp, k_ret, v_set, k_set, v_n, v_asg, k_asg, a_nm, a_nil, a_cons, k_as, a_tup, v_par, v_par3, k_par, k_par3, v_setIx, k_x1, v_x1, k_mu, k_x2, v_x2, v_augIx, v_g1, k_g1, v_b2, k_g2, k_g3, v_g3, v_g4, v_aug, v_au, k_au, v_au1, v_au2, v_mut, v_m0, v_m1, k_m, v_m2, v_m3, v_callF, k_cf, v_c2, v_callI, v_i1, k_ci, v_i2, v_i3, v_it, k_it, v_itS, it_l, it_t, it_s, v_R1, k_R1, v_for, k_for, v_lc, k_lc, v_lcT, cl_1s, cl_1z, v_yes, v_fgt, v_frt, v_fnx, f_ff, f_fo, f_tf, f_to, f_fs, f_ts, v_ef, v_eo, st_f, st_t, mf_nil, mf_cons, rep_s, rep_z, f_addI, f_addS, f_addL, f_addT, f_sub, f_mod, f_div, f_mulI, f_mulJ, f_mulM, f_mulS, f_pow, f_neg, f_eqI, f_eqS, f_neI, f_neS, f_ltI, f_leI, f_gtI, f_geI, f_ltS, f_is, f_isnt, f_ixL, f_ixT, a_d, se_0, se_1, se_2, i_add, f_slL, f_slT, f_slS, f_slR, f_lenS, f_lenL, f_lenT, f_intI, f_intB, f_abs, f_tupL, f_tupT, f_isi_s, atI0, atI1, atI2, atI3, List.length_cons, List.length_nil, List.cons_append, List.nil_append, Nat.reduceAdd, Nat.reduceSub, Nat.reduceLeDiff, Nat.reduceEqDiff, Int.reduceAdd, Int.reduceSub, Int.reduceMul, Int.reduceNeg, Int.reduceLT, Int.reduceLE, Int.reduceEq, Int.reduceBEq, Int.reducePow, Int.reduceToNat, Bool.not_true, Bool.not_false, decide_true, decide_false, true_and, and_true, f_eq _ _ p p, e, q, decide_true]
end Ed
end
section
namespace Ed
open PySem PySem.Spec L2 TL
def c_is_name : SC := cSeq (cIfS (cOrT (cNotT (cTruth (cUn (fIsi "str") (cNm 0)))) (cOrT (cNotT (cTestOf (cChain fLe fLe (cK (.int 1)) (cCall fLen (cBCons (cNm 0) (cBNil))) (cK (.int 20))))) (cTestOf (cBin fNin (cBin fIx (cNm 0) (cK (.int 0))) (cK (.str "abcdefghijklmnopqrstuvwxyz")))))) (cRet (cK (.bool false))) (cSkip)) (cRet (cCall fAll (cBCons (cLc [1] (aNm 1) (cIt (cFz (cNm 0))) (cYes) (cFz (cBin fIn (cNm 1) (cBin fAdd (cBin fAdd (cK (.str "abcdefghijklmnopqrstuvwxyz")) (cK (.str "0123456789"))) (cK (.str "-")))))) (cBNil))))
def r_is_name : List D → FOut := runF false 2 c_is_name
def c_is_path : SC := cRet (cAnd (cUn (fIsi "str") (cNm 0)) (cCall fAll (cBCons (cLc [1] (aNm 1) (cIt (cFz (cMt fSplit (cNm 0) (cBCons (cK (.str "/")) (cBNil))))) (cYes) (cFz (cCallF 1 r_is_name (cACons (cFz (cNm 1)) (cANil))))) (cBNil))))
def r_is_path : List D → FOut := runF false 2 c_is_path
def c_number_behind : SC := cSeq (cSet 2 (cSl fSl (cNm 0) (cPSome (cCall fLen (cBCons (cNm 1) (cBNil)))) (cPNone))) (cSeq (cIfS (cOrT (cTestOf (cBin fNe (cSl fSl (cNm 0) (cPNone) (cPSome (cCall fLen (cBCons (cNm 1) (cBNil))))) (cNm 1))) (cNotT (cTestOf (cChain fLe fLe (cK (.int 1)) (cCall fLen (cBCons (cNm 2) (cBNil))) (cK (.int 19)))))) (cRet (cK .none)) (cSkip)) (cSeq (cIfS (cNotT (cTruth (cCall fAll (cBCons (cLc [3] (aNm 3) (cIt (cFz (cNm 2))) (cYes) (cFz (cBin fIn (cNm 3) (cK (.str "0123456789"))))) (cBNil))))) (cRet (cK .none)) (cSkip)) (cRet (cIf (cAndT (cTestOf (cBin fGt (cCall fLen (cBCons (cNm 2) (cBNil))) (cK (.int 1)))) (cTestOf (cBin fEq (cBin fIx (cNm 2) (cK (.int 0))) (cK (.str "0"))))) (cK .none) (cCall fInt (cBCons (cNm 2) (cBNil)))))))
def r_number_behind : List D → FOut := runF false 4 c_number_behind
def c_is_shelf : SC := cRet (cBin fIsnt (cCallF 2 r_number_behind (cACons (cFz (cNm 0)) (cACons (cFz (cK (.str "store/c"))) (cANil)))) (cK .none))
def r_is_shelf : List D → FOut := runF false 1 c_is_shelf
def c_law_number_of : SC := cSeq (cSet 2 (cSl fSl (cNm 0) (cPSome (cCall fLen (cBCons (cNm 1) (cBNil)))) (cPNone))) (cSeq (cIfS (cOrT (cTestOf (cBin fNe (cSl fSl (cNm 0) (cPNone) (cPSome (cCall fLen (cBCons (cNm 1) (cBNil))))) (cNm 1))) (cOrT (cTestOf (cBin fEq (cNm 2) (cK (.str "")))) (cTestOf (cBin fNe (cLc [3] (aNm 3) (cIt (cFz (cNm 2))) (cTestOf (cBin fNin (cNm 3) (cK (.str "0123456789")))) (cFz (cNm 3))) (cLst (cANil)))))) (cRet (cK .none)) (cSkip)) (cRet (cIf (cTestOf (cBin fEq (cCall fStr (cBCons (cCall fInt (cBCons (cNm 2) (cBNil))) (cBNil))) (cNm 2))) (cCall fInt (cBCons (cNm 2) (cBNil))) (cK .none))))
def r_law_number_of : List D → FOut := runF false 4 c_law_number_of
def c_law_is_name : SC := cSeq (cSet 1 (cK (.str "abcdefghijklmnopqrstuvwxyz"))) (cSeq (cIfS (cOrT (cNotT (cTestOf (cChain fLe fLe (cK (.int 1)) (cCall fLen (cBCons (cNm 0) (cBNil))) (cK (.int 20))))) (cTestOf (cBin fNin (cBin fIx (cNm 0) (cK (.int 0))) (cNm 1)))) (cRet (cK (.bool false))) (cSkip)) (cRet (cBin fEq (cLc [2] (aNm 2) (cIt (cFz (cNm 0))) (cTestOf (cBin fNin (cNm 2) (cBin fAdd (cNm 1) (cK (.str "0123456789-"))))) (cFz (cNm 2))) (cLst (cANil)))))
def r_law_is_name : List D → FOut := runF false 3 c_law_is_name
def c_law_is_path : SC := cRet (cAnd (cUn (fIsi "str") (cNm 0)) (cBin fEq (cLc [1] (aNm 1) (cIt (cFz (cMt fSplit (cNm 0) (cBCons (cK (.str "/")) (cBNil))))) (cNotT (cTruth (cCallF 1 r_law_is_name (cACons (cFz (cNm 1)) (cANil))))) (cFz (cNm 1))) (cLst (cANil))))
def r_law_is_path : List D → FOut := runF false 2 c_law_is_path
def c_law_is_shelf : SC := cRet (cAnd (cUn (fIsi "str") (cNm 0)) (cAnd (cBin fIsnt (cCallF 2 r_law_number_of (cACons (cFz (cNm 0)) (cACons (cFz (cK (.str "store/c"))) (cANil)))) (cK .none)) (cCallF 1 r_law_is_path (cACons (cFz (cNm 0)) (cANil)))))
def r_law_is_shelf : List D → FOut := runF false 1 c_law_is_shelf
def chIn (y : Str) (c : Nat) : Bool := decide (c ∈ tl y)
theorem inS_one (y : Str) (c : Nat) : inS ⟨#[c]⟩ y = chIn y c := StrLaws.found_one y c
theorem f_inC (y : Str) (c : Nat) : fIn (sgn c) (.str y) = some (.fr (.bool (chIn y c))) := by
  rw [← inS_one]
  rfl
theorem f_ninC (y : Str) (c : Nat) : fNin (sgn c) (.str y) = some (.fr (.bool (!chIn y c))) := by
  rw [← inS_one]
  rfl
theorem f_ixS (x : Str) (i : Int) : fIx (.str x) (.int i) = (atI (tl x) i).map fun c => .fr (sgn c) := rfl
theorem len_mkS (l : List Nat) : (mkS l).length = l.length := by rw [len_tl, tl_mkS]
theorem mkS_inj {a b : List Nat} : (mkS a == mkS b) = decide (a = b) := by
  rw [Bool.eq_iff_iff, beq_iff_eq, decide_eq_true_iff]
  exact ⟨fun h => congrArg tl h, fun h => congrArg mkS h⟩
theorem cut_from (x : Str) (n : Nat) : cutS x (some (n : Nat)) none = mkS ((tl x).drop n) := by
  refine ext_tl ?_
  rw [tl_cutS, tl_mkS, HT.sIx_nat, HT.sIx_none, len_tl]
  rcases Nat.le_total n (tl x).length with h | h
  · rw [Nat.min_eq_left h]
    exact List.take_of_length_le (by rw [List.length_drop]; omega)
  · rw [Nat.min_eq_right h, List.drop_length, List.drop_eq_nil_of_le h, List.take_nil]
theorem cut_to (x : Str) (n : Nat) : cutS x none (some (n : Nat)) = mkS ((tl x).take n) := by
  refine ext_tl ?_
  rw [tl_cutS, tl_mkS, HT.sIx_nat, show HT.sIx x.length 0 none = 0 from rfl, List.drop_zero, Nat.sub_zero, len_tl]
  rcases Nat.le_total n (tl x).length with h | h
  · rw [Nat.min_eq_left h]
  · rw [Nat.min_eq_right h, List.take_length, List.take_of_length_le h]
theorem lc_fgen {α : Type} {vs : List Nat} {as : As} {t : CT} {c : CF} {r : DE} (f : α → D) (keep : α → Bool) (g : α → D) : ∀ l : List α, (∀ d ∈ l, ∃ r1, as (f d) r = some r1 ∧ t r1 = .ok (keep d, r1) ∧ (keep d = true → c r1 = .ok (g d, r1)) ∧ clr vs r1 = r) → lcD vs as t c (l.map f) r = .ok ((l.filter keep).map g, r)
  | [], _ => rfl
  | d :: ds, h => by
    obtain ⟨r1, h1, h2, h3, h4⟩ := h d (List.mem_cons_self ..)
    have ih := lc_fgen f keep g ds fun x hx => h x (List.mem_cons_of_mem _ hx)
    rw [List.map_cons]
    unfold lcD
    rw [h1]
    show (t r1).bind _ = _
    rw [h2]
    show (match keep d with | true => _ | false => _) = _
    cases k : keep d with
    | false =>
      rw [List.filter_cons_of_neg (by rw [k]; simp)]
      show lcD vs as t c _ (clr vs r1) = _
      rw [h4]
      exact ih
    | true =>
      rw [List.filter_cons_of_pos k]
      show (c r1).bind _ = _
      rw [h3 k]
      show (lcD vs as t c _ (clr vs r1)).bind _ = _
      rw [h4, ih]
      rfl
theorem lc_fmap {α : Type} {vs : List Nat} {as : As} {c : CF} {r : DE} (f : α → D) (g : α → D) (l : List α) (h : ∀ d ∈ l, ∃ r1, as (f d) r = some r1 ∧ c r1 = .ok (g d, r1) ∧ clr vs r1 = r) : lcD vs as cYes c (l.map f) r = .ok (l.map g, r) := by
  have e := lc_fgen (vs := vs) (as := as) (t := cYes) (c := c) (r := r) f (fun _ => true) g l fun d hd => by
    obtain ⟨r1, h1, h2, h3⟩ := h d hd
    exact ⟨r1, h1, rfl, fun _ => h2, h3⟩
  rw [e, List.filter_eq_self.mpr fun _ _ => rfl]
theorem f_allB {α : Type} (p : α → Bool) (l : List α) : fAll [.list (l.map fun c => .bool (p c))] = some (.fr (.bool (l.all p))) := by
  have e : (l.map fun c => PyData.bool (p c)) = (l.map p).map .bool := by rw [List.map_map]; rfl
  show (blsOf (l.map fun c => PyData.bool (p c))).map _ = _
  rw [e, blsOf_bls, om_some, List.all_map]
  rfl
theorem plain_flat : ∀ {l : List D}, (∀ d ∈ l, d.hasDict = false ∧ d.depth = 0) → PyData.hasDictAll l = false ∧ PyData.depthAll l = 0
  | [], _ => ⟨rfl, rfl⟩
  | d :: l, h => by
    obtain ⟨h1, h2⟩ := h d (List.mem_cons_self ..)
    obtain ⟨h3, h4⟩ := plain_flat fun x hx => h x (List.mem_cons_of_mem _ hx)
    refine ⟨?_, ?_⟩
    · show (d.hasDict || PyData.hasDictAll l) = false
      rw [h1, h3]
      rfl
    · simp only [PyData.depthAll, h2, h4]
      rfl
theorem plain_lst {l : List D} (h : ∀ d ∈ l, d.hasDict = false ∧ d.depth = 0) : plainD (.list l) = true := by
  obtain ⟨h1, h2⟩ := plain_flat h
  unfold plainD
  rw [show (PyData.list l).hasDict = false from h1, show (PyData.list l).depth = 1 by simp only [PyData.depth, h2]]
  rfl
theorem plain_strs {α : Type} (f : α → Str) (l : List α) : plainD (.list (l.map fun a => .str (f a))) = true := plain_lst fun d hd => by
  obtain ⟨a, _, rfl⟩ := List.mem_map.mp hd
  exact ⟨rfl, by simp only [PyData.depth]⟩
theorem f_eqNil {α : Type} (f : α → Str) (l : List α) : fEq (.list (l.map fun a => .str (f a))) (.list []) = some (.fr (.bool l.isEmpty)) := by
  rw [f_eq _ _ (plain_strs f l) rfl]
  cases l <;> rfl
theorem f_neNil {α : Type} (f : α → Str) (l : List α) : fNe (.list (l.map fun a => .str (f a))) (.list []) = some (.fr (.bool (!l.isEmpty))) := by
  rw [f_ne _ _ (plain_strs f l) rfl]
  cases l <;> rfl
theorem filter_none {α : Type} (p : α → Bool) : ∀ l : List α, (l.filter fun c => !p c).isEmpty = l.all p
  | [] => rfl
  | c :: l => by
    cases h : p c with
    | true => rw [List.filter_cons_of_neg (by rw [h]; simp), List.all_cons, h, Bool.true_and]; exact filter_none p l
    | false => rw [List.filter_cons_of_pos (by rw [h]; rfl), List.all_cons, h, Bool.false_and]; rfl
theorem str_ex (x : Str) : ∃ l, x = mkS l := ⟨tl x, rfl⟩
theorem sg_str (c : Nat) : sgn c = .str (mkS [c]) := rfl

abbrev sLT : Str := "abcdefghijklmnopqrstuvwxyz"
abbrev sDG : Str := "0123456789"
abbrev sLD : Str := "abcdefghijklmnopqrstuvwxyz0123456789-"
def nameB (l : List Nat) : Bool := match l with
  | [] => false
  | c :: r => decide (r.length + 1 ≤ 20) && (chIn sLT c && (c :: r).all (chIn sLD))
theorem ld1 : (sLT ++ sDG) ++ ("-" : Str) = sLD := by decide +kernel
theorem ld2 : sLT ++ ("0123456789-" : Str) = sLD := by decide +kernel
theorem sp_is_name (l : List Nat) : r_is_name [.str (mkS l)] = .ok (.fr (.bool (nameB l))) none := by
  unfold r_is_name c_is_name
  rw [v_run]
  cases l with
  | nil =>
    have h1 : ¬ (1 : Int) ≤ ((0 : Nat) : Int) := by decide
    simp only [b_ok, b_no, oo_some, oo_none, g_fr, g_z, g_s, sl_s, sl_fr, sl_ow, sl_io, rv_fr, rv_ow, rv_sl, fz_fr, fz_ow, kCo_, fz_s, fz_zf, fz_zo, om_some, ob_some, om_none, ow_s, ow_ow, ow_io, mu_s, mu_ow, mu_io, st_s, st_so, st_zn, st_zf, st_zo, so_zn, so_zf, so_zo, v_nm, v_nmf, v_nmo, v_nmi, v_k, v_fz, k_fz, v_anil, v_acons, k_a1, k_a2, v_bnil, v_bcons, k_b1, k_b2, v_tup, v_lst, k_tup, k_lst, v_bin, k_o1, k_o2, v_b, v_r, v_un, k_un, v_u, rvs_nil, rvs_cons, v_cons, v_call, k_call, v_l, v_mt, k_mt, v_testOf, k_t, v_truth, k_tr, v_tr, v_kk, tru_b, v_notT, k_nt, v_andT, v_orT, k_at1, k_at0, k_ot1, k_ot0, v_if, k_if1, k_if0, v_and, v_or, v_not, k_and1, k_and0, k_or1, k_or0, k_not, v_chain, k_ch1, k_ch2, v_b', k_ch3t, k_ch3f, v_pn, v_ps, k_p, v_sl, k_s1, k_s2, k_s3, v_s, v_seq, k_snx, k_srt, k_sbk, k_sct, v_ifS, k_ifS1, k_ifS0, v_skip, v_brk, v_cnt, v_exp, v_ret, k_exp, k_ret, v_set, k_set, v_n, v_asg, k_asg, a_nm, a_nil, a_cons, k_as, a_tup, v_par, v_par3, k_par, k_par3, v_setIx, k_x1, v_x1, k_mu, k_x2, v_x2, v_augIx, v_g1, k_g1, v_b2, k_g2, k_g3, v_g3, v_g4, v_aug, v_au, k_au, v_au1, v_au2, v_mut, v_m0, v_m1, k_m, v_m2, v_m3, v_callF, k_cf, v_c2, v_callI, v_i1, k_ci, v_i2, v_i3, v_it, k_it, v_itS, it_l, it_t, it_s, v_R1, k_R1, v_for, k_for, v_lc, k_lc, v_lcT, cl_1s, cl_1z, v_yes, v_fgt, v_frt, v_fnx, f_ff, f_fo, f_tf, f_to, f_fs, f_ts, v_ef, v_eo, st_f, st_t, mf_nil, mf_cons, rep_s, rep_z, f_addI, f_addS, f_addL, f_addT, f_sub, f_mod, f_div, f_mulI, f_mulJ, f_mulM, f_mulS, f_pow, f_neg, f_eqI, f_eqS, f_neI, f_neS, f_ltI, f_leI, f_gtI, f_geI, f_ltS, f_is, f_isnt, f_ixL, f_ixT, a_d, se_0, se_1, se_2, i_add, f_slL, f_slT, f_slS, f_slR, f_lenS, f_lenL, f_lenT, f_intI, f_intB, f_abs, f_tupL, f_tupT, f_isi_s, atI0, atI1, atI2, atI3, List.length_cons, List.length_nil, List.cons_append, List.nil_append, Nat.reduceAdd, Nat.reduceSub, Nat.reduceLeDiff, Nat.reduceEqDiff, Int.reduceAdd, Int.reduceSub, Int.reduceMul, Int.reduceNeg, Int.reduceLT, Int.reduceLE, Int.reduceEq, Int.reduceBEq, Int.reducePow, Int.reduceToNat, Bool.not_true, Bool.not_false, decide_true, decide_false, true_and, and_true, len_mkS, h1, nameB]
  | cons c r =>
    have h1 : (1 : Int) ≤ ((r.length + 1 : Nat) : Int) := by omega
    by_cases h2 : r.length + 1 ≤ 20
    · have h3 : ((r.length + 1 : Nat) : Int) ≤ (20 : Int) := by omega
      cases h4 : chIn sLT c with
      | false => simp only [b_ok, b_no, oo_some, oo_none, g_fr, g_z, g_s, sl_s, sl_fr, sl_ow, sl_io, rv_fr, rv_ow, rv_sl, fz_fr, fz_ow, kCo_, fz_s, fz_zf, fz_zo, om_some, ob_some, om_none, ow_s, ow_ow, ow_io, mu_s, mu_ow, mu_io, st_s, st_so, st_zn, st_zf, st_zo, so_zn, so_zf, so_zo, v_nm, v_nmf, v_nmo, v_nmi, v_k, v_fz, k_fz, v_anil, v_acons, k_a1, k_a2, v_bnil, v_bcons, k_b1, k_b2, v_tup, v_lst, k_tup, k_lst, v_bin, k_o1, k_o2, v_b, v_r, v_un, k_un, v_u, rvs_nil, rvs_cons, v_cons, v_call, k_call, v_l, v_mt, k_mt, v_testOf, k_t, v_truth, k_tr, v_tr, v_kk, tru_b, v_notT, k_nt, v_andT, v_orT, k_at1, k_at0, k_ot1, k_ot0, v_if, k_if1, k_if0, v_and, v_or, v_not, k_and1, k_and0, k_or1, k_or0, k_not, v_chain, k_ch1, k_ch2, v_b', k_ch3t, k_ch3f, v_pn, v_ps, k_p, v_sl, k_s1, k_s2, k_s3, v_s, v_seq, k_snx, k_srt, k_sbk, k_sct, v_ifS, k_ifS1, k_ifS0, v_skip, v_brk, v_cnt, v_exp, v_ret, k_exp, k_ret, v_set, k_set, v_n, v_asg, k_asg, a_nm, a_nil, a_cons, k_as, a_tup, v_par, v_par3, k_par, k_par3, v_setIx, k_x1, v_x1, k_mu, k_x2, v_x2, v_augIx, v_g1, k_g1, v_b2, k_g2, k_g3, v_g3, v_g4, v_aug, v_au, k_au, v_au1, v_au2, v_mut, v_m0, v_m1, k_m, v_m2, v_m3, v_callF, k_cf, v_c2, v_callI, v_i1, k_ci, v_i2, v_i3, v_it, k_it, v_itS, it_l, it_t, it_s, v_R1, k_R1, v_for, k_for, v_lc, k_lc, v_lcT, cl_1s, cl_1z, v_yes, v_fgt, v_frt, v_fnx, f_ff, f_fo, f_tf, f_to, f_fs, f_ts, v_ef, v_eo, st_f, st_t, mf_nil, mf_cons, rep_s, rep_z, f_addI, f_addS, f_addL, f_addT, f_sub, f_mod, f_div, f_mulI, f_mulJ, f_mulM, f_mulS, f_pow, f_neg, f_eqI, f_eqS, f_neI, f_neS, f_ltI, f_leI, f_gtI, f_geI, f_ltS, f_is, f_isnt, f_ixL, f_ixT, a_d, se_0, se_1, se_2, i_add, f_slL, f_slT, f_slS, f_slR, f_lenS, f_lenL, f_lenT, f_intI, f_intB, f_abs, f_tupL, f_tupT, f_isi_s, atI0, atI1, atI2, atI3, List.length_cons, List.length_nil, List.cons_append, List.nil_append, Nat.reduceAdd, Nat.reduceSub, Nat.reduceLeDiff, Nat.reduceEqDiff, Int.reduceAdd, Int.reduceSub, Int.reduceMul, Int.reduceNeg, Int.reduceLT, Int.reduceLE, Int.reduceEq, Int.reduceBEq, Int.reducePow, Int.reduceToNat, Bool.not_true, Bool.not_false, decide_true, decide_false, true_and, and_true, len_mkS, h1, h3, f_ixS, tl_mkS, f_ninC, h4, nameB, h2, Bool.true_and, Bool.false_and]
      | true =>
        simp only [b_ok, b_no, oo_some, oo_none, g_fr, g_z, g_s, sl_s, sl_fr, sl_ow, sl_io, rv_fr, rv_ow, rv_sl, fz_fr, fz_ow, kCo_, fz_s, fz_zf, fz_zo, om_some, ob_some, om_none, ow_s, ow_ow, ow_io, mu_s, mu_ow, mu_io, st_s, st_so, st_zn, st_zf, st_zo, so_zn, so_zf, so_zo, v_nm, v_nmf, v_nmo, v_nmi, v_k, v_fz, k_fz, v_anil, v_acons, k_a1, k_a2, v_bnil, v_bcons, k_b1, k_b2, v_tup, v_lst, k_tup, k_lst, v_bin, k_o1, k_o2, v_b, v_r, v_un, k_un, v_u, rvs_nil, rvs_cons, v_cons, v_call, k_call, v_l, v_mt, k_mt, v_testOf, k_t, v_truth, k_tr, v_tr, v_kk, tru_b, v_notT, k_nt, v_andT, v_orT, k_at1, k_at0, k_ot1, k_ot0, v_if, k_if1, k_if0, v_and, v_or, v_not, k_and1, k_and0, k_or1, k_or0, k_not, v_chain, k_ch1, k_ch2, v_b', k_ch3t, k_ch3f, v_pn, v_ps, k_p, v_sl, k_s1, k_s2, k_s3, v_s, v_seq, k_snx, k_srt, k_sbk, k_sct, v_ifS, k_ifS1, k_ifS0, v_skip, v_brk, v_cnt, v_exp, v_ret, k_exp, k_ret, v_set, k_set, v_n, v_asg, k_asg, a_nm, a_nil, a_cons, k_as, a_tup, v_par, v_par3, k_par, k_par3, v_setIx, k_x1, v_x1, k_mu, k_x2, v_x2, v_augIx, v_g1, k_g1, v_b2, k_g2, k_g3, v_g3, v_g4, v_aug, v_au, k_au, v_au1, v_au2, v_mut, v_m0, v_m1, k_m, v_m2, v_m3, v_callF, k_cf, v_c2, v_callI, v_i1, k_ci, v_i2, v_i3, v_it, k_it, v_itS, it_l, it_t, it_s, v_R1, k_R1, v_for, k_for, v_lc, k_lc, v_lcT, cl_1s, cl_1z, v_yes, v_fgt, v_frt, v_fnx, f_ff, f_fo, f_tf, f_to, f_fs, f_ts, v_ef, v_eo, st_f, st_t, mf_nil, mf_cons, rep_s, rep_z, f_addI, f_addS, f_addL, f_addT, f_sub, f_mod, f_div, f_mulI, f_mulJ, f_mulM, f_mulS, f_pow, f_neg, f_eqI, f_eqS, f_neI, f_neS, f_ltI, f_leI, f_gtI, f_geI, f_ltS, f_is, f_isnt, f_ixL, f_ixT, a_d, se_0, se_1, se_2, i_add, f_slL, f_slT, f_slS, f_slR, f_lenS, f_lenL, f_lenT, f_intI, f_intB, f_abs, f_tupL, f_tupT, f_isi_s, atI0, atI1, atI2, atI3, List.length_cons, List.length_nil, List.cons_append, List.nil_append, Nat.reduceAdd, Nat.reduceSub, Nat.reduceLeDiff, Nat.reduceEqDiff, Int.reduceAdd, Int.reduceSub, Int.reduceMul, Int.reduceNeg, Int.reduceLT, Int.reduceLE, Int.reduceEq, Int.reduceBEq, Int.reducePow, Int.reduceToNat, Bool.not_true, Bool.not_false, decide_true, decide_false, true_and, and_true, len_mkS, h1, h3, f_ixS, tl_mkS, f_ninC, h4]
        rw [lc_fmap sgn (fun c => .bool (chIn sLD c))]
        · simp only [noEx, b_ok, b_no, oo_some, oo_none, g_fr, g_z, g_s, sl_s, sl_fr, sl_ow, sl_io, rv_fr, rv_ow, rv_sl, fz_fr, fz_ow, kCo_, fz_s, fz_zf, fz_zo, om_some, ob_some, om_none, ow_s, ow_ow, ow_io, mu_s, mu_ow, mu_io, st_s, st_so, st_zn, st_zf, st_zo, so_zn, so_zf, so_zo, v_nm, v_nmf, v_nmo, v_nmi, v_k, v_fz, k_fz, v_anil, v_acons, k_a1, k_a2, v_bnil, v_bcons, k_b1, k_b2, v_tup, v_lst, k_tup, k_lst, v_bin, k_o1, k_o2, v_b, v_r, v_un, k_un, v_u, rvs_nil, rvs_cons, v_cons, v_call, k_call, v_l, v_mt, k_mt, v_testOf, k_t, v_truth, k_tr, v_tr, v_kk, tru_b, v_notT, k_nt, v_andT, v_orT, k_at1, k_at0, k_ot1, k_ot0, v_if, k_if1, k_if0, v_and, v_or, v_not, k_and1, k_and0, k_or1, k_or0, k_not, v_chain, k_ch1, k_ch2, v_b', k_ch3t, k_ch3f, v_pn, v_ps, k_p, v_sl, k_s1, k_s2, k_s3, v_s, v_seq, k_snx, k_srt, k_sbk, k_sct, v_ifS, k_ifS1, k_ifS0, v_skip, v_brk, v_cnt, v_exp, v_ret, k_exp, k_ret, v_set, k_set, v_n, v_asg, k_asg, a_nm, a_nil, a_cons, k_as, a_tup, v_par, v_par3, k_par, k_par3, v_setIx, k_x1, v_x1, k_mu, k_x2, v_x2, v_augIx, v_g1, k_g1, v_b2, k_g2, k_g3, v_g3, v_g4, v_aug, v_au, k_au, v_au1, v_au2, v_mut, v_m0, v_m1, k_m, v_m2, v_m3, v_callF, k_cf, v_c2, v_callI, v_i1, k_ci, v_i2, v_i3, v_it, k_it, v_itS, it_l, it_t, it_s, v_R1, k_R1, v_for, k_for, v_lc, k_lc, v_lcT, cl_1s, cl_1z, v_yes, v_fgt, v_frt, v_fnx, f_ff, f_fo, f_tf, f_to, f_fs, f_ts, v_ef, v_eo, st_f, st_t, mf_nil, mf_cons, rep_s, rep_z, f_addI, f_addS, f_addL, f_addT, f_sub, f_mod, f_div, f_mulI, f_mulJ, f_mulM, f_mulS, f_pow, f_neg, f_eqI, f_eqS, f_neI, f_neS, f_ltI, f_leI, f_gtI, f_geI, f_ltS, f_is, f_isnt, f_ixL, f_ixT, a_d, se_0, se_1, se_2, i_add, f_slL, f_slT, f_slS, f_slR, f_lenS, f_lenL, f_lenT, f_intI, f_intB, f_abs, f_tupL, f_tupT, f_isi_s, atI0, atI1, atI2, atI3, List.length_cons, List.length_nil, List.cons_append, List.nil_append, Nat.reduceAdd, Nat.reduceSub, Nat.reduceLeDiff, Nat.reduceEqDiff, Int.reduceAdd, Int.reduceSub, Int.reduceMul, Int.reduceNeg, Int.reduceLT, Int.reduceLE, Int.reduceEq, Int.reduceBEq, Int.reducePow, Int.reduceToNat, Bool.not_true, Bool.not_false, decide_true, decide_false, true_and, and_true, f_allB, nameB, h2, h4, Bool.true_and]
        · intro d _
          refine ⟨[.fr (.str (mkS (c :: r))), .fr (sgn d)], rfl, ?_, rfl⟩
          have e1 : Str.length "abcdefghijklmnopqrstuvwxyz" + Str.length "0123456789" ≤ big := by decide +kernel
          have e2 : ((Str.ofString "abcdefghijklmnopqrstuvwxyz") ++ (Str.ofString "0123456789")).length + Str.length "-" ≤ big := by decide +kernel
          have e3 : Str.ofString "abcdefghijklmnopqrstuvwxyz" ++ Str.ofString "0123456789" ++ Str.ofString "-" = sLD := ld1
          simp only [b_ok, b_no, oo_some, oo_none, g_fr, g_z, g_s, sl_s, sl_fr, sl_ow, sl_io, rv_fr, rv_ow, rv_sl, fz_fr, fz_ow, kCo_, fz_s, fz_zf, fz_zo, om_some, ob_some, om_none, ow_s, ow_ow, ow_io, mu_s, mu_ow, mu_io, st_s, st_so, st_zn, st_zf, st_zo, so_zn, so_zf, so_zo, v_nm, v_nmf, v_nmo, v_nmi, v_k, v_fz, k_fz, v_anil, v_acons, k_a1, k_a2, v_bnil, v_bcons, k_b1, k_b2, v_tup, v_lst, k_tup, k_lst, v_bin, k_o1, k_o2, v_b, v_r, v_un, k_un, v_u, rvs_nil, rvs_cons, v_cons, v_call, k_call, v_l, v_mt, k_mt, v_testOf, k_t, v_truth, k_tr, v_tr, v_kk, tru_b, v_notT, k_nt, v_andT, v_orT, k_at1, k_at0, k_ot1, k_ot0, v_if, k_if1, k_if0, v_and, v_or, v_not, k_and1, k_and0, k_or1, k_or0, k_not, v_chain, k_ch1, k_ch2, v_b', k_ch3t, k_ch3f, v_pn, v_ps, k_p, v_sl, k_s1, k_s2, k_s3, v_s, v_seq, k_snx, k_srt, k_sbk, k_sct, v_ifS, k_ifS1, k_ifS0, v_skip, v_brk, v_cnt, v_exp, v_ret, k_exp, k_ret, v_set, k_set, v_n, v_asg, k_asg, a_nm, a_nil, a_cons, k_as, a_tup, v_par, v_par3, k_par, k_par3, v_setIx, k_x1, v_x1, k_mu, k_x2, v_x2, v_augIx, v_g1, k_g1, v_b2, k_g2, k_g3, v_g3, v_g4, v_aug, v_au, k_au, v_au1, v_au2, v_mut, v_m0, v_m1, k_m, v_m2, v_m3, v_callF, k_cf, v_c2, v_callI, v_i1, k_ci, v_i2, v_i3, v_it, k_it, v_itS, it_l, it_t, it_s, v_R1, k_R1, v_for, k_for, v_lc, k_lc, v_lcT, cl_1s, cl_1z, v_yes, v_fgt, v_frt, v_fnx, f_ff, f_fo, f_tf, f_to, f_fs, f_ts, v_ef, v_eo, st_f, st_t, mf_nil, mf_cons, rep_s, rep_z, f_addI, f_addS, f_addL, f_addT, f_sub, f_mod, f_div, f_mulI, f_mulJ, f_mulM, f_mulS, f_pow, f_neg, f_eqI, f_eqS, f_neI, f_neS, f_ltI, f_leI, f_gtI, f_geI, f_ltS, f_is, f_isnt, f_ixL, f_ixT, a_d, se_0, se_1, se_2, i_add, f_slL, f_slT, f_slS, f_slR, f_lenS, f_lenL, f_lenT, f_intI, f_intB, f_abs, f_tupL, f_tupT, f_isi_s, atI0, atI1, atI2, atI3, List.length_cons, List.length_nil, List.cons_append, List.nil_append, Nat.reduceAdd, Nat.reduceSub, Nat.reduceLeDiff, Nat.reduceEqDiff, Int.reduceAdd, Int.reduceSub, Int.reduceMul, Int.reduceNeg, Int.reduceLT, Int.reduceLE, Int.reduceEq, Int.reduceBEq, Int.reducePow, Int.reduceToNat, Bool.not_true, Bool.not_false, decide_true, decide_false, true_and, and_true, e1, e2, e3, f_inC]
    · have h3 : ¬ ((r.length + 1 : Nat) : Int) ≤ (20 : Int) := by omega
      simp only [b_ok, b_no, oo_some, oo_none, g_fr, g_z, g_s, sl_s, sl_fr, sl_ow, sl_io, rv_fr, rv_ow, rv_sl, fz_fr, fz_ow, kCo_, fz_s, fz_zf, fz_zo, om_some, ob_some, om_none, ow_s, ow_ow, ow_io, mu_s, mu_ow, mu_io, st_s, st_so, st_zn, st_zf, st_zo, so_zn, so_zf, so_zo, v_nm, v_nmf, v_nmo, v_nmi, v_k, v_fz, k_fz, v_anil, v_acons, k_a1, k_a2, v_bnil, v_bcons, k_b1, k_b2, v_tup, v_lst, k_tup, k_lst, v_bin, k_o1, k_o2, v_b, v_r, v_un, k_un, v_u, rvs_nil, rvs_cons, v_cons, v_call, k_call, v_l, v_mt, k_mt, v_testOf, k_t, v_truth, k_tr, v_tr, v_kk, tru_b, v_notT, k_nt, v_andT, v_orT, k_at1, k_at0, k_ot1, k_ot0, v_if, k_if1, k_if0, v_and, v_or, v_not, k_and1, k_and0, k_or1, k_or0, k_not, v_chain, k_ch1, k_ch2, v_b', k_ch3t, k_ch3f, v_pn, v_ps, k_p, v_sl, k_s1, k_s2, k_s3, v_s, v_seq, k_snx, k_srt, k_sbk, k_sct, v_ifS, k_ifS1, k_ifS0, v_skip, v_brk, v_cnt, v_exp, v_ret, k_exp, k_ret, v_set, k_set, v_n, v_asg, k_asg, a_nm, a_nil, a_cons, k_as, a_tup, v_par, v_par3, k_par, k_par3, v_setIx, k_x1, v_x1, k_mu, k_x2, v_x2, v_augIx, v_g1, k_g1, v_b2, k_g2, k_g3, v_g3, v_g4, v_aug, v_au, k_au, v_au1, v_au2, v_mut, v_m0, v_m1, k_m, v_m2, v_m3, v_callF, k_cf, v_c2, v_callI, v_i1, k_ci, v_i2, v_i3, v_it, k_it, v_itS, it_l, it_t, it_s, v_R1, k_R1, v_for, k_for, v_lc, k_lc, v_lcT, cl_1s, cl_1z, v_yes, v_fgt, v_frt, v_fnx, f_ff, f_fo, f_tf, f_to, f_fs, f_ts, v_ef, v_eo, st_f, st_t, mf_nil, mf_cons, rep_s, rep_z, f_addI, f_addS, f_addL, f_addT, f_sub, f_mod, f_div, f_mulI, f_mulJ, f_mulM, f_mulS, f_pow, f_neg, f_eqI, f_eqS, f_neI, f_neS, f_ltI, f_leI, f_gtI, f_geI, f_ltS, f_is, f_isnt, f_ixL, f_ixT, a_d, se_0, se_1, se_2, i_add, f_slL, f_slT, f_slS, f_slR, f_lenS, f_lenL, f_lenT, f_intI, f_intB, f_abs, f_tupL, f_tupT, f_isi_s, atI0, atI1, atI2, atI3, List.length_cons, List.length_nil, List.cons_append, List.nil_append, Nat.reduceAdd, Nat.reduceSub, Nat.reduceLeDiff, Nat.reduceEqDiff, Int.reduceAdd, Int.reduceSub, Int.reduceMul, Int.reduceNeg, Int.reduceLT, Int.reduceLE, Int.reduceEq, Int.reduceBEq, Int.reducePow, Int.reduceToNat, Bool.not_true, Bool.not_false, decide_true, decide_false, true_and, and_true, len_mkS, h1, h3, nameB, h2, Bool.false_and]
theorem f_eqNilS (l : List Nat) : fEq (.list (l.map sgn)) (.list []) = some (.fr (.bool l.isEmpty)) := f_eqNil (fun c => mkS [c]) l
theorem f_neNilS (l : List Nat) : fNe (.list (l.map sgn)) (.list []) = some (.fr (.bool (!l.isEmpty))) := f_neNil (fun c => mkS [c]) l
theorem f_eqNilM (l : List (List Nat)) : fEq (.list (l.map fun w => .str (mkS w))) (.list []) = some (.fr (.bool l.isEmpty)) := f_eqNil mkS l
theorem sp_law_is_name (l : List Nat) : r_law_is_name [.str (mkS l)] = .ok (.fr (.bool (nameB l))) none := by
  unfold r_law_is_name c_law_is_name
  rw [v_run]
  cases l with
  | nil =>
    have h1 : ¬ (1 : Int) ≤ ((0 : Nat) : Int) := by decide
    simp only [b_ok, b_no, oo_some, oo_none, g_fr, g_z, g_s, sl_s, sl_fr, sl_ow, sl_io, rv_fr, rv_ow, rv_sl, fz_fr, fz_ow, kCo_, fz_s, fz_zf, fz_zo, om_some, ob_some, om_none, ow_s, ow_ow, ow_io, mu_s, mu_ow, mu_io, st_s, st_so, st_zn, st_zf, st_zo, so_zn, so_zf, so_zo, v_nm, v_nmf, v_nmo, v_nmi, v_k, v_fz, k_fz, v_anil, v_acons, k_a1, k_a2, v_bnil, v_bcons, k_b1, k_b2, v_tup, v_lst, k_tup, k_lst, v_bin, k_o1, k_o2, v_b, v_r, v_un, k_un, v_u, rvs_nil, rvs_cons, v_cons, v_call, k_call, v_l, v_mt, k_mt, v_testOf, k_t, v_truth, k_tr, v_tr, v_kk, tru_b, v_notT, k_nt, v_andT, v_orT, k_at1, k_at0, k_ot1, k_ot0, v_if, k_if1, k_if0, v_and, v_or, v_not, k_and1, k_and0, k_or1, k_or0, k_not, v_chain, k_ch1, k_ch2, v_b', k_ch3t, k_ch3f, v_pn, v_ps, k_p, v_sl, k_s1, k_s2, k_s3, v_s, v_seq, k_snx, k_srt, k_sbk, k_sct, v_ifS, k_ifS1, k_ifS0, v_skip, v_brk, v_cnt, v_exp, v_ret, k_exp, k_ret, v_set, k_set, v_n, v_asg, k_asg, a_nm, a_nil, a_cons, k_as, a_tup, v_par, v_par3, k_par, k_par3, v_setIx, k_x1, v_x1, k_mu, k_x2, v_x2, v_augIx, v_g1, k_g1, v_b2, k_g2, k_g3, v_g3, v_g4, v_aug, v_au, k_au, v_au1, v_au2, v_mut, v_m0, v_m1, k_m, v_m2, v_m3, v_callF, k_cf, v_c2, v_callI, v_i1, k_ci, v_i2, v_i3, v_it, k_it, v_itS, it_l, it_t, it_s, v_R1, k_R1, v_for, k_for, v_lc, k_lc, v_lcT, cl_1s, cl_1z, v_yes, v_fgt, v_frt, v_fnx, f_ff, f_fo, f_tf, f_to, f_fs, f_ts, v_ef, v_eo, st_f, st_t, mf_nil, mf_cons, rep_s, rep_z, f_addI, f_addS, f_addL, f_addT, f_sub, f_mod, f_div, f_mulI, f_mulJ, f_mulM, f_mulS, f_pow, f_neg, f_eqI, f_eqS, f_neI, f_neS, f_ltI, f_leI, f_gtI, f_geI, f_ltS, f_is, f_isnt, f_ixL, f_ixT, a_d, se_0, se_1, se_2, i_add, f_slL, f_slT, f_slS, f_slR, f_lenS, f_lenL, f_lenT, f_intI, f_intB, f_abs, f_tupL, f_tupT, f_isi_s, atI0, atI1, atI2, atI3, List.length_cons, List.length_nil, List.cons_append, List.nil_append, Nat.reduceAdd, Nat.reduceSub, Nat.reduceLeDiff, Nat.reduceEqDiff, Int.reduceAdd, Int.reduceSub, Int.reduceMul, Int.reduceNeg, Int.reduceLT, Int.reduceLE, Int.reduceEq, Int.reduceBEq, Int.reducePow, Int.reduceToNat, Bool.not_true, Bool.not_false, decide_true, decide_false, true_and, and_true, len_mkS, h1, nameB]
  | cons c r =>
    have h1 : (1 : Int) ≤ ((r.length + 1 : Nat) : Int) := by omega
    by_cases h2 : r.length + 1 ≤ 20
    · have h3 : ((r.length + 1 : Nat) : Int) ≤ (20 : Int) := by omega
      cases h4 : chIn sLT c with
      | false => simp only [b_ok, b_no, oo_some, oo_none, g_fr, g_z, g_s, sl_s, sl_fr, sl_ow, sl_io, rv_fr, rv_ow, rv_sl, fz_fr, fz_ow, kCo_, fz_s, fz_zf, fz_zo, om_some, ob_some, om_none, ow_s, ow_ow, ow_io, mu_s, mu_ow, mu_io, st_s, st_so, st_zn, st_zf, st_zo, so_zn, so_zf, so_zo, v_nm, v_nmf, v_nmo, v_nmi, v_k, v_fz, k_fz, v_anil, v_acons, k_a1, k_a2, v_bnil, v_bcons, k_b1, k_b2, v_tup, v_lst, k_tup, k_lst, v_bin, k_o1, k_o2, v_b, v_r, v_un, k_un, v_u, rvs_nil, rvs_cons, v_cons, v_call, k_call, v_l, v_mt, k_mt, v_testOf, k_t, v_truth, k_tr, v_tr, v_kk, tru_b, v_notT, k_nt, v_andT, v_orT, k_at1, k_at0, k_ot1, k_ot0, v_if, k_if1, k_if0, v_and, v_or, v_not, k_and1, k_and0, k_or1, k_or0, k_not, v_chain, k_ch1, k_ch2, v_b', k_ch3t, k_ch3f, v_pn, v_ps, k_p, v_sl, k_s1, k_s2, k_s3, v_s, v_seq, k_snx, k_srt, k_sbk, k_sct, v_ifS, k_ifS1, k_ifS0, v_skip, v_brk, v_cnt, v_exp, v_ret, k_exp, k_ret, v_set, k_set, v_n, v_asg, k_asg, a_nm, a_nil, a_cons, k_as, a_tup, v_par, v_par3, k_par, k_par3, v_setIx, k_x1, v_x1, k_mu, k_x2, v_x2, v_augIx, v_g1, k_g1, v_b2, k_g2, k_g3, v_g3, v_g4, v_aug, v_au, k_au, v_au1, v_au2, v_mut, v_m0, v_m1, k_m, v_m2, v_m3, v_callF, k_cf, v_c2, v_callI, v_i1, k_ci, v_i2, v_i3, v_it, k_it, v_itS, it_l, it_t, it_s, v_R1, k_R1, v_for, k_for, v_lc, k_lc, v_lcT, cl_1s, cl_1z, v_yes, v_fgt, v_frt, v_fnx, f_ff, f_fo, f_tf, f_to, f_fs, f_ts, v_ef, v_eo, st_f, st_t, mf_nil, mf_cons, rep_s, rep_z, f_addI, f_addS, f_addL, f_addT, f_sub, f_mod, f_div, f_mulI, f_mulJ, f_mulM, f_mulS, f_pow, f_neg, f_eqI, f_eqS, f_neI, f_neS, f_ltI, f_leI, f_gtI, f_geI, f_ltS, f_is, f_isnt, f_ixL, f_ixT, a_d, se_0, se_1, se_2, i_add, f_slL, f_slT, f_slS, f_slR, f_lenS, f_lenL, f_lenT, f_intI, f_intB, f_abs, f_tupL, f_tupT, f_isi_s, atI0, atI1, atI2, atI3, List.length_cons, List.length_nil, List.cons_append, List.nil_append, Nat.reduceAdd, Nat.reduceSub, Nat.reduceLeDiff, Nat.reduceEqDiff, Int.reduceAdd, Int.reduceSub, Int.reduceMul, Int.reduceNeg, Int.reduceLT, Int.reduceLE, Int.reduceEq, Int.reduceBEq, Int.reducePow, Int.reduceToNat, Bool.not_true, Bool.not_false, decide_true, decide_false, true_and, and_true, len_mkS, h1, h3, f_ixS, tl_mkS, f_ninC, h4, nameB, h2, Bool.true_and, Bool.false_and]
      | true =>
        simp only [b_ok, b_no, oo_some, oo_none, g_fr, g_z, g_s, sl_s, sl_fr, sl_ow, sl_io, rv_fr, rv_ow, rv_sl, fz_fr, fz_ow, kCo_, fz_s, fz_zf, fz_zo, om_some, ob_some, om_none, ow_s, ow_ow, ow_io, mu_s, mu_ow, mu_io, st_s, st_so, st_zn, st_zf, st_zo, so_zn, so_zf, so_zo, v_nm, v_nmf, v_nmo, v_nmi, v_k, v_fz, k_fz, v_anil, v_acons, k_a1, k_a2, v_bnil, v_bcons, k_b1, k_b2, v_tup, v_lst, k_tup, k_lst, v_bin, k_o1, k_o2, v_b, v_r, v_un, k_un, v_u, rvs_nil, rvs_cons, v_cons, v_call, k_call, v_l, v_mt, k_mt, v_testOf, k_t, v_truth, k_tr, v_tr, v_kk, tru_b, v_notT, k_nt, v_andT, v_orT, k_at1, k_at0, k_ot1, k_ot0, v_if, k_if1, k_if0, v_and, v_or, v_not, k_and1, k_and0, k_or1, k_or0, k_not, v_chain, k_ch1, k_ch2, v_b', k_ch3t, k_ch3f, v_pn, v_ps, k_p, v_sl, k_s1, k_s2, k_s3, v_s, v_seq, k_snx, k_srt, k_sbk, k_sct, v_ifS, k_ifS1, k_ifS0, v_skip, v_brk, v_cnt, v_exp, v_ret, k_exp, k_ret, v_set, k_set, v_n, v_asg, k_asg, a_nm, a_nil, a_cons, k_as, a_tup, v_par, v_par3, k_par, k_par3, v_setIx, k_x1, v_x1, k_mu, k_x2, v_x2, v_augIx, v_g1, k_g1, v_b2, k_g2, k_g3, v_g3, v_g4, v_aug, v_au, k_au, v_au1, v_au2, v_mut, v_m0, v_m1, k_m, v_m2, v_m3, v_callF, k_cf, v_c2, v_callI, v_i1, k_ci, v_i2, v_i3, v_it, k_it, v_itS, it_l, it_t, it_s, v_R1, k_R1, v_for, k_for, v_lc, k_lc, v_lcT, cl_1s, cl_1z, v_yes, v_fgt, v_frt, v_fnx, f_ff, f_fo, f_tf, f_to, f_fs, f_ts, v_ef, v_eo, st_f, st_t, mf_nil, mf_cons, rep_s, rep_z, f_addI, f_addS, f_addL, f_addT, f_sub, f_mod, f_div, f_mulI, f_mulJ, f_mulM, f_mulS, f_pow, f_neg, f_eqI, f_eqS, f_neI, f_neS, f_ltI, f_leI, f_gtI, f_geI, f_ltS, f_is, f_isnt, f_ixL, f_ixT, a_d, se_0, se_1, se_2, i_add, f_slL, f_slT, f_slS, f_slR, f_lenS, f_lenL, f_lenT, f_intI, f_intB, f_abs, f_tupL, f_tupT, f_isi_s, atI0, atI1, atI2, atI3, List.length_cons, List.length_nil, List.cons_append, List.nil_append, Nat.reduceAdd, Nat.reduceSub, Nat.reduceLeDiff, Nat.reduceEqDiff, Int.reduceAdd, Int.reduceSub, Int.reduceMul, Int.reduceNeg, Int.reduceLT, Int.reduceLE, Int.reduceEq, Int.reduceBEq, Int.reducePow, Int.reduceToNat, Bool.not_true, Bool.not_false, decide_true, decide_false, true_and, and_true, len_mkS, h1, h3, f_ixS, tl_mkS, f_ninC, h4]
        rw [lc_fgen sgn (fun c => !chIn sLD c) sgn]
        · simp only [noEx, b_ok, b_no, oo_some, oo_none, g_fr, g_z, g_s, sl_s, sl_fr, sl_ow, sl_io, rv_fr, rv_ow, rv_sl, fz_fr, fz_ow, kCo_, fz_s, fz_zf, fz_zo, om_some, ob_some, om_none, ow_s, ow_ow, ow_io, mu_s, mu_ow, mu_io, st_s, st_so, st_zn, st_zf, st_zo, so_zn, so_zf, so_zo, v_nm, v_nmf, v_nmo, v_nmi, v_k, v_fz, k_fz, v_anil, v_acons, k_a1, k_a2, v_bnil, v_bcons, k_b1, k_b2, v_tup, v_lst, k_tup, k_lst, v_bin, k_o1, k_o2, v_b, v_r, v_un, k_un, v_u, rvs_nil, rvs_cons, v_cons, v_call, k_call, v_l, v_mt, k_mt, v_testOf, k_t, v_truth, k_tr, v_tr, v_kk, tru_b, v_notT, k_nt, v_andT, v_orT, k_at1, k_at0, k_ot1, k_ot0, v_if, k_if1, k_if0, v_and, v_or, v_not, k_and1, k_and0, k_or1, k_or0, k_not, v_chain, k_ch1, k_ch2, v_b', k_ch3t, k_ch3f, v_pn, v_ps, k_p, v_sl, k_s1, k_s2, k_s3, v_s, v_seq, k_snx, k_srt, k_sbk, k_sct, v_ifS, k_ifS1, k_ifS0, v_skip, v_brk, v_cnt, v_exp, v_ret, k_exp, k_ret, v_set, k_set, v_n, v_asg, k_asg, a_nm, a_nil, a_cons, k_as, a_tup, v_par, v_par3, k_par, k_par3, v_setIx, k_x1, v_x1, k_mu, k_x2, v_x2, v_augIx, v_g1, k_g1, v_b2, k_g2, k_g3, v_g3, v_g4, v_aug, v_au, k_au, v_au1, v_au2, v_mut, v_m0, v_m1, k_m, v_m2, v_m3, v_callF, k_cf, v_c2, v_callI, v_i1, k_ci, v_i2, v_i3, v_it, k_it, v_itS, it_l, it_t, it_s, v_R1, k_R1, v_for, k_for, v_lc, k_lc, v_lcT, cl_1s, cl_1z, v_yes, v_fgt, v_frt, v_fnx, f_ff, f_fo, f_tf, f_to, f_fs, f_ts, v_ef, v_eo, st_f, st_t, mf_nil, mf_cons, rep_s, rep_z, f_addI, f_addS, f_addL, f_addT, f_sub, f_mod, f_div, f_mulI, f_mulJ, f_mulM, f_mulS, f_pow, f_neg, f_eqI, f_eqS, f_neI, f_neS, f_ltI, f_leI, f_gtI, f_geI, f_ltS, f_is, f_isnt, f_ixL, f_ixT, a_d, se_0, se_1, se_2, i_add, f_slL, f_slT, f_slS, f_slR, f_lenS, f_lenL, f_lenT, f_intI, f_intB, f_abs, f_tupL, f_tupT, f_isi_s, atI0, atI1, atI2, atI3, List.length_cons, List.length_nil, List.cons_append, List.nil_append, Nat.reduceAdd, Nat.reduceSub, Nat.reduceLeDiff, Nat.reduceEqDiff, Int.reduceAdd, Int.reduceSub, Int.reduceMul, Int.reduceNeg, Int.reduceLT, Int.reduceLE, Int.reduceEq, Int.reduceBEq, Int.reducePow, Int.reduceToNat, Bool.not_true, Bool.not_false, decide_true, decide_false, true_and, and_true, f_eqNilS, nameB, h2, h4, Bool.true_and, filter_none]
        · intro d _
          refine ⟨[.fr (.str (mkS (c :: r))), .fr (.str sLT), .fr (sgn d)], rfl, ?_, fun _ => ?_, rfl⟩
          · have e1 : Str.length "abcdefghijklmnopqrstuvwxyz" + Str.length "0123456789-" ≤ big := by decide +kernel
            have e3 : Str.ofString "abcdefghijklmnopqrstuvwxyz" ++ Str.ofString "0123456789-" = sLD := ld2
            simp only [b_ok, b_no, oo_some, oo_none, g_fr, g_z, g_s, sl_s, sl_fr, sl_ow, sl_io, rv_fr, rv_ow, rv_sl, fz_fr, fz_ow, kCo_, fz_s, fz_zf, fz_zo, om_some, ob_some, om_none, ow_s, ow_ow, ow_io, mu_s, mu_ow, mu_io, st_s, st_so, st_zn, st_zf, st_zo, so_zn, so_zf, so_zo, v_nm, v_nmf, v_nmo, v_nmi, v_k, v_fz, k_fz, v_anil, v_acons, k_a1, k_a2, v_bnil, v_bcons, k_b1, k_b2, v_tup, v_lst, k_tup, k_lst, v_bin, k_o1, k_o2, v_b, v_r, v_un, k_un, v_u, rvs_nil, rvs_cons, v_cons, v_call, k_call, v_l, v_mt, k_mt, v_testOf, k_t, v_truth, k_tr, v_tr, v_kk, tru_b, v_notT, k_nt, v_andT, v_orT, k_at1, k_at0, k_ot1, k_ot0, v_if, k_if1, k_if0, v_and, v_or, v_not, k_and1, k_and0, k_or1, k_or0, k_not, v_chain, k_ch1, k_ch2, v_b', k_ch3t, k_ch3f, v_pn, v_ps, k_p, v_sl, k_s1, k_s2, k_s3, v_s, v_seq, k_snx, k_srt, k_sbk, k_sct, v_ifS, k_ifS1, k_ifS0, v_skip, v_brk, v_cnt, v_exp, v_ret, k_exp, k_ret, v_set, k_set, v_n, v_asg, k_asg, a_nm, a_nil, a_cons, k_as, a_tup, v_par, v_par3, k_par, k_par3, v_setIx, k_x1, v_x1, k_mu, k_x2, v_x2, v_augIx, v_g1, k_g1, v_b2, k_g2, k_g3, v_g3, v_g4, v_aug, v_au, k_au, v_au1, v_au2, v_mut, v_m0, v_m1, k_m, v_m2, v_m3, v_callF, k_cf, v_c2, v_callI, v_i1, k_ci, v_i2, v_i3, v_it, k_it, v_itS, it_l, it_t, it_s, v_R1, k_R1, v_for, k_for, v_lc, k_lc, v_lcT, cl_1s, cl_1z, v_yes, v_fgt, v_frt, v_fnx, f_ff, f_fo, f_tf, f_to, f_fs, f_ts, v_ef, v_eo, st_f, st_t, mf_nil, mf_cons, rep_s, rep_z, f_addI, f_addS, f_addL, f_addT, f_sub, f_mod, f_div, f_mulI, f_mulJ, f_mulM, f_mulS, f_pow, f_neg, f_eqI, f_eqS, f_neI, f_neS, f_ltI, f_leI, f_gtI, f_geI, f_ltS, f_is, f_isnt, f_ixL, f_ixT, a_d, se_0, se_1, se_2, i_add, f_slL, f_slT, f_slS, f_slR, f_lenS, f_lenL, f_lenT, f_intI, f_intB, f_abs, f_tupL, f_tupT, f_isi_s, atI0, atI1, atI2, atI3, List.length_cons, List.length_nil, List.cons_append, List.nil_append, Nat.reduceAdd, Nat.reduceSub, Nat.reduceLeDiff, Nat.reduceEqDiff, Int.reduceAdd, Int.reduceSub, Int.reduceMul, Int.reduceNeg, Int.reduceLT, Int.reduceLE, Int.reduceEq, Int.reduceBEq, Int.reducePow, Int.reduceToNat, Bool.not_true, Bool.not_false, decide_true, decide_false, true_and, and_true, e1, e3, f_ninC]
          · simp only [b_ok, b_no, oo_some, oo_none, g_fr, g_z, g_s, sl_s, sl_fr, sl_ow, sl_io, rv_fr, rv_ow, rv_sl, fz_fr, fz_ow, kCo_, fz_s, fz_zf, fz_zo, om_some, ob_some, om_none, ow_s, ow_ow, ow_io, mu_s, mu_ow, mu_io, st_s, st_so, st_zn, st_zf, st_zo, so_zn, so_zf, so_zo, v_nm, v_nmf, v_nmo, v_nmi, v_k, v_fz, k_fz, v_anil, v_acons, k_a1, k_a2, v_bnil, v_bcons, k_b1, k_b2, v_tup, v_lst, k_tup, k_lst, v_bin, k_o1, k_o2, v_b, v_r, v_un, k_un, v_u, rvs_nil, rvs_cons, v_cons, v_call, k_call, v_l, v_mt, k_mt, v_testOf, k_t, v_truth, k_tr, v_tr, v_kk, tru_b, v_notT, k_nt, v_andT, v_orT, k_at1, k_at0, k_ot1, k_ot0, v_if, k_if1, k_if0, v_and, v_or, v_not, k_and1, k_and0, k_or1, k_or0, k_not, v_chain, k_ch1, k_ch2, v_b', k_ch3t, k_ch3f, v_pn, v_ps, k_p, v_sl, k_s1, k_s2, k_s3, v_s, v_seq, k_snx, k_srt, k_sbk, k_sct, v_ifS, k_ifS1, k_ifS0, v_skip, v_brk, v_cnt, v_exp, v_ret, k_exp, k_ret, v_set, k_set, v_n, v_asg, k_asg, a_nm, a_nil, a_cons, k_as, a_tup, v_par, v_par3, k_par, k_par3, v_setIx, k_x1, v_x1, k_mu, k_x2, v_x2, v_augIx, v_g1, k_g1, v_b2, k_g2, k_g3, v_g3, v_g4, v_aug, v_au, k_au, v_au1, v_au2, v_mut, v_m0, v_m1, k_m, v_m2, v_m3, v_callF, k_cf, v_c2, v_callI, v_i1, k_ci, v_i2, v_i3, v_it, k_it, v_itS, it_l, it_t, it_s, v_R1, k_R1, v_for, k_for, v_lc, k_lc, v_lcT, cl_1s, cl_1z, v_yes, v_fgt, v_frt, v_fnx, f_ff, f_fo, f_tf, f_to, f_fs, f_ts, v_ef, v_eo, st_f, st_t, mf_nil, mf_cons, rep_s, rep_z, f_addI, f_addS, f_addL, f_addT, f_sub, f_mod, f_div, f_mulI, f_mulJ, f_mulM, f_mulS, f_pow, f_neg, f_eqI, f_eqS, f_neI, f_neS, f_ltI, f_leI, f_gtI, f_geI, f_ltS, f_is, f_isnt, f_ixL, f_ixT, a_d, se_0, se_1, se_2, i_add, f_slL, f_slT, f_slS, f_slR, f_lenS, f_lenL, f_lenT, f_intI, f_intB, f_abs, f_tupL, f_tupT, f_isi_s, atI0, atI1, atI2, atI3, List.length_cons, List.length_nil, List.cons_append, List.nil_append, Nat.reduceAdd, Nat.reduceSub, Nat.reduceLeDiff, Nat.reduceEqDiff, Int.reduceAdd, Int.reduceSub, Int.reduceMul, Int.reduceNeg, Int.reduceLT, Int.reduceLE, Int.reduceEq, Int.reduceBEq, Int.reducePow, Int.reduceToNat, Bool.not_true, Bool.not_false, decide_true, decide_false, true_and, and_true]
    · have h3 : ¬ ((r.length + 1 : Nat) : Int) ≤ (20 : Int) := by omega
      simp only [b_ok, b_no, oo_some, oo_none, g_fr, g_z, g_s, sl_s, sl_fr, sl_ow, sl_io, rv_fr, rv_ow, rv_sl, fz_fr, fz_ow, kCo_, fz_s, fz_zf, fz_zo, om_some, ob_some, om_none, ow_s, ow_ow, ow_io, mu_s, mu_ow, mu_io, st_s, st_so, st_zn, st_zf, st_zo, so_zn, so_zf, so_zo, v_nm, v_nmf, v_nmo, v_nmi, v_k, v_fz, k_fz, v_anil, v_acons, k_a1, k_a2, v_bnil, v_bcons, k_b1, k_b2, v_tup, v_lst, k_tup, k_lst, v_bin, k_o1, k_o2, v_b, v_r, v_un, k_un, v_u, rvs_nil, rvs_cons, v_cons, v_call, k_call, v_l, v_mt, k_mt, v_testOf, k_t, v_truth, k_tr, v_tr, v_kk, tru_b, v_notT, k_nt, v_andT, v_orT, k_at1, k_at0, k_ot1, k_ot0, v_if, k_if1, k_if0, v_and, v_or, v_not, k_and1, k_and0, k_or1, k_or0, k_not, v_chain, k_ch1, k_ch2, v_b', k_ch3t, k_ch3f, v_pn, v_ps, k_p, v_sl, k_s1, k_s2, k_s3, v_s, v_seq, k_snx, k_srt, k_sbk, k_sct, v_ifS, k_ifS1, k_ifS0, v_skip, v_brk, v_cnt, v_exp, v_ret, k_exp, k_ret, v_set, k_set, v_n, v_asg, k_asg, a_nm, a_nil, a_cons, k_as, a_tup, v_par, v_par3, k_par, k_par3, v_setIx, k_x1, v_x1, k_mu, k_x2, v_x2, v_augIx, v_g1, k_g1, v_b2, k_g2, k_g3, v_g3, v_g4, v_aug, v_au, k_au, v_au1, v_au2, v_mut, v_m0, v_m1, k_m, v_m2, v_m3, v_callF, k_cf, v_c2, v_callI, v_i1, k_ci, v_i2, v_i3, v_it, k_it, v_itS, it_l, it_t, it_s, v_R1, k_R1, v_for, k_for, v_lc, k_lc, v_lcT, cl_1s, cl_1z, v_yes, v_fgt, v_frt, v_fnx, f_ff, f_fo, f_tf, f_to, f_fs, f_ts, v_ef, v_eo, st_f, st_t, mf_nil, mf_cons, rep_s, rep_z, f_addI, f_addS, f_addL, f_addT, f_sub, f_mod, f_div, f_mulI, f_mulJ, f_mulM, f_mulS, f_pow, f_neg, f_eqI, f_eqS, f_neI, f_neS, f_ltI, f_leI, f_gtI, f_geI, f_ltS, f_is, f_isnt, f_ixL, f_ixT, a_d, se_0, se_1, se_2, i_add, f_slL, f_slT, f_slS, f_slR, f_lenS, f_lenL, f_lenT, f_intI, f_intB, f_abs, f_tupL, f_tupT, f_isi_s, atI0, atI1, atI2, atI3, List.length_cons, List.length_nil, List.cons_append, List.nil_append, Nat.reduceAdd, Nat.reduceSub, Nat.reduceLeDiff, Nat.reduceEqDiff, Int.reduceAdd, Int.reduceSub, Int.reduceMul, Int.reduceNeg, Int.reduceLT, Int.reduceLE, Int.reduceEq, Int.reduceBEq, Int.reducePow, Int.reduceToNat, Bool.not_true, Bool.not_false, decide_true, decide_false, true_and, and_true, len_mkS, h1, h3, nameB, h2, Bool.false_and]

theorem sp_slash (l : List Nat) : fSplit (mkS l) [.str "/"] = some (.ow (.list ((spl [47] 0 [] l).map fun w => .str (mkS w)))) := if_pos (by decide +kernel)
theorem sp_blank (l : List Nat) : fSplit (mkS l) [.str " "] = some (.ow (.list ((spl [32] 0 [] l).map fun w => .str (mkS w)))) := if_pos (by decide +kernel)
theorem sp_lf (l : List Nat) : fSplit (mkS l) [.str "\n"] = some (.ow (.list ((spl [10] 0 [] l).map fun w => .str (mkS w)))) := if_pos (by decide +kernel)
def pathB (l : List Nat) : Bool := (spl [47] 0 [] l).all nameB
theorem sp_is_path (l : List Nat) : r_is_path [.str (mkS l)] = .ok (.fr (.bool (pathB l))) none := by
  unfold r_is_path c_is_path
  rw [v_run]
  simp only [b_ok, b_no, oo_some, oo_none, g_fr, g_z, g_s, sl_s, sl_fr, sl_ow, sl_io, rv_fr, rv_ow, rv_sl, fz_fr, fz_ow, kCo_, fz_s, fz_zf, fz_zo, om_some, ob_some, om_none, ow_s, ow_ow, ow_io, mu_s, mu_ow, mu_io, st_s, st_so, st_zn, st_zf, st_zo, so_zn, so_zf, so_zo, v_nm, v_nmf, v_nmo, v_nmi, v_k, v_fz, k_fz, v_anil, v_acons, k_a1, k_a2, v_bnil, v_bcons, k_b1, k_b2, v_tup, v_lst, k_tup, k_lst, v_bin, k_o1, k_o2, v_b, v_r, v_un, k_un, v_u, rvs_nil, rvs_cons, v_cons, v_call, k_call, v_l, v_mt, k_mt, v_testOf, k_t, v_truth, k_tr, v_tr, v_kk, tru_b, v_notT, k_nt, v_andT, v_orT, k_at1, k_at0, k_ot1, k_ot0, v_if, k_if1, k_if0, v_and, v_or, v_not, k_and1, k_and0, k_or1, k_or0, k_not, v_chain, k_ch1, k_ch2, v_b', k_ch3t, k_ch3f, v_pn, v_ps, k_p, v_sl, k_s1, k_s2, k_s3, v_s, v_seq, k_snx, k_srt, k_sbk, k_sct, v_ifS, k_ifS1, k_ifS0, v_skip, v_brk, v_cnt, v_exp, v_ret, k_exp, k_ret, v_set, k_set, v_n, v_asg, k_asg, a_nm, a_nil, a_cons, k_as, a_tup, v_par, v_par3, k_par, k_par3, v_setIx, k_x1, v_x1, k_mu, k_x2, v_x2, v_augIx, v_g1, k_g1, v_b2, k_g2, k_g3, v_g3, v_g4, v_aug, v_au, k_au, v_au1, v_au2, v_mut, v_m0, v_m1, k_m, v_m2, v_m3, v_callF, k_cf, v_c2, v_callI, v_i1, k_ci, v_i2, v_i3, v_it, k_it, v_itS, it_l, it_t, it_s, v_R1, k_R1, v_for, k_for, v_lc, k_lc, v_lcT, cl_1s, cl_1z, v_yes, v_fgt, v_frt, v_fnx, f_ff, f_fo, f_tf, f_to, f_fs, f_ts, v_ef, v_eo, st_f, st_t, mf_nil, mf_cons, rep_s, rep_z, f_addI, f_addS, f_addL, f_addT, f_sub, f_mod, f_div, f_mulI, f_mulJ, f_mulM, f_mulS, f_pow, f_neg, f_eqI, f_eqS, f_neI, f_neS, f_ltI, f_leI, f_gtI, f_geI, f_ltS, f_is, f_isnt, f_ixL, f_ixT, a_d, se_0, se_1, se_2, i_add, f_slL, f_slT, f_slS, f_slR, f_lenS, f_lenL, f_lenT, f_intI, f_intB, f_abs, f_tupL, f_tupT, f_isi_s, atI0, atI1, atI2, atI3, List.length_cons, List.length_nil, List.cons_append, List.nil_append, Nat.reduceAdd, Nat.reduceSub, Nat.reduceLeDiff, Nat.reduceEqDiff, Int.reduceAdd, Int.reduceSub, Int.reduceMul, Int.reduceNeg, Int.reduceLT, Int.reduceLE, Int.reduceEq, Int.reduceBEq, Int.reducePow, Int.reduceToNat, Bool.not_true, Bool.not_false, decide_true, decide_false, true_and, and_true, sp_slash]
  rw [lc_fmap (fun w => .str (mkS w)) (fun w => .bool (nameB w))]
  · simp only [noEx, b_ok, b_no, oo_some, oo_none, g_fr, g_z, g_s, sl_s, sl_fr, sl_ow, sl_io, rv_fr, rv_ow, rv_sl, fz_fr, fz_ow, kCo_, fz_s, fz_zf, fz_zo, om_some, ob_some, om_none, ow_s, ow_ow, ow_io, mu_s, mu_ow, mu_io, st_s, st_so, st_zn, st_zf, st_zo, so_zn, so_zf, so_zo, v_nm, v_nmf, v_nmo, v_nmi, v_k, v_fz, k_fz, v_anil, v_acons, k_a1, k_a2, v_bnil, v_bcons, k_b1, k_b2, v_tup, v_lst, k_tup, k_lst, v_bin, k_o1, k_o2, v_b, v_r, v_un, k_un, v_u, rvs_nil, rvs_cons, v_cons, v_call, k_call, v_l, v_mt, k_mt, v_testOf, k_t, v_truth, k_tr, v_tr, v_kk, tru_b, v_notT, k_nt, v_andT, v_orT, k_at1, k_at0, k_ot1, k_ot0, v_if, k_if1, k_if0, v_and, v_or, v_not, k_and1, k_and0, k_or1, k_or0, k_not, v_chain, k_ch1, k_ch2, v_b', k_ch3t, k_ch3f, v_pn, v_ps, k_p, v_sl, k_s1, k_s2, k_s3, v_s, v_seq, k_snx, k_srt, k_sbk, k_sct, v_ifS, k_ifS1, k_ifS0, v_skip, v_brk, v_cnt, v_exp, v_ret, k_exp, k_ret, v_set, k_set, v_n, v_asg, k_asg, a_nm, a_nil, a_cons, k_as, a_tup, v_par, v_par3, k_par, k_par3, v_setIx, k_x1, v_x1, k_mu, k_x2, v_x2, v_augIx, v_g1, k_g1, v_b2, k_g2, k_g3, v_g3, v_g4, v_aug, v_au, k_au, v_au1, v_au2, v_mut, v_m0, v_m1, k_m, v_m2, v_m3, v_callF, k_cf, v_c2, v_callI, v_i1, k_ci, v_i2, v_i3, v_it, k_it, v_itS, it_l, it_t, it_s, v_R1, k_R1, v_for, k_for, v_lc, k_lc, v_lcT, cl_1s, cl_1z, v_yes, v_fgt, v_frt, v_fnx, f_ff, f_fo, f_tf, f_to, f_fs, f_ts, v_ef, v_eo, st_f, st_t, mf_nil, mf_cons, rep_s, rep_z, f_addI, f_addS, f_addL, f_addT, f_sub, f_mod, f_div, f_mulI, f_mulJ, f_mulM, f_mulS, f_pow, f_neg, f_eqI, f_eqS, f_neI, f_neS, f_ltI, f_leI, f_gtI, f_geI, f_ltS, f_is, f_isnt, f_ixL, f_ixT, a_d, se_0, se_1, se_2, i_add, f_slL, f_slT, f_slS, f_slR, f_lenS, f_lenL, f_lenT, f_intI, f_intB, f_abs, f_tupL, f_tupT, f_isi_s, atI0, atI1, atI2, atI3, List.length_cons, List.length_nil, List.cons_append, List.nil_append, Nat.reduceAdd, Nat.reduceSub, Nat.reduceLeDiff, Nat.reduceEqDiff, Int.reduceAdd, Int.reduceSub, Int.reduceMul, Int.reduceNeg, Int.reduceLT, Int.reduceLE, Int.reduceEq, Int.reduceBEq, Int.reducePow, Int.reduceToNat, Bool.not_true, Bool.not_false, decide_true, decide_false, true_and, and_true, f_allB, pathB]
  · intro d _
    refine ⟨[.fr (.str (mkS l)), .fr (.str (mkS d))], rfl, ?_, rfl⟩
    simp only [b_ok, b_no, oo_some, oo_none, g_fr, g_z, g_s, sl_s, sl_fr, sl_ow, sl_io, rv_fr, rv_ow, rv_sl, fz_fr, fz_ow, kCo_, fz_s, fz_zf, fz_zo, om_some, ob_some, om_none, ow_s, ow_ow, ow_io, mu_s, mu_ow, mu_io, st_s, st_so, st_zn, st_zf, st_zo, so_zn, so_zf, so_zo, v_nm, v_nmf, v_nmo, v_nmi, v_k, v_fz, k_fz, v_anil, v_acons, k_a1, k_a2, v_bnil, v_bcons, k_b1, k_b2, v_tup, v_lst, k_tup, k_lst, v_bin, k_o1, k_o2, v_b, v_r, v_un, k_un, v_u, rvs_nil, rvs_cons, v_cons, v_call, k_call, v_l, v_mt, k_mt, v_testOf, k_t, v_truth, k_tr, v_tr, v_kk, tru_b, v_notT, k_nt, v_andT, v_orT, k_at1, k_at0, k_ot1, k_ot0, v_if, k_if1, k_if0, v_and, v_or, v_not, k_and1, k_and0, k_or1, k_or0, k_not, v_chain, k_ch1, k_ch2, v_b', k_ch3t, k_ch3f, v_pn, v_ps, k_p, v_sl, k_s1, k_s2, k_s3, v_s, v_seq, k_snx, k_srt, k_sbk, k_sct, v_ifS, k_ifS1, k_ifS0, v_skip, v_brk, v_cnt, v_exp, v_ret, k_exp, k_ret, v_set, k_set, v_n, v_asg, k_asg, a_nm, a_nil, a_cons, k_as, a_tup, v_par, v_par3, k_par, k_par3, v_setIx, k_x1, v_x1, k_mu, k_x2, v_x2, v_augIx, v_g1, k_g1, v_b2, k_g2, k_g3, v_g3, v_g4, v_aug, v_au, k_au, v_au1, v_au2, v_mut, v_m0, v_m1, k_m, v_m2, v_m3, v_callF, k_cf, v_c2, v_callI, v_i1, k_ci, v_i2, v_i3, v_it, k_it, v_itS, it_l, it_t, it_s, v_R1, k_R1, v_for, k_for, v_lc, k_lc, v_lcT, cl_1s, cl_1z, v_yes, v_fgt, v_frt, v_fnx, f_ff, f_fo, f_tf, f_to, f_fs, f_ts, v_ef, v_eo, st_f, st_t, mf_nil, mf_cons, rep_s, rep_z, f_addI, f_addS, f_addL, f_addT, f_sub, f_mod, f_div, f_mulI, f_mulJ, f_mulM, f_mulS, f_pow, f_neg, f_eqI, f_eqS, f_neI, f_neS, f_ltI, f_leI, f_gtI, f_geI, f_ltS, f_is, f_isnt, f_ixL, f_ixT, a_d, se_0, se_1, se_2, i_add, f_slL, f_slT, f_slS, f_slR, f_lenS, f_lenL, f_lenT, f_intI, f_intB, f_abs, f_tupL, f_tupT, f_isi_s, atI0, atI1, atI2, atI3, List.length_cons, List.length_nil, List.cons_append, List.nil_append, Nat.reduceAdd, Nat.reduceSub, Nat.reduceLeDiff, Nat.reduceEqDiff, Int.reduceAdd, Int.reduceSub, Int.reduceMul, Int.reduceNeg, Int.reduceLT, Int.reduceLE, Int.reduceEq, Int.reduceBEq, Int.reducePow, Int.reduceToNat, Bool.not_true, Bool.not_false, decide_true, decide_false, true_and, and_true, sp_is_name]
theorem sp_law_is_path (l : List Nat) : r_law_is_path [.str (mkS l)] = .ok (.fr (.bool (pathB l))) none := by
  unfold r_law_is_path c_law_is_path
  rw [v_run]
  simp only [b_ok, b_no, oo_some, oo_none, g_fr, g_z, g_s, sl_s, sl_fr, sl_ow, sl_io, rv_fr, rv_ow, rv_sl, fz_fr, fz_ow, kCo_, fz_s, fz_zf, fz_zo, om_some, ob_some, om_none, ow_s, ow_ow, ow_io, mu_s, mu_ow, mu_io, st_s, st_so, st_zn, st_zf, st_zo, so_zn, so_zf, so_zo, v_nm, v_nmf, v_nmo, v_nmi, v_k, v_fz, k_fz, v_anil, v_acons, k_a1, k_a2, v_bnil, v_bcons, k_b1, k_b2, v_tup, v_lst, k_tup, k_lst, v_bin, k_o1, k_o2, v_b, v_r, v_un, k_un, v_u, rvs_nil, rvs_cons, v_cons, v_call, k_call, v_l, v_mt, k_mt, v_testOf, k_t, v_truth, k_tr, v_tr, v_kk, tru_b, v_notT, k_nt, v_andT, v_orT, k_at1, k_at0, k_ot1, k_ot0, v_if, k_if1, k_if0, v_and, v_or, v_not, k_and1, k_and0, k_or1, k_or0, k_not, v_chain, k_ch1, k_ch2, v_b', k_ch3t, k_ch3f, v_pn, v_ps, k_p, v_sl, k_s1, k_s2, k_s3, v_s, v_seq, k_snx, k_srt, k_sbk, k_sct, v_ifS, k_ifS1, k_ifS0, v_skip, v_brk, v_cnt, v_exp, v_ret, k_exp, k_ret, v_set, k_set, v_n, v_asg, k_asg, a_nm, a_nil, a_cons, k_as, a_tup, v_par, v_par3, k_par, k_par3, v_setIx, k_x1, v_x1, k_mu, k_x2, v_x2, v_augIx, v_g1, k_g1, v_b2, k_g2, k_g3, v_g3, v_g4, v_aug, v_au, k_au, v_au1, v_au2, v_mut, v_m0, v_m1, k_m, v_m2, v_m3, v_callF, k_cf, v_c2, v_callI, v_i1, k_ci, v_i2, v_i3, v_it, k_it, v_itS, it_l, it_t, it_s, v_R1, k_R1, v_for, k_for, v_lc, k_lc, v_lcT, cl_1s, cl_1z, v_yes, v_fgt, v_frt, v_fnx, f_ff, f_fo, f_tf, f_to, f_fs, f_ts, v_ef, v_eo, st_f, st_t, mf_nil, mf_cons, rep_s, rep_z, f_addI, f_addS, f_addL, f_addT, f_sub, f_mod, f_div, f_mulI, f_mulJ, f_mulM, f_mulS, f_pow, f_neg, f_eqI, f_eqS, f_neI, f_neS, f_ltI, f_leI, f_gtI, f_geI, f_ltS, f_is, f_isnt, f_ixL, f_ixT, a_d, se_0, se_1, se_2, i_add, f_slL, f_slT, f_slS, f_slR, f_lenS, f_lenL, f_lenT, f_intI, f_intB, f_abs, f_tupL, f_tupT, f_isi_s, atI0, atI1, atI2, atI3, List.length_cons, List.length_nil, List.cons_append, List.nil_append, Nat.reduceAdd, Nat.reduceSub, Nat.reduceLeDiff, Nat.reduceEqDiff, Int.reduceAdd, Int.reduceSub, Int.reduceMul, Int.reduceNeg, Int.reduceLT, Int.reduceLE, Int.reduceEq, Int.reduceBEq, Int.reducePow, Int.reduceToNat, Bool.not_true, Bool.not_false, decide_true, decide_false, true_and, and_true, sp_slash]
  rw [lc_fgen (fun w => .str (mkS w)) (fun w => !nameB w) (fun w => .str (mkS w))]
  · simp only [noEx, b_ok, b_no, oo_some, oo_none, g_fr, g_z, g_s, sl_s, sl_fr, sl_ow, sl_io, rv_fr, rv_ow, rv_sl, fz_fr, fz_ow, kCo_, fz_s, fz_zf, fz_zo, om_some, ob_some, om_none, ow_s, ow_ow, ow_io, mu_s, mu_ow, mu_io, st_s, st_so, st_zn, st_zf, st_zo, so_zn, so_zf, so_zo, v_nm, v_nmf, v_nmo, v_nmi, v_k, v_fz, k_fz, v_anil, v_acons, k_a1, k_a2, v_bnil, v_bcons, k_b1, k_b2, v_tup, v_lst, k_tup, k_lst, v_bin, k_o1, k_o2, v_b, v_r, v_un, k_un, v_u, rvs_nil, rvs_cons, v_cons, v_call, k_call, v_l, v_mt, k_mt, v_testOf, k_t, v_truth, k_tr, v_tr, v_kk, tru_b, v_notT, k_nt, v_andT, v_orT, k_at1, k_at0, k_ot1, k_ot0, v_if, k_if1, k_if0, v_and, v_or, v_not, k_and1, k_and0, k_or1, k_or0, k_not, v_chain, k_ch1, k_ch2, v_b', k_ch3t, k_ch3f, v_pn, v_ps, k_p, v_sl, k_s1, k_s2, k_s3, v_s, v_seq, k_snx, k_srt, k_sbk, k_sct, v_ifS, k_ifS1, k_ifS0, v_skip, v_brk, v_cnt, v_exp, v_ret, k_exp, k_ret, v_set, k_set, v_n, v_asg, k_asg, a_nm, a_nil, a_cons, k_as, a_tup, v_par, v_par3, k_par, k_par3, v_setIx, k_x1, v_x1, k_mu, k_x2, v_x2, v_augIx, v_g1, k_g1, v_b2, k_g2, k_g3, v_g3, v_g4, v_aug, v_au, k_au, v_au1, v_au2, v_mut, v_m0, v_m1, k_m, v_m2, v_m3, v_callF, k_cf, v_c2, v_callI, v_i1, k_ci, v_i2, v_i3, v_it, k_it, v_itS, it_l, it_t, it_s, v_R1, k_R1, v_for, k_for, v_lc, k_lc, v_lcT, cl_1s, cl_1z, v_yes, v_fgt, v_frt, v_fnx, f_ff, f_fo, f_tf, f_to, f_fs, f_ts, v_ef, v_eo, st_f, st_t, mf_nil, mf_cons, rep_s, rep_z, f_addI, f_addS, f_addL, f_addT, f_sub, f_mod, f_div, f_mulI, f_mulJ, f_mulM, f_mulS, f_pow, f_neg, f_eqI, f_eqS, f_neI, f_neS, f_ltI, f_leI, f_gtI, f_geI, f_ltS, f_is, f_isnt, f_ixL, f_ixT, a_d, se_0, se_1, se_2, i_add, f_slL, f_slT, f_slS, f_slR, f_lenS, f_lenL, f_lenT, f_intI, f_intB, f_abs, f_tupL, f_tupT, f_isi_s, atI0, atI1, atI2, atI3, List.length_cons, List.length_nil, List.cons_append, List.nil_append, Nat.reduceAdd, Nat.reduceSub, Nat.reduceLeDiff, Nat.reduceEqDiff, Int.reduceAdd, Int.reduceSub, Int.reduceMul, Int.reduceNeg, Int.reduceLT, Int.reduceLE, Int.reduceEq, Int.reduceBEq, Int.reducePow, Int.reduceToNat, Bool.not_true, Bool.not_false, decide_true, decide_false, true_and, and_true, f_eqNilM, pathB, filter_none]
  · intro d _
    refine ⟨[.fr (.str (mkS l)), .fr (.str (mkS d))], rfl, ?_, fun _ => ?_, rfl⟩
    · simp only [b_ok, b_no, oo_some, oo_none, g_fr, g_z, g_s, sl_s, sl_fr, sl_ow, sl_io, rv_fr, rv_ow, rv_sl, fz_fr, fz_ow, kCo_, fz_s, fz_zf, fz_zo, om_some, ob_some, om_none, ow_s, ow_ow, ow_io, mu_s, mu_ow, mu_io, st_s, st_so, st_zn, st_zf, st_zo, so_zn, so_zf, so_zo, v_nm, v_nmf, v_nmo, v_nmi, v_k, v_fz, k_fz, v_anil, v_acons, k_a1, k_a2, v_bnil, v_bcons, k_b1, k_b2, v_tup, v_lst, k_tup, k_lst, v_bin, k_o1, k_o2, v_b, v_r, v_un, k_un, v_u, rvs_nil, rvs_cons, v_cons, v_call, k_call, v_l, v_mt, k_mt, v_testOf, k_t, v_truth, k_tr, v_tr, v_kk, tru_b, v_notT, k_nt, v_andT, v_orT, k_at1, k_at0, k_ot1, k_ot0, v_if, k_if1, k_if0, v_and, v_or, v_not, k_and1, k_and0, k_or1, k_or0, k_not, v_chain, k_ch1, k_ch2, v_b', k_ch3t, k_ch3f, v_pn, v_ps, k_p, v_sl, k_s1, k_s2, k_s3, v_s, v_seq, k_snx, k_srt, k_sbk, k_sct, v_ifS, k_ifS1, k_ifS0, v_skip, v_brk, v_cnt, v_exp, v_ret, k_exp, k_ret, v_set, k_set, v_n, v_asg, k_asg, a_nm, a_nil, a_cons, k_as, a_tup, v_par, v_par3, k_par, k_par3, v_setIx, k_x1, v_x1, k_mu, k_x2, v_x2, v_augIx, v_g1, k_g1, v_b2, k_g2, k_g3, v_g3, v_g4, v_aug, v_au, k_au, v_au1, v_au2, v_mut, v_m0, v_m1, k_m, v_m2, v_m3, v_callF, k_cf, v_c2, v_callI, v_i1, k_ci, v_i2, v_i3, v_it, k_it, v_itS, it_l, it_t, it_s, v_R1, k_R1, v_for, k_for, v_lc, k_lc, v_lcT, cl_1s, cl_1z, v_yes, v_fgt, v_frt, v_fnx, f_ff, f_fo, f_tf, f_to, f_fs, f_ts, v_ef, v_eo, st_f, st_t, mf_nil, mf_cons, rep_s, rep_z, f_addI, f_addS, f_addL, f_addT, f_sub, f_mod, f_div, f_mulI, f_mulJ, f_mulM, f_mulS, f_pow, f_neg, f_eqI, f_eqS, f_neI, f_neS, f_ltI, f_leI, f_gtI, f_geI, f_ltS, f_is, f_isnt, f_ixL, f_ixT, a_d, se_0, se_1, se_2, i_add, f_slL, f_slT, f_slS, f_slR, f_lenS, f_lenL, f_lenT, f_intI, f_intB, f_abs, f_tupL, f_tupT, f_isi_s, atI0, atI1, atI2, atI3, List.length_cons, List.length_nil, List.cons_append, List.nil_append, Nat.reduceAdd, Nat.reduceSub, Nat.reduceLeDiff, Nat.reduceEqDiff, Int.reduceAdd, Int.reduceSub, Int.reduceMul, Int.reduceNeg, Int.reduceLT, Int.reduceLE, Int.reduceEq, Int.reduceBEq, Int.reducePow, Int.reduceToNat, Bool.not_true, Bool.not_false, decide_true, decide_false, true_and, and_true, sp_law_is_name]
    · simp only [b_ok, b_no, oo_some, oo_none, g_fr, g_z, g_s, sl_s, sl_fr, sl_ow, sl_io, rv_fr, rv_ow, rv_sl, fz_fr, fz_ow, kCo_, fz_s, fz_zf, fz_zo, om_some, ob_some, om_none, ow_s, ow_ow, ow_io, mu_s, mu_ow, mu_io, st_s, st_so, st_zn, st_zf, st_zo, so_zn, so_zf, so_zo, v_nm, v_nmf, v_nmo, v_nmi, v_k, v_fz, k_fz, v_anil, v_acons, k_a1, k_a2, v_bnil, v_bcons, k_b1, k_b2, v_tup, v_lst, k_tup, k_lst, v_bin, k_o1, k_o2, v_b, v_r, v_un, k_un, v_u, rvs_nil, rvs_cons, v_cons, v_call, k_call, v_l, v_mt, k_mt, v_testOf, k_t, v_truth, k_tr, v_tr, v_kk, tru_b, v_notT, k_nt, v_andT, v_orT, k_at1, k_at0, k_ot1, k_ot0, v_if, k_if1, k_if0, v_and, v_or, v_not, k_and1, k_and0, k_or1, k_or0, k_not, v_chain, k_ch1, k_ch2, v_b', k_ch3t, k_ch3f, v_pn, v_ps, k_p, v_sl, k_s1, k_s2, k_s3, v_s, v_seq, k_snx, k_srt, k_sbk, k_sct, v_ifS, k_ifS1, k_ifS0, v_skip, v_brk, v_cnt, v_exp, v_ret, k_exp, k_ret, v_set, k_set, v_n, v_asg, k_asg, a_nm, a_nil, a_cons, k_as, a_tup, v_par, v_par3, k_par, k_par3, v_setIx, k_x1, v_x1, k_mu, k_x2, v_x2, v_augIx, v_g1, k_g1, v_b2, k_g2, k_g3, v_g3, v_g4, v_aug, v_au, k_au, v_au1, v_au2, v_mut, v_m0, v_m1, k_m, v_m2, v_m3, v_callF, k_cf, v_c2, v_callI, v_i1, k_ci, v_i2, v_i3, v_it, k_it, v_itS, it_l, it_t, it_s, v_R1, k_R1, v_for, k_for, v_lc, k_lc, v_lcT, cl_1s, cl_1z, v_yes, v_fgt, v_frt, v_fnx, f_ff, f_fo, f_tf, f_to, f_fs, f_ts, v_ef, v_eo, st_f, st_t, mf_nil, mf_cons, rep_s, rep_z, f_addI, f_addS, f_addL, f_addT, f_sub, f_mod, f_div, f_mulI, f_mulJ, f_mulM, f_mulS, f_pow, f_neg, f_eqI, f_eqS, f_neI, f_neS, f_ltI, f_leI, f_gtI, f_geI, f_ltS, f_is, f_isnt, f_ixL, f_ixT, a_d, se_0, se_1, se_2, i_add, f_slL, f_slT, f_slS, f_slR, f_lenS, f_lenL, f_lenT, f_intI, f_intB, f_abs, f_tupL, f_tupT, f_isi_s, atI0, atI1, atI2, atI3, List.length_cons, List.length_nil, List.cons_append, List.nil_append, Nat.reduceAdd, Nat.reduceSub, Nat.reduceLeDiff, Nat.reduceEqDiff, Int.reduceAdd, Int.reduceSub, Int.reduceMul, Int.reduceNeg, Int.reduceLT, Int.reduceLE, Int.reduceEq, Int.reduceBEq, Int.reducePow, Int.reduceToNat, Bool.not_true, Bool.not_false, decide_true, decide_false, true_and, and_true]

abbrev sSH : Str := "store/c"
theorem tl_SH : tl sSH = [115, 116, 111, 114, 101, 47, 99] := by decide +kernel
theorem len_SH : sSH.length = 7 := by decide +kernel
theorem mk_SH : sSH = mkS [115, 116, 111, 114, 101, 47, 99] := by decide +kernel
theorem dg_iff (c : Nat) : chIn sDG c = true ↔ 48 ≤ c ∧ c ≤ 57 := by
  unfold chIn
  rw [show tl sDG = [48, 49, 50, 51, 52, 53, 54, 55, 56, 57] by decide +kernel, decide_eq_true_iff]
  simp only [List.mem_cons, List.not_mem_nil, or_false]
  omega
theorem dg_all {l : List Nat} (h : l.all (chIn sDG) = true) : NumText.AllDigits l := fun c hc => (dg_iff c).mp (List.all_eq_true.mp h c hc)
theorem f_intS {l : List Nat} (h : l.all (chIn sDG) = true) (h1 : l ≠ []) (h2 : l.length ≤ 640) : fInt [.str (mkS l)] = some (.fr (.int ((NumText.digitsVal l : Nat) : Int))) := by
  have e := PySem.intText_digits (x := mkS l) (dg_all h) h1 (by rw [len_mkS]; omega)
  show (if (mkS l).length ≤ 640 then (PySem.intText? (mkS l)).map fun n => Rv.fr (.int n) else none) = _
  rw [if_pos (by rw [len_mkS]; exact h2), e]
  rfl
def lead (l : List Nat) : Bool := match l with
  | 48 :: _ :: _ => true
  | _ => false
def shB (l : List Nat) : Bool := decide (l.take 7 = [115, 116, 111, 114, 101, 47, 99]) && (decide (1 ≤ (l.drop 7).length) && (decide ((l.drop 7).length ≤ 19) && ((l.drop 7).all (chIn sDG) && !lead (l.drop 7))))
theorem sp_number_behind (l : List Nat) : ∃ d, r_number_behind [.str (mkS l), .str "store/c"] = .ok (.fr d) none ∧ (!isN d) = shB l := by
  unfold r_number_behind c_number_behind
  rw [v_run]
  have c1 := cut_from (mkS l) 7
  have c2 := cut_to (mkS l) 7
  rw [tl_mkS] at c1 c2
  have c1 : cutS (mkS l) (some 7) none = mkS (l.drop 7) := c1
  have c2 : cutS (mkS l) none (some 7) = mkS (l.take 7) := c2
  have e7 : (((Str.ofString "store/c").length : Nat) : Int) = 7 := by rw [len_SH]; rfl
  by_cases h1 : l.take 7 = [115, 116, 111, 114, 101, 47, 99]
  · have k1 : (mkS (l.take 7) == Str.ofString "store/c") = true := by show (mkS (l.take 7) == sSH) = true; rw [mk_SH, mkS_inj]; exact decide_eq_true h1
    generalize hw : l.drop 7 = w at *
    cases w with
    | nil =>
      have h2 : ¬ (1 : Int) ≤ ((0 : Nat) : Int) := by decide
      refine ⟨.none, ?_, ?_⟩
      · simp only [b_ok, b_no, oo_some, oo_none, g_fr, g_z, g_s, sl_s, sl_fr, sl_ow, sl_io, rv_fr, rv_ow, rv_sl, fz_fr, fz_ow, kCo_, fz_s, fz_zf, fz_zo, om_some, ob_some, om_none, ow_s, ow_ow, ow_io, mu_s, mu_ow, mu_io, st_s, st_so, st_zn, st_zf, st_zo, so_zn, so_zf, so_zo, v_nm, v_nmf, v_nmo, v_nmi, v_k, v_fz, k_fz, v_anil, v_acons, k_a1, k_a2, v_bnil, v_bcons, k_b1, k_b2, v_tup, v_lst, k_tup, k_lst, v_bin, k_o1, k_o2, v_b, v_r, v_un, k_un, v_u, rvs_nil, rvs_cons, v_cons, v_call, k_call, v_l, v_mt, k_mt, v_testOf, k_t, v_truth, k_tr, v_tr, v_kk, tru_b, v_notT, k_nt, v_andT, v_orT, k_at1, k_at0, k_ot1, k_ot0, v_if, k_if1, k_if0, v_and, v_or, v_not, k_and1, k_and0, k_or1, k_or0, k_not, v_chain, k_ch1, k_ch2, v_b', k_ch3t, k_ch3f, v_pn, v_ps, k_p, v_sl, k_s1, k_s2, k_s3, v_s, v_seq, k_snx, k_srt, k_sbk, k_sct, v_ifS, k_ifS1, k_ifS0, v_skip, v_brk, v_cnt, v_exp, v_ret, k_exp, k_ret, v_set, k_set, v_n, v_asg, k_asg, a_nm, a_nil, a_cons, k_as, a_tup, v_par, v_par3, k_par, k_par3, v_setIx, k_x1, v_x1, k_mu, k_x2, v_x2, v_augIx, v_g1, k_g1, v_b2, k_g2, k_g3, v_g3, v_g4, v_aug, v_au, k_au, v_au1, v_au2, v_mut, v_m0, v_m1, k_m, v_m2, v_m3, v_callF, k_cf, v_c2, v_callI, v_i1, k_ci, v_i2, v_i3, v_it, k_it, v_itS, it_l, it_t, it_s, v_R1, k_R1, v_for, k_for, v_lc, k_lc, v_lcT, cl_1s, cl_1z, v_yes, v_fgt, v_frt, v_fnx, f_ff, f_fo, f_tf, f_to, f_fs, f_ts, v_ef, v_eo, st_f, st_t, mf_nil, mf_cons, rep_s, rep_z, f_addI, f_addS, f_addL, f_addT, f_sub, f_mod, f_div, f_mulI, f_mulJ, f_mulM, f_mulS, f_pow, f_neg, f_eqI, f_eqS, f_neI, f_neS, f_ltI, f_leI, f_gtI, f_geI, f_ltS, f_is, f_isnt, f_ixL, f_ixT, a_d, se_0, se_1, se_2, i_add, f_slL, f_slT, f_slS, f_slR, f_lenS, f_lenL, f_lenT, f_intI, f_intB, f_abs, f_tupL, f_tupT, f_isi_s, atI0, atI1, atI2, atI3, List.length_cons, List.length_nil, List.cons_append, List.nil_append, Nat.reduceAdd, Nat.reduceSub, Nat.reduceLeDiff, Nat.reduceEqDiff, Int.reduceAdd, Int.reduceSub, Int.reduceMul, Int.reduceNeg, Int.reduceLT, Int.reduceLE, Int.reduceEq, Int.reduceBEq, Int.reducePow, Int.reduceToNat, Bool.not_true, Bool.not_false, decide_true, decide_false, true_and, and_true, e7, c1, c2, k1, len_mkS, h2]
      · unfold shB
        rw [hw, h1]
        rfl
    | cons c r =>
      have h2 : (1 : Int) ≤ ((r.length + 1 : Nat) : Int) := by omega
      have hb : shB l = (decide (r.length + 1 ≤ 19) && ((c :: r).all (chIn sDG) && !lead (c :: r))) := by
        unfold shB
        rw [hw, decide_eq_true h1, decide_eq_true (show 1 ≤ (c :: r).length by rw [List.length_cons]; omega)]
        rfl
      by_cases h3 : r.length + 1 ≤ 19
      · have h4 : ((r.length + 1 : Nat) : Int) ≤ (19 : Int) := by omega
        rw [hb, decide_eq_true h3]
        cases h5 : (c :: r).all (chIn sDG) with
        | false =>
          refine ⟨.none, ?_, rfl⟩
          simp only [b_ok, b_no, oo_some, oo_none, g_fr, g_z, g_s, sl_s, sl_fr, sl_ow, sl_io, rv_fr, rv_ow, rv_sl, fz_fr, fz_ow, kCo_, fz_s, fz_zf, fz_zo, om_some, ob_some, om_none, ow_s, ow_ow, ow_io, mu_s, mu_ow, mu_io, st_s, st_so, st_zn, st_zf, st_zo, so_zn, so_zf, so_zo, v_nm, v_nmf, v_nmo, v_nmi, v_k, v_fz, k_fz, v_anil, v_acons, k_a1, k_a2, v_bnil, v_bcons, k_b1, k_b2, v_tup, v_lst, k_tup, k_lst, v_bin, k_o1, k_o2, v_b, v_r, v_un, k_un, v_u, rvs_nil, rvs_cons, v_cons, v_call, k_call, v_l, v_mt, k_mt, v_testOf, k_t, v_truth, k_tr, v_tr, v_kk, tru_b, v_notT, k_nt, v_andT, v_orT, k_at1, k_at0, k_ot1, k_ot0, v_if, k_if1, k_if0, v_and, v_or, v_not, k_and1, k_and0, k_or1, k_or0, k_not, v_chain, k_ch1, k_ch2, v_b', k_ch3t, k_ch3f, v_pn, v_ps, k_p, v_sl, k_s1, k_s2, k_s3, v_s, v_seq, k_snx, k_srt, k_sbk, k_sct, v_ifS, k_ifS1, k_ifS0, v_skip, v_brk, v_cnt, v_exp, v_ret, k_exp, k_ret, v_set, k_set, v_n, v_asg, k_asg, a_nm, a_nil, a_cons, k_as, a_tup, v_par, v_par3, k_par, k_par3, v_setIx, k_x1, v_x1, k_mu, k_x2, v_x2, v_augIx, v_g1, k_g1, v_b2, k_g2, k_g3, v_g3, v_g4, v_aug, v_au, k_au, v_au1, v_au2, v_mut, v_m0, v_m1, k_m, v_m2, v_m3, v_callF, k_cf, v_c2, v_callI, v_i1, k_ci, v_i2, v_i3, v_it, k_it, v_itS, it_l, it_t, it_s, v_R1, k_R1, v_for, k_for, v_lc, k_lc, v_lcT, cl_1s, cl_1z, v_yes, v_fgt, v_frt, v_fnx, f_ff, f_fo, f_tf, f_to, f_fs, f_ts, v_ef, v_eo, st_f, st_t, mf_nil, mf_cons, rep_s, rep_z, f_addI, f_addS, f_addL, f_addT, f_sub, f_mod, f_div, f_mulI, f_mulJ, f_mulM, f_mulS, f_pow, f_neg, f_eqI, f_eqS, f_neI, f_neS, f_ltI, f_leI, f_gtI, f_geI, f_ltS, f_is, f_isnt, f_ixL, f_ixT, a_d, se_0, se_1, se_2, i_add, f_slL, f_slT, f_slS, f_slR, f_lenS, f_lenL, f_lenT, f_intI, f_intB, f_abs, f_tupL, f_tupT, f_isi_s, atI0, atI1, atI2, atI3, List.length_cons, List.length_nil, List.cons_append, List.nil_append, Nat.reduceAdd, Nat.reduceSub, Nat.reduceLeDiff, Nat.reduceEqDiff, Int.reduceAdd, Int.reduceSub, Int.reduceMul, Int.reduceNeg, Int.reduceLT, Int.reduceLE, Int.reduceEq, Int.reduceBEq, Int.reducePow, Int.reduceToNat, Bool.not_true, Bool.not_false, decide_true, decide_false, true_and, and_true, e7, c1, c2, k1, len_mkS, h2, h4, tl_mkS]
          rw [lc_fmap sgn (fun c => .bool (chIn sDG c))]
          · simp only [noEx, b_ok, b_no, oo_some, oo_none, g_fr, g_z, g_s, sl_s, sl_fr, sl_ow, sl_io, rv_fr, rv_ow, rv_sl, fz_fr, fz_ow, kCo_, fz_s, fz_zf, fz_zo, om_some, ob_some, om_none, ow_s, ow_ow, ow_io, mu_s, mu_ow, mu_io, st_s, st_so, st_zn, st_zf, st_zo, so_zn, so_zf, so_zo, v_nm, v_nmf, v_nmo, v_nmi, v_k, v_fz, k_fz, v_anil, v_acons, k_a1, k_a2, v_bnil, v_bcons, k_b1, k_b2, v_tup, v_lst, k_tup, k_lst, v_bin, k_o1, k_o2, v_b, v_r, v_un, k_un, v_u, rvs_nil, rvs_cons, v_cons, v_call, k_call, v_l, v_mt, k_mt, v_testOf, k_t, v_truth, k_tr, v_tr, v_kk, tru_b, v_notT, k_nt, v_andT, v_orT, k_at1, k_at0, k_ot1, k_ot0, v_if, k_if1, k_if0, v_and, v_or, v_not, k_and1, k_and0, k_or1, k_or0, k_not, v_chain, k_ch1, k_ch2, v_b', k_ch3t, k_ch3f, v_pn, v_ps, k_p, v_sl, k_s1, k_s2, k_s3, v_s, v_seq, k_snx, k_srt, k_sbk, k_sct, v_ifS, k_ifS1, k_ifS0, v_skip, v_brk, v_cnt, v_exp, v_ret, k_exp, k_ret, v_set, k_set, v_n, v_asg, k_asg, a_nm, a_nil, a_cons, k_as, a_tup, v_par, v_par3, k_par, k_par3, v_setIx, k_x1, v_x1, k_mu, k_x2, v_x2, v_augIx, v_g1, k_g1, v_b2, k_g2, k_g3, v_g3, v_g4, v_aug, v_au, k_au, v_au1, v_au2, v_mut, v_m0, v_m1, k_m, v_m2, v_m3, v_callF, k_cf, v_c2, v_callI, v_i1, k_ci, v_i2, v_i3, v_it, k_it, v_itS, it_l, it_t, it_s, v_R1, k_R1, v_for, k_for, v_lc, k_lc, v_lcT, cl_1s, cl_1z, v_yes, v_fgt, v_frt, v_fnx, f_ff, f_fo, f_tf, f_to, f_fs, f_ts, v_ef, v_eo, st_f, st_t, mf_nil, mf_cons, rep_s, rep_z, f_addI, f_addS, f_addL, f_addT, f_sub, f_mod, f_div, f_mulI, f_mulJ, f_mulM, f_mulS, f_pow, f_neg, f_eqI, f_eqS, f_neI, f_neS, f_ltI, f_leI, f_gtI, f_geI, f_ltS, f_is, f_isnt, f_ixL, f_ixT, a_d, se_0, se_1, se_2, i_add, f_slL, f_slT, f_slS, f_slR, f_lenS, f_lenL, f_lenT, f_intI, f_intB, f_abs, f_tupL, f_tupT, f_isi_s, atI0, atI1, atI2, atI3, List.length_cons, List.length_nil, List.cons_append, List.nil_append, Nat.reduceAdd, Nat.reduceSub, Nat.reduceLeDiff, Nat.reduceEqDiff, Int.reduceAdd, Int.reduceSub, Int.reduceMul, Int.reduceNeg, Int.reduceLT, Int.reduceLE, Int.reduceEq, Int.reduceBEq, Int.reducePow, Int.reduceToNat, Bool.not_true, Bool.not_false, decide_true, decide_false, true_and, and_true, f_allB, h5]
          · intro d _
            refine ⟨[.fr (.str (mkS l)), .fr (.str "store/c"), .fr (.str (mkS (c :: r))), .fr (sgn d)], rfl, ?_, rfl⟩
            simp only [b_ok, b_no, oo_some, oo_none, g_fr, g_z, g_s, sl_s, sl_fr, sl_ow, sl_io, rv_fr, rv_ow, rv_sl, fz_fr, fz_ow, kCo_, fz_s, fz_zf, fz_zo, om_some, ob_some, om_none, ow_s, ow_ow, ow_io, mu_s, mu_ow, mu_io, st_s, st_so, st_zn, st_zf, st_zo, so_zn, so_zf, so_zo, v_nm, v_nmf, v_nmo, v_nmi, v_k, v_fz, k_fz, v_anil, v_acons, k_a1, k_a2, v_bnil, v_bcons, k_b1, k_b2, v_tup, v_lst, k_tup, k_lst, v_bin, k_o1, k_o2, v_b, v_r, v_un, k_un, v_u, rvs_nil, rvs_cons, v_cons, v_call, k_call, v_l, v_mt, k_mt, v_testOf, k_t, v_truth, k_tr, v_tr, v_kk, tru_b, v_notT, k_nt, v_andT, v_orT, k_at1, k_at0, k_ot1, k_ot0, v_if, k_if1, k_if0, v_and, v_or, v_not, k_and1, k_and0, k_or1, k_or0, k_not, v_chain, k_ch1, k_ch2, v_b', k_ch3t, k_ch3f, v_pn, v_ps, k_p, v_sl, k_s1, k_s2, k_s3, v_s, v_seq, k_snx, k_srt, k_sbk, k_sct, v_ifS, k_ifS1, k_ifS0, v_skip, v_brk, v_cnt, v_exp, v_ret, k_exp, k_ret, v_set, k_set, v_n, v_asg, k_asg, a_nm, a_nil, a_cons, k_as, a_tup, v_par, v_par3, k_par, k_par3, v_setIx, k_x1, v_x1, k_mu, k_x2, v_x2, v_augIx, v_g1, k_g1, v_b2, k_g2, k_g3, v_g3, v_g4, v_aug, v_au, k_au, v_au1, v_au2, v_mut, v_m0, v_m1, k_m, v_m2, v_m3, v_callF, k_cf, v_c2, v_callI, v_i1, k_ci, v_i2, v_i3, v_it, k_it, v_itS, it_l, it_t, it_s, v_R1, k_R1, v_for, k_for, v_lc, k_lc, v_lcT, cl_1s, cl_1z, v_yes, v_fgt, v_frt, v_fnx, f_ff, f_fo, f_tf, f_to, f_fs, f_ts, v_ef, v_eo, st_f, st_t, mf_nil, mf_cons, rep_s, rep_z, f_addI, f_addS, f_addL, f_addT, f_sub, f_mod, f_div, f_mulI, f_mulJ, f_mulM, f_mulS, f_pow, f_neg, f_eqI, f_eqS, f_neI, f_neS, f_ltI, f_leI, f_gtI, f_geI, f_ltS, f_is, f_isnt, f_ixL, f_ixT, a_d, se_0, se_1, se_2, i_add, f_slL, f_slT, f_slS, f_slR, f_lenS, f_lenL, f_lenT, f_intI, f_intB, f_abs, f_tupL, f_tupT, f_isi_s, atI0, atI1, atI2, atI3, List.length_cons, List.length_nil, List.cons_append, List.nil_append, Nat.reduceAdd, Nat.reduceSub, Nat.reduceLeDiff, Nat.reduceEqDiff, Int.reduceAdd, Int.reduceSub, Int.reduceMul, Int.reduceNeg, Int.reduceLT, Int.reduceLE, Int.reduceEq, Int.reduceBEq, Int.reducePow, Int.reduceToNat, Bool.not_true, Bool.not_false, decide_true, decide_false, true_and, and_true, f_inC]
        | true =>
          have lc : lcD [3] (aNm 3) cYes (cFz (cBin fIn (cNm 3) (cK (.str "0123456789")))) ((c :: r).map sgn) [.fr (.str (mkS l)), .fr (.str "store/c"), .fr (.str (mkS (c :: r))), .no] = .ok ((c :: r).map fun c => .bool (chIn sDG c), [.fr (.str (mkS l)), .fr (.str "store/c"), .fr (.str (mkS (c :: r))), .no]) := by
            rw [lc_fmap sgn (fun c => .bool (chIn sDG c))]
            intro d _
            refine ⟨[.fr (.str (mkS l)), .fr (.str "store/c"), .fr (.str (mkS (c :: r))), .fr (sgn d)], rfl, ?_, rfl⟩
            simp only [b_ok, b_no, oo_some, oo_none, g_fr, g_z, g_s, sl_s, sl_fr, sl_ow, sl_io, rv_fr, rv_ow, rv_sl, fz_fr, fz_ow, kCo_, fz_s, fz_zf, fz_zo, om_some, ob_some, om_none, ow_s, ow_ow, ow_io, mu_s, mu_ow, mu_io, st_s, st_so, st_zn, st_zf, st_zo, so_zn, so_zf, so_zo, v_nm, v_nmf, v_nmo, v_nmi, v_k, v_fz, k_fz, v_anil, v_acons, k_a1, k_a2, v_bnil, v_bcons, k_b1, k_b2, v_tup, v_lst, k_tup, k_lst, v_bin, k_o1, k_o2, v_b, v_r, v_un, k_un, v_u, rvs_nil, rvs_cons, v_cons, v_call, k_call, v_l, v_mt, k_mt, v_testOf, k_t, v_truth, k_tr, v_tr, v_kk, tru_b, v_notT, k_nt, v_andT, v_orT, k_at1, k_at0, k_ot1, k_ot0, v_if, k_if1, k_if0, v_and, v_or, v_not, k_and1, k_and0, k_or1, k_or0, k_not, v_chain, k_ch1, k_ch2, v_b', k_ch3t, k_ch3f, v_pn, v_ps, k_p, v_sl, k_s1, k_s2, k_s3, v_s, v_seq, k_snx, k_srt, k_sbk, k_sct, v_ifS, k_ifS1, k_ifS0, v_skip, v_brk, v_cnt, v_exp, v_ret, k_exp, k_ret, v_set, k_set, v_n, v_asg, k_asg, a_nm, a_nil, a_cons, k_as, a_tup, v_par, v_par3, k_par, k_par3, v_setIx, k_x1, v_x1, k_mu, k_x2, v_x2, v_augIx, v_g1, k_g1, v_b2, k_g2, k_g3, v_g3, v_g4, v_aug, v_au, k_au, v_au1, v_au2, v_mut, v_m0, v_m1, k_m, v_m2, v_m3, v_callF, k_cf, v_c2, v_callI, v_i1, k_ci, v_i2, v_i3, v_it, k_it, v_itS, it_l, it_t, it_s, v_R1, k_R1, v_for, k_for, v_lc, k_lc, v_lcT, cl_1s, cl_1z, v_yes, v_fgt, v_frt, v_fnx, f_ff, f_fo, f_tf, f_to, f_fs, f_ts, v_ef, v_eo, st_f, st_t, mf_nil, mf_cons, rep_s, rep_z, f_addI, f_addS, f_addL, f_addT, f_sub, f_mod, f_div, f_mulI, f_mulJ, f_mulM, f_mulS, f_pow, f_neg, f_eqI, f_eqS, f_neI, f_neS, f_ltI, f_leI, f_gtI, f_geI, f_ltS, f_is, f_isnt, f_ixL, f_ixT, a_d, se_0, se_1, se_2, i_add, f_slL, f_slT, f_slS, f_slR, f_lenS, f_lenL, f_lenT, f_intI, f_intB, f_abs, f_tupL, f_tupT, f_isi_s, atI0, atI1, atI2, atI3, List.length_cons, List.length_nil, List.cons_append, List.nil_append, Nat.reduceAdd, Nat.reduceSub, Nat.reduceLeDiff, Nat.reduceEqDiff, Int.reduceAdd, Int.reduceSub, Int.reduceMul, Int.reduceNeg, Int.reduceLT, Int.reduceLE, Int.reduceEq, Int.reduceBEq, Int.reducePow, Int.reduceToNat, Bool.not_true, Bool.not_false, decide_true, decide_false, true_and, and_true, f_inC]
          have hi := f_intS h5 (by simp) (by rw [List.length_cons]; omega)
          cases r with
          | nil =>
            have g1 : ¬ (1 : Int) < ((1 : Nat) : Int) := by decide
            refine ⟨.int (NumText.digitsVal [c] : Nat), ?_, ?_⟩
            · simp only [List.length_nil] at h2 h4
              simp only [b_ok, b_no, oo_some, oo_none, g_fr, g_z, g_s, sl_s, sl_fr, sl_ow, sl_io, rv_fr, rv_ow, rv_sl, fz_fr, fz_ow, kCo_, fz_s, fz_zf, fz_zo, om_some, ob_some, om_none, ow_s, ow_ow, ow_io, mu_s, mu_ow, mu_io, st_s, st_so, st_zn, st_zf, st_zo, so_zn, so_zf, so_zo, v_nm, v_nmf, v_nmo, v_nmi, v_k, v_fz, k_fz, v_anil, v_acons, k_a1, k_a2, v_bnil, v_bcons, k_b1, k_b2, v_tup, v_lst, k_tup, k_lst, v_bin, k_o1, k_o2, v_b, v_r, v_un, k_un, v_u, rvs_nil, rvs_cons, v_cons, v_call, k_call, v_l, v_mt, k_mt, v_testOf, k_t, v_truth, k_tr, v_tr, v_kk, tru_b, v_notT, k_nt, v_andT, v_orT, k_at1, k_at0, k_ot1, k_ot0, v_if, k_if1, k_if0, v_and, v_or, v_not, k_and1, k_and0, k_or1, k_or0, k_not, v_chain, k_ch1, k_ch2, v_b', k_ch3t, k_ch3f, v_pn, v_ps, k_p, v_sl, k_s1, k_s2, k_s3, v_s, v_seq, k_snx, k_srt, k_sbk, k_sct, v_ifS, k_ifS1, k_ifS0, v_skip, v_brk, v_cnt, v_exp, v_ret, k_exp, k_ret, v_set, k_set, v_n, v_asg, k_asg, a_nm, a_nil, a_cons, k_as, a_tup, v_par, v_par3, k_par, k_par3, v_setIx, k_x1, v_x1, k_mu, k_x2, v_x2, v_augIx, v_g1, k_g1, v_b2, k_g2, k_g3, v_g3, v_g4, v_aug, v_au, k_au, v_au1, v_au2, v_mut, v_m0, v_m1, k_m, v_m2, v_m3, v_callF, k_cf, v_c2, v_callI, v_i1, k_ci, v_i2, v_i3, v_it, k_it, v_itS, it_l, it_t, it_s, v_R1, k_R1, v_for, k_for, v_lc, k_lc, v_lcT, cl_1s, cl_1z, v_yes, v_fgt, v_frt, v_fnx, f_ff, f_fo, f_tf, f_to, f_fs, f_ts, v_ef, v_eo, st_f, st_t, mf_nil, mf_cons, rep_s, rep_z, f_addI, f_addS, f_addL, f_addT, f_sub, f_mod, f_div, f_mulI, f_mulJ, f_mulM, f_mulS, f_pow, f_neg, f_eqI, f_eqS, f_neI, f_neS, f_ltI, f_leI, f_gtI, f_geI, f_ltS, f_is, f_isnt, f_ixL, f_ixT, a_d, se_0, se_1, se_2, i_add, f_slL, f_slT, f_slS, f_slR, f_lenS, f_lenL, f_lenT, f_intI, f_intB, f_abs, f_tupL, f_tupT, f_isi_s, atI0, atI1, atI2, atI3, List.length_cons, List.length_nil, List.cons_append, List.nil_append, Nat.reduceAdd, Nat.reduceSub, Nat.reduceLeDiff, Nat.reduceEqDiff, Int.reduceAdd, Int.reduceSub, Int.reduceMul, Int.reduceNeg, Int.reduceLT, Int.reduceLE, Int.reduceEq, Int.reduceBEq, Int.reducePow, Int.reduceToNat, Bool.not_true, Bool.not_false, decide_true, decide_false, true_and, and_true, e7, c1, c2, k1, len_mkS, h2, h4, tl_mkS, lc, noEx, f_allB, h5, g1, hi]
            · unfold lead
              split
              · rename_i z
                cases z
              · rfl
          | cons c2' r =>
            have g1 : (1 : Int) < ((r.length + 1 + 1 : Nat) : Int) := by omega
            by_cases h6 : c = 48
            · subst h6
              have k3 : (mkS [48] == Str.ofString "0") = true := by decide +kernel
              refine ⟨.none, ?_, rfl⟩
              simp only [List.length_cons] at h2 h4
              simp only [b_ok, b_no, oo_some, oo_none, g_fr, g_z, g_s, sl_s, sl_fr, sl_ow, sl_io, rv_fr, rv_ow, rv_sl, fz_fr, fz_ow, kCo_, fz_s, fz_zf, fz_zo, om_some, ob_some, om_none, ow_s, ow_ow, ow_io, mu_s, mu_ow, mu_io, st_s, st_so, st_zn, st_zf, st_zo, so_zn, so_zf, so_zo, v_nm, v_nmf, v_nmo, v_nmi, v_k, v_fz, k_fz, v_anil, v_acons, k_a1, k_a2, v_bnil, v_bcons, k_b1, k_b2, v_tup, v_lst, k_tup, k_lst, v_bin, k_o1, k_o2, v_b, v_r, v_un, k_un, v_u, rvs_nil, rvs_cons, v_cons, v_call, k_call, v_l, v_mt, k_mt, v_testOf, k_t, v_truth, k_tr, v_tr, v_kk, tru_b, v_notT, k_nt, v_andT, v_orT, k_at1, k_at0, k_ot1, k_ot0, v_if, k_if1, k_if0, v_and, v_or, v_not, k_and1, k_and0, k_or1, k_or0, k_not, v_chain, k_ch1, k_ch2, v_b', k_ch3t, k_ch3f, v_pn, v_ps, k_p, v_sl, k_s1, k_s2, k_s3, v_s, v_seq, k_snx, k_srt, k_sbk, k_sct, v_ifS, k_ifS1, k_ifS0, v_skip, v_brk, v_cnt, v_exp, v_ret, k_exp, k_ret, v_set, k_set, v_n, v_asg, k_asg, a_nm, a_nil, a_cons, k_as, a_tup, v_par, v_par3, k_par, k_par3, v_setIx, k_x1, v_x1, k_mu, k_x2, v_x2, v_augIx, v_g1, k_g1, v_b2, k_g2, k_g3, v_g3, v_g4, v_aug, v_au, k_au, v_au1, v_au2, v_mut, v_m0, v_m1, k_m, v_m2, v_m3, v_callF, k_cf, v_c2, v_callI, v_i1, k_ci, v_i2, v_i3, v_it, k_it, v_itS, it_l, it_t, it_s, v_R1, k_R1, v_for, k_for, v_lc, k_lc, v_lcT, cl_1s, cl_1z, v_yes, v_fgt, v_frt, v_fnx, f_ff, f_fo, f_tf, f_to, f_fs, f_ts, v_ef, v_eo, st_f, st_t, mf_nil, mf_cons, rep_s, rep_z, f_addI, f_addS, f_addL, f_addT, f_sub, f_mod, f_div, f_mulI, f_mulJ, f_mulM, f_mulS, f_pow, f_neg, f_eqI, f_eqS, f_neI, f_neS, f_ltI, f_leI, f_gtI, f_geI, f_ltS, f_is, f_isnt, f_ixL, f_ixT, a_d, se_0, se_1, se_2, i_add, f_slL, f_slT, f_slS, f_slR, f_lenS, f_lenL, f_lenT, f_intI, f_intB, f_abs, f_tupL, f_tupT, f_isi_s, atI0, atI1, atI2, atI3, List.length_cons, List.length_nil, List.cons_append, List.nil_append, Nat.reduceAdd, Nat.reduceSub, Nat.reduceLeDiff, Nat.reduceEqDiff, Int.reduceAdd, Int.reduceSub, Int.reduceMul, Int.reduceNeg, Int.reduceLT, Int.reduceLE, Int.reduceEq, Int.reduceBEq, Int.reducePow, Int.reduceToNat, Bool.not_true, Bool.not_false, decide_true, decide_false, true_and, and_true, e7, c1, c2, k1, len_mkS, h2, h4, tl_mkS, lc, noEx, f_allB, h5, g1, f_ixS, sg_str, k3]
            · have k3 : (mkS [c] == Str.ofString "0") = false := by
                rw [show Str.ofString "0" = mkS [48] by decide +kernel, mkS_inj]
                exact decide_eq_false fun z => h6 (by injection z)
              refine ⟨.int (NumText.digitsVal (c :: c2' :: r) : Nat), ?_, ?_⟩
              · simp only [List.length_cons] at h2 h4
                simp only [b_ok, b_no, oo_some, oo_none, g_fr, g_z, g_s, sl_s, sl_fr, sl_ow, sl_io, rv_fr, rv_ow, rv_sl, fz_fr, fz_ow, kCo_, fz_s, fz_zf, fz_zo, om_some, ob_some, om_none, ow_s, ow_ow, ow_io, mu_s, mu_ow, mu_io, st_s, st_so, st_zn, st_zf, st_zo, so_zn, so_zf, so_zo, v_nm, v_nmf, v_nmo, v_nmi, v_k, v_fz, k_fz, v_anil, v_acons, k_a1, k_a2, v_bnil, v_bcons, k_b1, k_b2, v_tup, v_lst, k_tup, k_lst, v_bin, k_o1, k_o2, v_b, v_r, v_un, k_un, v_u, rvs_nil, rvs_cons, v_cons, v_call, k_call, v_l, v_mt, k_mt, v_testOf, k_t, v_truth, k_tr, v_tr, v_kk, tru_b, v_notT, k_nt, v_andT, v_orT, k_at1, k_at0, k_ot1, k_ot0, v_if, k_if1, k_if0, v_and, v_or, v_not, k_and1, k_and0, k_or1, k_or0, k_not, v_chain, k_ch1, k_ch2, v_b', k_ch3t, k_ch3f, v_pn, v_ps, k_p, v_sl, k_s1, k_s2, k_s3, v_s, v_seq, k_snx, k_srt, k_sbk, k_sct, v_ifS, k_ifS1, k_ifS0, v_skip, v_brk, v_cnt, v_exp, v_ret, k_exp, k_ret, v_set, k_set, v_n, v_asg, k_asg, a_nm, a_nil, a_cons, k_as, a_tup, v_par, v_par3, k_par, k_par3, v_setIx, k_x1, v_x1, k_mu, k_x2, v_x2, v_augIx, v_g1, k_g1, v_b2, k_g2, k_g3, v_g3, v_g4, v_aug, v_au, k_au, v_au1, v_au2, v_mut, v_m0, v_m1, k_m, v_m2, v_m3, v_callF, k_cf, v_c2, v_callI, v_i1, k_ci, v_i2, v_i3, v_it, k_it, v_itS, it_l, it_t, it_s, v_R1, k_R1, v_for, k_for, v_lc, k_lc, v_lcT, cl_1s, cl_1z, v_yes, v_fgt, v_frt, v_fnx, f_ff, f_fo, f_tf, f_to, f_fs, f_ts, v_ef, v_eo, st_f, st_t, mf_nil, mf_cons, rep_s, rep_z, f_addI, f_addS, f_addL, f_addT, f_sub, f_mod, f_div, f_mulI, f_mulJ, f_mulM, f_mulS, f_pow, f_neg, f_eqI, f_eqS, f_neI, f_neS, f_ltI, f_leI, f_gtI, f_geI, f_ltS, f_is, f_isnt, f_ixL, f_ixT, a_d, se_0, se_1, se_2, i_add, f_slL, f_slT, f_slS, f_slR, f_lenS, f_lenL, f_lenT, f_intI, f_intB, f_abs, f_tupL, f_tupT, f_isi_s, atI0, atI1, atI2, atI3, List.length_cons, List.length_nil, List.cons_append, List.nil_append, Nat.reduceAdd, Nat.reduceSub, Nat.reduceLeDiff, Nat.reduceEqDiff, Int.reduceAdd, Int.reduceSub, Int.reduceMul, Int.reduceNeg, Int.reduceLT, Int.reduceLE, Int.reduceEq, Int.reduceBEq, Int.reducePow, Int.reduceToNat, Bool.not_true, Bool.not_false, decide_true, decide_false, true_and, and_true, e7, c1, c2, k1, len_mkS, h2, h4, tl_mkS, lc, noEx, f_allB, h5, g1, f_ixS, sg_str, k3, hi]
              · unfold lead
                split
                · rename_i z
                  cases z
                  exact absurd rfl h6
                · rfl
      · have h4 : ¬ ((r.length + 1 : Nat) : Int) ≤ (19 : Int) := by omega
        refine ⟨.none, ?_, ?_⟩
        · simp only [b_ok, b_no, oo_some, oo_none, g_fr, g_z, g_s, sl_s, sl_fr, sl_ow, sl_io, rv_fr, rv_ow, rv_sl, fz_fr, fz_ow, kCo_, fz_s, fz_zf, fz_zo, om_some, ob_some, om_none, ow_s, ow_ow, ow_io, mu_s, mu_ow, mu_io, st_s, st_so, st_zn, st_zf, st_zo, so_zn, so_zf, so_zo, v_nm, v_nmf, v_nmo, v_nmi, v_k, v_fz, k_fz, v_anil, v_acons, k_a1, k_a2, v_bnil, v_bcons, k_b1, k_b2, v_tup, v_lst, k_tup, k_lst, v_bin, k_o1, k_o2, v_b, v_r, v_un, k_un, v_u, rvs_nil, rvs_cons, v_cons, v_call, k_call, v_l, v_mt, k_mt, v_testOf, k_t, v_truth, k_tr, v_tr, v_kk, tru_b, v_notT, k_nt, v_andT, v_orT, k_at1, k_at0, k_ot1, k_ot0, v_if, k_if1, k_if0, v_and, v_or, v_not, k_and1, k_and0, k_or1, k_or0, k_not, v_chain, k_ch1, k_ch2, v_b', k_ch3t, k_ch3f, v_pn, v_ps, k_p, v_sl, k_s1, k_s2, k_s3, v_s, v_seq, k_snx, k_srt, k_sbk, k_sct, v_ifS, k_ifS1, k_ifS0, v_skip, v_brk, v_cnt, v_exp, v_ret, k_exp, k_ret, v_set, k_set, v_n, v_asg, k_asg, a_nm, a_nil, a_cons, k_as, a_tup, v_par, v_par3, k_par, k_par3, v_setIx, k_x1, v_x1, k_mu, k_x2, v_x2, v_augIx, v_g1, k_g1, v_b2, k_g2, k_g3, v_g3, v_g4, v_aug, v_au, k_au, v_au1, v_au2, v_mut, v_m0, v_m1, k_m, v_m2, v_m3, v_callF, k_cf, v_c2, v_callI, v_i1, k_ci, v_i2, v_i3, v_it, k_it, v_itS, it_l, it_t, it_s, v_R1, k_R1, v_for, k_for, v_lc, k_lc, v_lcT, cl_1s, cl_1z, v_yes, v_fgt, v_frt, v_fnx, f_ff, f_fo, f_tf, f_to, f_fs, f_ts, v_ef, v_eo, st_f, st_t, mf_nil, mf_cons, rep_s, rep_z, f_addI, f_addS, f_addL, f_addT, f_sub, f_mod, f_div, f_mulI, f_mulJ, f_mulM, f_mulS, f_pow, f_neg, f_eqI, f_eqS, f_neI, f_neS, f_ltI, f_leI, f_gtI, f_geI, f_ltS, f_is, f_isnt, f_ixL, f_ixT, a_d, se_0, se_1, se_2, i_add, f_slL, f_slT, f_slS, f_slR, f_lenS, f_lenL, f_lenT, f_intI, f_intB, f_abs, f_tupL, f_tupT, f_isi_s, atI0, atI1, atI2, atI3, List.length_cons, List.length_nil, List.cons_append, List.nil_append, Nat.reduceAdd, Nat.reduceSub, Nat.reduceLeDiff, Nat.reduceEqDiff, Int.reduceAdd, Int.reduceSub, Int.reduceMul, Int.reduceNeg, Int.reduceLT, Int.reduceLE, Int.reduceEq, Int.reduceBEq, Int.reducePow, Int.reduceToNat, Bool.not_true, Bool.not_false, decide_true, decide_false, true_and, and_true, e7, c1, c2, k1, len_mkS, h2, h4]
        · rw [hb, decide_eq_false h3]
          rfl
  · have k1 : (mkS (l.take 7) == Str.ofString "store/c") = false := by show (mkS (l.take 7) == sSH) = false; rw [mk_SH, mkS_inj]; exact decide_eq_false h1
    refine ⟨.none, ?_, ?_⟩
    · simp only [b_ok, b_no, oo_some, oo_none, g_fr, g_z, g_s, sl_s, sl_fr, sl_ow, sl_io, rv_fr, rv_ow, rv_sl, fz_fr, fz_ow, kCo_, fz_s, fz_zf, fz_zo, om_some, ob_some, om_none, ow_s, ow_ow, ow_io, mu_s, mu_ow, mu_io, st_s, st_so, st_zn, st_zf, st_zo, so_zn, so_zf, so_zo, v_nm, v_nmf, v_nmo, v_nmi, v_k, v_fz, k_fz, v_anil, v_acons, k_a1, k_a2, v_bnil, v_bcons, k_b1, k_b2, v_tup, v_lst, k_tup, k_lst, v_bin, k_o1, k_o2, v_b, v_r, v_un, k_un, v_u, rvs_nil, rvs_cons, v_cons, v_call, k_call, v_l, v_mt, k_mt, v_testOf, k_t, v_truth, k_tr, v_tr, v_kk, tru_b, v_notT, k_nt, v_andT, v_orT, k_at1, k_at0, k_ot1, k_ot0, v_if, k_if1, k_if0, v_and, v_or, v_not, k_and1, k_and0, k_or1, k_or0, k_not, v_chain, k_ch1, k_ch2, v_b', k_ch3t, k_ch3f, v_pn, v_ps, k_p, v_sl, k_s1, k_s2, k_s3, v_s, v_seq, k_snx, k_srt, k_sbk, k_sct, v_ifS, k_ifS1, k_ifS0, v_skip, v_brk, v_cnt, v_exp, v_ret, k_exp, k_ret, v_set, k_set, v_n, v_asg, k_asg, a_nm, a_nil, a_cons, k_as, a_tup, v_par, v_par3, k_par, k_par3, v_setIx, k_x1, v_x1, k_mu, k_x2, v_x2, v_augIx, v_g1, k_g1, v_b2, k_g2, k_g3, v_g3, v_g4, v_aug, v_au, k_au, v_au1, v_au2, v_mut, v_m0, v_m1, k_m, v_m2, v_m3, v_callF, k_cf, v_c2, v_callI, v_i1, k_ci, v_i2, v_i3, v_it, k_it, v_itS, it_l, it_t, it_s, v_R1, k_R1, v_for, k_for, v_lc, k_lc, v_lcT, cl_1s, cl_1z, v_yes, v_fgt, v_frt, v_fnx, f_ff, f_fo, f_tf, f_to, f_fs, f_ts, v_ef, v_eo, st_f, st_t, mf_nil, mf_cons, rep_s, rep_z, f_addI, f_addS, f_addL, f_addT, f_sub, f_mod, f_div, f_mulI, f_mulJ, f_mulM, f_mulS, f_pow, f_neg, f_eqI, f_eqS, f_neI, f_neS, f_ltI, f_leI, f_gtI, f_geI, f_ltS, f_is, f_isnt, f_ixL, f_ixT, a_d, se_0, se_1, se_2, i_add, f_slL, f_slT, f_slS, f_slR, f_lenS, f_lenL, f_lenT, f_intI, f_intB, f_abs, f_tupL, f_tupT, f_isi_s, atI0, atI1, atI2, atI3, List.length_cons, List.length_nil, List.cons_append, List.nil_append, Nat.reduceAdd, Nat.reduceSub, Nat.reduceLeDiff, Nat.reduceEqDiff, Int.reduceAdd, Int.reduceSub, Int.reduceMul, Int.reduceNeg, Int.reduceLT, Int.reduceLE, Int.reduceEq, Int.reduceBEq, Int.reducePow, Int.reduceToNat, Bool.not_true, Bool.not_false, decide_true, decide_false, true_and, and_true, e7, c1, c2, k1]
    · unfold shB
      rw [decide_eq_false h1]
      rfl
theorem sp_is_shelf (l : List Nat) : r_is_shelf [.str (mkS l)] = .ok (.fr (.bool (shB l))) none := by
  obtain ⟨d, h1, h2⟩ := sp_number_behind l
  unfold r_is_shelf c_is_shelf
  rw [v_run]
  simp only [b_ok, b_no, oo_some, oo_none, g_fr, g_z, g_s, sl_s, sl_fr, sl_ow, sl_io, rv_fr, rv_ow, rv_sl, fz_fr, fz_ow, kCo_, fz_s, fz_zf, fz_zo, om_some, ob_some, om_none, ow_s, ow_ow, ow_io, mu_s, mu_ow, mu_io, st_s, st_so, st_zn, st_zf, st_zo, so_zn, so_zf, so_zo, v_nm, v_nmf, v_nmo, v_nmi, v_k, v_fz, k_fz, v_anil, v_acons, k_a1, k_a2, v_bnil, v_bcons, k_b1, k_b2, v_tup, v_lst, k_tup, k_lst, v_bin, k_o1, k_o2, v_b, v_r, v_un, k_un, v_u, rvs_nil, rvs_cons, v_cons, v_call, k_call, v_l, v_mt, k_mt, v_testOf, k_t, v_truth, k_tr, v_tr, v_kk, tru_b, v_notT, k_nt, v_andT, v_orT, k_at1, k_at0, k_ot1, k_ot0, v_if, k_if1, k_if0, v_and, v_or, v_not, k_and1, k_and0, k_or1, k_or0, k_not, v_chain, k_ch1, k_ch2, v_b', k_ch3t, k_ch3f, v_pn, v_ps, k_p, v_sl, k_s1, k_s2, k_s3, v_s, v_seq, k_snx, k_srt, k_sbk, k_sct, v_ifS, k_ifS1, k_ifS0, v_skip, v_brk, v_cnt, v_exp, v_ret, k_exp, k_ret, v_set, k_set, v_n, v_asg, k_asg, a_nm, a_nil, a_cons, k_as, a_tup, v_par, v_par3, k_par, k_par3, v_setIx, k_x1, v_x1, k_mu, k_x2, v_x2, v_augIx, v_g1, k_g1, v_b2, k_g2, k_g3, v_g3, v_g4, v_aug, v_au, k_au, v_au1, v_au2, v_mut, v_m0, v_m1, k_m, v_m2, v_m3, v_callF, k_cf, v_c2, v_callI, v_i1, k_ci, v_i2, v_i3, v_it, k_it, v_itS, it_l, it_t, it_s, v_R1, k_R1, v_for, k_for, v_lc, k_lc, v_lcT, cl_1s, cl_1z, v_yes, v_fgt, v_frt, v_fnx, f_ff, f_fo, f_tf, f_to, f_fs, f_ts, v_ef, v_eo, st_f, st_t, mf_nil, mf_cons, rep_s, rep_z, f_addI, f_addS, f_addL, f_addT, f_sub, f_mod, f_div, f_mulI, f_mulJ, f_mulM, f_mulS, f_pow, f_neg, f_eqI, f_eqS, f_neI, f_neS, f_ltI, f_leI, f_gtI, f_geI, f_ltS, f_is, f_isnt, f_ixL, f_ixT, a_d, se_0, se_1, se_2, i_add, f_slL, f_slT, f_slS, f_slR, f_lenS, f_lenL, f_lenT, f_intI, f_intB, f_abs, f_tupL, f_tupT, f_isi_s, atI0, atI1, atI2, atI3, List.length_cons, List.length_nil, List.cons_append, List.nil_append, Nat.reduceAdd, Nat.reduceSub, Nat.reduceLeDiff, Nat.reduceEqDiff, Int.reduceAdd, Int.reduceSub, Int.reduceMul, Int.reduceNeg, Int.reduceLT, Int.reduceLE, Int.reduceEq, Int.reduceBEq, Int.reducePow, Int.reduceToNat, Bool.not_true, Bool.not_false, decide_true, decide_false, true_and, and_true, h1, h2]
theorem val_lt : ∀ (l : List Nat), l.all (chIn sDG) = true → ∀ a k : Nat, a < 10 ^ k → l.foldl (fun acc c => acc * 10 + (c - 48)) a < 10 ^ (k + l.length)
  | [], _, a, k, h => h
  | c :: l, hd, a, k, h => by
    rw [List.all_cons, Bool.and_eq_true] at hd
    have hc := (dg_iff c).mp hd.1
    have e : k + (c :: l).length = (k + 1) + l.length := by rw [List.length_cons]; omega
    rw [e]
    refine val_lt l hd.2 (a * 10 + (c - 48)) (k + 1) ?_
    rw [Nat.pow_succ]
    omega
theorem dig_lt {l : List Nat} (h : l.all (chIn sDG) = true) : NumText.digitsVal l < 10 ^ l.length := by
  have := val_lt l h 0 0 (by decide)
  rw [Nat.zero_add] at this
  exact this
theorem log_ok {l : List Nat} (h : l.all (chIn sDG) = true) (hl : l.length ≤ 570) : ((NumText.digitsVal l : Nat) : Int).natAbs.log2 < 1920 := by
  rw [Int.natAbs_natCast]
  by_cases hz : NumText.digitsVal l = 0
  · rw [hz]
    decide
  · rw [Nat.log2_lt hz]
    exact Nat.lt_of_lt_of_le (dig_lt h) (Nat.le_trans (Nat.pow_le_pow_right (by decide) hl) (by decide +kernel))
theorem chr_back {l : List Nat} (h : l.all (chIn sDG) = true) : (l.map Char.ofNat).map Char.toNat = l := by
  rw [List.map_map]
  have : ∀ c ∈ l, (Char.toNat ∘ Char.ofNat) c = c := fun c hc => by
    have hd := (dg_iff c).mp (List.all_eq_true.mp h c hc)
    have hcs : c = 48 ∨ c = 49 ∨ c = 50 ∨ c = 51 ∨ c = 52 ∨ c = 53 ∨ c = 54 ∨ c = 55 ∨ c = 56 ∨ c = 57 := by omega
    rcases hcs with rfl | rfl | rfl | rfl | rfl | rfl | rfl | rfl | rfl | rfl <;> rfl
  exact (List.map_congr_left this).trans (List.map_id' l)
theorem str_int {l : List Nat} (h : l.all (chIn sDG) = true) (h1 : l ≠ []) : ((Str.ofString (toString ((NumText.digitsVal l : Nat) : Int))) == mkS l) = !lead l := by
  cases l with
  | nil => exact absurd rfl h1
  | cons c r =>
    have key : ¬ (c = 48 ∧ r ≠ []) → Str.ofString (toString ((NumText.digitsVal (c :: r) : Nat) : Int)) = mkS (c :: r) := fun hn => by
      have hc := (dg_iff c).mp (by rw [List.all_cons, Bool.and_eq_true] at h; exact h.1)
      have e := NumText.toDigits_digitsVal r.length (c :: r) (List.length_cons) (dg_all h) (by
        cases r with
        | nil => exact .inl rfl
        | cons d r => exact .inr ⟨c, d :: r, rfl, by
          have : c ≠ 48 := fun z => hn ⟨z, by simp⟩
          omega⟩)
      have e2 := PyProof.Rows.text_ofNat (NumText.digitsVal (c :: r))
      rw [e, chr_back h] at e2
      exact e2
    by_cases hn : c = 48 ∧ r ≠ []
    · obtain ⟨rfl, hr⟩ := hn
      cases r with
      | nil => exact absurd rfl hr
      | cons d r =>
        have hd : (d :: r).all (chIn sDG) = true := by rw [List.all_cons, Bool.and_eq_true] at h; exact h.2
        have hb := dig_lt hd
        have hlen := PyProof.Rows.toString_length_le (v := ((NumText.digitsVal (d :: r) : Nat) : Int)) (by omega) (k := (d :: r).length) (by rw [List.length_cons]; omega) (by
          have : ((NumText.digitsVal (d :: r) : Nat) : Int) < ((10 ^ (d :: r).length : Nat) : Int) := by exact_mod_cast hb
          simpa using this)
        have ne : ¬ Str.ofString (toString ((NumText.digitsVal (48 :: d :: r) : Nat) : Int)) = mkS (48 :: d :: r) := fun z => by
          have z2 := congrArg Str.length z
          rw [len_mkS, NumText.digitsVal_zero] at z2
          rw [z2, List.length_cons] at hlen
          omega
        show _ = false
        rw [← Bool.not_eq_true, beq_iff_eq]
        exact ne
    · rw [key hn, beq_self_eq_true]
      unfold lead
      split
      · rename_i z
        cases z
        exact absurd ⟨rfl, by simp⟩ hn
      · rfl
def numB (l : List Nat) : Bool := decide (l.take 7 = [115, 116, 111, 114, 101, 47, 99]) && (decide (1 ≤ (l.drop 7).length) && ((l.drop 7).all (chIn sDG) && !lead (l.drop 7)))
theorem sp_number_of (l : List Nat) (hl : l.length ≤ 570) : ∃ d, r_law_number_of [.str (mkS l), .str "store/c"] = .ok (.fr d) none ∧ (!isN d) = numB l := by
  unfold r_law_number_of c_law_number_of
  rw [v_run]
  have c1 := cut_from (mkS l) 7
  have c2 := cut_to (mkS l) 7
  rw [tl_mkS] at c1 c2
  have c1 : cutS (mkS l) (some 7) none = mkS (l.drop 7) := c1
  have c2 : cutS (mkS l) none (some 7) = mkS (l.take 7) := c2
  have e7 : (((Str.ofString "store/c").length : Nat) : Int) = 7 := by rw [len_SH]; rfl
  by_cases h1 : l.take 7 = [115, 116, 111, 114, 101, 47, 99]
  · have k1 : (mkS (l.take 7) == Str.ofString "store/c") = true := by show (mkS (l.take 7) == sSH) = true; rw [mk_SH, mkS_inj]; exact decide_eq_true h1
    have hwl : (l.drop 7).length ≤ 570 := by rw [List.length_drop]; omega
    generalize hw : l.drop 7 = w at *
    have k2 : (mkS w == Str.ofString "") = decide (w = []) := by rw [show Str.ofString "" = mkS [] by decide +kernel, mkS_inj]
    cases w with
    | nil =>
      refine ⟨.none, ?_, ?_⟩
      · simp only [b_ok, b_no, oo_some, oo_none, g_fr, g_z, g_s, sl_s, sl_fr, sl_ow, sl_io, rv_fr, rv_ow, rv_sl, fz_fr, fz_ow, kCo_, fz_s, fz_zf, fz_zo, om_some, ob_some, om_none, ow_s, ow_ow, ow_io, mu_s, mu_ow, mu_io, st_s, st_so, st_zn, st_zf, st_zo, so_zn, so_zf, so_zo, v_nm, v_nmf, v_nmo, v_nmi, v_k, v_fz, k_fz, v_anil, v_acons, k_a1, k_a2, v_bnil, v_bcons, k_b1, k_b2, v_tup, v_lst, k_tup, k_lst, v_bin, k_o1, k_o2, v_b, v_r, v_un, k_un, v_u, rvs_nil, rvs_cons, v_cons, v_call, k_call, v_l, v_mt, k_mt, v_testOf, k_t, v_truth, k_tr, v_tr, v_kk, tru_b, v_notT, k_nt, v_andT, v_orT, k_at1, k_at0, k_ot1, k_ot0, v_if, k_if1, k_if0, v_and, v_or, v_not, k_and1, k_and0, k_or1, k_or0, k_not, v_chain, k_ch1, k_ch2, v_b', k_ch3t, k_ch3f, v_pn, v_ps, k_p, v_sl, k_s1, k_s2, k_s3, v_s, v_seq, k_snx, k_srt, k_sbk, k_sct, v_ifS, k_ifS1, k_ifS0, v_skip, v_brk, v_cnt, v_exp, v_ret, k_exp, k_ret, v_set, k_set, v_n, v_asg, k_asg, a_nm, a_nil, a_cons, k_as, a_tup, v_par, v_par3, k_par, k_par3, v_setIx, k_x1, v_x1, k_mu, k_x2, v_x2, v_augIx, v_g1, k_g1, v_b2, k_g2, k_g3, v_g3, v_g4, v_aug, v_au, k_au, v_au1, v_au2, v_mut, v_m0, v_m1, k_m, v_m2, v_m3, v_callF, k_cf, v_c2, v_callI, v_i1, k_ci, v_i2, v_i3, v_it, k_it, v_itS, it_l, it_t, it_s, v_R1, k_R1, v_for, k_for, v_lc, k_lc, v_lcT, cl_1s, cl_1z, v_yes, v_fgt, v_frt, v_fnx, f_ff, f_fo, f_tf, f_to, f_fs, f_ts, v_ef, v_eo, st_f, st_t, mf_nil, mf_cons, rep_s, rep_z, f_addI, f_addS, f_addL, f_addT, f_sub, f_mod, f_div, f_mulI, f_mulJ, f_mulM, f_mulS, f_pow, f_neg, f_eqI, f_eqS, f_neI, f_neS, f_ltI, f_leI, f_gtI, f_geI, f_ltS, f_is, f_isnt, f_ixL, f_ixT, a_d, se_0, se_1, se_2, i_add, f_slL, f_slT, f_slS, f_slR, f_lenS, f_lenL, f_lenT, f_intI, f_intB, f_abs, f_tupL, f_tupT, f_isi_s, atI0, atI1, atI2, atI3, List.length_cons, List.length_nil, List.cons_append, List.nil_append, Nat.reduceAdd, Nat.reduceSub, Nat.reduceLeDiff, Nat.reduceEqDiff, Int.reduceAdd, Int.reduceSub, Int.reduceMul, Int.reduceNeg, Int.reduceLT, Int.reduceLE, Int.reduceEq, Int.reduceBEq, Int.reducePow, Int.reduceToNat, Bool.not_true, Bool.not_false, decide_true, decide_false, true_and, and_true, e7, c1, c2, k1, k2]
      · unfold numB
        rw [hw, h1]
        rfl
    | cons c r =>
      have k3 : decide (c :: r = []) = false := decide_eq_false (by simp)
      have lc : lcD [3] (aNm 3) (cTestOf (cBin fNin (cNm 3) (cK (.str "0123456789")))) (cFz (cNm 3)) ((c :: r).map sgn) [.fr (.str (mkS l)), .fr (.str "store/c"), .fr (.str (mkS (c :: r))), .no] = .ok (((c :: r).filter fun c => !chIn sDG c).map sgn, [.fr (.str (mkS l)), .fr (.str "store/c"), .fr (.str (mkS (c :: r))), .no]) := by
        rw [lc_fgen sgn (fun c => !chIn sDG c) sgn]
        intro d _
        refine ⟨[.fr (.str (mkS l)), .fr (.str "store/c"), .fr (.str (mkS (c :: r))), .fr (sgn d)], rfl, ?_, fun _ => ?_, rfl⟩
        · simp only [b_ok, b_no, oo_some, oo_none, g_fr, g_z, g_s, sl_s, sl_fr, sl_ow, sl_io, rv_fr, rv_ow, rv_sl, fz_fr, fz_ow, kCo_, fz_s, fz_zf, fz_zo, om_some, ob_some, om_none, ow_s, ow_ow, ow_io, mu_s, mu_ow, mu_io, st_s, st_so, st_zn, st_zf, st_zo, so_zn, so_zf, so_zo, v_nm, v_nmf, v_nmo, v_nmi, v_k, v_fz, k_fz, v_anil, v_acons, k_a1, k_a2, v_bnil, v_bcons, k_b1, k_b2, v_tup, v_lst, k_tup, k_lst, v_bin, k_o1, k_o2, v_b, v_r, v_un, k_un, v_u, rvs_nil, rvs_cons, v_cons, v_call, k_call, v_l, v_mt, k_mt, v_testOf, k_t, v_truth, k_tr, v_tr, v_kk, tru_b, v_notT, k_nt, v_andT, v_orT, k_at1, k_at0, k_ot1, k_ot0, v_if, k_if1, k_if0, v_and, v_or, v_not, k_and1, k_and0, k_or1, k_or0, k_not, v_chain, k_ch1, k_ch2, v_b', k_ch3t, k_ch3f, v_pn, v_ps, k_p, v_sl, k_s1, k_s2, k_s3, v_s, v_seq, k_snx, k_srt, k_sbk, k_sct, v_ifS, k_ifS1, k_ifS0, v_skip, v_brk, v_cnt, v_exp, v_ret, k_exp, k_ret, v_set, k_set, v_n, v_asg, k_asg, a_nm, a_nil, a_cons, k_as, a_tup, v_par, v_par3, k_par, k_par3, v_setIx, k_x1, v_x1, k_mu, k_x2, v_x2, v_augIx, v_g1, k_g1, v_b2, k_g2, k_g3, v_g3, v_g4, v_aug, v_au, k_au, v_au1, v_au2, v_mut, v_m0, v_m1, k_m, v_m2, v_m3, v_callF, k_cf, v_c2, v_callI, v_i1, k_ci, v_i2, v_i3, v_it, k_it, v_itS, it_l, it_t, it_s, v_R1, k_R1, v_for, k_for, v_lc, k_lc, v_lcT, cl_1s, cl_1z, v_yes, v_fgt, v_frt, v_fnx, f_ff, f_fo, f_tf, f_to, f_fs, f_ts, v_ef, v_eo, st_f, st_t, mf_nil, mf_cons, rep_s, rep_z, f_addI, f_addS, f_addL, f_addT, f_sub, f_mod, f_div, f_mulI, f_mulJ, f_mulM, f_mulS, f_pow, f_neg, f_eqI, f_eqS, f_neI, f_neS, f_ltI, f_leI, f_gtI, f_geI, f_ltS, f_is, f_isnt, f_ixL, f_ixT, a_d, se_0, se_1, se_2, i_add, f_slL, f_slT, f_slS, f_slR, f_lenS, f_lenL, f_lenT, f_intI, f_intB, f_abs, f_tupL, f_tupT, f_isi_s, atI0, atI1, atI2, atI3, List.length_cons, List.length_nil, List.cons_append, List.nil_append, Nat.reduceAdd, Nat.reduceSub, Nat.reduceLeDiff, Nat.reduceEqDiff, Int.reduceAdd, Int.reduceSub, Int.reduceMul, Int.reduceNeg, Int.reduceLT, Int.reduceLE, Int.reduceEq, Int.reduceBEq, Int.reducePow, Int.reduceToNat, Bool.not_true, Bool.not_false, decide_true, decide_false, true_and, and_true, f_ninC]
        · simp only [b_ok, b_no, oo_some, oo_none, g_fr, g_z, g_s, sl_s, sl_fr, sl_ow, sl_io, rv_fr, rv_ow, rv_sl, fz_fr, fz_ow, kCo_, fz_s, fz_zf, fz_zo, om_some, ob_some, om_none, ow_s, ow_ow, ow_io, mu_s, mu_ow, mu_io, st_s, st_so, st_zn, st_zf, st_zo, so_zn, so_zf, so_zo, v_nm, v_nmf, v_nmo, v_nmi, v_k, v_fz, k_fz, v_anil, v_acons, k_a1, k_a2, v_bnil, v_bcons, k_b1, k_b2, v_tup, v_lst, k_tup, k_lst, v_bin, k_o1, k_o2, v_b, v_r, v_un, k_un, v_u, rvs_nil, rvs_cons, v_cons, v_call, k_call, v_l, v_mt, k_mt, v_testOf, k_t, v_truth, k_tr, v_tr, v_kk, tru_b, v_notT, k_nt, v_andT, v_orT, k_at1, k_at0, k_ot1, k_ot0, v_if, k_if1, k_if0, v_and, v_or, v_not, k_and1, k_and0, k_or1, k_or0, k_not, v_chain, k_ch1, k_ch2, v_b', k_ch3t, k_ch3f, v_pn, v_ps, k_p, v_sl, k_s1, k_s2, k_s3, v_s, v_seq, k_snx, k_srt, k_sbk, k_sct, v_ifS, k_ifS1, k_ifS0, v_skip, v_brk, v_cnt, v_exp, v_ret, k_exp, k_ret, v_set, k_set, v_n, v_asg, k_asg, a_nm, a_nil, a_cons, k_as, a_tup, v_par, v_par3, k_par, k_par3, v_setIx, k_x1, v_x1, k_mu, k_x2, v_x2, v_augIx, v_g1, k_g1, v_b2, k_g2, k_g3, v_g3, v_g4, v_aug, v_au, k_au, v_au1, v_au2, v_mut, v_m0, v_m1, k_m, v_m2, v_m3, v_callF, k_cf, v_c2, v_callI, v_i1, k_ci, v_i2, v_i3, v_it, k_it, v_itS, it_l, it_t, it_s, v_R1, k_R1, v_for, k_for, v_lc, k_lc, v_lcT, cl_1s, cl_1z, v_yes, v_fgt, v_frt, v_fnx, f_ff, f_fo, f_tf, f_to, f_fs, f_ts, v_ef, v_eo, st_f, st_t, mf_nil, mf_cons, rep_s, rep_z, f_addI, f_addS, f_addL, f_addT, f_sub, f_mod, f_div, f_mulI, f_mulJ, f_mulM, f_mulS, f_pow, f_neg, f_eqI, f_eqS, f_neI, f_neS, f_ltI, f_leI, f_gtI, f_geI, f_ltS, f_is, f_isnt, f_ixL, f_ixT, a_d, se_0, se_1, se_2, i_add, f_slL, f_slT, f_slS, f_slR, f_lenS, f_lenL, f_lenT, f_intI, f_intB, f_abs, f_tupL, f_tupT, f_isi_s, atI0, atI1, atI2, atI3, List.length_cons, List.length_nil, List.cons_append, List.nil_append, Nat.reduceAdd, Nat.reduceSub, Nat.reduceLeDiff, Nat.reduceEqDiff, Int.reduceAdd, Int.reduceSub, Int.reduceMul, Int.reduceNeg, Int.reduceLT, Int.reduceLE, Int.reduceEq, Int.reduceBEq, Int.reducePow, Int.reduceToNat, Bool.not_true, Bool.not_false, decide_true, decide_false, true_and, and_true]
      have hb : numB l = ((c :: r).all (chIn sDG) && !lead (c :: r)) := by
        unfold numB
        rw [hw, decide_eq_true h1, decide_eq_true (show 1 ≤ (c :: r).length by rw [List.length_cons]; omega)]
        rfl
      rw [hb]
      cases h5 : (c :: r).all (chIn sDG) with
      | false =>
        refine ⟨.none, ?_, rfl⟩
        simp only [b_ok, b_no, oo_some, oo_none, g_fr, g_z, g_s, sl_s, sl_fr, sl_ow, sl_io, rv_fr, rv_ow, rv_sl, fz_fr, fz_ow, kCo_, fz_s, fz_zf, fz_zo, om_some, ob_some, om_none, ow_s, ow_ow, ow_io, mu_s, mu_ow, mu_io, st_s, st_so, st_zn, st_zf, st_zo, so_zn, so_zf, so_zo, v_nm, v_nmf, v_nmo, v_nmi, v_k, v_fz, k_fz, v_anil, v_acons, k_a1, k_a2, v_bnil, v_bcons, k_b1, k_b2, v_tup, v_lst, k_tup, k_lst, v_bin, k_o1, k_o2, v_b, v_r, v_un, k_un, v_u, rvs_nil, rvs_cons, v_cons, v_call, k_call, v_l, v_mt, k_mt, v_testOf, k_t, v_truth, k_tr, v_tr, v_kk, tru_b, v_notT, k_nt, v_andT, v_orT, k_at1, k_at0, k_ot1, k_ot0, v_if, k_if1, k_if0, v_and, v_or, v_not, k_and1, k_and0, k_or1, k_or0, k_not, v_chain, k_ch1, k_ch2, v_b', k_ch3t, k_ch3f, v_pn, v_ps, k_p, v_sl, k_s1, k_s2, k_s3, v_s, v_seq, k_snx, k_srt, k_sbk, k_sct, v_ifS, k_ifS1, k_ifS0, v_skip, v_brk, v_cnt, v_exp, v_ret, k_exp, k_ret, v_set, k_set, v_n, v_asg, k_asg, a_nm, a_nil, a_cons, k_as, a_tup, v_par, v_par3, k_par, k_par3, v_setIx, k_x1, v_x1, k_mu, k_x2, v_x2, v_augIx, v_g1, k_g1, v_b2, k_g2, k_g3, v_g3, v_g4, v_aug, v_au, k_au, v_au1, v_au2, v_mut, v_m0, v_m1, k_m, v_m2, v_m3, v_callF, k_cf, v_c2, v_callI, v_i1, k_ci, v_i2, v_i3, v_it, k_it, v_itS, it_l, it_t, it_s, v_R1, k_R1, v_for, k_for, v_lc, k_lc, v_lcT, cl_1s, cl_1z, v_yes, v_fgt, v_frt, v_fnx, f_ff, f_fo, f_tf, f_to, f_fs, f_ts, v_ef, v_eo, st_f, st_t, mf_nil, mf_cons, rep_s, rep_z, f_addI, f_addS, f_addL, f_addT, f_sub, f_mod, f_div, f_mulI, f_mulJ, f_mulM, f_mulS, f_pow, f_neg, f_eqI, f_eqS, f_neI, f_neS, f_ltI, f_leI, f_gtI, f_geI, f_ltS, f_is, f_isnt, f_ixL, f_ixT, a_d, se_0, se_1, se_2, i_add, f_slL, f_slT, f_slS, f_slR, f_lenS, f_lenL, f_lenT, f_intI, f_intB, f_abs, f_tupL, f_tupT, f_isi_s, atI0, atI1, atI2, atI3, List.length_cons, List.length_nil, List.cons_append, List.nil_append, Nat.reduceAdd, Nat.reduceSub, Nat.reduceLeDiff, Nat.reduceEqDiff, Int.reduceAdd, Int.reduceSub, Int.reduceMul, Int.reduceNeg, Int.reduceLT, Int.reduceLE, Int.reduceEq, Int.reduceBEq, Int.reducePow, Int.reduceToNat, Bool.not_true, Bool.not_false, decide_true, decide_false, true_and, and_true, e7, c1, c2, k1, k2, k3, tl_mkS, lc, noEx, f_neNilS, filter_none, h5]
      | true =>
        have hi := f_intS h5 (by simp) (by omega)
        have hs : fStr [.int ((NumText.digitsVal (c :: r) : Nat) : Int)] = some (.fr (.str (toString ((NumText.digitsVal (c :: r) : Nat) : Int)))) := if_pos (log_ok h5 hwl)
        have hq := str_int h5 (by simp)
        cases h6 : lead (c :: r) with
        | true =>
          rw [h6] at hq
          refine ⟨.none, ?_, rfl⟩
          simp only [b_ok, b_no, oo_some, oo_none, g_fr, g_z, g_s, sl_s, sl_fr, sl_ow, sl_io, rv_fr, rv_ow, rv_sl, fz_fr, fz_ow, kCo_, fz_s, fz_zf, fz_zo, om_some, ob_some, om_none, ow_s, ow_ow, ow_io, mu_s, mu_ow, mu_io, st_s, st_so, st_zn, st_zf, st_zo, so_zn, so_zf, so_zo, v_nm, v_nmf, v_nmo, v_nmi, v_k, v_fz, k_fz, v_anil, v_acons, k_a1, k_a2, v_bnil, v_bcons, k_b1, k_b2, v_tup, v_lst, k_tup, k_lst, v_bin, k_o1, k_o2, v_b, v_r, v_un, k_un, v_u, rvs_nil, rvs_cons, v_cons, v_call, k_call, v_l, v_mt, k_mt, v_testOf, k_t, v_truth, k_tr, v_tr, v_kk, tru_b, v_notT, k_nt, v_andT, v_orT, k_at1, k_at0, k_ot1, k_ot0, v_if, k_if1, k_if0, v_and, v_or, v_not, k_and1, k_and0, k_or1, k_or0, k_not, v_chain, k_ch1, k_ch2, v_b', k_ch3t, k_ch3f, v_pn, v_ps, k_p, v_sl, k_s1, k_s2, k_s3, v_s, v_seq, k_snx, k_srt, k_sbk, k_sct, v_ifS, k_ifS1, k_ifS0, v_skip, v_brk, v_cnt, v_exp, v_ret, k_exp, k_ret, v_set, k_set, v_n, v_asg, k_asg, a_nm, a_nil, a_cons, k_as, a_tup, v_par, v_par3, k_par, k_par3, v_setIx, k_x1, v_x1, k_mu, k_x2, v_x2, v_augIx, v_g1, k_g1, v_b2, k_g2, k_g3, v_g3, v_g4, v_aug, v_au, k_au, v_au1, v_au2, v_mut, v_m0, v_m1, k_m, v_m2, v_m3, v_callF, k_cf, v_c2, v_callI, v_i1, k_ci, v_i2, v_i3, v_it, k_it, v_itS, it_l, it_t, it_s, v_R1, k_R1, v_for, k_for, v_lc, k_lc, v_lcT, cl_1s, cl_1z, v_yes, v_fgt, v_frt, v_fnx, f_ff, f_fo, f_tf, f_to, f_fs, f_ts, v_ef, v_eo, st_f, st_t, mf_nil, mf_cons, rep_s, rep_z, f_addI, f_addS, f_addL, f_addT, f_sub, f_mod, f_div, f_mulI, f_mulJ, f_mulM, f_mulS, f_pow, f_neg, f_eqI, f_eqS, f_neI, f_neS, f_ltI, f_leI, f_gtI, f_geI, f_ltS, f_is, f_isnt, f_ixL, f_ixT, a_d, se_0, se_1, se_2, i_add, f_slL, f_slT, f_slS, f_slR, f_lenS, f_lenL, f_lenT, f_intI, f_intB, f_abs, f_tupL, f_tupT, f_isi_s, atI0, atI1, atI2, atI3, List.length_cons, List.length_nil, List.cons_append, List.nil_append, Nat.reduceAdd, Nat.reduceSub, Nat.reduceLeDiff, Nat.reduceEqDiff, Int.reduceAdd, Int.reduceSub, Int.reduceMul, Int.reduceNeg, Int.reduceLT, Int.reduceLE, Int.reduceEq, Int.reduceBEq, Int.reducePow, Int.reduceToNat, Bool.not_true, Bool.not_false, decide_true, decide_false, true_and, and_true, e7, c1, c2, k1, k2, k3, tl_mkS, lc, noEx, f_neNilS, filter_none, h5, hi, hs, hq]
        | false =>
          rw [h6] at hq
          refine ⟨.int ((NumText.digitsVal (c :: r) : Nat) : Int), ?_, rfl⟩
          simp only [b_ok, b_no, oo_some, oo_none, g_fr, g_z, g_s, sl_s, sl_fr, sl_ow, sl_io, rv_fr, rv_ow, rv_sl, fz_fr, fz_ow, kCo_, fz_s, fz_zf, fz_zo, om_some, ob_some, om_none, ow_s, ow_ow, ow_io, mu_s, mu_ow, mu_io, st_s, st_so, st_zn, st_zf, st_zo, so_zn, so_zf, so_zo, v_nm, v_nmf, v_nmo, v_nmi, v_k, v_fz, k_fz, v_anil, v_acons, k_a1, k_a2, v_bnil, v_bcons, k_b1, k_b2, v_tup, v_lst, k_tup, k_lst, v_bin, k_o1, k_o2, v_b, v_r, v_un, k_un, v_u, rvs_nil, rvs_cons, v_cons, v_call, k_call, v_l, v_mt, k_mt, v_testOf, k_t, v_truth, k_tr, v_tr, v_kk, tru_b, v_notT, k_nt, v_andT, v_orT, k_at1, k_at0, k_ot1, k_ot0, v_if, k_if1, k_if0, v_and, v_or, v_not, k_and1, k_and0, k_or1, k_or0, k_not, v_chain, k_ch1, k_ch2, v_b', k_ch3t, k_ch3f, v_pn, v_ps, k_p, v_sl, k_s1, k_s2, k_s3, v_s, v_seq, k_snx, k_srt, k_sbk, k_sct, v_ifS, k_ifS1, k_ifS0, v_skip, v_brk, v_cnt, v_exp, v_ret, k_exp, k_ret, v_set, k_set, v_n, v_asg, k_asg, a_nm, a_nil, a_cons, k_as, a_tup, v_par, v_par3, k_par, k_par3, v_setIx, k_x1, v_x1, k_mu, k_x2, v_x2, v_augIx, v_g1, k_g1, v_b2, k_g2, k_g3, v_g3, v_g4, v_aug, v_au, k_au, v_au1, v_au2, v_mut, v_m0, v_m1, k_m, v_m2, v_m3, v_callF, k_cf, v_c2, v_callI, v_i1, k_ci, v_i2, v_i3, v_it, k_it, v_itS, it_l, it_t, it_s, v_R1, k_R1, v_for, k_for, v_lc, k_lc, v_lcT, cl_1s, cl_1z, v_yes, v_fgt, v_frt, v_fnx, f_ff, f_fo, f_tf, f_to, f_fs, f_ts, v_ef, v_eo, st_f, st_t, mf_nil, mf_cons, rep_s, rep_z, f_addI, f_addS, f_addL, f_addT, f_sub, f_mod, f_div, f_mulI, f_mulJ, f_mulM, f_mulS, f_pow, f_neg, f_eqI, f_eqS, f_neI, f_neS, f_ltI, f_leI, f_gtI, f_geI, f_ltS, f_is, f_isnt, f_ixL, f_ixT, a_d, se_0, se_1, se_2, i_add, f_slL, f_slT, f_slS, f_slR, f_lenS, f_lenL, f_lenT, f_intI, f_intB, f_abs, f_tupL, f_tupT, f_isi_s, atI0, atI1, atI2, atI3, List.length_cons, List.length_nil, List.cons_append, List.nil_append, Nat.reduceAdd, Nat.reduceSub, Nat.reduceLeDiff, Nat.reduceEqDiff, Int.reduceAdd, Int.reduceSub, Int.reduceMul, Int.reduceNeg, Int.reduceLT, Int.reduceLE, Int.reduceEq, Int.reduceBEq, Int.reducePow, Int.reduceToNat, Bool.not_true, Bool.not_false, decide_true, decide_false, true_and, and_true, e7, c1, c2, k1, k2, k3, tl_mkS, lc, noEx, f_neNilS, filter_none, h5, hi, hs, hq]
  · have k1 : (mkS (l.take 7) == Str.ofString "store/c") = false := by show (mkS (l.take 7) == sSH) = false; rw [mk_SH, mkS_inj]; exact decide_eq_false h1
    refine ⟨.none, ?_, ?_⟩
    · simp only [b_ok, b_no, oo_some, oo_none, g_fr, g_z, g_s, sl_s, sl_fr, sl_ow, sl_io, rv_fr, rv_ow, rv_sl, fz_fr, fz_ow, kCo_, fz_s, fz_zf, fz_zo, om_some, ob_some, om_none, ow_s, ow_ow, ow_io, mu_s, mu_ow, mu_io, st_s, st_so, st_zn, st_zf, st_zo, so_zn, so_zf, so_zo, v_nm, v_nmf, v_nmo, v_nmi, v_k, v_fz, k_fz, v_anil, v_acons, k_a1, k_a2, v_bnil, v_bcons, k_b1, k_b2, v_tup, v_lst, k_tup, k_lst, v_bin, k_o1, k_o2, v_b, v_r, v_un, k_un, v_u, rvs_nil, rvs_cons, v_cons, v_call, k_call, v_l, v_mt, k_mt, v_testOf, k_t, v_truth, k_tr, v_tr, v_kk, tru_b, v_notT, k_nt, v_andT, v_orT, k_at1, k_at0, k_ot1, k_ot0, v_if, k_if1, k_if0, v_and, v_or, v_not, k_and1, k_and0, k_or1, k_or0, k_not, v_chain, k_ch1, k_ch2, v_b', k_ch3t, k_ch3f, v_pn, v_ps, k_p, v_sl, k_s1, k_s2, k_s3, v_s, v_seq, k_snx, k_srt, k_sbk, k_sct, v_ifS, k_ifS1, k_ifS0, v_skip, v_brk, v_cnt, v_exp, v_ret, k_exp, k_ret, v_set, k_set, v_n, v_asg, k_asg, a_nm, a_nil, a_cons, k_as, a_tup, v_par, v_par3, k_par, k_par3, v_setIx, k_x1, v_x1, k_mu, k_x2, v_x2, v_augIx, v_g1, k_g1, v_b2, k_g2, k_g3, v_g3, v_g4, v_aug, v_au, k_au, v_au1, v_au2, v_mut, v_m0, v_m1, k_m, v_m2, v_m3, v_callF, k_cf, v_c2, v_callI, v_i1, k_ci, v_i2, v_i3, v_it, k_it, v_itS, it_l, it_t, it_s, v_R1, k_R1, v_for, k_for, v_lc, k_lc, v_lcT, cl_1s, cl_1z, v_yes, v_fgt, v_frt, v_fnx, f_ff, f_fo, f_tf, f_to, f_fs, f_ts, v_ef, v_eo, st_f, st_t, mf_nil, mf_cons, rep_s, rep_z, f_addI, f_addS, f_addL, f_addT, f_sub, f_mod, f_div, f_mulI, f_mulJ, f_mulM, f_mulS, f_pow, f_neg, f_eqI, f_eqS, f_neI, f_neS, f_ltI, f_leI, f_gtI, f_geI, f_ltS, f_is, f_isnt, f_ixL, f_ixT, a_d, se_0, se_1, se_2, i_add, f_slL, f_slT, f_slS, f_slR, f_lenS, f_lenL, f_lenT, f_intI, f_intB, f_abs, f_tupL, f_tupT, f_isi_s, atI0, atI1, atI2, atI3, List.length_cons, List.length_nil, List.cons_append, List.nil_append, Nat.reduceAdd, Nat.reduceSub, Nat.reduceLeDiff, Nat.reduceEqDiff, Int.reduceAdd, Int.reduceSub, Int.reduceMul, Int.reduceNeg, Int.reduceLT, Int.reduceLE, Int.reduceEq, Int.reduceBEq, Int.reducePow, Int.reduceToNat, Bool.not_true, Bool.not_false, decide_true, decide_false, true_and, and_true, e7, c1, c2, k1]
    · unfold numB
      rw [decide_eq_false h1]
      rfl
/-- a shelf by both readings -/
theorem sh_eq (l : List Nat) : (numB l && pathB l) = shB l := by
  unfold numB shB
  by_cases h1 : l.take 7 = [115, 116, 111, 114, 101, 47, 99]
  · rw [decide_eq_true h1]
    have e : l = [115, 116, 111, 114, 101] ++ ([47] ++ (99 :: l.drop 7)) := by
      have := List.take_append_drop 7 l
      rw [h1] at this
      exact this.symm
    generalize hw : l.drop 7 = w at *
    cases h2 : (w).all (chIn sDG) with
    | false => simp
    | true =>
      have hp : pathB l = decide ((w).length ≤ 19) := by
        have no47 : ∀ c ∈ w, 48 ≤ c ∧ c ≤ 57 := dg_all h2
        unfold pathB
        rw [e]
        rw [spl_part1 (by decide), List.nil_append, spl_last1 (by
          intro z
          rcases List.mem_cons.mp z with z | z
          · cases z
          · have := no47 47 z
            omega), List.nil_append]
        have n1 : nameB [115, 116, 111, 114, 101] = true := by decide +kernel
        have n2 : nameB (99 :: w) = decide ((w).length ≤ 19) := by
          unfold nameB
          have e1 : chIn sLT 99 = true := by decide +kernel
          have e2 : (99 :: w).all (chIn sLD) = true := by
            refine List.all_eq_true.mpr fun c hc => ?_
            have : c = 99 ∨ (48 ≤ c ∧ c ≤ 57) := by
              rcases List.mem_cons.mp hc with z | z
              · exact .inl z
              · exact .inr (no47 c z)
            have hcs : c = 99 ∨ c = 48 ∨ c = 49 ∨ c = 50 ∨ c = 51 ∨ c = 52 ∨ c = 53 ∨ c = 54 ∨ c = 55 ∨ c = 56 ∨ c = 57 := by omega
            rcases hcs with rfl | rfl | rfl | rfl | rfl | rfl | rfl | rfl | rfl | rfl | rfl <;> decide +kernel
          show (decide ((w).length + 1 ≤ 20) && (chIn sLT 99 && (99 :: w).all (chIn sLD))) = _
          rw [e1, e2, Bool.and_true, Bool.and_true]
          exact decide_eq_decide.mpr (by omega)
        rw [List.all_cons, List.all_cons, List.all_nil, n1, n2, Bool.true_and, Bool.and_true]
      rw [hp]
      cases decide (1 ≤ (w).length) <;> cases decide ((w).length ≤ 19) <;> cases lead (w) <;> rfl
  · rw [decide_eq_false h1]
    rfl
theorem sp_law_is_shelf (l : List Nat) (hl : l.length ≤ 570) : r_law_is_shelf [.str (mkS l)] = .ok (.fr (.bool (shB l))) none := by
  obtain ⟨d, h1, h2⟩ := sp_number_of l hl
  have h3 := sp_law_is_path l
  unfold r_law_is_shelf c_law_is_shelf
  rw [v_run, ← sh_eq, ← h2]
  cases hn : isN d with
  | true => simp only [b_ok, b_no, oo_some, oo_none, g_fr, g_z, g_s, sl_s, sl_fr, sl_ow, sl_io, rv_fr, rv_ow, rv_sl, fz_fr, fz_ow, kCo_, fz_s, fz_zf, fz_zo, om_some, ob_some, om_none, ow_s, ow_ow, ow_io, mu_s, mu_ow, mu_io, st_s, st_so, st_zn, st_zf, st_zo, so_zn, so_zf, so_zo, v_nm, v_nmf, v_nmo, v_nmi, v_k, v_fz, k_fz, v_anil, v_acons, k_a1, k_a2, v_bnil, v_bcons, k_b1, k_b2, v_tup, v_lst, k_tup, k_lst, v_bin, k_o1, k_o2, v_b, v_r, v_un, k_un, v_u, rvs_nil, rvs_cons, v_cons, v_call, k_call, v_l, v_mt, k_mt, v_testOf, k_t, v_truth, k_tr, v_tr, v_kk, tru_b, v_notT, k_nt, v_andT, v_orT, k_at1, k_at0, k_ot1, k_ot0, v_if, k_if1, k_if0, v_and, v_or, v_not, k_and1, k_and0, k_or1, k_or0, k_not, v_chain, k_ch1, k_ch2, v_b', k_ch3t, k_ch3f, v_pn, v_ps, k_p, v_sl, k_s1, k_s2, k_s3, v_s, v_seq, k_snx, k_srt, k_sbk, k_sct, v_ifS, k_ifS1, k_ifS0, v_skip, v_brk, v_cnt, v_exp, v_ret, k_exp, k_ret, v_set, k_set, v_n, v_asg, k_asg, a_nm, a_nil, a_cons, k_as, a_tup, v_par, v_par3, k_par, k_par3, v_setIx, k_x1, v_x1, k_mu, k_x2, v_x2, v_augIx, v_g1, k_g1, v_b2, k_g2, k_g3, v_g3, v_g4, v_aug, v_au, k_au, v_au1, v_au2, v_mut, v_m0, v_m1, k_m, v_m2, v_m3, v_callF, k_cf, v_c2, v_callI, v_i1, k_ci, v_i2, v_i3, v_it, k_it, v_itS, it_l, it_t, it_s, v_R1, k_R1, v_for, k_for, v_lc, k_lc, v_lcT, cl_1s, cl_1z, v_yes, v_fgt, v_frt, v_fnx, f_ff, f_fo, f_tf, f_to, f_fs, f_ts, v_ef, v_eo, st_f, st_t, mf_nil, mf_cons, rep_s, rep_z, f_addI, f_addS, f_addL, f_addT, f_sub, f_mod, f_div, f_mulI, f_mulJ, f_mulM, f_mulS, f_pow, f_neg, f_eqI, f_eqS, f_neI, f_neS, f_ltI, f_leI, f_gtI, f_geI, f_ltS, f_is, f_isnt, f_ixL, f_ixT, a_d, se_0, se_1, se_2, i_add, f_slL, f_slT, f_slS, f_slR, f_lenS, f_lenL, f_lenT, f_intI, f_intB, f_abs, f_tupL, f_tupT, f_isi_s, atI0, atI1, atI2, atI3, List.length_cons, List.length_nil, List.cons_append, List.nil_append, Nat.reduceAdd, Nat.reduceSub, Nat.reduceLeDiff, Nat.reduceEqDiff, Int.reduceAdd, Int.reduceSub, Int.reduceMul, Int.reduceNeg, Int.reduceLT, Int.reduceLE, Int.reduceEq, Int.reduceBEq, Int.reducePow, Int.reduceToNat, Bool.not_true, Bool.not_false, decide_true, decide_false, true_and, and_true, h1, hn, Bool.false_and]
  | false => simp only [b_ok, b_no, oo_some, oo_none, g_fr, g_z, g_s, sl_s, sl_fr, sl_ow, sl_io, rv_fr, rv_ow, rv_sl, fz_fr, fz_ow, kCo_, fz_s, fz_zf, fz_zo, om_some, ob_some, om_none, ow_s, ow_ow, ow_io, mu_s, mu_ow, mu_io, st_s, st_so, st_zn, st_zf, st_zo, so_zn, so_zf, so_zo, v_nm, v_nmf, v_nmo, v_nmi, v_k, v_fz, k_fz, v_anil, v_acons, k_a1, k_a2, v_bnil, v_bcons, k_b1, k_b2, v_tup, v_lst, k_tup, k_lst, v_bin, k_o1, k_o2, v_b, v_r, v_un, k_un, v_u, rvs_nil, rvs_cons, v_cons, v_call, k_call, v_l, v_mt, k_mt, v_testOf, k_t, v_truth, k_tr, v_tr, v_kk, tru_b, v_notT, k_nt, v_andT, v_orT, k_at1, k_at0, k_ot1, k_ot0, v_if, k_if1, k_if0, v_and, v_or, v_not, k_and1, k_and0, k_or1, k_or0, k_not, v_chain, k_ch1, k_ch2, v_b', k_ch3t, k_ch3f, v_pn, v_ps, k_p, v_sl, k_s1, k_s2, k_s3, v_s, v_seq, k_snx, k_srt, k_sbk, k_sct, v_ifS, k_ifS1, k_ifS0, v_skip, v_brk, v_cnt, v_exp, v_ret, k_exp, k_ret, v_set, k_set, v_n, v_asg, k_asg, a_nm, a_nil, a_cons, k_as, a_tup, v_par, v_par3, k_par, k_par3, v_setIx, k_x1, v_x1, k_mu, k_x2, v_x2, v_augIx, v_g1, k_g1, v_b2, k_g2, k_g3, v_g3, v_g4, v_aug, v_au, k_au, v_au1, v_au2, v_mut, v_m0, v_m1, k_m, v_m2, v_m3, v_callF, k_cf, v_c2, v_callI, v_i1, k_ci, v_i2, v_i3, v_it, k_it, v_itS, it_l, it_t, it_s, v_R1, k_R1, v_for, k_for, v_lc, k_lc, v_lcT, cl_1s, cl_1z, v_yes, v_fgt, v_frt, v_fnx, f_ff, f_fo, f_tf, f_to, f_fs, f_ts, v_ef, v_eo, st_f, st_t, mf_nil, mf_cons, rep_s, rep_z, f_addI, f_addS, f_addL, f_addT, f_sub, f_mod, f_div, f_mulI, f_mulJ, f_mulM, f_mulS, f_pow, f_neg, f_eqI, f_eqS, f_neI, f_neS, f_ltI, f_leI, f_gtI, f_geI, f_ltS, f_is, f_isnt, f_ixL, f_ixT, a_d, se_0, se_1, se_2, i_add, f_slL, f_slT, f_slS, f_slR, f_lenS, f_lenL, f_lenT, f_intI, f_intB, f_abs, f_tupL, f_tupT, f_isi_s, atI0, atI1, atI2, atI3, List.length_cons, List.length_nil, List.cons_append, List.nil_append, Nat.reduceAdd, Nat.reduceSub, Nat.reduceLeDiff, Nat.reduceEqDiff, Int.reduceAdd, Int.reduceSub, Int.reduceMul, Int.reduceNeg, Int.reduceLT, Int.reduceLE, Int.reduceEq, Int.reduceBEq, Int.reducePow, Int.reduceToNat, Bool.not_true, Bool.not_false, decide_true, decide_false, true_and, and_true, h1, h3, hn, Bool.true_and]
end Ed
end
section
namespace Ed
open PySem PySem.Spec L2 TL
theorem spl_one (s c : Nat) (acc l : List Nat) : spl [s] 0 acc (c :: l) = if c = s then acc :: spl [s] 0 [] l else spl [s] 0 (acc ++ [c]) l := by
  have e : pre [s] (c :: l) = decide (c = s) := by
    show ([c] == [s]) = _
    rw [Bool.eq_iff_iff, beq_iff_eq, decide_eq_true_iff]
    exact ⟨fun h => by injection h, fun h => by rw [h]⟩
  unfold spl
  by_cases h : c = s
  · rw [e, if_pos (decide_eq_true h), if_pos h]
    cases l <;> rfl
  · rw [e, if_neg (by simp [h]), if_neg h]
    cases l <;> rfl
theorem spl_ne (s : Nat) : ∀ (l acc : List Nat), spl [s] 0 acc l ≠ []
  | [], acc => by rw [spl_nil]; simp
  | c :: l, acc => by
    rw [spl_one]
    split
    · simp
    · exact spl_ne s l _
theorem joinL_cons {s : List Nat} {p : List Nat} {q : List (List Nat)} (h : q ≠ []) : joinL s (p :: q) = p ++ (s ++ joinL s q) := by
  cases q with
  | nil => exact absurd rfl h
  | cons a b => rfl
theorem join_spl (s : Nat) : ∀ (l acc : List Nat), joinL [s] (spl [s] 0 acc l) = acc ++ l
  | [], acc => by rw [spl_nil, List.append_nil]; rfl
  | c :: l, acc => by
    rw [spl_one]
    split
    · rename_i h
      subst h
      rw [joinL_cons (spl_ne _ _ _), join_spl c l []]
      rfl
    · rw [join_spl s l _, List.append_assoc]
      rfl
theorem spl_free (s : Nat) : ∀ (l acc : List Nat), s ∉ acc → ∀ p ∈ spl [s] 0 acc l, s ∉ p
  | [], acc => by
    intro h p hp
    rw [spl_nil] at hp
    rw [List.mem_singleton.mp hp]
    exact h
  | c :: l, acc => by
    intro h p hp
    rw [spl_one] at hp
    split at hp
    · rcases List.mem_cons.mp hp with rfl | hp
      · exact h
      · exact spl_free s l [] (by simp) p hp
    · rename_i hc
      exact spl_free s l (acc ++ [c]) (fun z => by
        rcases List.mem_append.mp z with z | z
        · exact h z
        · exact hc (List.mem_singleton.mp z).symm) p hp
/-- signs and ends -/
def szW (ws : List (List Nat)) : Nat := (ws.map fun w => w.length + 1).sum
theorem szW_cons (w : List Nat) (ws : List (List Nat)) : szW (w :: ws) = w.length + 1 + szW ws := rfl
theorem szW_app (a b : List (List Nat)) : szW (a ++ b) = szW a + szW b := by unfold szW; rw [List.map_append, List.sum_append]
theorem szW_spl (s : Nat) : ∀ (l acc : List Nat), szW (spl [s] 0 acc l) = acc.length + l.length + 1
  | [], acc => by rw [spl_nil, szW_cons]; rfl
  | c :: l, acc => by
    rw [spl_one]
    split
    · rw [szW_cons, szW_spl s l [], List.length_cons, List.length_nil]
      omega
    · rw [szW_spl s l _, List.length_append, List.length_singleton, List.length_cons]
      omega
theorem szW_join (s : Nat) : ∀ {ws : List (List Nat)}, ws ≠ [] → (joinL [s] ws).length + 1 = szW ws
  | [], h => absurd rfl h
  | [w], _ => by rw [szW_cons]; rfl
  | w :: v :: r, _ => by
    have ih := szW_join s (ws := v :: r) (by simp)
    rw [joinL_cons (by simp), szW_cons, ← ih, List.length_append, List.length_append, List.length_singleton]
    omega
theorem szW_len (ws : List (List Nat)) : ws.length ≤ szW ws := by
  induction ws with
  | nil => exact Nat.le_refl _
  | cons w ws ih => rw [szW_cons, List.length_cons]; omega
theorem szW_sum (ws : List (List Nat)) : (ws.map (·.length)).sum + ws.length = szW ws := by
  induction ws with
  | nil => rfl
  | cons w ws ih => rw [szW_cons, ← ih, List.map_cons, List.sum_cons, List.length_cons]; omega
theorem joinL_le (s : Nat) (ws : List (List Nat)) : (joinL [s] ws).length ≤ szW ws := by
  cases ws with
  | nil => exact Nat.zero_le _
  | cons w ws =>
    have := szW_join s (ws := w :: ws) (by simp)
    omega
theorem join_inj {s : Nat} {A B : List (List Nat)} (hA : A ≠ []) (hB : B ≠ []) (fA : ∀ p ∈ A, s ∉ p) (fB : ∀ p ∈ B, s ∉ p) (h : joinL [s] A = joinL [s] B) : A = B := by
  rw [← spl_join hA fA, ← spl_join hB fB, h]
theorem f_joinW (x : Str) (s : Nat) (hx : tl x = [s]) {ws : List (List Nat)} (h : szW ws ≤ big) : fJoin x [.list (ws.map fun w => .str (mkS w))] = some (.fr (.str (mkS (joinL [s] ws)))) := by
  have e : (ws.map fun w => PyData.str (mkS w)) = (ws.map mkS).map .str := by rw [List.map_map]; rfl
  show (strsOf (ws.map fun w => PyData.str (mkS w))).bind _ = _
  have hz : ((ws.map mkS).map (·.length)).sum + (ws.map mkS).length * x.length ≤ big := by
    rw [List.map_map, List.length_map, len_tl x, hx, List.length_singleton, Nat.mul_one, show ((fun y : Str => y.length) ∘ mkS) = List.length from funext len_mkS, szW_sum]
    exact h
  rw [e, strsOf_strs, ob_some, if_pos hz, hx, List.map_map]
  have e2 : (tl ∘ mkS) = id := funext tl_mkS
  rw [e2, List.map_id]
theorem f_joinT (x : Str) (s : Nat) (hx : tl x = [s]) {ws : List (List Nat)} (h : szW ws ≤ big) : fJoin x [.tuple (ws.map fun w => .str (mkS w))] = some (.fr (.str (mkS (joinL [s] ws)))) := f_joinW x s hx h
theorem tl_lf : tl ("\n" : Str) = [10] := by decide +kernel
theorem tl_bl : tl (" " : Str) = [32] := by decide +kernel
theorem app_mk (a b : List Nat) : mkS a ++ mkS b = mkS (a ++ b) := ext_tl (by rw [tl_append, tl_mkS, tl_mkS, tl_mkS])
theorem mw_cons (w : List Nat) (ws : List (List Nat)) : List.map (fun w => PyData.str (mkS w)) (w :: ws) = .str (mkS w) :: List.map (fun w => PyData.str (mkS w)) ws := rfl
theorem mw_nil : List.map (fun w => PyData.str (mkS w)) ([] : List (List Nat)) = [] := rfl
theorem nc0 : ((0 : Nat) : Int) = 0 := rfl
theorem nc1 : ((1 : Nat) : Int) = 1 := rfl
theorem nc2 : ((2 : Nat) : Int) = 2 := rfl
theorem nc3 : ((3 : Nat) : Int) = 3 := rfl
def c_step_words : SC := cRet (cMt fJoin (cK (.str " ")) (cBCons (cNm 0) (cBNil)))
def r_step_words : List D → FOut := runF false 1 c_step_words
def c_log_text : SC := cSeq (cAsg (aTup 2 (aCons (aNm 1) (aCons (aNm 2) (aNil)))) (cFz (cNm 0))) (cRet (cMt fJoin (cK (.str "\n")) (cBCons (cBin fAdd (cBin fAdd (cLst (cACons (cFz (cBin fAdd (cK (.str "log ")) (cCall fStr (cBCons (cCall fLen (cBCons (cNm 1) (cBNil))) (cBNil))))) (cANil))) (cLc [3] (aNm 3) (cIt (cFz (cNm 1))) (cYes) (cFz (cCallF 1 r_step_words (cACons (cFz (cNm 3)) (cANil)))))) (cLst (cACons (cFz (cBin fAdd (cK (.str "lock ")) (cNm 2))) (cANil)))) (cBNil))))
def r_log_text : List D → FOut := runF false 4 c_log_text
def c_read_step : SC := cSeq (cSet 1 (cCall fTuple (cBCons (cMt fSplit (cNm 0) (cBCons (cK (.str " ")) (cBNil))) (cBNil)))) (cSeq (cIfS (cOrT (cTestOf (cBin fLt (cCall fLen (cBCons (cNm 1) (cBNil))) (cK (.int 2)))) (cNotT (cTruth (cCallF 1 r_is_path (cACons (cFz (cBin fIx (cNm 1) (cK (.int 1)))) (cANil)))))) (cRet (cK .none)) (cSkip)) (cSeq (cIfS (cTestOf (cBin fEq (cCall fLen (cBCons (cNm 1) (cBNil))) (cK (.int 2)))) (cRet (cIf (cTestOf (cBin fEq (cBin fIx (cNm 1) (cK (.int 0))) (cK (.str "drop")))) (cNm 1) (cK .none))) (cSkip)) (cRet (cIf (cAndT (cTestOf (cBin fEq (cCall fLen (cBCons (cNm 1) (cBNil))) (cK (.int 3)))) (cAndT (cTestOf (cBin fEq (cBin fIx (cNm 1) (cK (.int 0))) (cK (.str "put")))) (cTruth (cCallF 1 r_is_shelf (cACons (cFz (cBin fIx (cNm 1) (cK (.int 2)))) (cANil)))))) (cNm 1) (cK .none)))))
def r_read_step : List D → FOut := runF false 2 c_read_step
def c_read_log : SC := cSeq (cSet 1 (cMt fSplit (cNm 0) (cBCons (cK (.str "\n")) (cBNil)))) (cSeq (cPar 2 3 (cACons (cFz (cCall fTuple (cBCons (cLc [5] (aNm 5) (cIt (cFz (cSl fSl (cNm 1) (cPSome (cK (.int 1))) (cPSome (cUn fNeg (cK (.int 1))))))) (cYes) (cFz (cCallF 1 r_read_step (cACons (cFz (cNm 5)) (cANil))))) (cBNil)))) (cACons (cFz (cMt fSplit (cBin fIx (cNm 1) (cUn fNeg (cK (.int 1)))) (cBCons (cK (.str " ")) (cBNil)))) (cANil)))) (cSeq (cIfS (cOrT (cTestOf (cBin fIn (cK .none) (cNm 2))) (cOrT (cTestOf (cBin fNe (cCall fLen (cBCons (cNm 3) (cBNil))) (cK (.int 2)))) (cNotT (cTruth (cCallF 1 r_is_shelf (cACons (cFz (cBin fIx (cNm 3) (cK (.int 1)))) (cANil))))))) (cRet (cK .none)) (cSkip)) (cSeq (cSet 4 (cTup (cACons (cFz (cNm 2)) (cACons (cFz (cBin fIx (cNm 3) (cK (.int 1)))) (cANil))))) (cRet (cIf (cTestOf (cBin fEq (cCallF 1 r_log_text (cACons (cFz (cNm 4)) (cANil))) (cNm 0))) (cNm 4) (cK .none))))))
def r_read_log : List D → FOut := runF false 6 c_read_log
def c_law_log_text : SC := cSeq (cSet 1 (cBin fAdd (cLst (cACons (cFz (cBin fAdd (cK (.str "log ")) (cCall fStr (cBCons (cCall fLen (cBCons (cBin fIx (cNm 0) (cK (.int 0))) (cBNil))) (cBNil))))) (cANil))) (cLc [2] (aNm 2) (cIt (cFz (cBin fIx (cNm 0) (cK (.int 0))))) (cYes) (cFz (cMt fJoin (cK (.str " ")) (cBCons (cNm 2) (cBNil))))))) (cRet (cMt fJoin (cK (.str "\n")) (cBCons (cBin fAdd (cNm 1) (cLst (cACons (cFz (cBin fAdd (cK (.str "lock ")) (cBin fIx (cNm 0) (cK (.int 1))))) (cANil)))) (cBNil))))
def r_law_log_text : List D → FOut := runF false 3 c_law_log_text
def c_law_read_log : SC := cSeq (cSet 1 (cLc [3] (aNm 3) (cIt (cFz (cMt fSplit (cNm 0) (cBCons (cK (.str "\n")) (cBNil))))) (cYes) (cFz (cMt fSplit (cNm 3) (cBCons (cK (.str " ")) (cBNil)))))) (cSeq (cIfS (cOrT (cTestOf (cBin fLt (cCall fLen (cBCons (cNm 1) (cBNil))) (cK (.int 2)))) (cTestOf (cBin fNe (cBin fIx (cNm 1) (cK (.int 0))) (cLst (cACons (cFz (cK (.str "log"))) (cACons (cFz (cCall fStr (cBCons (cBin fSub (cCall fLen (cBCons (cNm 1) (cBNil))) (cK (.int 2))) (cBNil)))) (cANil))))))) (cRet (cK .none)) (cSkip)) (cSeq (cFor (aNm 2) (cIt (cFz (cSl fSl (cNm 1) (cPSome (cK (.int 1))) (cPSome (cUn fNeg (cK (.int 1))))))) (cSeq (cIfS (cAndT (cTestOf (cBin fEq (cSl fSl (cNm 2) (cPNone) (cPSome (cK (.int 1)))) (cLst (cACons (cFz (cK (.str "drop"))) (cANil))))) (cAndT (cTestOf (cBin fEq (cCall fLen (cBCons (cNm 2) (cBNil))) (cK (.int 2)))) (cTruth (cCallF 1 r_law_is_path (cACons (cFz (cBin fIx (cNm 2) (cK (.int 1)))) (cANil)))))) (cCnt) (cSkip)) (cIfS (cOrT (cTestOf (cBin fNe (cSl fSl (cNm 2) (cPNone) (cPSome (cK (.int 1)))) (cLst (cACons (cFz (cK (.str "put"))) (cANil))))) (cOrT (cTestOf (cBin fNe (cCall fLen (cBCons (cNm 2) (cBNil))) (cK (.int 3)))) (cOrT (cNotT (cTruth (cCallF 1 r_law_is_path (cACons (cFz (cBin fIx (cNm 2) (cK (.int 1)))) (cANil))))) (cNotT (cTruth (cCallF 1 r_law_is_shelf (cACons (cFz (cBin fIx (cNm 2) (cK (.int 2)))) (cANil)))))))) (cRet (cK .none)) (cSkip)))) (cSeq (cIfS (cOrT (cTestOf (cBin fNe (cCall fLen (cBCons (cBin fIx (cNm 1) (cUn fNeg (cK (.int 1)))) (cBNil))) (cK (.int 2)))) (cOrT (cTestOf (cBin fNe (cBin fIx (cBin fIx (cNm 1) (cUn fNeg (cK (.int 1)))) (cK (.int 0))) (cK (.str "lock")))) (cNotT (cTruth (cCallF 1 r_law_is_shelf (cACons (cFz (cBin fIx (cBin fIx (cNm 1) (cUn fNeg (cK (.int 1)))) (cK (.int 1)))) (cANil))))))) (cRet (cK .none)) (cSkip)) (cFgt [2] (cRet (cTup (cACons (cFz (cCall fTuple (cBCons (cLc [2] (aNm 2) (cIt (cFz (cSl fSl (cNm 1) (cPSome (cK (.int 1))) (cPSome (cUn fNeg (cK (.int 1))))))) (cYes) (cFz (cCall fTuple (cBCons (cNm 2) (cBNil))))) (cBNil)))) (cACons (cFz (cBin fIx (cBin fIx (cNm 1) (cUn fNeg (cK (.int 1)))) (cK (.int 1)))) (cANil)))))))))
def r_law_read_log : List D → FOut := runF false 4 c_law_read_log
def stepD (ws : List (List Nat)) : D := .tuple (ws.map fun w => .str (mkS w))
def logD (S : List (List (List Nat))) (k : List Nat) : D := .tuple [.tuple (S.map stepD), .str (mkS k)]
abbrev wDrop : List Nat := [100, 114, 111, 112]
abbrev wPut : List Nat := [112, 117, 116]
abbrev wLog : List Nat := [108, 111, 103]
abbrev wLock : List Nat := [108, 111, 99, 107]
theorem mk_drop : Str.ofString "drop" = mkS wDrop := by decide +kernel
theorem mk_put : Str.ofString "put" = mkS wPut := by decide +kernel
theorem mk_log : Str.ofString "log" = mkS wLog := by decide +kernel
theorem mk_lock : Str.ofString "lock" = mkS wLock := by decide +kernel
def stepOk (ws : List (List Nat)) : Bool := match ws with
  | [a, b] => decide (a = wDrop) && pathB b
  | [a, b, c] => decide (a = wPut) && (pathB b && shB c)
  | _ => false
def stepV (l : List Nat) : D := match stepOk (spl [32] 0 [] l) with
  | true => stepD (spl [32] 0 [] l)
  | false => .none
theorem sp_step_words {ws : List (List Nat)} (h : szW ws ≤ big) : r_step_words [stepD ws] = .ok (.fr (.str (mkS (joinL [32] ws)))) none := by
  unfold r_step_words c_step_words stepD
  rw [v_run]
  simp only [b_ok, b_no, oo_some, oo_none, g_fr, g_z, g_s, sl_s, sl_fr, sl_ow, sl_io, rv_fr, rv_ow, rv_sl, fz_fr, fz_ow, kCo_, fz_s, fz_zf, fz_zo, om_some, ob_some, om_none, ow_s, ow_ow, ow_io, mu_s, mu_ow, mu_io, st_s, st_so, st_zn, st_zf, st_zo, so_zn, so_zf, so_zo, v_nm, v_nmf, v_nmo, v_nmi, v_k, v_fz, k_fz, v_anil, v_acons, k_a1, k_a2, v_bnil, v_bcons, k_b1, k_b2, v_tup, v_lst, k_tup, k_lst, v_bin, k_o1, k_o2, v_b, v_r, v_un, k_un, v_u, rvs_nil, rvs_cons, v_cons, v_call, k_call, v_l, v_mt, k_mt, v_testOf, k_t, v_truth, k_tr, v_tr, v_kk, tru_b, v_notT, k_nt, v_andT, v_orT, k_at1, k_at0, k_ot1, k_ot0, v_if, k_if1, k_if0, v_and, v_or, v_not, k_and1, k_and0, k_or1, k_or0, k_not, v_chain, k_ch1, k_ch2, v_b', k_ch3t, k_ch3f, v_pn, v_ps, k_p, v_sl, k_s1, k_s2, k_s3, v_s, v_seq, k_snx, k_srt, k_sbk, k_sct, v_ifS, k_ifS1, k_ifS0, v_skip, v_brk, v_cnt, v_exp, v_ret, k_exp, k_ret, v_set, k_set, v_n, v_asg, k_asg, a_nm, a_nil, a_cons, k_as, a_tup, v_par, v_par3, k_par, k_par3, v_setIx, k_x1, v_x1, k_mu, k_x2, v_x2, v_augIx, v_g1, k_g1, v_b2, k_g2, k_g3, v_g3, v_g4, v_aug, v_au, k_au, v_au1, v_au2, v_mut, v_m0, v_m1, k_m, v_m2, v_m3, v_callF, k_cf, v_c2, v_callI, v_i1, k_ci, v_i2, v_i3, v_it, k_it, v_itS, it_l, it_t, it_s, v_R1, k_R1, v_for, k_for, v_lc, k_lc, v_lcT, cl_1s, cl_1z, v_yes, v_fgt, v_frt, v_fnx, f_ff, f_fo, f_tf, f_to, f_fs, f_ts, v_ef, v_eo, st_f, st_t, mf_nil, mf_cons, rep_s, rep_z, f_addI, f_addS, f_addL, f_addT, f_sub, f_mod, f_div, f_mulI, f_mulJ, f_mulM, f_mulS, f_pow, f_neg, f_eqI, f_eqS, f_neI, f_neS, f_ltI, f_leI, f_gtI, f_geI, f_ltS, f_is, f_isnt, f_ixL, f_ixT, a_d, se_0, se_1, se_2, i_add, f_slL, f_slT, f_slS, f_slR, f_lenS, f_lenL, f_lenT, f_intI, f_intB, f_abs, f_tupL, f_tupT, f_isi_s, atI0, atI1, atI2, atI3, List.length_cons, List.length_nil, List.cons_append, List.nil_append, Nat.reduceAdd, Nat.reduceSub, Nat.reduceLeDiff, Nat.reduceEqDiff, Int.reduceAdd, Int.reduceSub, Int.reduceMul, Int.reduceNeg, Int.reduceLT, Int.reduceLE, Int.reduceEq, Int.reduceBEq, Int.reducePow, Int.reduceToNat, Bool.not_true, Bool.not_false, decide_true, decide_false, true_and, and_true, f_joinT _ _ tl_bl h]
theorem sp_read_step (l : List Nat) : r_read_step [.str (mkS l)] = .ok (.fr (stepV l)) none := by
  unfold r_read_step c_read_step stepV
  rw [v_run]
  generalize hw : spl [32] 0 [] l = ws
  match ws, hw with
  | [], hw => exact absurd hw (spl_ne 32 l [])
  | [a], hw =>
    simp only [b_ok, b_no, oo_some, oo_none, g_fr, g_z, g_s, sl_s, sl_fr, sl_ow, sl_io, rv_fr, rv_ow, rv_sl, fz_fr, fz_ow, kCo_, fz_s, fz_zf, fz_zo, om_some, ob_some, om_none, ow_s, ow_ow, ow_io, mu_s, mu_ow, mu_io, st_s, st_so, st_zn, st_zf, st_zo, so_zn, so_zf, so_zo, v_nm, v_nmf, v_nmo, v_nmi, v_k, v_fz, k_fz, v_anil, v_acons, k_a1, k_a2, v_bnil, v_bcons, k_b1, k_b2, v_tup, v_lst, k_tup, k_lst, v_bin, k_o1, k_o2, v_b, v_r, v_un, k_un, v_u, rvs_nil, rvs_cons, v_cons, v_call, k_call, v_l, v_mt, k_mt, v_testOf, k_t, v_truth, k_tr, v_tr, v_kk, tru_b, v_notT, k_nt, v_andT, v_orT, k_at1, k_at0, k_ot1, k_ot0, v_if, k_if1, k_if0, v_and, v_or, v_not, k_and1, k_and0, k_or1, k_or0, k_not, v_chain, k_ch1, k_ch2, v_b', k_ch3t, k_ch3f, v_pn, v_ps, k_p, v_sl, k_s1, k_s2, k_s3, v_s, v_seq, k_snx, k_srt, k_sbk, k_sct, v_ifS, k_ifS1, k_ifS0, v_skip, v_brk, v_cnt, v_exp, v_ret, k_exp, k_ret, v_set, k_set, v_n, v_asg, k_asg, a_nm, a_nil, a_cons, k_as, a_tup, v_par, v_par3, k_par, k_par3, v_setIx, k_x1, v_x1, k_mu, k_x2, v_x2, v_augIx, v_g1, k_g1, v_b2, k_g2, k_g3, v_g3, v_g4, v_aug, v_au, k_au, v_au1, v_au2, v_mut, v_m0, v_m1, k_m, v_m2, v_m3, v_callF, k_cf, v_c2, v_callI, v_i1, k_ci, v_i2, v_i3, v_it, k_it, v_itS, it_l, it_t, it_s, v_R1, k_R1, v_for, k_for, v_lc, k_lc, v_lcT, cl_1s, cl_1z, v_yes, v_fgt, v_frt, v_fnx, f_ff, f_fo, f_tf, f_to, f_fs, f_ts, v_ef, v_eo, st_f, st_t, mf_nil, mf_cons, rep_s, rep_z, f_addI, f_addS, f_addL, f_addT, f_sub, f_mod, f_div, f_mulI, f_mulJ, f_mulM, f_mulS, f_pow, f_neg, f_eqI, f_eqS, f_neI, f_neS, f_ltI, f_leI, f_gtI, f_geI, f_ltS, f_is, f_isnt, f_ixL, f_ixT, a_d, se_0, se_1, se_2, i_add, f_slL, f_slT, f_slS, f_slR, f_lenS, f_lenL, f_lenT, f_intI, f_intB, f_abs, f_tupL, f_tupT, f_isi_s, atI0, atI1, atI2, atI3, List.length_cons, List.length_nil, List.cons_append, List.nil_append, Nat.reduceAdd, Nat.reduceSub, Nat.reduceLeDiff, Nat.reduceEqDiff, Int.reduceAdd, Int.reduceSub, Int.reduceMul, Int.reduceNeg, Int.reduceLT, Int.reduceLE, Int.reduceEq, Int.reduceBEq, Int.reducePow, Int.reduceToNat, Bool.not_true, Bool.not_false, decide_true, decide_false, true_and, and_true, sp_blank, hw, mw_cons, mw_nil, nc1, stepOk]
  | [a, b], hw =>
    have k : (mkS a == Str.ofString "drop") = decide (a = wDrop) := by rw [mk_drop, mkS_inj]
    cases h1 : pathB b with
    | false => simp only [b_ok, b_no, oo_some, oo_none, g_fr, g_z, g_s, sl_s, sl_fr, sl_ow, sl_io, rv_fr, rv_ow, rv_sl, fz_fr, fz_ow, kCo_, fz_s, fz_zf, fz_zo, om_some, ob_some, om_none, ow_s, ow_ow, ow_io, mu_s, mu_ow, mu_io, st_s, st_so, st_zn, st_zf, st_zo, so_zn, so_zf, so_zo, v_nm, v_nmf, v_nmo, v_nmi, v_k, v_fz, k_fz, v_anil, v_acons, k_a1, k_a2, v_bnil, v_bcons, k_b1, k_b2, v_tup, v_lst, k_tup, k_lst, v_bin, k_o1, k_o2, v_b, v_r, v_un, k_un, v_u, rvs_nil, rvs_cons, v_cons, v_call, k_call, v_l, v_mt, k_mt, v_testOf, k_t, v_truth, k_tr, v_tr, v_kk, tru_b, v_notT, k_nt, v_andT, v_orT, k_at1, k_at0, k_ot1, k_ot0, v_if, k_if1, k_if0, v_and, v_or, v_not, k_and1, k_and0, k_or1, k_or0, k_not, v_chain, k_ch1, k_ch2, v_b', k_ch3t, k_ch3f, v_pn, v_ps, k_p, v_sl, k_s1, k_s2, k_s3, v_s, v_seq, k_snx, k_srt, k_sbk, k_sct, v_ifS, k_ifS1, k_ifS0, v_skip, v_brk, v_cnt, v_exp, v_ret, k_exp, k_ret, v_set, k_set, v_n, v_asg, k_asg, a_nm, a_nil, a_cons, k_as, a_tup, v_par, v_par3, k_par, k_par3, v_setIx, k_x1, v_x1, k_mu, k_x2, v_x2, v_augIx, v_g1, k_g1, v_b2, k_g2, k_g3, v_g3, v_g4, v_aug, v_au, k_au, v_au1, v_au2, v_mut, v_m0, v_m1, k_m, v_m2, v_m3, v_callF, k_cf, v_c2, v_callI, v_i1, k_ci, v_i2, v_i3, v_it, k_it, v_itS, it_l, it_t, it_s, v_R1, k_R1, v_for, k_for, v_lc, k_lc, v_lcT, cl_1s, cl_1z, v_yes, v_fgt, v_frt, v_fnx, f_ff, f_fo, f_tf, f_to, f_fs, f_ts, v_ef, v_eo, st_f, st_t, mf_nil, mf_cons, rep_s, rep_z, f_addI, f_addS, f_addL, f_addT, f_sub, f_mod, f_div, f_mulI, f_mulJ, f_mulM, f_mulS, f_pow, f_neg, f_eqI, f_eqS, f_neI, f_neS, f_ltI, f_leI, f_gtI, f_geI, f_ltS, f_is, f_isnt, f_ixL, f_ixT, a_d, se_0, se_1, se_2, i_add, f_slL, f_slT, f_slS, f_slR, f_lenS, f_lenL, f_lenT, f_intI, f_intB, f_abs, f_tupL, f_tupT, f_isi_s, atI0, atI1, atI2, atI3, List.length_cons, List.length_nil, List.cons_append, List.nil_append, Nat.reduceAdd, Nat.reduceSub, Nat.reduceLeDiff, Nat.reduceEqDiff, Int.reduceAdd, Int.reduceSub, Int.reduceMul, Int.reduceNeg, Int.reduceLT, Int.reduceLE, Int.reduceEq, Int.reduceBEq, Int.reducePow, Int.reduceToNat, Bool.not_true, Bool.not_false, decide_true, decide_false, true_and, and_true, sp_blank, hw, mw_cons, mw_nil, nc2, sp_is_path, h1, stepOk, Bool.and_false]
    | true =>
      cases h2 : decide (a = wDrop) with
      | false => simp only [b_ok, b_no, oo_some, oo_none, g_fr, g_z, g_s, sl_s, sl_fr, sl_ow, sl_io, rv_fr, rv_ow, rv_sl, fz_fr, fz_ow, kCo_, fz_s, fz_zf, fz_zo, om_some, ob_some, om_none, ow_s, ow_ow, ow_io, mu_s, mu_ow, mu_io, st_s, st_so, st_zn, st_zf, st_zo, so_zn, so_zf, so_zo, v_nm, v_nmf, v_nmo, v_nmi, v_k, v_fz, k_fz, v_anil, v_acons, k_a1, k_a2, v_bnil, v_bcons, k_b1, k_b2, v_tup, v_lst, k_tup, k_lst, v_bin, k_o1, k_o2, v_b, v_r, v_un, k_un, v_u, rvs_nil, rvs_cons, v_cons, v_call, k_call, v_l, v_mt, k_mt, v_testOf, k_t, v_truth, k_tr, v_tr, v_kk, tru_b, v_notT, k_nt, v_andT, v_orT, k_at1, k_at0, k_ot1, k_ot0, v_if, k_if1, k_if0, v_and, v_or, v_not, k_and1, k_and0, k_or1, k_or0, k_not, v_chain, k_ch1, k_ch2, v_b', k_ch3t, k_ch3f, v_pn, v_ps, k_p, v_sl, k_s1, k_s2, k_s3, v_s, v_seq, k_snx, k_srt, k_sbk, k_sct, v_ifS, k_ifS1, k_ifS0, v_skip, v_brk, v_cnt, v_exp, v_ret, k_exp, k_ret, v_set, k_set, v_n, v_asg, k_asg, a_nm, a_nil, a_cons, k_as, a_tup, v_par, v_par3, k_par, k_par3, v_setIx, k_x1, v_x1, k_mu, k_x2, v_x2, v_augIx, v_g1, k_g1, v_b2, k_g2, k_g3, v_g3, v_g4, v_aug, v_au, k_au, v_au1, v_au2, v_mut, v_m0, v_m1, k_m, v_m2, v_m3, v_callF, k_cf, v_c2, v_callI, v_i1, k_ci, v_i2, v_i3, v_it, k_it, v_itS, it_l, it_t, it_s, v_R1, k_R1, v_for, k_for, v_lc, k_lc, v_lcT, cl_1s, cl_1z, v_yes, v_fgt, v_frt, v_fnx, f_ff, f_fo, f_tf, f_to, f_fs, f_ts, v_ef, v_eo, st_f, st_t, mf_nil, mf_cons, rep_s, rep_z, f_addI, f_addS, f_addL, f_addT, f_sub, f_mod, f_div, f_mulI, f_mulJ, f_mulM, f_mulS, f_pow, f_neg, f_eqI, f_eqS, f_neI, f_neS, f_ltI, f_leI, f_gtI, f_geI, f_ltS, f_is, f_isnt, f_ixL, f_ixT, a_d, se_0, se_1, se_2, i_add, f_slL, f_slT, f_slS, f_slR, f_lenS, f_lenL, f_lenT, f_intI, f_intB, f_abs, f_tupL, f_tupT, f_isi_s, atI0, atI1, atI2, atI3, List.length_cons, List.length_nil, List.cons_append, List.nil_append, Nat.reduceAdd, Nat.reduceSub, Nat.reduceLeDiff, Nat.reduceEqDiff, Int.reduceAdd, Int.reduceSub, Int.reduceMul, Int.reduceNeg, Int.reduceLT, Int.reduceLE, Int.reduceEq, Int.reduceBEq, Int.reducePow, Int.reduceToNat, Bool.not_true, Bool.not_false, decide_true, decide_false, true_and, and_true, sp_blank, hw, mw_cons, mw_nil, nc2, sp_is_path, h1, stepOk, k, h2, Bool.false_and]
      | true => simp only [b_ok, b_no, oo_some, oo_none, g_fr, g_z, g_s, sl_s, sl_fr, sl_ow, sl_io, rv_fr, rv_ow, rv_sl, fz_fr, fz_ow, kCo_, fz_s, fz_zf, fz_zo, om_some, ob_some, om_none, ow_s, ow_ow, ow_io, mu_s, mu_ow, mu_io, st_s, st_so, st_zn, st_zf, st_zo, so_zn, so_zf, so_zo, v_nm, v_nmf, v_nmo, v_nmi, v_k, v_fz, k_fz, v_anil, v_acons, k_a1, k_a2, v_bnil, v_bcons, k_b1, k_b2, v_tup, v_lst, k_tup, k_lst, v_bin, k_o1, k_o2, v_b, v_r, v_un, k_un, v_u, rvs_nil, rvs_cons, v_cons, v_call, k_call, v_l, v_mt, k_mt, v_testOf, k_t, v_truth, k_tr, v_tr, v_kk, tru_b, v_notT, k_nt, v_andT, v_orT, k_at1, k_at0, k_ot1, k_ot0, v_if, k_if1, k_if0, v_and, v_or, v_not, k_and1, k_and0, k_or1, k_or0, k_not, v_chain, k_ch1, k_ch2, v_b', k_ch3t, k_ch3f, v_pn, v_ps, k_p, v_sl, k_s1, k_s2, k_s3, v_s, v_seq, k_snx, k_srt, k_sbk, k_sct, v_ifS, k_ifS1, k_ifS0, v_skip, v_brk, v_cnt, v_exp, v_ret, k_exp, k_ret, v_set, k_set, v_n, v_asg, k_asg, a_nm, a_nil, a_cons, k_as, a_tup, v_par, v_par3, k_par, k_par3, v_setIx, k_x1, v_x1, k_mu, k_x2, v_x2, v_augIx, v_g1, k_g1, v_b2, k_g2, k_g3, v_g3, v_g4, v_aug, v_au, k_au, v_au1, v_au2, v_mut, v_m0, v_m1, k_m, v_m2, v_m3, v_callF, k_cf, v_c2, v_callI, v_i1, k_ci, v_i2, v_i3, v_it, k_it, v_itS, it_l, it_t, it_s, v_R1, k_R1, v_for, k_for, v_lc, k_lc, v_lcT, cl_1s, cl_1z, v_yes, v_fgt, v_frt, v_fnx, f_ff, f_fo, f_tf, f_to, f_fs, f_ts, v_ef, v_eo, st_f, st_t, mf_nil, mf_cons, rep_s, rep_z, f_addI, f_addS, f_addL, f_addT, f_sub, f_mod, f_div, f_mulI, f_mulJ, f_mulM, f_mulS, f_pow, f_neg, f_eqI, f_eqS, f_neI, f_neS, f_ltI, f_leI, f_gtI, f_geI, f_ltS, f_is, f_isnt, f_ixL, f_ixT, a_d, se_0, se_1, se_2, i_add, f_slL, f_slT, f_slS, f_slR, f_lenS, f_lenL, f_lenT, f_intI, f_intB, f_abs, f_tupL, f_tupT, f_isi_s, atI0, atI1, atI2, atI3, List.length_cons, List.length_nil, List.cons_append, List.nil_append, Nat.reduceAdd, Nat.reduceSub, Nat.reduceLeDiff, Nat.reduceEqDiff, Int.reduceAdd, Int.reduceSub, Int.reduceMul, Int.reduceNeg, Int.reduceLT, Int.reduceLE, Int.reduceEq, Int.reduceBEq, Int.reducePow, Int.reduceToNat, Bool.not_true, Bool.not_false, decide_true, decide_false, true_and, and_true, sp_blank, hw, mw_cons, mw_nil, nc2, sp_is_path, h1, stepOk, k, h2, Bool.true_and, stepD]
  | [a, b, c], hw =>
    have k : (mkS a == Str.ofString "put") = decide (a = wPut) := by rw [mk_put, mkS_inj]
    cases h1 : pathB b with
    | false => simp only [b_ok, b_no, oo_some, oo_none, g_fr, g_z, g_s, sl_s, sl_fr, sl_ow, sl_io, rv_fr, rv_ow, rv_sl, fz_fr, fz_ow, kCo_, fz_s, fz_zf, fz_zo, om_some, ob_some, om_none, ow_s, ow_ow, ow_io, mu_s, mu_ow, mu_io, st_s, st_so, st_zn, st_zf, st_zo, so_zn, so_zf, so_zo, v_nm, v_nmf, v_nmo, v_nmi, v_k, v_fz, k_fz, v_anil, v_acons, k_a1, k_a2, v_bnil, v_bcons, k_b1, k_b2, v_tup, v_lst, k_tup, k_lst, v_bin, k_o1, k_o2, v_b, v_r, v_un, k_un, v_u, rvs_nil, rvs_cons, v_cons, v_call, k_call, v_l, v_mt, k_mt, v_testOf, k_t, v_truth, k_tr, v_tr, v_kk, tru_b, v_notT, k_nt, v_andT, v_orT, k_at1, k_at0, k_ot1, k_ot0, v_if, k_if1, k_if0, v_and, v_or, v_not, k_and1, k_and0, k_or1, k_or0, k_not, v_chain, k_ch1, k_ch2, v_b', k_ch3t, k_ch3f, v_pn, v_ps, k_p, v_sl, k_s1, k_s2, k_s3, v_s, v_seq, k_snx, k_srt, k_sbk, k_sct, v_ifS, k_ifS1, k_ifS0, v_skip, v_brk, v_cnt, v_exp, v_ret, k_exp, k_ret, v_set, k_set, v_n, v_asg, k_asg, a_nm, a_nil, a_cons, k_as, a_tup, v_par, v_par3, k_par, k_par3, v_setIx, k_x1, v_x1, k_mu, k_x2, v_x2, v_augIx, v_g1, k_g1, v_b2, k_g2, k_g3, v_g3, v_g4, v_aug, v_au, k_au, v_au1, v_au2, v_mut, v_m0, v_m1, k_m, v_m2, v_m3, v_callF, k_cf, v_c2, v_callI, v_i1, k_ci, v_i2, v_i3, v_it, k_it, v_itS, it_l, it_t, it_s, v_R1, k_R1, v_for, k_for, v_lc, k_lc, v_lcT, cl_1s, cl_1z, v_yes, v_fgt, v_frt, v_fnx, f_ff, f_fo, f_tf, f_to, f_fs, f_ts, v_ef, v_eo, st_f, st_t, mf_nil, mf_cons, rep_s, rep_z, f_addI, f_addS, f_addL, f_addT, f_sub, f_mod, f_div, f_mulI, f_mulJ, f_mulM, f_mulS, f_pow, f_neg, f_eqI, f_eqS, f_neI, f_neS, f_ltI, f_leI, f_gtI, f_geI, f_ltS, f_is, f_isnt, f_ixL, f_ixT, a_d, se_0, se_1, se_2, i_add, f_slL, f_slT, f_slS, f_slR, f_lenS, f_lenL, f_lenT, f_intI, f_intB, f_abs, f_tupL, f_tupT, f_isi_s, atI0, atI1, atI2, atI3, List.length_cons, List.length_nil, List.cons_append, List.nil_append, Nat.reduceAdd, Nat.reduceSub, Nat.reduceLeDiff, Nat.reduceEqDiff, Int.reduceAdd, Int.reduceSub, Int.reduceMul, Int.reduceNeg, Int.reduceLT, Int.reduceLE, Int.reduceEq, Int.reduceBEq, Int.reducePow, Int.reduceToNat, Bool.not_true, Bool.not_false, decide_true, decide_false, true_and, and_true, sp_blank, hw, mw_cons, mw_nil, nc3, sp_is_path, h1, stepOk, Bool.and_false, Bool.false_and]
    | true =>
      cases h2 : decide (a = wPut) with
      | false => simp only [b_ok, b_no, oo_some, oo_none, g_fr, g_z, g_s, sl_s, sl_fr, sl_ow, sl_io, rv_fr, rv_ow, rv_sl, fz_fr, fz_ow, kCo_, fz_s, fz_zf, fz_zo, om_some, ob_some, om_none, ow_s, ow_ow, ow_io, mu_s, mu_ow, mu_io, st_s, st_so, st_zn, st_zf, st_zo, so_zn, so_zf, so_zo, v_nm, v_nmf, v_nmo, v_nmi, v_k, v_fz, k_fz, v_anil, v_acons, k_a1, k_a2, v_bnil, v_bcons, k_b1, k_b2, v_tup, v_lst, k_tup, k_lst, v_bin, k_o1, k_o2, v_b, v_r, v_un, k_un, v_u, rvs_nil, rvs_cons, v_cons, v_call, k_call, v_l, v_mt, k_mt, v_testOf, k_t, v_truth, k_tr, v_tr, v_kk, tru_b, v_notT, k_nt, v_andT, v_orT, k_at1, k_at0, k_ot1, k_ot0, v_if, k_if1, k_if0, v_and, v_or, v_not, k_and1, k_and0, k_or1, k_or0, k_not, v_chain, k_ch1, k_ch2, v_b', k_ch3t, k_ch3f, v_pn, v_ps, k_p, v_sl, k_s1, k_s2, k_s3, v_s, v_seq, k_snx, k_srt, k_sbk, k_sct, v_ifS, k_ifS1, k_ifS0, v_skip, v_brk, v_cnt, v_exp, v_ret, k_exp, k_ret, v_set, k_set, v_n, v_asg, k_asg, a_nm, a_nil, a_cons, k_as, a_tup, v_par, v_par3, k_par, k_par3, v_setIx, k_x1, v_x1, k_mu, k_x2, v_x2, v_augIx, v_g1, k_g1, v_b2, k_g2, k_g3, v_g3, v_g4, v_aug, v_au, k_au, v_au1, v_au2, v_mut, v_m0, v_m1, k_m, v_m2, v_m3, v_callF, k_cf, v_c2, v_callI, v_i1, k_ci, v_i2, v_i3, v_it, k_it, v_itS, it_l, it_t, it_s, v_R1, k_R1, v_for, k_for, v_lc, k_lc, v_lcT, cl_1s, cl_1z, v_yes, v_fgt, v_frt, v_fnx, f_ff, f_fo, f_tf, f_to, f_fs, f_ts, v_ef, v_eo, st_f, st_t, mf_nil, mf_cons, rep_s, rep_z, f_addI, f_addS, f_addL, f_addT, f_sub, f_mod, f_div, f_mulI, f_mulJ, f_mulM, f_mulS, f_pow, f_neg, f_eqI, f_eqS, f_neI, f_neS, f_ltI, f_leI, f_gtI, f_geI, f_ltS, f_is, f_isnt, f_ixL, f_ixT, a_d, se_0, se_1, se_2, i_add, f_slL, f_slT, f_slS, f_slR, f_lenS, f_lenL, f_lenT, f_intI, f_intB, f_abs, f_tupL, f_tupT, f_isi_s, atI0, atI1, atI2, atI3, List.length_cons, List.length_nil, List.cons_append, List.nil_append, Nat.reduceAdd, Nat.reduceSub, Nat.reduceLeDiff, Nat.reduceEqDiff, Int.reduceAdd, Int.reduceSub, Int.reduceMul, Int.reduceNeg, Int.reduceLT, Int.reduceLE, Int.reduceEq, Int.reduceBEq, Int.reducePow, Int.reduceToNat, Bool.not_true, Bool.not_false, decide_true, decide_false, true_and, and_true, sp_blank, hw, mw_cons, mw_nil, nc3, sp_is_path, h1, stepOk, k, h2, Bool.false_and]
      | true =>
        cases h3 : shB c with
        | false => simp only [b_ok, b_no, oo_some, oo_none, g_fr, g_z, g_s, sl_s, sl_fr, sl_ow, sl_io, rv_fr, rv_ow, rv_sl, fz_fr, fz_ow, kCo_, fz_s, fz_zf, fz_zo, om_some, ob_some, om_none, ow_s, ow_ow, ow_io, mu_s, mu_ow, mu_io, st_s, st_so, st_zn, st_zf, st_zo, so_zn, so_zf, so_zo, v_nm, v_nmf, v_nmo, v_nmi, v_k, v_fz, k_fz, v_anil, v_acons, k_a1, k_a2, v_bnil, v_bcons, k_b1, k_b2, v_tup, v_lst, k_tup, k_lst, v_bin, k_o1, k_o2, v_b, v_r, v_un, k_un, v_u, rvs_nil, rvs_cons, v_cons, v_call, k_call, v_l, v_mt, k_mt, v_testOf, k_t, v_truth, k_tr, v_tr, v_kk, tru_b, v_notT, k_nt, v_andT, v_orT, k_at1, k_at0, k_ot1, k_ot0, v_if, k_if1, k_if0, v_and, v_or, v_not, k_and1, k_and0, k_or1, k_or0, k_not, v_chain, k_ch1, k_ch2, v_b', k_ch3t, k_ch3f, v_pn, v_ps, k_p, v_sl, k_s1, k_s2, k_s3, v_s, v_seq, k_snx, k_srt, k_sbk, k_sct, v_ifS, k_ifS1, k_ifS0, v_skip, v_brk, v_cnt, v_exp, v_ret, k_exp, k_ret, v_set, k_set, v_n, v_asg, k_asg, a_nm, a_nil, a_cons, k_as, a_tup, v_par, v_par3, k_par, k_par3, v_setIx, k_x1, v_x1, k_mu, k_x2, v_x2, v_augIx, v_g1, k_g1, v_b2, k_g2, k_g3, v_g3, v_g4, v_aug, v_au, k_au, v_au1, v_au2, v_mut, v_m0, v_m1, k_m, v_m2, v_m3, v_callF, k_cf, v_c2, v_callI, v_i1, k_ci, v_i2, v_i3, v_it, k_it, v_itS, it_l, it_t, it_s, v_R1, k_R1, v_for, k_for, v_lc, k_lc, v_lcT, cl_1s, cl_1z, v_yes, v_fgt, v_frt, v_fnx, f_ff, f_fo, f_tf, f_to, f_fs, f_ts, v_ef, v_eo, st_f, st_t, mf_nil, mf_cons, rep_s, rep_z, f_addI, f_addS, f_addL, f_addT, f_sub, f_mod, f_div, f_mulI, f_mulJ, f_mulM, f_mulS, f_pow, f_neg, f_eqI, f_eqS, f_neI, f_neS, f_ltI, f_leI, f_gtI, f_geI, f_ltS, f_is, f_isnt, f_ixL, f_ixT, a_d, se_0, se_1, se_2, i_add, f_slL, f_slT, f_slS, f_slR, f_lenS, f_lenL, f_lenT, f_intI, f_intB, f_abs, f_tupL, f_tupT, f_isi_s, atI0, atI1, atI2, atI3, List.length_cons, List.length_nil, List.cons_append, List.nil_append, Nat.reduceAdd, Nat.reduceSub, Nat.reduceLeDiff, Nat.reduceEqDiff, Int.reduceAdd, Int.reduceSub, Int.reduceMul, Int.reduceNeg, Int.reduceLT, Int.reduceLE, Int.reduceEq, Int.reduceBEq, Int.reducePow, Int.reduceToNat, Bool.not_true, Bool.not_false, decide_true, decide_false, true_and, and_true, sp_blank, hw, mw_cons, mw_nil, nc3, sp_is_path, sp_is_shelf, h1, stepOk, k, h2, h3, Bool.true_and]
        | true => simp only [b_ok, b_no, oo_some, oo_none, g_fr, g_z, g_s, sl_s, sl_fr, sl_ow, sl_io, rv_fr, rv_ow, rv_sl, fz_fr, fz_ow, kCo_, fz_s, fz_zf, fz_zo, om_some, ob_some, om_none, ow_s, ow_ow, ow_io, mu_s, mu_ow, mu_io, st_s, st_so, st_zn, st_zf, st_zo, so_zn, so_zf, so_zo, v_nm, v_nmf, v_nmo, v_nmi, v_k, v_fz, k_fz, v_anil, v_acons, k_a1, k_a2, v_bnil, v_bcons, k_b1, k_b2, v_tup, v_lst, k_tup, k_lst, v_bin, k_o1, k_o2, v_b, v_r, v_un, k_un, v_u, rvs_nil, rvs_cons, v_cons, v_call, k_call, v_l, v_mt, k_mt, v_testOf, k_t, v_truth, k_tr, v_tr, v_kk, tru_b, v_notT, k_nt, v_andT, v_orT, k_at1, k_at0, k_ot1, k_ot0, v_if, k_if1, k_if0, v_and, v_or, v_not, k_and1, k_and0, k_or1, k_or0, k_not, v_chain, k_ch1, k_ch2, v_b', k_ch3t, k_ch3f, v_pn, v_ps, k_p, v_sl, k_s1, k_s2, k_s3, v_s, v_seq, k_snx, k_srt, k_sbk, k_sct, v_ifS, k_ifS1, k_ifS0, v_skip, v_brk, v_cnt, v_exp, v_ret, k_exp, k_ret, v_set, k_set, v_n, v_asg, k_asg, a_nm, a_nil, a_cons, k_as, a_tup, v_par, v_par3, k_par, k_par3, v_setIx, k_x1, v_x1, k_mu, k_x2, v_x2, v_augIx, v_g1, k_g1, v_b2, k_g2, k_g3, v_g3, v_g4, v_aug, v_au, k_au, v_au1, v_au2, v_mut, v_m0, v_m1, k_m, v_m2, v_m3, v_callF, k_cf, v_c2, v_callI, v_i1, k_ci, v_i2, v_i3, v_it, k_it, v_itS, it_l, it_t, it_s, v_R1, k_R1, v_for, k_for, v_lc, k_lc, v_lcT, cl_1s, cl_1z, v_yes, v_fgt, v_frt, v_fnx, f_ff, f_fo, f_tf, f_to, f_fs, f_ts, v_ef, v_eo, st_f, st_t, mf_nil, mf_cons, rep_s, rep_z, f_addI, f_addS, f_addL, f_addT, f_sub, f_mod, f_div, f_mulI, f_mulJ, f_mulM, f_mulS, f_pow, f_neg, f_eqI, f_eqS, f_neI, f_neS, f_ltI, f_leI, f_gtI, f_geI, f_ltS, f_is, f_isnt, f_ixL, f_ixT, a_d, se_0, se_1, se_2, i_add, f_slL, f_slT, f_slS, f_slR, f_lenS, f_lenL, f_lenT, f_intI, f_intB, f_abs, f_tupL, f_tupT, f_isi_s, atI0, atI1, atI2, atI3, List.length_cons, List.length_nil, List.cons_append, List.nil_append, Nat.reduceAdd, Nat.reduceSub, Nat.reduceLeDiff, Nat.reduceEqDiff, Int.reduceAdd, Int.reduceSub, Int.reduceMul, Int.reduceNeg, Int.reduceLT, Int.reduceLE, Int.reduceEq, Int.reduceBEq, Int.reducePow, Int.reduceToNat, Bool.not_true, Bool.not_false, decide_true, decide_false, true_and, and_true, sp_blank, hw, mw_cons, mw_nil, nc3, sp_is_path, sp_is_shelf, h1, stepOk, k, h2, h3, Bool.true_and, stepD]
  | a :: b :: c :: d :: r, hw =>
    have g1 : ¬ ((((r.map fun w => PyData.str (mkS w)).length + 1 + 1 + 1 + 1 : Nat) : Int) < 2) := by omega
    have g2 : ((((r.map fun w => PyData.str (mkS w)).length + 1 + 1 + 1 + 1 : Nat) : Int) == 2) = false := by rw [← Bool.not_eq_true, beq_iff_eq]; omega
    have g3 : ((((r.map fun w => PyData.str (mkS w)).length + 1 + 1 + 1 + 1 : Nat) : Int) == 3) = false := by rw [← Bool.not_eq_true, beq_iff_eq]; omega
    cases h1 : pathB b with
    | false => simp only [b_ok, b_no, oo_some, oo_none, g_fr, g_z, g_s, sl_s, sl_fr, sl_ow, sl_io, rv_fr, rv_ow, rv_sl, fz_fr, fz_ow, kCo_, fz_s, fz_zf, fz_zo, om_some, ob_some, om_none, ow_s, ow_ow, ow_io, mu_s, mu_ow, mu_io, st_s, st_so, st_zn, st_zf, st_zo, so_zn, so_zf, so_zo, v_nm, v_nmf, v_nmo, v_nmi, v_k, v_fz, k_fz, v_anil, v_acons, k_a1, k_a2, v_bnil, v_bcons, k_b1, k_b2, v_tup, v_lst, k_tup, k_lst, v_bin, k_o1, k_o2, v_b, v_r, v_un, k_un, v_u, rvs_nil, rvs_cons, v_cons, v_call, k_call, v_l, v_mt, k_mt, v_testOf, k_t, v_truth, k_tr, v_tr, v_kk, tru_b, v_notT, k_nt, v_andT, v_orT, k_at1, k_at0, k_ot1, k_ot0, v_if, k_if1, k_if0, v_and, v_or, v_not, k_and1, k_and0, k_or1, k_or0, k_not, v_chain, k_ch1, k_ch2, v_b', k_ch3t, k_ch3f, v_pn, v_ps, k_p, v_sl, k_s1, k_s2, k_s3, v_s, v_seq, k_snx, k_srt, k_sbk, k_sct, v_ifS, k_ifS1, k_ifS0, v_skip, v_brk, v_cnt, v_exp, v_ret, k_exp, k_ret, v_set, k_set, v_n, v_asg, k_asg, a_nm, a_nil, a_cons, k_as, a_tup, v_par, v_par3, k_par, k_par3, v_setIx, k_x1, v_x1, k_mu, k_x2, v_x2, v_augIx, v_g1, k_g1, v_b2, k_g2, k_g3, v_g3, v_g4, v_aug, v_au, k_au, v_au1, v_au2, v_mut, v_m0, v_m1, k_m, v_m2, v_m3, v_callF, k_cf, v_c2, v_callI, v_i1, k_ci, v_i2, v_i3, v_it, k_it, v_itS, it_l, it_t, it_s, v_R1, k_R1, v_for, k_for, v_lc, k_lc, v_lcT, cl_1s, cl_1z, v_yes, v_fgt, v_frt, v_fnx, f_ff, f_fo, f_tf, f_to, f_fs, f_ts, v_ef, v_eo, st_f, st_t, mf_nil, mf_cons, rep_s, rep_z, f_addI, f_addS, f_addL, f_addT, f_sub, f_mod, f_div, f_mulI, f_mulJ, f_mulM, f_mulS, f_pow, f_neg, f_eqI, f_eqS, f_neI, f_neS, f_ltI, f_leI, f_gtI, f_geI, f_ltS, f_is, f_isnt, f_ixL, f_ixT, a_d, se_0, se_1, se_2, i_add, f_slL, f_slT, f_slS, f_slR, f_lenS, f_lenL, f_lenT, f_intI, f_intB, f_abs, f_tupL, f_tupT, f_isi_s, atI0, atI1, atI2, atI3, List.length_cons, List.length_nil, List.cons_append, List.nil_append, Nat.reduceAdd, Nat.reduceSub, Nat.reduceLeDiff, Nat.reduceEqDiff, Int.reduceAdd, Int.reduceSub, Int.reduceMul, Int.reduceNeg, Int.reduceLT, Int.reduceLE, Int.reduceEq, Int.reduceBEq, Int.reducePow, Int.reduceToNat, Bool.not_true, Bool.not_false, decide_true, decide_false, true_and, and_true, sp_blank, hw, mw_cons, mw_nil, g1, g2, g3, sp_is_path, h1, stepOk, Bool.and_false, Bool.false_and]
    | true => simp only [b_ok, b_no, oo_some, oo_none, g_fr, g_z, g_s, sl_s, sl_fr, sl_ow, sl_io, rv_fr, rv_ow, rv_sl, fz_fr, fz_ow, kCo_, fz_s, fz_zf, fz_zo, om_some, ob_some, om_none, ow_s, ow_ow, ow_io, mu_s, mu_ow, mu_io, st_s, st_so, st_zn, st_zf, st_zo, so_zn, so_zf, so_zo, v_nm, v_nmf, v_nmo, v_nmi, v_k, v_fz, k_fz, v_anil, v_acons, k_a1, k_a2, v_bnil, v_bcons, k_b1, k_b2, v_tup, v_lst, k_tup, k_lst, v_bin, k_o1, k_o2, v_b, v_r, v_un, k_un, v_u, rvs_nil, rvs_cons, v_cons, v_call, k_call, v_l, v_mt, k_mt, v_testOf, k_t, v_truth, k_tr, v_tr, v_kk, tru_b, v_notT, k_nt, v_andT, v_orT, k_at1, k_at0, k_ot1, k_ot0, v_if, k_if1, k_if0, v_and, v_or, v_not, k_and1, k_and0, k_or1, k_or0, k_not, v_chain, k_ch1, k_ch2, v_b', k_ch3t, k_ch3f, v_pn, v_ps, k_p, v_sl, k_s1, k_s2, k_s3, v_s, v_seq, k_snx, k_srt, k_sbk, k_sct, v_ifS, k_ifS1, k_ifS0, v_skip, v_brk, v_cnt, v_exp, v_ret, k_exp, k_ret, v_set, k_set, v_n, v_asg, k_asg, a_nm, a_nil, a_cons, k_as, a_tup, v_par, v_par3, k_par, k_par3, v_setIx, k_x1, v_x1, k_mu, k_x2, v_x2, v_augIx, v_g1, k_g1, v_b2, k_g2, k_g3, v_g3, v_g4, v_aug, v_au, k_au, v_au1, v_au2, v_mut, v_m0, v_m1, k_m, v_m2, v_m3, v_callF, k_cf, v_c2, v_callI, v_i1, k_ci, v_i2, v_i3, v_it, k_it, v_itS, it_l, it_t, it_s, v_R1, k_R1, v_for, k_for, v_lc, k_lc, v_lcT, cl_1s, cl_1z, v_yes, v_fgt, v_frt, v_fnx, f_ff, f_fo, f_tf, f_to, f_fs, f_ts, v_ef, v_eo, st_f, st_t, mf_nil, mf_cons, rep_s, rep_z, f_addI, f_addS, f_addL, f_addT, f_sub, f_mod, f_div, f_mulI, f_mulJ, f_mulM, f_mulS, f_pow, f_neg, f_eqI, f_eqS, f_neI, f_neS, f_ltI, f_leI, f_gtI, f_geI, f_ltS, f_is, f_isnt, f_ixL, f_ixT, a_d, se_0, se_1, se_2, i_add, f_slL, f_slT, f_slS, f_slR, f_lenS, f_lenL, f_lenT, f_intI, f_intB, f_abs, f_tupL, f_tupT, f_isi_s, atI0, atI1, atI2, atI3, List.length_cons, List.length_nil, List.cons_append, List.nil_append, Nat.reduceAdd, Nat.reduceSub, Nat.reduceLeDiff, Nat.reduceEqDiff, Int.reduceAdd, Int.reduceSub, Int.reduceMul, Int.reduceNeg, Int.reduceLT, Int.reduceLE, Int.reduceEq, Int.reduceBEq, Int.reducePow, Int.reduceToNat, Bool.not_true, Bool.not_false, decide_true, decide_false, true_and, and_true, sp_blank, hw, mw_cons, mw_nil, g1, g2, g3, sp_is_path, h1, stepOk, Bool.and_false, Bool.false_and]
def numT (n : Nat) : List Nat := tl (Str.ofString (toString ((n : Nat) : Int)))
theorem numT_len {n : Nat} (h : n ≤ 10000000) : (numT n).length ≤ 8 := by
  have := PyProof.Rows.toString_length_le (v := ((n : Nat) : Int)) (by omega) (k := 8) (by decide) (by omega)
  rw [len_tl] at this
  exact this
theorem f_strN {n : Nat} (h : n ≤ 10000000) : fStr [.int ((n : Nat) : Int)] = some (.fr (.str (mkS (numT n)))) := by
  have e : ((n : Nat) : Int).natAbs.log2 < 1920 := by
    rw [Int.natAbs_natCast]
    by_cases hz : n = 0
    · rw [hz]
      decide
    · rw [Nat.log2_lt hz]
      exact Nat.lt_of_le_of_lt h (by decide +kernel)
  exact if_pos e
theorem numT_free {n : Nat} {k : Nat} (hk : k ≠ 45 ∧ (k < 48 ∨ 57 < k)) : k ∉ numT n := PyProof.Rows.int_text_free' k hk _
def lnLog (n : Nat) : List Nat := wLog ++ 32 :: numT n
def lnLock (k : List Nat) : List Nat := wLock ++ 32 :: k
theorem lnLog_len (n : Nat) : (lnLog n).length = (numT n).length + 4 := rfl
theorem lnLock_len (k : List Nat) : (lnLock k).length = k.length + 5 := rfl
def linesL (S : List (List (List Nat))) (k : List Nat) : List (List Nat) := (lnLog S.length) :: (S.map (joinL [32]) ++ [lnLock k])
def textL (S : List (List (List Nat))) (k : List Nat) : List Nat := joinL [10] (linesL S k)
theorem tl_log : Str.ofString "log " = mkS (wLog ++ [32]) := by decide +kernel
theorem tl_lock : Str.ofString "lock " = mkS (wLock ++ [32]) := by decide +kernel
theorem szW_map : ∀ (S : List (List (List Nat))), szW (S.map (joinL [32])) ≤ (S.map szW).sum + S.length
  | [] => Nat.le_refl _
  | ws :: S => by
    have := szW_map S
    have := joinL_le 32 ws
    rw [List.map_cons, szW_cons, List.map_cons, List.sum_cons, List.length_cons]
    omega
theorem linesL_sz {S : List (List (List Nat))} {k : List Nat} (hS : (S.map szW).sum ≤ 1000000) (hl : S.length ≤ 1000000) (hk : k.length ≤ 1000000) : szW (linesL S k) ≤ big := by
  have h1 := szW_map S
  have h2 := numT_len (n := S.length) (by omega)
  unfold linesL
  rw [szW_cons, szW_app, szW_cons]
  rw [lnLog_len, lnLock_len]
  show _ ≤ 8000000
  have e3 : szW [] = 0 := rfl
  omega
theorem sz_mem {ws : List (List Nat)} : ∀ {S : List (List (List Nat))}, ws ∈ S → szW ws ≤ (S.map szW).sum
  | [], h => by cases h
  | v :: S, h => by
    rw [List.map_cons, List.sum_cons]
    rcases List.mem_cons.mp h with rfl | h
    · omega
    · have := sz_mem h
      omega
section
variable {S : List (List (List Nat))} {k : List Nat} (hS : (S.map szW).sum ≤ 1000000) (hl : S.length ≤ 1000000) (hk : k.length ≤ 1000000)
include hS hl hk
theorem join_lines : fJoin "\n" [.list (.str (mkS (lnLog S.length)) :: (List.map (fun ws => PyData.str (mkS (joinL [32] ws))) S ++ [.str (mkS (lnLock k))]))] = some (.fr (.str (mkS (textL S k)))) := by
  have e : (PyData.str (mkS (lnLog S.length)) :: (List.map (fun ws => PyData.str (mkS (joinL [32] ws))) S ++ [.str (mkS (lnLock k))])) = (linesL S k).map fun w => .str (mkS w) := by
    unfold linesL
    rw [List.map_cons, List.map_append, List.map_map]
    rfl
  rw [e]
  exact f_joinW _ 10 tl_lf (linesL_sz hS hl hk)
theorem sp_log_text : r_log_text [logD S k] = .ok (.fr (.str (mkS (textL S k)))) none := by
  have a1 : (Str.ofString "log ").length + (mkS (numT S.length)).length ≤ big := by
    have := numT_len (n := S.length) (by omega)
    rw [tl_log, len_mkS, len_mkS]
    show 4 + _ ≤ 8000000
    omega
  have a2 : Str.ofString "log " ++ mkS (numT S.length) = mkS (lnLog S.length) := by
    rw [tl_log, app_mk, List.append_assoc]
    rfl
  have a3 : (Str.ofString "lock ").length + (mkS k).length ≤ big := by
    rw [tl_lock, len_mkS, len_mkS]
    show 5 + _ ≤ 8000000
    omega
  have a4 : Str.ofString "lock " ++ mkS k = mkS (lnLock k) := by
    rw [tl_lock, app_mk, List.append_assoc]
    rfl
  have a5 := f_strN (n := S.length) (by omega)
  have a6 : 1 + S.length ≤ 16777216 := by omega
  have a7 : S.length + 1 + 1 ≤ 16777216 := by omega
  unfold r_log_text c_log_text logD
  rw [v_run]
  simp only [b_ok, b_no, oo_some, oo_none, g_fr, g_z, g_s, sl_s, sl_fr, sl_ow, sl_io, rv_fr, rv_ow, rv_sl, fz_fr, fz_ow, kCo_, fz_s, fz_zf, fz_zo, om_some, ob_some, om_none, ow_s, ow_ow, ow_io, mu_s, mu_ow, mu_io, st_s, st_so, st_zn, st_zf, st_zo, so_zn, so_zf, so_zo, v_nm, v_nmf, v_nmo, v_nmi, v_k, v_fz, k_fz, v_anil, v_acons, k_a1, k_a2, v_bnil, v_bcons, k_b1, k_b2, v_tup, v_lst, k_tup, k_lst, v_bin, k_o1, k_o2, v_b, v_r, v_un, k_un, v_u, rvs_nil, rvs_cons, v_cons, v_call, k_call, v_l, v_mt, k_mt, v_testOf, k_t, v_truth, k_tr, v_tr, v_kk, tru_b, v_notT, k_nt, v_andT, v_orT, k_at1, k_at0, k_ot1, k_ot0, v_if, k_if1, k_if0, v_and, v_or, v_not, k_and1, k_and0, k_or1, k_or0, k_not, v_chain, k_ch1, k_ch2, v_b', k_ch3t, k_ch3f, v_pn, v_ps, k_p, v_sl, k_s1, k_s2, k_s3, v_s, v_seq, k_snx, k_srt, k_sbk, k_sct, v_ifS, k_ifS1, k_ifS0, v_skip, v_brk, v_cnt, v_exp, v_ret, k_exp, k_ret, v_set, k_set, v_n, v_asg, k_asg, a_nm, a_nil, a_cons, k_as, a_tup, v_par, v_par3, k_par, k_par3, v_setIx, k_x1, v_x1, k_mu, k_x2, v_x2, v_augIx, v_g1, k_g1, v_b2, k_g2, k_g3, v_g3, v_g4, v_aug, v_au, k_au, v_au1, v_au2, v_mut, v_m0, v_m1, k_m, v_m2, v_m3, v_callF, k_cf, v_c2, v_callI, v_i1, k_ci, v_i2, v_i3, v_it, k_it, v_itS, it_l, it_t, it_s, v_R1, k_R1, v_for, k_for, v_lc, k_lc, v_lcT, cl_1s, cl_1z, v_yes, v_fgt, v_frt, v_fnx, f_ff, f_fo, f_tf, f_to, f_fs, f_ts, v_ef, v_eo, st_f, st_t, mf_nil, mf_cons, rep_s, rep_z, f_addI, f_addS, f_addL, f_addT, f_sub, f_mod, f_div, f_mulI, f_mulJ, f_mulM, f_mulS, f_pow, f_neg, f_eqI, f_eqS, f_neI, f_neS, f_ltI, f_leI, f_gtI, f_geI, f_ltS, f_is, f_isnt, f_ixL, f_ixT, a_d, se_0, se_1, se_2, i_add, f_slL, f_slT, f_slS, f_slR, f_lenS, f_lenL, f_lenT, f_intI, f_intB, f_abs, f_tupL, f_tupT, f_isi_s, atI0, atI1, atI2, atI3, List.length_cons, List.length_nil, List.cons_append, List.nil_append, Nat.reduceAdd, Nat.reduceSub, Nat.reduceLeDiff, Nat.reduceEqDiff, Int.reduceAdd, Int.reduceSub, Int.reduceMul, Int.reduceNeg, Int.reduceLT, Int.reduceLE, Int.reduceEq, Int.reduceBEq, Int.reducePow, Int.reduceToNat, Bool.not_true, Bool.not_false, decide_true, decide_false, true_and, and_true, List.length_map, a5, a1, a2]
  rw [lc_fmap stepD (fun ws => .str (mkS (joinL [32] ws)))]
  · simp only [noEx, b_ok, b_no, oo_some, oo_none, g_fr, g_z, g_s, sl_s, sl_fr, sl_ow, sl_io, rv_fr, rv_ow, rv_sl, fz_fr, fz_ow, kCo_, fz_s, fz_zf, fz_zo, om_some, ob_some, om_none, ow_s, ow_ow, ow_io, mu_s, mu_ow, mu_io, st_s, st_so, st_zn, st_zf, st_zo, so_zn, so_zf, so_zo, v_nm, v_nmf, v_nmo, v_nmi, v_k, v_fz, k_fz, v_anil, v_acons, k_a1, k_a2, v_bnil, v_bcons, k_b1, k_b2, v_tup, v_lst, k_tup, k_lst, v_bin, k_o1, k_o2, v_b, v_r, v_un, k_un, v_u, rvs_nil, rvs_cons, v_cons, v_call, k_call, v_l, v_mt, k_mt, v_testOf, k_t, v_truth, k_tr, v_tr, v_kk, tru_b, v_notT, k_nt, v_andT, v_orT, k_at1, k_at0, k_ot1, k_ot0, v_if, k_if1, k_if0, v_and, v_or, v_not, k_and1, k_and0, k_or1, k_or0, k_not, v_chain, k_ch1, k_ch2, v_b', k_ch3t, k_ch3f, v_pn, v_ps, k_p, v_sl, k_s1, k_s2, k_s3, v_s, v_seq, k_snx, k_srt, k_sbk, k_sct, v_ifS, k_ifS1, k_ifS0, v_skip, v_brk, v_cnt, v_exp, v_ret, k_exp, k_ret, v_set, k_set, v_n, v_asg, k_asg, a_nm, a_nil, a_cons, k_as, a_tup, v_par, v_par3, k_par, k_par3, v_setIx, k_x1, v_x1, k_mu, k_x2, v_x2, v_augIx, v_g1, k_g1, v_b2, k_g2, k_g3, v_g3, v_g4, v_aug, v_au, k_au, v_au1, v_au2, v_mut, v_m0, v_m1, k_m, v_m2, v_m3, v_callF, k_cf, v_c2, v_callI, v_i1, k_ci, v_i2, v_i3, v_it, k_it, v_itS, it_l, it_t, it_s, v_R1, k_R1, v_for, k_for, v_lc, k_lc, v_lcT, cl_1s, cl_1z, v_yes, v_fgt, v_frt, v_fnx, f_ff, f_fo, f_tf, f_to, f_fs, f_ts, v_ef, v_eo, st_f, st_t, mf_nil, mf_cons, rep_s, rep_z, f_addI, f_addS, f_addL, f_addT, f_sub, f_mod, f_div, f_mulI, f_mulJ, f_mulM, f_mulS, f_pow, f_neg, f_eqI, f_eqS, f_neI, f_neS, f_ltI, f_leI, f_gtI, f_geI, f_ltS, f_is, f_isnt, f_ixL, f_ixT, a_d, se_0, se_1, se_2, i_add, f_slL, f_slT, f_slS, f_slR, f_lenS, f_lenL, f_lenT, f_intI, f_intB, f_abs, f_tupL, f_tupT, f_isi_s, atI0, atI1, atI2, atI3, List.length_cons, List.length_nil, List.cons_append, List.nil_append, Nat.reduceAdd, Nat.reduceSub, Nat.reduceLeDiff, Nat.reduceEqDiff, Int.reduceAdd, Int.reduceSub, Int.reduceMul, Int.reduceNeg, Int.reduceLT, Int.reduceLE, Int.reduceEq, Int.reduceBEq, Int.reducePow, Int.reduceToNat, Bool.not_true, Bool.not_false, decide_true, decide_false, true_and, and_true, List.length_map, a6, a7, a3, a4, join_lines hS hl hk]
  · intro ws hws
    refine ⟨[.fr (logD S k), .fr (.tuple (S.map stepD)), .fr (.str (mkS k)), .fr (stepD ws)], rfl, ?_, rfl⟩
    simp only [b_ok, b_no, oo_some, oo_none, g_fr, g_z, g_s, sl_s, sl_fr, sl_ow, sl_io, rv_fr, rv_ow, rv_sl, fz_fr, fz_ow, kCo_, fz_s, fz_zf, fz_zo, om_some, ob_some, om_none, ow_s, ow_ow, ow_io, mu_s, mu_ow, mu_io, st_s, st_so, st_zn, st_zf, st_zo, so_zn, so_zf, so_zo, v_nm, v_nmf, v_nmo, v_nmi, v_k, v_fz, k_fz, v_anil, v_acons, k_a1, k_a2, v_bnil, v_bcons, k_b1, k_b2, v_tup, v_lst, k_tup, k_lst, v_bin, k_o1, k_o2, v_b, v_r, v_un, k_un, v_u, rvs_nil, rvs_cons, v_cons, v_call, k_call, v_l, v_mt, k_mt, v_testOf, k_t, v_truth, k_tr, v_tr, v_kk, tru_b, v_notT, k_nt, v_andT, v_orT, k_at1, k_at0, k_ot1, k_ot0, v_if, k_if1, k_if0, v_and, v_or, v_not, k_and1, k_and0, k_or1, k_or0, k_not, v_chain, k_ch1, k_ch2, v_b', k_ch3t, k_ch3f, v_pn, v_ps, k_p, v_sl, k_s1, k_s2, k_s3, v_s, v_seq, k_snx, k_srt, k_sbk, k_sct, v_ifS, k_ifS1, k_ifS0, v_skip, v_brk, v_cnt, v_exp, v_ret, k_exp, k_ret, v_set, k_set, v_n, v_asg, k_asg, a_nm, a_nil, a_cons, k_as, a_tup, v_par, v_par3, k_par, k_par3, v_setIx, k_x1, v_x1, k_mu, k_x2, v_x2, v_augIx, v_g1, k_g1, v_b2, k_g2, k_g3, v_g3, v_g4, v_aug, v_au, k_au, v_au1, v_au2, v_mut, v_m0, v_m1, k_m, v_m2, v_m3, v_callF, k_cf, v_c2, v_callI, v_i1, k_ci, v_i2, v_i3, v_it, k_it, v_itS, it_l, it_t, it_s, v_R1, k_R1, v_for, k_for, v_lc, k_lc, v_lcT, cl_1s, cl_1z, v_yes, v_fgt, v_frt, v_fnx, f_ff, f_fo, f_tf, f_to, f_fs, f_ts, v_ef, v_eo, st_f, st_t, mf_nil, mf_cons, rep_s, rep_z, f_addI, f_addS, f_addL, f_addT, f_sub, f_mod, f_div, f_mulI, f_mulJ, f_mulM, f_mulS, f_pow, f_neg, f_eqI, f_eqS, f_neI, f_neS, f_ltI, f_leI, f_gtI, f_geI, f_ltS, f_is, f_isnt, f_ixL, f_ixT, a_d, se_0, se_1, se_2, i_add, f_slL, f_slT, f_slS, f_slR, f_lenS, f_lenL, f_lenT, f_intI, f_intB, f_abs, f_tupL, f_tupT, f_isi_s, atI0, atI1, atI2, atI3, List.length_cons, List.length_nil, List.cons_append, List.nil_append, Nat.reduceAdd, Nat.reduceSub, Nat.reduceLeDiff, Nat.reduceEqDiff, Int.reduceAdd, Int.reduceSub, Int.reduceMul, Int.reduceNeg, Int.reduceLT, Int.reduceLE, Int.reduceEq, Int.reduceBEq, Int.reducePow, Int.reduceToNat, Bool.not_true, Bool.not_false, decide_true, decide_false, true_and, and_true, sp_step_words (Nat.le_trans (sz_mem hws) (Nat.le_trans hS (by decide)))]
theorem sp_law_log_text : r_law_log_text [logD S k] = .ok (.fr (.str (mkS (textL S k)))) none := by
  have a1 : (Str.ofString "log ").length + (mkS (numT S.length)).length ≤ big := by
    have := numT_len (n := S.length) (by omega)
    rw [tl_log, len_mkS, len_mkS]
    show 4 + _ ≤ 8000000
    omega
  have a2 : Str.ofString "log " ++ mkS (numT S.length) = mkS (lnLog S.length) := by
    rw [tl_log, app_mk, List.append_assoc]
    rfl
  have a3 : (Str.ofString "lock ").length + (mkS k).length ≤ big := by
    rw [tl_lock, len_mkS, len_mkS]
    show 5 + _ ≤ 8000000
    omega
  have a4 : Str.ofString "lock " ++ mkS k = mkS (lnLock k) := by
    rw [tl_lock, app_mk, List.append_assoc]
    rfl
  have a5 := f_strN (n := S.length) (by omega)
  have a6 : 1 + S.length ≤ 16777216 := by omega
  have a7 : S.length + 1 + 1 ≤ 16777216 := by omega
  unfold r_law_log_text c_law_log_text logD
  rw [v_run]
  simp only [b_ok, b_no, oo_some, oo_none, g_fr, g_z, g_s, sl_s, sl_fr, sl_ow, sl_io, rv_fr, rv_ow, rv_sl, fz_fr, fz_ow, kCo_, fz_s, fz_zf, fz_zo, om_some, ob_some, om_none, ow_s, ow_ow, ow_io, mu_s, mu_ow, mu_io, st_s, st_so, st_zn, st_zf, st_zo, so_zn, so_zf, so_zo, v_nm, v_nmf, v_nmo, v_nmi, v_k, v_fz, k_fz, v_anil, v_acons, k_a1, k_a2, v_bnil, v_bcons, k_b1, k_b2, v_tup, v_lst, k_tup, k_lst, v_bin, k_o1, k_o2, v_b, v_r, v_un, k_un, v_u, rvs_nil, rvs_cons, v_cons, v_call, k_call, v_l, v_mt, k_mt, v_testOf, k_t, v_truth, k_tr, v_tr, v_kk, tru_b, v_notT, k_nt, v_andT, v_orT, k_at1, k_at0, k_ot1, k_ot0, v_if, k_if1, k_if0, v_and, v_or, v_not, k_and1, k_and0, k_or1, k_or0, k_not, v_chain, k_ch1, k_ch2, v_b', k_ch3t, k_ch3f, v_pn, v_ps, k_p, v_sl, k_s1, k_s2, k_s3, v_s, v_seq, k_snx, k_srt, k_sbk, k_sct, v_ifS, k_ifS1, k_ifS0, v_skip, v_brk, v_cnt, v_exp, v_ret, k_exp, k_ret, v_set, k_set, v_n, v_asg, k_asg, a_nm, a_nil, a_cons, k_as, a_tup, v_par, v_par3, k_par, k_par3, v_setIx, k_x1, v_x1, k_mu, k_x2, v_x2, v_augIx, v_g1, k_g1, v_b2, k_g2, k_g3, v_g3, v_g4, v_aug, v_au, k_au, v_au1, v_au2, v_mut, v_m0, v_m1, k_m, v_m2, v_m3, v_callF, k_cf, v_c2, v_callI, v_i1, k_ci, v_i2, v_i3, v_it, k_it, v_itS, it_l, it_t, it_s, v_R1, k_R1, v_for, k_for, v_lc, k_lc, v_lcT, cl_1s, cl_1z, v_yes, v_fgt, v_frt, v_fnx, f_ff, f_fo, f_tf, f_to, f_fs, f_ts, v_ef, v_eo, st_f, st_t, mf_nil, mf_cons, rep_s, rep_z, f_addI, f_addS, f_addL, f_addT, f_sub, f_mod, f_div, f_mulI, f_mulJ, f_mulM, f_mulS, f_pow, f_neg, f_eqI, f_eqS, f_neI, f_neS, f_ltI, f_leI, f_gtI, f_geI, f_ltS, f_is, f_isnt, f_ixL, f_ixT, a_d, se_0, se_1, se_2, i_add, f_slL, f_slT, f_slS, f_slR, f_lenS, f_lenL, f_lenT, f_intI, f_intB, f_abs, f_tupL, f_tupT, f_isi_s, atI0, atI1, atI2, atI3, List.length_cons, List.length_nil, List.cons_append, List.nil_append, Nat.reduceAdd, Nat.reduceSub, Nat.reduceLeDiff, Nat.reduceEqDiff, Int.reduceAdd, Int.reduceSub, Int.reduceMul, Int.reduceNeg, Int.reduceLT, Int.reduceLE, Int.reduceEq, Int.reduceBEq, Int.reducePow, Int.reduceToNat, Bool.not_true, Bool.not_false, decide_true, decide_false, true_and, and_true, List.length_map, a5, a1, a2]
  rw [lc_fmap stepD (fun ws => .str (mkS (joinL [32] ws)))]
  · simp only [noEx, b_ok, b_no, oo_some, oo_none, g_fr, g_z, g_s, sl_s, sl_fr, sl_ow, sl_io, rv_fr, rv_ow, rv_sl, fz_fr, fz_ow, kCo_, fz_s, fz_zf, fz_zo, om_some, ob_some, om_none, ow_s, ow_ow, ow_io, mu_s, mu_ow, mu_io, st_s, st_so, st_zn, st_zf, st_zo, so_zn, so_zf, so_zo, v_nm, v_nmf, v_nmo, v_nmi, v_k, v_fz, k_fz, v_anil, v_acons, k_a1, k_a2, v_bnil, v_bcons, k_b1, k_b2, v_tup, v_lst, k_tup, k_lst, v_bin, k_o1, k_o2, v_b, v_r, v_un, k_un, v_u, rvs_nil, rvs_cons, v_cons, v_call, k_call, v_l, v_mt, k_mt, v_testOf, k_t, v_truth, k_tr, v_tr, v_kk, tru_b, v_notT, k_nt, v_andT, v_orT, k_at1, k_at0, k_ot1, k_ot0, v_if, k_if1, k_if0, v_and, v_or, v_not, k_and1, k_and0, k_or1, k_or0, k_not, v_chain, k_ch1, k_ch2, v_b', k_ch3t, k_ch3f, v_pn, v_ps, k_p, v_sl, k_s1, k_s2, k_s3, v_s, v_seq, k_snx, k_srt, k_sbk, k_sct, v_ifS, k_ifS1, k_ifS0, v_skip, v_brk, v_cnt, v_exp, v_ret, k_exp, k_ret, v_set, k_set, v_n, v_asg, k_asg, a_nm, a_nil, a_cons, k_as, a_tup, v_par, v_par3, k_par, k_par3, v_setIx, k_x1, v_x1, k_mu, k_x2, v_x2, v_augIx, v_g1, k_g1, v_b2, k_g2, k_g3, v_g3, v_g4, v_aug, v_au, k_au, v_au1, v_au2, v_mut, v_m0, v_m1, k_m, v_m2, v_m3, v_callF, k_cf, v_c2, v_callI, v_i1, k_ci, v_i2, v_i3, v_it, k_it, v_itS, it_l, it_t, it_s, v_R1, k_R1, v_for, k_for, v_lc, k_lc, v_lcT, cl_1s, cl_1z, v_yes, v_fgt, v_frt, v_fnx, f_ff, f_fo, f_tf, f_to, f_fs, f_ts, v_ef, v_eo, st_f, st_t, mf_nil, mf_cons, rep_s, rep_z, f_addI, f_addS, f_addL, f_addT, f_sub, f_mod, f_div, f_mulI, f_mulJ, f_mulM, f_mulS, f_pow, f_neg, f_eqI, f_eqS, f_neI, f_neS, f_ltI, f_leI, f_gtI, f_geI, f_ltS, f_is, f_isnt, f_ixL, f_ixT, a_d, se_0, se_1, se_2, i_add, f_slL, f_slT, f_slS, f_slR, f_lenS, f_lenL, f_lenT, f_intI, f_intB, f_abs, f_tupL, f_tupT, f_isi_s, atI0, atI1, atI2, atI3, List.length_cons, List.length_nil, List.cons_append, List.nil_append, Nat.reduceAdd, Nat.reduceSub, Nat.reduceLeDiff, Nat.reduceEqDiff, Int.reduceAdd, Int.reduceSub, Int.reduceMul, Int.reduceNeg, Int.reduceLT, Int.reduceLE, Int.reduceEq, Int.reduceBEq, Int.reducePow, Int.reduceToNat, Bool.not_true, Bool.not_false, decide_true, decide_false, true_and, and_true, List.length_map, a6, a7, a3, a4, join_lines hS hl hk]
  · intro ws hws
    refine ⟨[.fr (logD S k), .no, .fr (stepD ws)], rfl, ?_, rfl⟩
    unfold stepD
    simp only [b_ok, b_no, oo_some, oo_none, g_fr, g_z, g_s, sl_s, sl_fr, sl_ow, sl_io, rv_fr, rv_ow, rv_sl, fz_fr, fz_ow, kCo_, fz_s, fz_zf, fz_zo, om_some, ob_some, om_none, ow_s, ow_ow, ow_io, mu_s, mu_ow, mu_io, st_s, st_so, st_zn, st_zf, st_zo, so_zn, so_zf, so_zo, v_nm, v_nmf, v_nmo, v_nmi, v_k, v_fz, k_fz, v_anil, v_acons, k_a1, k_a2, v_bnil, v_bcons, k_b1, k_b2, v_tup, v_lst, k_tup, k_lst, v_bin, k_o1, k_o2, v_b, v_r, v_un, k_un, v_u, rvs_nil, rvs_cons, v_cons, v_call, k_call, v_l, v_mt, k_mt, v_testOf, k_t, v_truth, k_tr, v_tr, v_kk, tru_b, v_notT, k_nt, v_andT, v_orT, k_at1, k_at0, k_ot1, k_ot0, v_if, k_if1, k_if0, v_and, v_or, v_not, k_and1, k_and0, k_or1, k_or0, k_not, v_chain, k_ch1, k_ch2, v_b', k_ch3t, k_ch3f, v_pn, v_ps, k_p, v_sl, k_s1, k_s2, k_s3, v_s, v_seq, k_snx, k_srt, k_sbk, k_sct, v_ifS, k_ifS1, k_ifS0, v_skip, v_brk, v_cnt, v_exp, v_ret, k_exp, k_ret, v_set, k_set, v_n, v_asg, k_asg, a_nm, a_nil, a_cons, k_as, a_tup, v_par, v_par3, k_par, k_par3, v_setIx, k_x1, v_x1, k_mu, k_x2, v_x2, v_augIx, v_g1, k_g1, v_b2, k_g2, k_g3, v_g3, v_g4, v_aug, v_au, k_au, v_au1, v_au2, v_mut, v_m0, v_m1, k_m, v_m2, v_m3, v_callF, k_cf, v_c2, v_callI, v_i1, k_ci, v_i2, v_i3, v_it, k_it, v_itS, it_l, it_t, it_s, v_R1, k_R1, v_for, k_for, v_lc, k_lc, v_lcT, cl_1s, cl_1z, v_yes, v_fgt, v_frt, v_fnx, f_ff, f_fo, f_tf, f_to, f_fs, f_ts, v_ef, v_eo, st_f, st_t, mf_nil, mf_cons, rep_s, rep_z, f_addI, f_addS, f_addL, f_addT, f_sub, f_mod, f_div, f_mulI, f_mulJ, f_mulM, f_mulS, f_pow, f_neg, f_eqI, f_eqS, f_neI, f_neS, f_ltI, f_leI, f_gtI, f_geI, f_ltS, f_is, f_isnt, f_ixL, f_ixT, a_d, se_0, se_1, se_2, i_add, f_slL, f_slT, f_slS, f_slR, f_lenS, f_lenL, f_lenT, f_intI, f_intB, f_abs, f_tupL, f_tupT, f_isi_s, atI0, atI1, atI2, atI3, List.length_cons, List.length_nil, List.cons_append, List.nil_append, Nat.reduceAdd, Nat.reduceSub, Nat.reduceLeDiff, Nat.reduceEqDiff, Int.reduceAdd, Int.reduceSub, Int.reduceMul, Int.reduceNeg, Int.reduceLT, Int.reduceLE, Int.reduceEq, Int.reduceBEq, Int.reducePow, Int.reduceToNat, Bool.not_true, Bool.not_false, decide_true, decide_false, true_and, and_true, f_joinT _ _ tl_bl (Nat.le_trans (sz_mem hws) (Nat.le_trans hS (by decide)))]
end
theorem cut_mid {α : Type} (f : α → D) (a : α) (m : List α) (z : α) : cutD ((a :: (m ++ [z])).map f) (some 1) (some (-1)) = m.map f := by
  unfold cutD
  have e1 : HT.sIx ((a :: (m ++ [z])).map f).length 0 (some 1) = min 1 ((a :: (m ++ [z])).map f).length := HT.sIx_nat _ _ 1
  have hl : ((a :: (m ++ [z])).map f).length = m.length + 2 := by rw [List.length_map, List.length_cons, List.length_append, List.length_singleton]
  have e2 : HT.sIx ((a :: (m ++ [z])).map f).length ((a :: (m ++ [z])).map f).length (some (-1)) = m.length + 1 := by
    rw [hl]
    unfold HT.sIx
    show (if (-1 : Int) < 0 then _ else _) = _
    rw [if_pos (by decide)]
    omega
  rw [e1, e2, hl, Nat.min_eq_left (by omega)]
  rw [List.map_cons, List.map_append]
  show (m.map f ++ [f z]).take (m.length + 1 - 1) = _
  rw [Nat.add_sub_cancel, ← List.length_map (f := f) (as := m)]
  exact List.take_left
theorem cut_one {α : Type} (f : α → D) (z : α) : cutD ([z].map f) (some 1) (some (-1)) = [] := by
  unfold cutD
  rfl
theorem cut_fst {α : Type} (f : α → D) (l : List α) : cutD (l.map f) none (some 1) = (l.take 1).map f := by
  unfold cutD
  rw [show HT.sIx (l.map f).length 0 none = 0 from rfl, List.drop_zero, Nat.sub_zero, show HT.sIx (l.map f).length (l.map f).length (some 1) = min 1 (l.map f).length from HT.sIx_nat _ _ 1, List.map_take]
  rcases Nat.le_total 1 (l.map f).length with h | h
  · rw [Nat.min_eq_left h]
  · rw [Nat.min_eq_right h, List.take_length, List.take_of_length_le h]
theorem at_last {α : Type} (f : α → D) (a : α) (m : List α) (z : α) : atI ((a :: (m ++ [z])).map f) (-1) = some (f z) := by
  have := atI_last ((a :: m).map f) (f z)
  rw [List.map_cons] at this ⊢
  rw [List.map_append]
  exact this
theorem at_fst {α : Type} (f : α → D) (a : α) (m : List α) : atI ((a :: m).map f) 0 = some (f a) := atI0
theorem at_21 {α : Type} (f : α → D) (a b : α) : atI ([a, b].map f) 1 = some (f b) := atI1
theorem at_20 {α : Type} (f : α → D) (a b : α) : atI ([a, b].map f) 0 = some (f a) := atI0
theorem at_lone {α : Type} (f : α → D) (a : α) : atI ([a].map f) (-1) = some (f a) := atI_last [] (f a)
theorem for_fret {α : Type} {a : As} {body : SC} (f : α → D) (Inv : DE → Prop) (good : α → Bool) (x : Rv) : ∀ (ds : List α) (r : DE), (∀ d ∈ ds, ∀ r, Inv r → ∃ r1 r2, a (f d) r = some r1 ∧ ((good d = true ∧ (body r1 = .ok (.nx r2) ∨ body r1 = .ok (.ct r2)) ∧ Inv r2) ∨ (good d = false ∧ body r1 = .ok (.rt x r2)))) → Inv r →
    ∃ r', (ds.all good = true ∧ forD a body (ds.map f) r = .ok (.nx r') ∧ Inv r') ∨ (ds.all good = false ∧ forD a body (ds.map f) r = .ok (.rt x r'))
  | [], r, _, hr => ⟨r, .inl ⟨rfl, rfl, hr⟩⟩
  | d :: ds, r, h, hr => by
    obtain ⟨r1, r2, h1, h2⟩ := h d (List.mem_cons_self ..) r hr
    rcases h2 with ⟨k, h2, h3⟩ | ⟨k, h2⟩
    · obtain ⟨r', g⟩ := for_fret f Inv good x ds r2 (fun x hx => h x (List.mem_cons_of_mem _ hx)) h3
      have e : forD a body ((d :: ds).map f) r = forD a body (ds.map f) r2 := by
        show (ofO (a (f d) r)).bind _ = _
        rw [h1]
        show (body r1).bind _ = _
        rcases h2 with h2 | h2
        · rw [h2]
        · rw [h2]
      have e2 : (d :: ds).all good = ds.all good := by rw [List.all_cons, k, Bool.true_and]
      rw [e, e2]
      exact ⟨r', g⟩
    · refine ⟨r2, .inr ⟨by rw [List.all_cons, k, Bool.false_and], ?_⟩⟩
      show (ofO (a (f d) r)).bind _ = _
      rw [h1]
      show (body r1).bind _ = _
      rw [h2]
/-- rows of texts are alike -/
theorem eqv_rows : ∀ ws vs : List (List Nat), PyData.eqvAll (ws.map fun w => .str (mkS w)) (vs.map fun w => .str (mkS w)) = decide (ws = vs)
  | [], [] => rfl
  | [], _ :: _ => rfl
  | _ :: _, [] => rfl
  | w :: ws, v :: vs => by
    show ((mkS w == mkS v) && PyData.eqvAll (ws.map fun w => .str (mkS w)) (vs.map fun w => .str (mkS w))) = _
    rw [mkS_inj, eqv_rows ws vs, ← Bool.decide_and]
    exact decide_eq_decide.mpr (by simp)
theorem f_neRow (ws vs : List (List Nat)) : fNe (.list (ws.map fun w => .str (mkS w))) (.list (vs.map fun w => .str (mkS w))) = some (.fr (.bool (!decide (ws = vs)))) := by
  rw [f_ne _ _ (plain_strs mkS ws) (plain_strs mkS vs)]
  show some (Rv.fr (.bool (!PyData.eqvAll _ _))) = _
  rw [eqv_rows]
theorem f_eqRow (ws vs : List (List Nat)) : fEq (.list (ws.map fun w => .str (mkS w))) (.list (vs.map fun w => .str (mkS w))) = some (.fr (.bool (decide (ws = vs)))) := by
  rw [f_eq _ _ (plain_strs mkS ws) (plain_strs mkS vs)]
  show some (Rv.fr (.bool (PyData.eqvAll _ _))) = _
  rw [eqv_rows]
theorem f_neRow2 (ws : List (List Nat)) (x y : List Nat) : fNe (.list (ws.map fun w => .str (mkS w))) (.list [.str (mkS x), .str (mkS y)]) = some (.fr (.bool (!decide (ws = [x, y])))) := f_neRow ws [x, y]
theorem f_neRow1 (ws : List (List Nat)) (x : List Nat) : fNe (.list (ws.map fun w => .str (mkS w))) (.list [.str (mkS x)]) = some (.fr (.bool (!decide (ws = [x])))) := f_neRow ws [x]
theorem f_eqRow1 (ws : List (List Nat)) (x : List Nat) : fEq (.list (ws.map fun w => .str (mkS w))) (.list [.str (mkS x)]) = some (.fr (.bool (decide (ws = [x])))) := f_eqRow ws [x]
theorem plain_le {n : Nat} : ∀ {l : List D}, (∀ d ∈ l, d.hasDict = false ∧ d.depth ≤ n) → PyData.hasDictAll l = false ∧ PyData.depthAll l ≤ n
  | [], _ => ⟨rfl, Nat.zero_le _⟩
  | d :: l, h => by
    obtain ⟨h1, h2⟩ := h d (List.mem_cons_self ..)
    obtain ⟨h3, h4⟩ := plain_le fun x hx => h x (List.mem_cons_of_mem _ hx)
    refine ⟨?_, ?_⟩
    · show (d.hasDict || PyData.hasDictAll l) = false
      rw [h1, h3]
      rfl
    · simp only [PyData.depthAll]
      omega
theorem stepD_plain (ws : List (List Nat)) : (stepD ws).hasDict = false ∧ (stepD ws).depth ≤ 1 := by
  obtain ⟨h1, h2⟩ := plain_flat (l := ws.map fun w => PyData.str (mkS w)) fun d hd => by
    obtain ⟨a, _, rfl⟩ := List.mem_map.mp hd
    exact ⟨rfl, by simp only [PyData.depth]⟩
  exact ⟨h1, by unfold stepD; simp only [PyData.depth, h2]; omega⟩
theorem f_noneIn (m : List (List Nat)) : fIn .none (.tuple (m.map stepV)) = some (.fr (.bool (!m.all fun x => stepOk (spl [32] 0 [] x)))) := by
  have hp : plainD (.tuple (m.map stepV)) = true := by
    obtain ⟨h1, h2⟩ := plain_le (n := 1) (l := m.map stepV) fun d hd => by
      obtain ⟨a, _, rfl⟩ := List.mem_map.mp hd
      unfold stepV
      split
      · exact stepD_plain _
      · exact ⟨rfl, by simp only [PyData.depth]; omega⟩
    unfold plainD
    rw [show (PyData.tuple (m.map stepV)).hasDict = false from h1, decide_eq_true (by simp only [PyData.depth]; omega)]
    rfl
  have key : ∀ m : List (List Nat), ((m.map stepV).any fun z => PyData.eqv z .none) = !m.all fun x => stepOk (spl [32] 0 [] x) := by
    intro m
    induction m with
    | nil => rfl
    | cons x m ih =>
      rw [List.map_cons, List.any_cons, ih, List.all_cons, Bool.not_and]
      congr 1
      unfold stepV
      cases stepOk (spl [32] 0 [] x) <;> rfl
  have e : isIn .none (.tuple (m.map stepV)) = match plainD .none && plainD (.tuple (m.map stepV)) with
    | true => some ((m.map stepV).any fun z => PyData.eqv z .none)
    | false => none := rfl
  show (isIn .none (.tuple (m.map stepV))).map _ = _
  rw [e, hp, ← key]
  rfl
def keyW (z : List Nat) : List Nat := (spl [32] 0 [] z).getD 1 []
def goodB (a : List Nat) (m : List (List Nat)) (z : List Nat) : Bool := decide (a = lnLog m.length) && (m.all (fun x => stepOk (spl [32] 0 [] x)) && (decide (spl [32] 0 [] z = [wLock, keyW z]) && shB (keyW z)))
def readA (a : List Nat) (m : List (List Nat)) (z : List Nat) : D := match goodB a m z with
  | true => logD (m.map (spl [32] 0 [])) (keyW z)
  | false => .none
theorem steps_all {m : List (List Nat)} (h : (m.all fun x => stepOk (spl [32] 0 [] x)) = true) : m.map stepV = (m.map (spl [32] 0 [])).map stepD := by
  rw [List.map_map]
  refine List.map_congr_left fun x hx => ?_
  unfold stepV
  rw [List.all_eq_true.mp h x hx]
  rfl
theorem map_join (m : List (List Nat)) : (m.map (spl [32] 0 [])).map (joinL [32]) = m := by
  rw [List.map_map]
  exact (List.map_congr_left fun x _ => (join_spl 32 x [])).trans (List.map_id' m)
theorem map_sz (m : List (List Nat)) : ((m.map (spl [32] 0 [])).map szW).sum = szW m := by
  rw [List.map_map]
  unfold szW
  congr 1
  refine List.map_congr_left fun x _ => ?_
  have := szW_spl 32 x []
  rw [List.length_nil, Nat.zero_add] at this
  exact this
/-- the lines make the text just if the first and the last are as they should be -/
theorem text_iff {l a : List Nat} {m : List (List Nat)} {z u k : List Nat} (h : spl [10] 0 [] l = a :: (m ++ [z])) (hz : spl [32] 0 [] z = [u, k]) : textL (m.map (spl [32] 0 [])) k = l ↔ a = lnLog m.length ∧ u = wLock := by
  have hl : joinL [10] (a :: (m ++ [z])) = l := by rw [← h, join_spl]; rfl
  have hzj : z = u ++ (32 :: k) := by
    have := join_spl 32 z []
    rw [hz] at this
    exact this.symm
  have free := spl_free 10 l [] (by simp)
  rw [h] at free
  have fz : 10 ∉ z := free z (by simp)
  have fk : 10 ∉ k := fun w => fz (by rw [hzj]; exact List.mem_append_right _ (List.mem_cons_of_mem _ w))
  have hT : textL (m.map (spl [32] 0 [])) k = joinL [10] (lnLog m.length :: (m ++ [lnLock k])) := by
    unfold textL linesL
    rw [map_join, List.length_map]
  rw [hT, ← hl]
  constructor
  · intro e
    have e2 := join_inj (s := 10) (by simp) (by simp) (fun p hp => ?_) free e
    · injection e2 with e3 e4
      have e5 := List.append_cancel_left e4
      injection e5 with e6 _
      refine ⟨e3.symm, ?_⟩
      rw [hzj] at e6
      exact (List.append_cancel_right (show wLock ++ (32 :: k) = u ++ (32 :: k) from e6)).symm
    · rcases List.mem_cons.mp hp with rfl | hp
      · unfold lnLog
        intro w
        rcases List.mem_append.mp w with w | w
        · revert w; decide
        · rcases List.mem_cons.mp w with w | w
          · cases w
          · exact numT_free ⟨by decide, .inl (by decide)⟩ w
      · rcases List.mem_append.mp hp with hp | hp
        · exact free p (List.mem_cons_of_mem _ (List.mem_append_left _ hp))
        · rw [List.mem_singleton.mp hp]
          unfold lnLock
          intro w
          rcases List.mem_append.mp w with w | w
          · revert w; decide
          · rcases List.mem_cons.mp w with w | w
            · cases w
            · exact fk w
  · rintro ⟨rfl, rfl⟩
    rw [hzj]
    rfl
theorem sp_read_log2 {l a : List Nat} {m : List (List Nat)} {z : List Nat} (h : spl [10] 0 [] l = a :: (m ++ [z])) (hl : l.length ≤ 570) : r_read_log [.str (mkS l)] = .ok (.fr (readA a m z)) none := by
  unfold r_read_log c_read_log
  rw [v_run]
  have lc : ∀ X Y : Sl, lcD [5] (aNm 5) cYes (cFz (cCallF 1 r_read_step (cACons (cFz (cNm 5)) cANil))) (m.map fun w => .str (mkS w)) [.fr (.str (mkS l)), X, .no, .no, .no, .no] = .ok (m.map stepV, [.fr (.str (mkS l)), X, .no, .no, .no, .no]) := fun X Y => by
    rw [lc_fmap (fun w => .str (mkS w)) stepV]
    intro d _
    refine ⟨[.fr (.str (mkS l)), X, .no, .no, .no, .fr (.str (mkS d))], rfl, ?_, rfl⟩
    simp only [b_ok, b_no, oo_some, oo_none, g_fr, g_z, g_s, sl_s, sl_fr, sl_ow, sl_io, rv_fr, rv_ow, rv_sl, fz_fr, fz_ow, kCo_, fz_s, fz_zf, fz_zo, om_some, ob_some, om_none, ow_s, ow_ow, ow_io, mu_s, mu_ow, mu_io, st_s, st_so, st_zn, st_zf, st_zo, so_zn, so_zf, so_zo, v_nm, v_nmf, v_nmo, v_nmi, v_k, v_fz, k_fz, v_anil, v_acons, k_a1, k_a2, v_bnil, v_bcons, k_b1, k_b2, v_tup, v_lst, k_tup, k_lst, v_bin, k_o1, k_o2, v_b, v_r, v_un, k_un, v_u, rvs_nil, rvs_cons, v_cons, v_call, k_call, v_l, v_mt, k_mt, v_testOf, k_t, v_truth, k_tr, v_tr, v_kk, tru_b, v_notT, k_nt, v_andT, v_orT, k_at1, k_at0, k_ot1, k_ot0, v_if, k_if1, k_if0, v_and, v_or, v_not, k_and1, k_and0, k_or1, k_or0, k_not, v_chain, k_ch1, k_ch2, v_b', k_ch3t, k_ch3f, v_pn, v_ps, k_p, v_sl, k_s1, k_s2, k_s3, v_s, v_seq, k_snx, k_srt, k_sbk, k_sct, v_ifS, k_ifS1, k_ifS0, v_skip, v_brk, v_cnt, v_exp, v_ret, k_exp, k_ret, v_set, k_set, v_n, v_asg, k_asg, a_nm, a_nil, a_cons, k_as, a_tup, v_par, v_par3, k_par, k_par3, v_setIx, k_x1, v_x1, k_mu, k_x2, v_x2, v_augIx, v_g1, k_g1, v_b2, k_g2, k_g3, v_g3, v_g4, v_aug, v_au, k_au, v_au1, v_au2, v_mut, v_m0, v_m1, k_m, v_m2, v_m3, v_callF, k_cf, v_c2, v_callI, v_i1, k_ci, v_i2, v_i3, v_it, k_it, v_itS, it_l, it_t, it_s, v_R1, k_R1, v_for, k_for, v_lc, k_lc, v_lcT, cl_1s, cl_1z, v_yes, v_fgt, v_frt, v_fnx, f_ff, f_fo, f_tf, f_to, f_fs, f_ts, v_ef, v_eo, st_f, st_t, mf_nil, mf_cons, rep_s, rep_z, f_addI, f_addS, f_addL, f_addT, f_sub, f_mod, f_div, f_mulI, f_mulJ, f_mulM, f_mulS, f_pow, f_neg, f_eqI, f_eqS, f_neI, f_neS, f_ltI, f_leI, f_gtI, f_geI, f_ltS, f_is, f_isnt, f_ixL, f_ixT, a_d, se_0, se_1, se_2, i_add, f_slL, f_slT, f_slS, f_slR, f_lenS, f_lenL, f_lenT, f_intI, f_intB, f_abs, f_tupL, f_tupT, f_isi_s, atI0, atI1, atI2, atI3, List.length_cons, List.length_nil, List.cons_append, List.nil_append, Nat.reduceAdd, Nat.reduceSub, Nat.reduceLeDiff, Nat.reduceEqDiff, Int.reduceAdd, Int.reduceSub, Int.reduceMul, Int.reduceNeg, Int.reduceLT, Int.reduceLE, Int.reduceEq, Int.reduceBEq, Int.reducePow, Int.reduceToNat, Bool.not_true, Bool.not_false, decide_true, decide_false, true_and, and_true, sp_read_step]
  have hsz : szW (a :: (m ++ [z])) = l.length + 1 := by rw [← h, szW_spl]; simp
  rw [szW_cons, szW_app, szW_cons] at hsz
  cases hA : (m.all fun x => stepOk (spl [32] 0 [] x)) with
  | false =>
    have hg : readA a m z = .none := by
      unfold readA goodB
      rw [hA, Bool.false_and, Bool.and_false]
    rw [hg]
    simp only [b_ok, b_no, oo_some, oo_none, g_fr, g_z, g_s, sl_s, sl_fr, sl_ow, sl_io, rv_fr, rv_ow, rv_sl, fz_fr, fz_ow, kCo_, fz_s, fz_zf, fz_zo, om_some, ob_some, om_none, ow_s, ow_ow, ow_io, mu_s, mu_ow, mu_io, st_s, st_so, st_zn, st_zf, st_zo, so_zn, so_zf, so_zo, v_nm, v_nmf, v_nmo, v_nmi, v_k, v_fz, k_fz, v_anil, v_acons, k_a1, k_a2, v_bnil, v_bcons, k_b1, k_b2, v_tup, v_lst, k_tup, k_lst, v_bin, k_o1, k_o2, v_b, v_r, v_un, k_un, v_u, rvs_nil, rvs_cons, v_cons, v_call, k_call, v_l, v_mt, k_mt, v_testOf, k_t, v_truth, k_tr, v_tr, v_kk, tru_b, v_notT, k_nt, v_andT, v_orT, k_at1, k_at0, k_ot1, k_ot0, v_if, k_if1, k_if0, v_and, v_or, v_not, k_and1, k_and0, k_or1, k_or0, k_not, v_chain, k_ch1, k_ch2, v_b', k_ch3t, k_ch3f, v_pn, v_ps, k_p, v_sl, k_s1, k_s2, k_s3, v_s, v_seq, k_snx, k_srt, k_sbk, k_sct, v_ifS, k_ifS1, k_ifS0, v_skip, v_brk, v_cnt, v_exp, v_ret, k_exp, k_ret, v_set, k_set, v_n, v_asg, k_asg, a_nm, a_nil, a_cons, k_as, a_tup, v_par, v_par3, k_par, k_par3, v_setIx, k_x1, v_x1, k_mu, k_x2, v_x2, v_augIx, v_g1, k_g1, v_b2, k_g2, k_g3, v_g3, v_g4, v_aug, v_au, k_au, v_au1, v_au2, v_mut, v_m0, v_m1, k_m, v_m2, v_m3, v_callF, k_cf, v_c2, v_callI, v_i1, k_ci, v_i2, v_i3, v_it, k_it, v_itS, it_l, it_t, it_s, v_R1, k_R1, v_for, k_for, v_lc, k_lc, v_lcT, cl_1s, cl_1z, v_yes, v_fgt, v_frt, v_fnx, f_ff, f_fo, f_tf, f_to, f_fs, f_ts, v_ef, v_eo, st_f, st_t, mf_nil, mf_cons, rep_s, rep_z, f_addI, f_addS, f_addL, f_addT, f_sub, f_mod, f_div, f_mulI, f_mulJ, f_mulM, f_mulS, f_pow, f_neg, f_eqI, f_eqS, f_neI, f_neS, f_ltI, f_leI, f_gtI, f_geI, f_ltS, f_is, f_isnt, f_ixL, f_ixT, a_d, se_0, se_1, se_2, i_add, f_slL, f_slT, f_slS, f_slR, f_lenS, f_lenL, f_lenT, f_intI, f_intB, f_abs, f_tupL, f_tupT, f_isi_s, atI0, atI1, atI2, atI3, List.length_cons, List.length_nil, List.cons_append, List.nil_append, Nat.reduceAdd, Nat.reduceSub, Nat.reduceLeDiff, Nat.reduceEqDiff, Int.reduceAdd, Int.reduceSub, Int.reduceMul, Int.reduceNeg, Int.reduceLT, Int.reduceLE, Int.reduceEq, Int.reduceBEq, Int.reducePow, Int.reduceToNat, Bool.not_true, Bool.not_false, decide_true, decide_false, true_and, and_true, sp_lf, h, cut_mid, at_last, lc _ .no, noEx, sp_blank, f_noneIn, hA]
  | true =>
    generalize hw : spl [32] 0 [] z = ws
    have bad : (∀ u k, ws ≠ [u, k]) → readA a m z = .none := fun hn => by
      unfold readA goodB
      rw [hw, decide_eq_false (hn _ _), Bool.false_and, Bool.and_false, Bool.and_false]
    match ws, hw, bad with
    | [], hw, bad => exact absurd hw (spl_ne 32 z [])
    | [u], hw, bad =>
      rw [bad (by intro u k e; cases e)]
      simp only [b_ok, b_no, oo_some, oo_none, g_fr, g_z, g_s, sl_s, sl_fr, sl_ow, sl_io, rv_fr, rv_ow, rv_sl, fz_fr, fz_ow, kCo_, fz_s, fz_zf, fz_zo, om_some, ob_some, om_none, ow_s, ow_ow, ow_io, mu_s, mu_ow, mu_io, st_s, st_so, st_zn, st_zf, st_zo, so_zn, so_zf, so_zo, v_nm, v_nmf, v_nmo, v_nmi, v_k, v_fz, k_fz, v_anil, v_acons, k_a1, k_a2, v_bnil, v_bcons, k_b1, k_b2, v_tup, v_lst, k_tup, k_lst, v_bin, k_o1, k_o2, v_b, v_r, v_un, k_un, v_u, rvs_nil, rvs_cons, v_cons, v_call, k_call, v_l, v_mt, k_mt, v_testOf, k_t, v_truth, k_tr, v_tr, v_kk, tru_b, v_notT, k_nt, v_andT, v_orT, k_at1, k_at0, k_ot1, k_ot0, v_if, k_if1, k_if0, v_and, v_or, v_not, k_and1, k_and0, k_or1, k_or0, k_not, v_chain, k_ch1, k_ch2, v_b', k_ch3t, k_ch3f, v_pn, v_ps, k_p, v_sl, k_s1, k_s2, k_s3, v_s, v_seq, k_snx, k_srt, k_sbk, k_sct, v_ifS, k_ifS1, k_ifS0, v_skip, v_brk, v_cnt, v_exp, v_ret, k_exp, k_ret, v_set, k_set, v_n, v_asg, k_asg, a_nm, a_nil, a_cons, k_as, a_tup, v_par, v_par3, k_par, k_par3, v_setIx, k_x1, v_x1, k_mu, k_x2, v_x2, v_augIx, v_g1, k_g1, v_b2, k_g2, k_g3, v_g3, v_g4, v_aug, v_au, k_au, v_au1, v_au2, v_mut, v_m0, v_m1, k_m, v_m2, v_m3, v_callF, k_cf, v_c2, v_callI, v_i1, k_ci, v_i2, v_i3, v_it, k_it, v_itS, it_l, it_t, it_s, v_R1, k_R1, v_for, k_for, v_lc, k_lc, v_lcT, cl_1s, cl_1z, v_yes, v_fgt, v_frt, v_fnx, f_ff, f_fo, f_tf, f_to, f_fs, f_ts, v_ef, v_eo, st_f, st_t, mf_nil, mf_cons, rep_s, rep_z, f_addI, f_addS, f_addL, f_addT, f_sub, f_mod, f_div, f_mulI, f_mulJ, f_mulM, f_mulS, f_pow, f_neg, f_eqI, f_eqS, f_neI, f_neS, f_ltI, f_leI, f_gtI, f_geI, f_ltS, f_is, f_isnt, f_ixL, f_ixT, a_d, se_0, se_1, se_2, i_add, f_slL, f_slT, f_slS, f_slR, f_lenS, f_lenL, f_lenT, f_intI, f_intB, f_abs, f_tupL, f_tupT, f_isi_s, atI0, atI1, atI2, atI3, List.length_cons, List.length_nil, List.cons_append, List.nil_append, Nat.reduceAdd, Nat.reduceSub, Nat.reduceLeDiff, Nat.reduceEqDiff, Int.reduceAdd, Int.reduceSub, Int.reduceMul, Int.reduceNeg, Int.reduceLT, Int.reduceLE, Int.reduceEq, Int.reduceBEq, Int.reducePow, Int.reduceToNat, Bool.not_true, Bool.not_false, decide_true, decide_false, true_and, and_true, sp_lf, h, cut_mid, at_last, lc _ .no, noEx, sp_blank, f_noneIn, hA, hw, List.length_map, at_21, nc1]
    | u :: k :: c :: r, hw, bad =>
      rw [bad (by intro u k e; cases e)]
      have g : (((r.length + 1 + 1 + 1 : Nat) : Int) == 2) = false := by rw [← Bool.not_eq_true, beq_iff_eq]; omega
      simp only [b_ok, b_no, oo_some, oo_none, g_fr, g_z, g_s, sl_s, sl_fr, sl_ow, sl_io, rv_fr, rv_ow, rv_sl, fz_fr, fz_ow, kCo_, fz_s, fz_zf, fz_zo, om_some, ob_some, om_none, ow_s, ow_ow, ow_io, mu_s, mu_ow, mu_io, st_s, st_so, st_zn, st_zf, st_zo, so_zn, so_zf, so_zo, v_nm, v_nmf, v_nmo, v_nmi, v_k, v_fz, k_fz, v_anil, v_acons, k_a1, k_a2, v_bnil, v_bcons, k_b1, k_b2, v_tup, v_lst, k_tup, k_lst, v_bin, k_o1, k_o2, v_b, v_r, v_un, k_un, v_u, rvs_nil, rvs_cons, v_cons, v_call, k_call, v_l, v_mt, k_mt, v_testOf, k_t, v_truth, k_tr, v_tr, v_kk, tru_b, v_notT, k_nt, v_andT, v_orT, k_at1, k_at0, k_ot1, k_ot0, v_if, k_if1, k_if0, v_and, v_or, v_not, k_and1, k_and0, k_or1, k_or0, k_not, v_chain, k_ch1, k_ch2, v_b', k_ch3t, k_ch3f, v_pn, v_ps, k_p, v_sl, k_s1, k_s2, k_s3, v_s, v_seq, k_snx, k_srt, k_sbk, k_sct, v_ifS, k_ifS1, k_ifS0, v_skip, v_brk, v_cnt, v_exp, v_ret, k_exp, k_ret, v_set, k_set, v_n, v_asg, k_asg, a_nm, a_nil, a_cons, k_as, a_tup, v_par, v_par3, k_par, k_par3, v_setIx, k_x1, v_x1, k_mu, k_x2, v_x2, v_augIx, v_g1, k_g1, v_b2, k_g2, k_g3, v_g3, v_g4, v_aug, v_au, k_au, v_au1, v_au2, v_mut, v_m0, v_m1, k_m, v_m2, v_m3, v_callF, k_cf, v_c2, v_callI, v_i1, k_ci, v_i2, v_i3, v_it, k_it, v_itS, it_l, it_t, it_s, v_R1, k_R1, v_for, k_for, v_lc, k_lc, v_lcT, cl_1s, cl_1z, v_yes, v_fgt, v_frt, v_fnx, f_ff, f_fo, f_tf, f_to, f_fs, f_ts, v_ef, v_eo, st_f, st_t, mf_nil, mf_cons, rep_s, rep_z, f_addI, f_addS, f_addL, f_addT, f_sub, f_mod, f_div, f_mulI, f_mulJ, f_mulM, f_mulS, f_pow, f_neg, f_eqI, f_eqS, f_neI, f_neS, f_ltI, f_leI, f_gtI, f_geI, f_ltS, f_is, f_isnt, f_ixL, f_ixT, a_d, se_0, se_1, se_2, i_add, f_slL, f_slT, f_slS, f_slR, f_lenS, f_lenL, f_lenT, f_intI, f_intB, f_abs, f_tupL, f_tupT, f_isi_s, atI0, atI1, atI2, atI3, List.length_cons, List.length_nil, List.cons_append, List.nil_append, Nat.reduceAdd, Nat.reduceSub, Nat.reduceLeDiff, Nat.reduceEqDiff, Int.reduceAdd, Int.reduceSub, Int.reduceMul, Int.reduceNeg, Int.reduceLT, Int.reduceLE, Int.reduceEq, Int.reduceBEq, Int.reducePow, Int.reduceToNat, Bool.not_true, Bool.not_false, decide_true, decide_false, true_and, and_true, sp_lf, h, cut_mid, at_last, lc _ .no, noEx, sp_blank, f_noneIn, hA, hw, List.length_map, at_21, g]
    | [u, k], hw, _ =>
      have hk : keyW z = k := by unfold keyW; rw [hw]; rfl
      cases hs : shB k with
      | false =>
        have hg : readA a m z = .none := by
          unfold readA goodB
          rw [hk, hs, Bool.and_false, Bool.and_false, Bool.and_false]
        rw [hg]
        simp only [b_ok, b_no, oo_some, oo_none, g_fr, g_z, g_s, sl_s, sl_fr, sl_ow, sl_io, rv_fr, rv_ow, rv_sl, fz_fr, fz_ow, kCo_, fz_s, fz_zf, fz_zo, om_some, ob_some, om_none, ow_s, ow_ow, ow_io, mu_s, mu_ow, mu_io, st_s, st_so, st_zn, st_zf, st_zo, so_zn, so_zf, so_zo, v_nm, v_nmf, v_nmo, v_nmi, v_k, v_fz, k_fz, v_anil, v_acons, k_a1, k_a2, v_bnil, v_bcons, k_b1, k_b2, v_tup, v_lst, k_tup, k_lst, v_bin, k_o1, k_o2, v_b, v_r, v_un, k_un, v_u, rvs_nil, rvs_cons, v_cons, v_call, k_call, v_l, v_mt, k_mt, v_testOf, k_t, v_truth, k_tr, v_tr, v_kk, tru_b, v_notT, k_nt, v_andT, v_orT, k_at1, k_at0, k_ot1, k_ot0, v_if, k_if1, k_if0, v_and, v_or, v_not, k_and1, k_and0, k_or1, k_or0, k_not, v_chain, k_ch1, k_ch2, v_b', k_ch3t, k_ch3f, v_pn, v_ps, k_p, v_sl, k_s1, k_s2, k_s3, v_s, v_seq, k_snx, k_srt, k_sbk, k_sct, v_ifS, k_ifS1, k_ifS0, v_skip, v_brk, v_cnt, v_exp, v_ret, k_exp, k_ret, v_set, k_set, v_n, v_asg, k_asg, a_nm, a_nil, a_cons, k_as, a_tup, v_par, v_par3, k_par, k_par3, v_setIx, k_x1, v_x1, k_mu, k_x2, v_x2, v_augIx, v_g1, k_g1, v_b2, k_g2, k_g3, v_g3, v_g4, v_aug, v_au, k_au, v_au1, v_au2, v_mut, v_m0, v_m1, k_m, v_m2, v_m3, v_callF, k_cf, v_c2, v_callI, v_i1, k_ci, v_i2, v_i3, v_it, k_it, v_itS, it_l, it_t, it_s, v_R1, k_R1, v_for, k_for, v_lc, k_lc, v_lcT, cl_1s, cl_1z, v_yes, v_fgt, v_frt, v_fnx, f_ff, f_fo, f_tf, f_to, f_fs, f_ts, v_ef, v_eo, st_f, st_t, mf_nil, mf_cons, rep_s, rep_z, f_addI, f_addS, f_addL, f_addT, f_sub, f_mod, f_div, f_mulI, f_mulJ, f_mulM, f_mulS, f_pow, f_neg, f_eqI, f_eqS, f_neI, f_neS, f_ltI, f_leI, f_gtI, f_geI, f_ltS, f_is, f_isnt, f_ixL, f_ixT, a_d, se_0, se_1, se_2, i_add, f_slL, f_slT, f_slS, f_slR, f_lenS, f_lenL, f_lenT, f_intI, f_intB, f_abs, f_tupL, f_tupT, f_isi_s, atI0, atI1, atI2, atI3, List.length_cons, List.length_nil, List.cons_append, List.nil_append, Nat.reduceAdd, Nat.reduceSub, Nat.reduceLeDiff, Nat.reduceEqDiff, Int.reduceAdd, Int.reduceSub, Int.reduceMul, Int.reduceNeg, Int.reduceLT, Int.reduceLE, Int.reduceEq, Int.reduceBEq, Int.reducePow, Int.reduceToNat, Bool.not_true, Bool.not_false, decide_true, decide_false, true_and, and_true, sp_lf, h, cut_mid, at_last, lc _ .no, noEx, sp_blank, f_noneIn, hA, hw, List.length_map, at_21, nc2, sp_is_shelf, hs]
      | true =>
        have hkl : k.length ≤ 1000000 := by
          have := szW_spl 32 z []
          rw [hw, szW_cons, szW_cons] at this
          simp at this
          omega
        have ht := sp_log_text (S := m.map (spl [32] 0 [])) (k := k) (by rw [map_sz]; omega) (by rw [List.length_map]; have := szW_len m; omega) hkl
        have hd : PyData.tuple [PyData.tuple (m.map stepV), PyData.str (mkS k)] = logD (m.map (spl [32] 0 [])) k := by rw [steps_all hA]; rfl
        have hq : (mkS (textL (m.map (spl [32] 0 [])) k) == mkS l) = decide (a = lnLog m.length ∧ u = wLock) := by
          rw [mkS_inj]
          exact decide_eq_decide.mpr (text_iff h hw)
        have hg : readA a m z = match decide (a = lnLog m.length ∧ u = wLock) with | true => logD (m.map (spl [32] 0 [])) k | false => .none := by
          have : goodB a m z = decide (a = lnLog m.length ∧ u = wLock) := by
            unfold goodB
            rw [hA, hk, hs, hw, Bool.true_and, Bool.and_true, ← Bool.decide_and]
            exact decide_eq_decide.mpr (by simp)
          unfold readA
          rw [this, hk]
        rw [hg]
        cases hz : decide (a = lnLog m.length ∧ u = wLock) with
        | false =>
          rw [hz] at hq
          simp only [b_ok, b_no, oo_some, oo_none, g_fr, g_z, g_s, sl_s, sl_fr, sl_ow, sl_io, rv_fr, rv_ow, rv_sl, fz_fr, fz_ow, kCo_, fz_s, fz_zf, fz_zo, om_some, ob_some, om_none, ow_s, ow_ow, ow_io, mu_s, mu_ow, mu_io, st_s, st_so, st_zn, st_zf, st_zo, so_zn, so_zf, so_zo, v_nm, v_nmf, v_nmo, v_nmi, v_k, v_fz, k_fz, v_anil, v_acons, k_a1, k_a2, v_bnil, v_bcons, k_b1, k_b2, v_tup, v_lst, k_tup, k_lst, v_bin, k_o1, k_o2, v_b, v_r, v_un, k_un, v_u, rvs_nil, rvs_cons, v_cons, v_call, k_call, v_l, v_mt, k_mt, v_testOf, k_t, v_truth, k_tr, v_tr, v_kk, tru_b, v_notT, k_nt, v_andT, v_orT, k_at1, k_at0, k_ot1, k_ot0, v_if, k_if1, k_if0, v_and, v_or, v_not, k_and1, k_and0, k_or1, k_or0, k_not, v_chain, k_ch1, k_ch2, v_b', k_ch3t, k_ch3f, v_pn, v_ps, k_p, v_sl, k_s1, k_s2, k_s3, v_s, v_seq, k_snx, k_srt, k_sbk, k_sct, v_ifS, k_ifS1, k_ifS0, v_skip, v_brk, v_cnt, v_exp, v_ret, k_exp, k_ret, v_set, k_set, v_n, v_asg, k_asg, a_nm, a_nil, a_cons, k_as, a_tup, v_par, v_par3, k_par, k_par3, v_setIx, k_x1, v_x1, k_mu, k_x2, v_x2, v_augIx, v_g1, k_g1, v_b2, k_g2, k_g3, v_g3, v_g4, v_aug, v_au, k_au, v_au1, v_au2, v_mut, v_m0, v_m1, k_m, v_m2, v_m3, v_callF, k_cf, v_c2, v_callI, v_i1, k_ci, v_i2, v_i3, v_it, k_it, v_itS, it_l, it_t, it_s, v_R1, k_R1, v_for, k_for, v_lc, k_lc, v_lcT, cl_1s, cl_1z, v_yes, v_fgt, v_frt, v_fnx, f_ff, f_fo, f_tf, f_to, f_fs, f_ts, v_ef, v_eo, st_f, st_t, mf_nil, mf_cons, rep_s, rep_z, f_addI, f_addS, f_addL, f_addT, f_sub, f_mod, f_div, f_mulI, f_mulJ, f_mulM, f_mulS, f_pow, f_neg, f_eqI, f_eqS, f_neI, f_neS, f_ltI, f_leI, f_gtI, f_geI, f_ltS, f_is, f_isnt, f_ixL, f_ixT, a_d, se_0, se_1, se_2, i_add, f_slL, f_slT, f_slS, f_slR, f_lenS, f_lenL, f_lenT, f_intI, f_intB, f_abs, f_tupL, f_tupT, f_isi_s, atI0, atI1, atI2, atI3, List.length_cons, List.length_nil, List.cons_append, List.nil_append, Nat.reduceAdd, Nat.reduceSub, Nat.reduceLeDiff, Nat.reduceEqDiff, Int.reduceAdd, Int.reduceSub, Int.reduceMul, Int.reduceNeg, Int.reduceLT, Int.reduceLE, Int.reduceEq, Int.reduceBEq, Int.reducePow, Int.reduceToNat, Bool.not_true, Bool.not_false, decide_true, decide_false, true_and, and_true, sp_lf, h, cut_mid, at_last, lc _ .no, noEx, sp_blank, f_noneIn, hA, hw, List.length_map, at_21, nc2, sp_is_shelf, hs, hd, ht, hq]
        | true =>
          rw [hz] at hq
          simp only [b_ok, b_no, oo_some, oo_none, g_fr, g_z, g_s, sl_s, sl_fr, sl_ow, sl_io, rv_fr, rv_ow, rv_sl, fz_fr, fz_ow, kCo_, fz_s, fz_zf, fz_zo, om_some, ob_some, om_none, ow_s, ow_ow, ow_io, mu_s, mu_ow, mu_io, st_s, st_so, st_zn, st_zf, st_zo, so_zn, so_zf, so_zo, v_nm, v_nmf, v_nmo, v_nmi, v_k, v_fz, k_fz, v_anil, v_acons, k_a1, k_a2, v_bnil, v_bcons, k_b1, k_b2, v_tup, v_lst, k_tup, k_lst, v_bin, k_o1, k_o2, v_b, v_r, v_un, k_un, v_u, rvs_nil, rvs_cons, v_cons, v_call, k_call, v_l, v_mt, k_mt, v_testOf, k_t, v_truth, k_tr, v_tr, v_kk, tru_b, v_notT, k_nt, v_andT, v_orT, k_at1, k_at0, k_ot1, k_ot0, v_if, k_if1, k_if0, v_and, v_or, v_not, k_and1, k_and0, k_or1, k_or0, k_not, v_chain, k_ch1, k_ch2, v_b', k_ch3t, k_ch3f, v_pn, v_ps, k_p, v_sl, k_s1, k_s2, k_s3, v_s, v_seq, k_snx, k_srt, k_sbk, k_sct, v_ifS, k_ifS1, k_ifS0, v_skip, v_brk, v_cnt, v_exp, v_ret, k_exp, k_ret, v_set, k_set, v_n, v_asg, k_asg, a_nm, a_nil, a_cons, k_as, a_tup, v_par, v_par3, k_par, k_par3, v_setIx, k_x1, v_x1, k_mu, k_x2, v_x2, v_augIx, v_g1, k_g1, v_b2, k_g2, k_g3, v_g3, v_g4, v_aug, v_au, k_au, v_au1, v_au2, v_mut, v_m0, v_m1, k_m, v_m2, v_m3, v_callF, k_cf, v_c2, v_callI, v_i1, k_ci, v_i2, v_i3, v_it, k_it, v_itS, it_l, it_t, it_s, v_R1, k_R1, v_for, k_for, v_lc, k_lc, v_lcT, cl_1s, cl_1z, v_yes, v_fgt, v_frt, v_fnx, f_ff, f_fo, f_tf, f_to, f_fs, f_ts, v_ef, v_eo, st_f, st_t, mf_nil, mf_cons, rep_s, rep_z, f_addI, f_addS, f_addL, f_addT, f_sub, f_mod, f_div, f_mulI, f_mulJ, f_mulM, f_mulS, f_pow, f_neg, f_eqI, f_eqS, f_neI, f_neS, f_ltI, f_leI, f_gtI, f_geI, f_ltS, f_is, f_isnt, f_ixL, f_ixT, a_d, se_0, se_1, se_2, i_add, f_slL, f_slT, f_slS, f_slR, f_lenS, f_lenL, f_lenT, f_intI, f_intB, f_abs, f_tupL, f_tupT, f_isi_s, atI0, atI1, atI2, atI3, List.length_cons, List.length_nil, List.cons_append, List.nil_append, Nat.reduceAdd, Nat.reduceSub, Nat.reduceLeDiff, Nat.reduceEqDiff, Int.reduceAdd, Int.reduceSub, Int.reduceMul, Int.reduceNeg, Int.reduceLT, Int.reduceLE, Int.reduceEq, Int.reduceBEq, Int.reducePow, Int.reduceToNat, Bool.not_true, Bool.not_false, decide_true, decide_false, true_and, and_true, sp_lf, h, cut_mid, at_last, lc _ .no, noEx, sp_blank, f_noneIn, hA, hw, List.length_map, at_21, nc2, sp_is_shelf, hs, hd, ht, hq]
theorem lcD_nil (vs : List Nat) (as : As) (t : CT) (c : CF) (r : DE) : lcD vs as t c [] r = .ok ([], r) := rfl
theorem f_noneIn0 : fIn .none (.tuple []) = some (.fr (.bool false)) := f_noneIn []
theorem sp_read_log1 {l x : List Nat} (h : spl [10] 0 [] l = [x]) (hl : l.length ≤ 570) : r_read_log [.str (mkS l)] = .ok (.fr .none) none := by
  have hx : joinL [10] [x] = l := by rw [← h, join_spl]; rfl
  have hx : x = l := hx
  subst hx
  have free := spl_free 10 x [] (by simp)
  rw [h] at free
  have fx : 10 ∉ x := free x (by simp)
  unfold r_read_log c_read_log
  rw [v_run]
  generalize hw : spl [32] 0 [] x = ws
  match ws, hw with
  | [], hw => exact absurd hw (spl_ne 32 x [])
  | [u], hw =>
    simp only [b_ok, b_no, oo_some, oo_none, g_fr, g_z, g_s, sl_s, sl_fr, sl_ow, sl_io, rv_fr, rv_ow, rv_sl, fz_fr, fz_ow, kCo_, fz_s, fz_zf, fz_zo, om_some, ob_some, om_none, ow_s, ow_ow, ow_io, mu_s, mu_ow, mu_io, st_s, st_so, st_zn, st_zf, st_zo, so_zn, so_zf, so_zo, v_nm, v_nmf, v_nmo, v_nmi, v_k, v_fz, k_fz, v_anil, v_acons, k_a1, k_a2, v_bnil, v_bcons, k_b1, k_b2, v_tup, v_lst, k_tup, k_lst, v_bin, k_o1, k_o2, v_b, v_r, v_un, k_un, v_u, rvs_nil, rvs_cons, v_cons, v_call, k_call, v_l, v_mt, k_mt, v_testOf, k_t, v_truth, k_tr, v_tr, v_kk, tru_b, v_notT, k_nt, v_andT, v_orT, k_at1, k_at0, k_ot1, k_ot0, v_if, k_if1, k_if0, v_and, v_or, v_not, k_and1, k_and0, k_or1, k_or0, k_not, v_chain, k_ch1, k_ch2, v_b', k_ch3t, k_ch3f, v_pn, v_ps, k_p, v_sl, k_s1, k_s2, k_s3, v_s, v_seq, k_snx, k_srt, k_sbk, k_sct, v_ifS, k_ifS1, k_ifS0, v_skip, v_brk, v_cnt, v_exp, v_ret, k_exp, k_ret, v_set, k_set, v_n, v_asg, k_asg, a_nm, a_nil, a_cons, k_as, a_tup, v_par, v_par3, k_par, k_par3, v_setIx, k_x1, v_x1, k_mu, k_x2, v_x2, v_augIx, v_g1, k_g1, v_b2, k_g2, k_g3, v_g3, v_g4, v_aug, v_au, k_au, v_au1, v_au2, v_mut, v_m0, v_m1, k_m, v_m2, v_m3, v_callF, k_cf, v_c2, v_callI, v_i1, k_ci, v_i2, v_i3, v_it, k_it, v_itS, it_l, it_t, it_s, v_R1, k_R1, v_for, k_for, v_lc, k_lc, v_lcT, cl_1s, cl_1z, v_yes, v_fgt, v_frt, v_fnx, f_ff, f_fo, f_tf, f_to, f_fs, f_ts, v_ef, v_eo, st_f, st_t, mf_nil, mf_cons, rep_s, rep_z, f_addI, f_addS, f_addL, f_addT, f_sub, f_mod, f_div, f_mulI, f_mulJ, f_mulM, f_mulS, f_pow, f_neg, f_eqI, f_eqS, f_neI, f_neS, f_ltI, f_leI, f_gtI, f_geI, f_ltS, f_is, f_isnt, f_ixL, f_ixT, a_d, se_0, se_1, se_2, i_add, f_slL, f_slT, f_slS, f_slR, f_lenS, f_lenL, f_lenT, f_intI, f_intB, f_abs, f_tupL, f_tupT, f_isi_s, atI0, atI1, atI2, atI3, List.length_cons, List.length_nil, List.cons_append, List.nil_append, Nat.reduceAdd, Nat.reduceSub, Nat.reduceLeDiff, Nat.reduceEqDiff, Int.reduceAdd, Int.reduceSub, Int.reduceMul, Int.reduceNeg, Int.reduceLT, Int.reduceLE, Int.reduceEq, Int.reduceBEq, Int.reducePow, Int.reduceToNat, Bool.not_true, Bool.not_false, decide_true, decide_false, true_and, and_true, sp_lf, h, cut_one, at_lone, lcD_nil, noEx, sp_blank, f_noneIn0, hw, List.length_map, nc1]
  | u :: k :: c :: r, hw =>
    have g : (((r.length + 1 + 1 + 1 : Nat) : Int) == 2) = false := by rw [← Bool.not_eq_true, beq_iff_eq]; omega
    simp only [b_ok, b_no, oo_some, oo_none, g_fr, g_z, g_s, sl_s, sl_fr, sl_ow, sl_io, rv_fr, rv_ow, rv_sl, fz_fr, fz_ow, kCo_, fz_s, fz_zf, fz_zo, om_some, ob_some, om_none, ow_s, ow_ow, ow_io, mu_s, mu_ow, mu_io, st_s, st_so, st_zn, st_zf, st_zo, so_zn, so_zf, so_zo, v_nm, v_nmf, v_nmo, v_nmi, v_k, v_fz, k_fz, v_anil, v_acons, k_a1, k_a2, v_bnil, v_bcons, k_b1, k_b2, v_tup, v_lst, k_tup, k_lst, v_bin, k_o1, k_o2, v_b, v_r, v_un, k_un, v_u, rvs_nil, rvs_cons, v_cons, v_call, k_call, v_l, v_mt, k_mt, v_testOf, k_t, v_truth, k_tr, v_tr, v_kk, tru_b, v_notT, k_nt, v_andT, v_orT, k_at1, k_at0, k_ot1, k_ot0, v_if, k_if1, k_if0, v_and, v_or, v_not, k_and1, k_and0, k_or1, k_or0, k_not, v_chain, k_ch1, k_ch2, v_b', k_ch3t, k_ch3f, v_pn, v_ps, k_p, v_sl, k_s1, k_s2, k_s3, v_s, v_seq, k_snx, k_srt, k_sbk, k_sct, v_ifS, k_ifS1, k_ifS0, v_skip, v_brk, v_cnt, v_exp, v_ret, k_exp, k_ret, v_set, k_set, v_n, v_asg, k_asg, a_nm, a_nil, a_cons, k_as, a_tup, v_par, v_par3, k_par, k_par3, v_setIx, k_x1, v_x1, k_mu, k_x2, v_x2, v_augIx, v_g1, k_g1, v_b2, k_g2, k_g3, v_g3, v_g4, v_aug, v_au, k_au, v_au1, v_au2, v_mut, v_m0, v_m1, k_m, v_m2, v_m3, v_callF, k_cf, v_c2, v_callI, v_i1, k_ci, v_i2, v_i3, v_it, k_it, v_itS, it_l, it_t, it_s, v_R1, k_R1, v_for, k_for, v_lc, k_lc, v_lcT, cl_1s, cl_1z, v_yes, v_fgt, v_frt, v_fnx, f_ff, f_fo, f_tf, f_to, f_fs, f_ts, v_ef, v_eo, st_f, st_t, mf_nil, mf_cons, rep_s, rep_z, f_addI, f_addS, f_addL, f_addT, f_sub, f_mod, f_div, f_mulI, f_mulJ, f_mulM, f_mulS, f_pow, f_neg, f_eqI, f_eqS, f_neI, f_neS, f_ltI, f_leI, f_gtI, f_geI, f_ltS, f_is, f_isnt, f_ixL, f_ixT, a_d, se_0, se_1, se_2, i_add, f_slL, f_slT, f_slS, f_slR, f_lenS, f_lenL, f_lenT, f_intI, f_intB, f_abs, f_tupL, f_tupT, f_isi_s, atI0, atI1, atI2, atI3, List.length_cons, List.length_nil, List.cons_append, List.nil_append, Nat.reduceAdd, Nat.reduceSub, Nat.reduceLeDiff, Nat.reduceEqDiff, Int.reduceAdd, Int.reduceSub, Int.reduceMul, Int.reduceNeg, Int.reduceLT, Int.reduceLE, Int.reduceEq, Int.reduceBEq, Int.reducePow, Int.reduceToNat, Bool.not_true, Bool.not_false, decide_true, decide_false, true_and, and_true, sp_lf, h, cut_one, at_lone, lcD_nil, noEx, sp_blank, f_noneIn0, hw, List.length_map, g]
  | [u, k], hw =>
    cases hs : shB k with
    | false => simp only [b_ok, b_no, oo_some, oo_none, g_fr, g_z, g_s, sl_s, sl_fr, sl_ow, sl_io, rv_fr, rv_ow, rv_sl, fz_fr, fz_ow, kCo_, fz_s, fz_zf, fz_zo, om_some, ob_some, om_none, ow_s, ow_ow, ow_io, mu_s, mu_ow, mu_io, st_s, st_so, st_zn, st_zf, st_zo, so_zn, so_zf, so_zo, v_nm, v_nmf, v_nmo, v_nmi, v_k, v_fz, k_fz, v_anil, v_acons, k_a1, k_a2, v_bnil, v_bcons, k_b1, k_b2, v_tup, v_lst, k_tup, k_lst, v_bin, k_o1, k_o2, v_b, v_r, v_un, k_un, v_u, rvs_nil, rvs_cons, v_cons, v_call, k_call, v_l, v_mt, k_mt, v_testOf, k_t, v_truth, k_tr, v_tr, v_kk, tru_b, v_notT, k_nt, v_andT, v_orT, k_at1, k_at0, k_ot1, k_ot0, v_if, k_if1, k_if0, v_and, v_or, v_not, k_and1, k_and0, k_or1, k_or0, k_not, v_chain, k_ch1, k_ch2, v_b', k_ch3t, k_ch3f, v_pn, v_ps, k_p, v_sl, k_s1, k_s2, k_s3, v_s, v_seq, k_snx, k_srt, k_sbk, k_sct, v_ifS, k_ifS1, k_ifS0, v_skip, v_brk, v_cnt, v_exp, v_ret, k_exp, k_ret, v_set, k_set, v_n, v_asg, k_asg, a_nm, a_nil, a_cons, k_as, a_tup, v_par, v_par3, k_par, k_par3, v_setIx, k_x1, v_x1, k_mu, k_x2, v_x2, v_augIx, v_g1, k_g1, v_b2, k_g2, k_g3, v_g3, v_g4, v_aug, v_au, k_au, v_au1, v_au2, v_mut, v_m0, v_m1, k_m, v_m2, v_m3, v_callF, k_cf, v_c2, v_callI, v_i1, k_ci, v_i2, v_i3, v_it, k_it, v_itS, it_l, it_t, it_s, v_R1, k_R1, v_for, k_for, v_lc, k_lc, v_lcT, cl_1s, cl_1z, v_yes, v_fgt, v_frt, v_fnx, f_ff, f_fo, f_tf, f_to, f_fs, f_ts, v_ef, v_eo, st_f, st_t, mf_nil, mf_cons, rep_s, rep_z, f_addI, f_addS, f_addL, f_addT, f_sub, f_mod, f_div, f_mulI, f_mulJ, f_mulM, f_mulS, f_pow, f_neg, f_eqI, f_eqS, f_neI, f_neS, f_ltI, f_leI, f_gtI, f_geI, f_ltS, f_is, f_isnt, f_ixL, f_ixT, a_d, se_0, se_1, se_2, i_add, f_slL, f_slT, f_slS, f_slR, f_lenS, f_lenL, f_lenT, f_intI, f_intB, f_abs, f_tupL, f_tupT, f_isi_s, atI0, atI1, atI2, atI3, List.length_cons, List.length_nil, List.cons_append, List.nil_append, Nat.reduceAdd, Nat.reduceSub, Nat.reduceLeDiff, Nat.reduceEqDiff, Int.reduceAdd, Int.reduceSub, Int.reduceMul, Int.reduceNeg, Int.reduceLT, Int.reduceLE, Int.reduceEq, Int.reduceBEq, Int.reducePow, Int.reduceToNat, Bool.not_true, Bool.not_false, decide_true, decide_false, true_and, and_true, sp_lf, h, cut_one, at_lone, lcD_nil, noEx, sp_blank, f_noneIn0, hw, List.length_map, nc2, at_21, sp_is_shelf, hs]
    | true =>
      have hkl : k.length ≤ 1000000 := by
        have := szW_spl 32 x []
        rw [hw, szW_cons, szW_cons] at this
        simp at this
        omega
      have ht := sp_log_text (S := []) (k := k) (by decide) (by decide) hkl
      have hd : PyData.tuple [PyData.tuple [], PyData.str (mkS k)] = logD [] k := rfl
      have hq : (mkS (textL [] k) == mkS x) = false := by
        rw [mkS_inj]
        refine decide_eq_false fun e => fx ?_
        rw [← e]
        show 10 ∈ lnLog 0 ++ ([10] ++ lnLock k)
        exact List.mem_append_right _ (List.mem_append_left _ (by simp))
      simp only [b_ok, b_no, oo_some, oo_none, g_fr, g_z, g_s, sl_s, sl_fr, sl_ow, sl_io, rv_fr, rv_ow, rv_sl, fz_fr, fz_ow, kCo_, fz_s, fz_zf, fz_zo, om_some, ob_some, om_none, ow_s, ow_ow, ow_io, mu_s, mu_ow, mu_io, st_s, st_so, st_zn, st_zf, st_zo, so_zn, so_zf, so_zo, v_nm, v_nmf, v_nmo, v_nmi, v_k, v_fz, k_fz, v_anil, v_acons, k_a1, k_a2, v_bnil, v_bcons, k_b1, k_b2, v_tup, v_lst, k_tup, k_lst, v_bin, k_o1, k_o2, v_b, v_r, v_un, k_un, v_u, rvs_nil, rvs_cons, v_cons, v_call, k_call, v_l, v_mt, k_mt, v_testOf, k_t, v_truth, k_tr, v_tr, v_kk, tru_b, v_notT, k_nt, v_andT, v_orT, k_at1, k_at0, k_ot1, k_ot0, v_if, k_if1, k_if0, v_and, v_or, v_not, k_and1, k_and0, k_or1, k_or0, k_not, v_chain, k_ch1, k_ch2, v_b', k_ch3t, k_ch3f, v_pn, v_ps, k_p, v_sl, k_s1, k_s2, k_s3, v_s, v_seq, k_snx, k_srt, k_sbk, k_sct, v_ifS, k_ifS1, k_ifS0, v_skip, v_brk, v_cnt, v_exp, v_ret, k_exp, k_ret, v_set, k_set, v_n, v_asg, k_asg, a_nm, a_nil, a_cons, k_as, a_tup, v_par, v_par3, k_par, k_par3, v_setIx, k_x1, v_x1, k_mu, k_x2, v_x2, v_augIx, v_g1, k_g1, v_b2, k_g2, k_g3, v_g3, v_g4, v_aug, v_au, k_au, v_au1, v_au2, v_mut, v_m0, v_m1, k_m, v_m2, v_m3, v_callF, k_cf, v_c2, v_callI, v_i1, k_ci, v_i2, v_i3, v_it, k_it, v_itS, it_l, it_t, it_s, v_R1, k_R1, v_for, k_for, v_lc, k_lc, v_lcT, cl_1s, cl_1z, v_yes, v_fgt, v_frt, v_fnx, f_ff, f_fo, f_tf, f_to, f_fs, f_ts, v_ef, v_eo, st_f, st_t, mf_nil, mf_cons, rep_s, rep_z, f_addI, f_addS, f_addL, f_addT, f_sub, f_mod, f_div, f_mulI, f_mulJ, f_mulM, f_mulS, f_pow, f_neg, f_eqI, f_eqS, f_neI, f_neS, f_ltI, f_leI, f_gtI, f_geI, f_ltS, f_is, f_isnt, f_ixL, f_ixT, a_d, se_0, se_1, se_2, i_add, f_slL, f_slT, f_slS, f_slR, f_lenS, f_lenL, f_lenT, f_intI, f_intB, f_abs, f_tupL, f_tupT, f_isi_s, atI0, atI1, atI2, atI3, List.length_cons, List.length_nil, List.cons_append, List.nil_append, Nat.reduceAdd, Nat.reduceSub, Nat.reduceLeDiff, Nat.reduceEqDiff, Int.reduceAdd, Int.reduceSub, Int.reduceMul, Int.reduceNeg, Int.reduceLT, Int.reduceLE, Int.reduceEq, Int.reduceBEq, Int.reducePow, Int.reduceToNat, Bool.not_true, Bool.not_false, decide_true, decide_false, true_and, and_true, sp_lf, h, cut_one, at_lone, lcD_nil, noEx, sp_blank, f_noneIn0, hw, List.length_map, nc2, at_21, sp_is_shelf, hs, hd, ht, hq]
def rowD (ws : List (List Nat)) : D := .list (ws.map fun w => .str (mkS w))
theorem f_lenR (ws : List (List Nat)) : fLen [rowD ws] = some (.fr (.int (ws.length : Nat))) := by
  show some (Rv.fr (.int ((ws.map fun w => PyData.str (mkS w)).length : Nat))) = _
  rw [List.length_map]
theorem f_ixR (ws : List (List Nat)) (i : Int) : fIx (rowD ws) (.int i) = (atI (ws.map fun w => PyData.str (mkS w)) i).map .fr := rfl
theorem f_tupR (ws : List (List Nat)) : fTuple [rowD ws] = some (.fr (stepD ws)) := rfl
theorem fg_s (i : Nat) (w : Sl) (r : DE) : fgt [i + 1] (w :: r) = w :: fgt [i] r := by
  show fgt1 (i + 1) (w :: r) = w :: fgt1 i r
  unfold fgt1
  show (match r.getD i .no with | .io _ => w :: r | _ => w :: r.set i .no) = _
  cases r.getD i .no <;> rfl
theorem fg_n (r : DE) : fgt [0] (.no :: r) = .no :: r := rfl
theorem fg_f (d : D) (r : DE) : fgt [0] (.fr d :: r) = .no :: r := rfl
theorem f_ltN (a b : Nat) : decide (((a : Nat) : Int) < ((b : Nat) : Int)) = decide (a < b) := decide_eq_decide.mpr (by omega)
theorem at_31 {α : Type} (f : α → D) (a b c : α) : atI ([a, b, c].map f) 1 = some (f b) := atI1
theorem at_32 {α : Type} (f : α → D) (a b c : α) : atI ([a, b, c].map f) 2 = some (f c) := atI2
theorem sp_lawread1 {l x : List Nat} (h : spl [10] 0 [] l = [x]) : r_law_read_log [.str (mkS l)] = .ok (.fr .none) none := by
  unfold r_law_read_log c_law_read_log
  rw [v_run]
  simp only [b_ok, b_no, oo_some, oo_none, g_fr, g_z, g_s, sl_s, sl_fr, sl_ow, sl_io, rv_fr, rv_ow, rv_sl, fz_fr, fz_ow, kCo_, fz_s, fz_zf, fz_zo, om_some, ob_some, om_none, ow_s, ow_ow, ow_io, mu_s, mu_ow, mu_io, st_s, st_so, st_zn, st_zf, st_zo, so_zn, so_zf, so_zo, v_nm, v_nmf, v_nmo, v_nmi, v_k, v_fz, k_fz, v_anil, v_acons, k_a1, k_a2, v_bnil, v_bcons, k_b1, k_b2, v_tup, v_lst, k_tup, k_lst, v_bin, k_o1, k_o2, v_b, v_r, v_un, k_un, v_u, rvs_nil, rvs_cons, v_cons, v_call, k_call, v_l, v_mt, k_mt, v_testOf, k_t, v_truth, k_tr, v_tr, v_kk, tru_b, v_notT, k_nt, v_andT, v_orT, k_at1, k_at0, k_ot1, k_ot0, v_if, k_if1, k_if0, v_and, v_or, v_not, k_and1, k_and0, k_or1, k_or0, k_not, v_chain, k_ch1, k_ch2, v_b', k_ch3t, k_ch3f, v_pn, v_ps, k_p, v_sl, k_s1, k_s2, k_s3, v_s, v_seq, k_snx, k_srt, k_sbk, k_sct, v_ifS, k_ifS1, k_ifS0, v_skip, v_brk, v_cnt, v_exp, v_ret, k_exp, k_ret, v_set, k_set, v_n, v_asg, k_asg, a_nm, a_nil, a_cons, k_as, a_tup, v_par, v_par3, k_par, k_par3, v_setIx, k_x1, v_x1, k_mu, k_x2, v_x2, v_augIx, v_g1, k_g1, v_b2, k_g2, k_g3, v_g3, v_g4, v_aug, v_au, k_au, v_au1, v_au2, v_mut, v_m0, v_m1, k_m, v_m2, v_m3, v_callF, k_cf, v_c2, v_callI, v_i1, k_ci, v_i2, v_i3, v_it, k_it, v_itS, it_l, it_t, it_s, v_R1, k_R1, v_for, k_for, v_lc, k_lc, v_lcT, cl_1s, cl_1z, v_yes, v_fgt, v_frt, v_fnx, f_ff, f_fo, f_tf, f_to, f_fs, f_ts, v_ef, v_eo, st_f, st_t, mf_nil, mf_cons, rep_s, rep_z, f_addI, f_addS, f_addL, f_addT, f_sub, f_mod, f_div, f_mulI, f_mulJ, f_mulM, f_mulS, f_pow, f_neg, f_eqI, f_eqS, f_neI, f_neS, f_ltI, f_leI, f_gtI, f_geI, f_ltS, f_is, f_isnt, f_ixL, f_ixT, a_d, se_0, se_1, se_2, i_add, f_slL, f_slT, f_slS, f_slR, f_lenS, f_lenL, f_lenT, f_intI, f_intB, f_abs, f_tupL, f_tupT, f_isi_s, atI0, atI1, atI2, atI3, List.length_cons, List.length_nil, List.cons_append, List.nil_append, Nat.reduceAdd, Nat.reduceSub, Nat.reduceLeDiff, Nat.reduceEqDiff, Int.reduceAdd, Int.reduceSub, Int.reduceMul, Int.reduceNeg, Int.reduceLT, Int.reduceLE, Int.reduceEq, Int.reduceBEq, Int.reducePow, Int.reduceToNat, Bool.not_true, Bool.not_false, decide_true, decide_false, true_and, and_true, sp_lf, h]
  rw [lc_fmap (fun w => .str (mkS w)) (fun w => rowD (spl [32] 0 [] w))]
  · simp only [noEx, b_ok, b_no, oo_some, oo_none, g_fr, g_z, g_s, sl_s, sl_fr, sl_ow, sl_io, rv_fr, rv_ow, rv_sl, fz_fr, fz_ow, kCo_, fz_s, fz_zf, fz_zo, om_some, ob_some, om_none, ow_s, ow_ow, ow_io, mu_s, mu_ow, mu_io, st_s, st_so, st_zn, st_zf, st_zo, so_zn, so_zf, so_zo, v_nm, v_nmf, v_nmo, v_nmi, v_k, v_fz, k_fz, v_anil, v_acons, k_a1, k_a2, v_bnil, v_bcons, k_b1, k_b2, v_tup, v_lst, k_tup, k_lst, v_bin, k_o1, k_o2, v_b, v_r, v_un, k_un, v_u, rvs_nil, rvs_cons, v_cons, v_call, k_call, v_l, v_mt, k_mt, v_testOf, k_t, v_truth, k_tr, v_tr, v_kk, tru_b, v_notT, k_nt, v_andT, v_orT, k_at1, k_at0, k_ot1, k_ot0, v_if, k_if1, k_if0, v_and, v_or, v_not, k_and1, k_and0, k_or1, k_or0, k_not, v_chain, k_ch1, k_ch2, v_b', k_ch3t, k_ch3f, v_pn, v_ps, k_p, v_sl, k_s1, k_s2, k_s3, v_s, v_seq, k_snx, k_srt, k_sbk, k_sct, v_ifS, k_ifS1, k_ifS0, v_skip, v_brk, v_cnt, v_exp, v_ret, k_exp, k_ret, v_set, k_set, v_n, v_asg, k_asg, a_nm, a_nil, a_cons, k_as, a_tup, v_par, v_par3, k_par, k_par3, v_setIx, k_x1, v_x1, k_mu, k_x2, v_x2, v_augIx, v_g1, k_g1, v_b2, k_g2, k_g3, v_g3, v_g4, v_aug, v_au, k_au, v_au1, v_au2, v_mut, v_m0, v_m1, k_m, v_m2, v_m3, v_callF, k_cf, v_c2, v_callI, v_i1, k_ci, v_i2, v_i3, v_it, k_it, v_itS, it_l, it_t, it_s, v_R1, k_R1, v_for, k_for, v_lc, k_lc, v_lcT, cl_1s, cl_1z, v_yes, v_fgt, v_frt, v_fnx, f_ff, f_fo, f_tf, f_to, f_fs, f_ts, v_ef, v_eo, st_f, st_t, mf_nil, mf_cons, rep_s, rep_z, f_addI, f_addS, f_addL, f_addT, f_sub, f_mod, f_div, f_mulI, f_mulJ, f_mulM, f_mulS, f_pow, f_neg, f_eqI, f_eqS, f_neI, f_neS, f_ltI, f_leI, f_gtI, f_geI, f_ltS, f_is, f_isnt, f_ixL, f_ixT, a_d, se_0, se_1, se_2, i_add, f_slL, f_slT, f_slS, f_slR, f_lenS, f_lenL, f_lenT, f_intI, f_intB, f_abs, f_tupL, f_tupT, f_isi_s, atI0, atI1, atI2, atI3, List.length_cons, List.length_nil, List.cons_append, List.nil_append, Nat.reduceAdd, Nat.reduceSub, Nat.reduceLeDiff, Nat.reduceEqDiff, Int.reduceAdd, Int.reduceSub, Int.reduceMul, Int.reduceNeg, Int.reduceLT, Int.reduceLE, Int.reduceEq, Int.reduceBEq, Int.reducePow, Int.reduceToNat, Bool.not_true, Bool.not_false, decide_true, decide_false, true_and, and_true, List.length_map, nc1]
  · intro d _
    refine ⟨[.fr (.str (mkS l)), .no, .no, .fr (.str (mkS d))], rfl, ?_, rfl⟩
    simp only [b_ok, b_no, oo_some, oo_none, g_fr, g_z, g_s, sl_s, sl_fr, sl_ow, sl_io, rv_fr, rv_ow, rv_sl, fz_fr, fz_ow, kCo_, fz_s, fz_zf, fz_zo, om_some, ob_some, om_none, ow_s, ow_ow, ow_io, mu_s, mu_ow, mu_io, st_s, st_so, st_zn, st_zf, st_zo, so_zn, so_zf, so_zo, v_nm, v_nmf, v_nmo, v_nmi, v_k, v_fz, k_fz, v_anil, v_acons, k_a1, k_a2, v_bnil, v_bcons, k_b1, k_b2, v_tup, v_lst, k_tup, k_lst, v_bin, k_o1, k_o2, v_b, v_r, v_un, k_un, v_u, rvs_nil, rvs_cons, v_cons, v_call, k_call, v_l, v_mt, k_mt, v_testOf, k_t, v_truth, k_tr, v_tr, v_kk, tru_b, v_notT, k_nt, v_andT, v_orT, k_at1, k_at0, k_ot1, k_ot0, v_if, k_if1, k_if0, v_and, v_or, v_not, k_and1, k_and0, k_or1, k_or0, k_not, v_chain, k_ch1, k_ch2, v_b', k_ch3t, k_ch3f, v_pn, v_ps, k_p, v_sl, k_s1, k_s2, k_s3, v_s, v_seq, k_snx, k_srt, k_sbk, k_sct, v_ifS, k_ifS1, k_ifS0, v_skip, v_brk, v_cnt, v_exp, v_ret, k_exp, k_ret, v_set, k_set, v_n, v_asg, k_asg, a_nm, a_nil, a_cons, k_as, a_tup, v_par, v_par3, k_par, k_par3, v_setIx, k_x1, v_x1, k_mu, k_x2, v_x2, v_augIx, v_g1, k_g1, v_b2, k_g2, k_g3, v_g3, v_g4, v_aug, v_au, k_au, v_au1, v_au2, v_mut, v_m0, v_m1, k_m, v_m2, v_m3, v_callF, k_cf, v_c2, v_callI, v_i1, k_ci, v_i2, v_i3, v_it, k_it, v_itS, it_l, it_t, it_s, v_R1, k_R1, v_for, k_for, v_lc, k_lc, v_lcT, cl_1s, cl_1z, v_yes, v_fgt, v_frt, v_fnx, f_ff, f_fo, f_tf, f_to, f_fs, f_ts, v_ef, v_eo, st_f, st_t, mf_nil, mf_cons, rep_s, rep_z, f_addI, f_addS, f_addL, f_addT, f_sub, f_mod, f_div, f_mulI, f_mulJ, f_mulM, f_mulS, f_pow, f_neg, f_eqI, f_eqS, f_neI, f_neS, f_ltI, f_leI, f_gtI, f_geI, f_ltS, f_is, f_isnt, f_ixL, f_ixT, a_d, se_0, se_1, se_2, i_add, f_slL, f_slT, f_slS, f_slR, f_lenS, f_lenL, f_lenT, f_intI, f_intB, f_abs, f_tupL, f_tupT, f_isi_s, atI0, atI1, atI2, atI3, List.length_cons, List.length_nil, List.cons_append, List.nil_append, Nat.reduceAdd, Nat.reduceSub, Nat.reduceLeDiff, Nat.reduceEqDiff, Int.reduceAdd, Int.reduceSub, Int.reduceMul, Int.reduceNeg, Int.reduceLT, Int.reduceLE, Int.reduceEq, Int.reduceBEq, Int.reducePow, Int.reduceToNat, Bool.not_true, Bool.not_false, decide_true, decide_false, true_and, and_true, sp_blank, rowD]
def bodyLR : SC := (cSeq (cIfS (cAndT (cTestOf (cBin fEq (cSl fSl (cNm 2) (cPNone) (cPSome (cK (.int 1)))) (cLst (cACons (cFz (cK (.str "drop"))) (cANil))))) (cAndT (cTestOf (cBin fEq (cCall fLen (cBCons (cNm 2) (cBNil))) (cK (.int 2)))) (cTruth (cCallF 1 r_law_is_path (cACons (cFz (cBin fIx (cNm 2) (cK (.int 1)))) (cANil)))))) (cCnt) (cSkip)) (cIfS (cOrT (cTestOf (cBin fNe (cSl fSl (cNm 2) (cPNone) (cPSome (cK (.int 1)))) (cLst (cACons (cFz (cK (.str "put"))) (cANil))))) (cOrT (cTestOf (cBin fNe (cCall fLen (cBCons (cNm 2) (cBNil))) (cK (.int 3)))) (cOrT (cNotT (cTruth (cCallF 1 r_law_is_path (cACons (cFz (cBin fIx (cNm 2) (cK (.int 1)))) (cANil))))) (cNotT (cTruth (cCallF 1 r_law_is_shelf (cACons (cFz (cBin fIx (cNm 2) (cK (.int 2)))) (cANil)))))))) (cRet (cK .none)) (cSkip)))
theorem bodyLR_ok {ws : List (List Nat)} (hne : ws ≠ []) (hw : ∀ w ∈ ws, w.length ≤ 570) (t L : D) : (stepOk ws = true ∧ (bodyLR [.fr t, .ow L, .fr (rowD ws), .no] = .ok (.nx [.fr t, .ow L, .fr (rowD ws), .no]) ∨ bodyLR [.fr t, .ow L, .fr (rowD ws), .no] = .ok (.ct [.fr t, .ow L, .fr (rowD ws), .no]))) ∨
    (stepOk ws = false ∧ bodyLR [.fr t, .ow L, .fr (rowD ws), .no] = .ok (.rt (.fr .none) [.fr t, .ow L, .fr (rowD ws), .no])) := by
  have e1 : ∀ u : List Nat, decide ([u] = [wDrop]) = decide (u = wDrop) := fun u => decide_eq_decide.mpr (by simp)
  have e2 : ∀ u : List Nat, decide ([u] = [wPut]) = decide (u = wPut) := fun u => decide_eq_decide.mpr (by simp)
  have tk : ∀ (u : List Nat) (r : List (List Nat)), (u :: r).take 1 = [u] := fun u r => rfl
  unfold bodyLR rowD
  match ws, hne with
  | [u], _ =>
    refine .inr ⟨rfl, ?_⟩
    cases h1 : decide (u = wDrop) <;> cases h2 : decide (u = wPut) <;> simp only [b_ok, b_no, oo_some, oo_none, g_fr, g_z, g_s, sl_s, sl_fr, sl_ow, sl_io, rv_fr, rv_ow, rv_sl, fz_fr, fz_ow, kCo_, fz_s, fz_zf, fz_zo, om_some, ob_some, om_none, ow_s, ow_ow, ow_io, mu_s, mu_ow, mu_io, st_s, st_so, st_zn, st_zf, st_zo, so_zn, so_zf, so_zo, v_nm, v_nmf, v_nmo, v_nmi, v_k, v_fz, k_fz, v_anil, v_acons, k_a1, k_a2, v_bnil, v_bcons, k_b1, k_b2, v_tup, v_lst, k_tup, k_lst, v_bin, k_o1, k_o2, v_b, v_r, v_un, k_un, v_u, rvs_nil, rvs_cons, v_cons, v_call, k_call, v_l, v_mt, k_mt, v_testOf, k_t, v_truth, k_tr, v_tr, v_kk, tru_b, v_notT, k_nt, v_andT, v_orT, k_at1, k_at0, k_ot1, k_ot0, v_if, k_if1, k_if0, v_and, v_or, v_not, k_and1, k_and0, k_or1, k_or0, k_not, v_chain, k_ch1, k_ch2, v_b', k_ch3t, k_ch3f, v_pn, v_ps, k_p, v_sl, k_s1, k_s2, k_s3, v_s, v_seq, k_snx, k_srt, k_sbk, k_sct, v_ifS, k_ifS1, k_ifS0, v_skip, v_brk, v_cnt, v_exp, v_ret, k_exp, k_ret, v_set, k_set, v_n, v_asg, k_asg, a_nm, a_nil, a_cons, k_as, a_tup, v_par, v_par3, k_par, k_par3, v_setIx, k_x1, v_x1, k_mu, k_x2, v_x2, v_augIx, v_g1, k_g1, v_b2, k_g2, k_g3, v_g3, v_g4, v_aug, v_au, k_au, v_au1, v_au2, v_mut, v_m0, v_m1, k_m, v_m2, v_m3, v_callF, k_cf, v_c2, v_callI, v_i1, k_ci, v_i2, v_i3, v_it, k_it, v_itS, it_l, it_t, it_s, v_R1, k_R1, v_for, k_for, v_lc, k_lc, v_lcT, cl_1s, cl_1z, v_yes, v_fgt, v_frt, v_fnx, f_ff, f_fo, f_tf, f_to, f_fs, f_ts, v_ef, v_eo, st_f, st_t, mf_nil, mf_cons, rep_s, rep_z, f_addI, f_addS, f_addL, f_addT, f_sub, f_mod, f_div, f_mulI, f_mulJ, f_mulM, f_mulS, f_pow, f_neg, f_eqI, f_eqS, f_neI, f_neS, f_ltI, f_leI, f_gtI, f_geI, f_ltS, f_is, f_isnt, f_ixL, f_ixT, a_d, se_0, se_1, se_2, i_add, f_slL, f_slT, f_slS, f_slR, f_lenS, f_lenL, f_lenT, f_intI, f_intB, f_abs, f_tupL, f_tupT, f_isi_s, atI0, atI1, atI2, atI3, List.length_cons, List.length_nil, List.cons_append, List.nil_append, Nat.reduceAdd, Nat.reduceSub, Nat.reduceLeDiff, Nat.reduceEqDiff, Int.reduceAdd, Int.reduceSub, Int.reduceMul, Int.reduceNeg, Int.reduceLT, Int.reduceLE, Int.reduceEq, Int.reduceBEq, Int.reducePow, Int.reduceToNat, Bool.not_true, Bool.not_false, decide_true, decide_false, true_and, and_true, cut_fst, tk, mk_drop, mk_put, f_eqRow1, f_neRow1, e1, e2, h1, h2, List.length_map, nc1]
  | [u, p], _ =>
    have hs : stepOk [u, p] = (decide (u = wDrop) && pathB p) := rfl
    rw [hs]
    cases h1 : decide (u = wDrop) <;> cases h2 : decide (u = wPut) <;> cases h3 : pathB p <;> simp only [b_ok, b_no, oo_some, oo_none, g_fr, g_z, g_s, sl_s, sl_fr, sl_ow, sl_io, rv_fr, rv_ow, rv_sl, fz_fr, fz_ow, kCo_, fz_s, fz_zf, fz_zo, om_some, ob_some, om_none, ow_s, ow_ow, ow_io, mu_s, mu_ow, mu_io, st_s, st_so, st_zn, st_zf, st_zo, so_zn, so_zf, so_zo, v_nm, v_nmf, v_nmo, v_nmi, v_k, v_fz, k_fz, v_anil, v_acons, k_a1, k_a2, v_bnil, v_bcons, k_b1, k_b2, v_tup, v_lst, k_tup, k_lst, v_bin, k_o1, k_o2, v_b, v_r, v_un, k_un, v_u, rvs_nil, rvs_cons, v_cons, v_call, k_call, v_l, v_mt, k_mt, v_testOf, k_t, v_truth, k_tr, v_tr, v_kk, tru_b, v_notT, k_nt, v_andT, v_orT, k_at1, k_at0, k_ot1, k_ot0, v_if, k_if1, k_if0, v_and, v_or, v_not, k_and1, k_and0, k_or1, k_or0, k_not, v_chain, k_ch1, k_ch2, v_b', k_ch3t, k_ch3f, v_pn, v_ps, k_p, v_sl, k_s1, k_s2, k_s3, v_s, v_seq, k_snx, k_srt, k_sbk, k_sct, v_ifS, k_ifS1, k_ifS0, v_skip, v_brk, v_cnt, v_exp, v_ret, k_exp, k_ret, v_set, k_set, v_n, v_asg, k_asg, a_nm, a_nil, a_cons, k_as, a_tup, v_par, v_par3, k_par, k_par3, v_setIx, k_x1, v_x1, k_mu, k_x2, v_x2, v_augIx, v_g1, k_g1, v_b2, k_g2, k_g3, v_g3, v_g4, v_aug, v_au, k_au, v_au1, v_au2, v_mut, v_m0, v_m1, k_m, v_m2, v_m3, v_callF, k_cf, v_c2, v_callI, v_i1, k_ci, v_i2, v_i3, v_it, k_it, v_itS, it_l, it_t, it_s, v_R1, k_R1, v_for, k_for, v_lc, k_lc, v_lcT, cl_1s, cl_1z, v_yes, v_fgt, v_frt, v_fnx, f_ff, f_fo, f_tf, f_to, f_fs, f_ts, v_ef, v_eo, st_f, st_t, mf_nil, mf_cons, rep_s, rep_z, f_addI, f_addS, f_addL, f_addT, f_sub, f_mod, f_div, f_mulI, f_mulJ, f_mulM, f_mulS, f_pow, f_neg, f_eqI, f_eqS, f_neI, f_neS, f_ltI, f_leI, f_gtI, f_geI, f_ltS, f_is, f_isnt, f_ixL, f_ixT, a_d, se_0, se_1, se_2, i_add, f_slL, f_slT, f_slS, f_slR, f_lenS, f_lenL, f_lenT, f_intI, f_intB, f_abs, f_tupL, f_tupT, f_isi_s, atI0, atI1, atI2, atI3, List.length_cons, List.length_nil, List.cons_append, List.nil_append, Nat.reduceAdd, Nat.reduceSub, Nat.reduceLeDiff, Nat.reduceEqDiff, Int.reduceAdd, Int.reduceSub, Int.reduceMul, Int.reduceNeg, Int.reduceLT, Int.reduceLE, Int.reduceEq, Int.reduceBEq, Int.reducePow, Int.reduceToNat, Bool.not_true, Bool.not_false, decide_true, decide_false, true_and, and_true, cut_fst, tk, mk_drop, mk_put, f_eqRow1, f_neRow1, e1, e2, h1, h2, List.length_map, nc2, at_21, sp_law_is_path, h3, Bool.and_false, Bool.false_and, Bool.and_true, reduceCtorEq, false_and, and_false, true_and, or_false, or_true, false_or]
  | [u, p, s], _ =>
    have hs : stepOk [u, p, s] = (decide (u = wPut) && (pathB p && shB s)) := rfl
    have hsh := sp_law_is_shelf s (hw s (by simp))
    rw [hs]
    cases h1 : decide (u = wDrop) <;> cases h2 : decide (u = wPut) <;> cases h3 : pathB p <;> cases h4 : shB s <;> rw [h4] at hsh <;> simp only [b_ok, b_no, oo_some, oo_none, g_fr, g_z, g_s, sl_s, sl_fr, sl_ow, sl_io, rv_fr, rv_ow, rv_sl, fz_fr, fz_ow, kCo_, fz_s, fz_zf, fz_zo, om_some, ob_some, om_none, ow_s, ow_ow, ow_io, mu_s, mu_ow, mu_io, st_s, st_so, st_zn, st_zf, st_zo, so_zn, so_zf, so_zo, v_nm, v_nmf, v_nmo, v_nmi, v_k, v_fz, k_fz, v_anil, v_acons, k_a1, k_a2, v_bnil, v_bcons, k_b1, k_b2, v_tup, v_lst, k_tup, k_lst, v_bin, k_o1, k_o2, v_b, v_r, v_un, k_un, v_u, rvs_nil, rvs_cons, v_cons, v_call, k_call, v_l, v_mt, k_mt, v_testOf, k_t, v_truth, k_tr, v_tr, v_kk, tru_b, v_notT, k_nt, v_andT, v_orT, k_at1, k_at0, k_ot1, k_ot0, v_if, k_if1, k_if0, v_and, v_or, v_not, k_and1, k_and0, k_or1, k_or0, k_not, v_chain, k_ch1, k_ch2, v_b', k_ch3t, k_ch3f, v_pn, v_ps, k_p, v_sl, k_s1, k_s2, k_s3, v_s, v_seq, k_snx, k_srt, k_sbk, k_sct, v_ifS, k_ifS1, k_ifS0, v_skip, v_brk, v_cnt, v_exp, v_ret, k_exp, k_ret, v_set, k_set, v_n, v_asg, k_asg, a_nm, a_nil, a_cons, k_as, a_tup, v_par, v_par3, k_par, k_par3, v_setIx, k_x1, v_x1, k_mu, k_x2, v_x2, v_augIx, v_g1, k_g1, v_b2, k_g2, k_g3, v_g3, v_g4, v_aug, v_au, k_au, v_au1, v_au2, v_mut, v_m0, v_m1, k_m, v_m2, v_m3, v_callF, k_cf, v_c2, v_callI, v_i1, k_ci, v_i2, v_i3, v_it, k_it, v_itS, it_l, it_t, it_s, v_R1, k_R1, v_for, k_for, v_lc, k_lc, v_lcT, cl_1s, cl_1z, v_yes, v_fgt, v_frt, v_fnx, f_ff, f_fo, f_tf, f_to, f_fs, f_ts, v_ef, v_eo, st_f, st_t, mf_nil, mf_cons, rep_s, rep_z, f_addI, f_addS, f_addL, f_addT, f_sub, f_mod, f_div, f_mulI, f_mulJ, f_mulM, f_mulS, f_pow, f_neg, f_eqI, f_eqS, f_neI, f_neS, f_ltI, f_leI, f_gtI, f_geI, f_ltS, f_is, f_isnt, f_ixL, f_ixT, a_d, se_0, se_1, se_2, i_add, f_slL, f_slT, f_slS, f_slR, f_lenS, f_lenL, f_lenT, f_intI, f_intB, f_abs, f_tupL, f_tupT, f_isi_s, atI0, atI1, atI2, atI3, List.length_cons, List.length_nil, List.cons_append, List.nil_append, Nat.reduceAdd, Nat.reduceSub, Nat.reduceLeDiff, Nat.reduceEqDiff, Int.reduceAdd, Int.reduceSub, Int.reduceMul, Int.reduceNeg, Int.reduceLT, Int.reduceLE, Int.reduceEq, Int.reduceBEq, Int.reducePow, Int.reduceToNat, Bool.not_true, Bool.not_false, decide_true, decide_false, true_and, and_true, cut_fst, tk, mk_drop, mk_put, f_eqRow1, f_neRow1, e1, e2, h1, h2, List.length_map, nc3, at_31, at_32, sp_law_is_path, hsh, h3, Bool.and_false, Bool.false_and, Bool.and_true, reduceCtorEq, false_and, and_false, true_and, or_false, or_true, false_or, true_or]
  | u :: p :: s :: q :: r, _ =>
    have g2 : (((r.length + 1 + 1 + 1 + 1 : Nat) : Int) == 2) = false := by rw [← Bool.not_eq_true, beq_iff_eq]; omega
    have g3 : (((r.length + 1 + 1 + 1 + 1 : Nat) : Int) == 3) = false := by rw [← Bool.not_eq_true, beq_iff_eq]; omega
    refine .inr ⟨rfl, ?_⟩
    cases h1 : decide (u = wDrop) <;> cases h2 : decide (u = wPut) <;> simp only [b_ok, b_no, oo_some, oo_none, g_fr, g_z, g_s, sl_s, sl_fr, sl_ow, sl_io, rv_fr, rv_ow, rv_sl, fz_fr, fz_ow, kCo_, fz_s, fz_zf, fz_zo, om_some, ob_some, om_none, ow_s, ow_ow, ow_io, mu_s, mu_ow, mu_io, st_s, st_so, st_zn, st_zf, st_zo, so_zn, so_zf, so_zo, v_nm, v_nmf, v_nmo, v_nmi, v_k, v_fz, k_fz, v_anil, v_acons, k_a1, k_a2, v_bnil, v_bcons, k_b1, k_b2, v_tup, v_lst, k_tup, k_lst, v_bin, k_o1, k_o2, v_b, v_r, v_un, k_un, v_u, rvs_nil, rvs_cons, v_cons, v_call, k_call, v_l, v_mt, k_mt, v_testOf, k_t, v_truth, k_tr, v_tr, v_kk, tru_b, v_notT, k_nt, v_andT, v_orT, k_at1, k_at0, k_ot1, k_ot0, v_if, k_if1, k_if0, v_and, v_or, v_not, k_and1, k_and0, k_or1, k_or0, k_not, v_chain, k_ch1, k_ch2, v_b', k_ch3t, k_ch3f, v_pn, v_ps, k_p, v_sl, k_s1, k_s2, k_s3, v_s, v_seq, k_snx, k_srt, k_sbk, k_sct, v_ifS, k_ifS1, k_ifS0, v_skip, v_brk, v_cnt, v_exp, v_ret, k_exp, k_ret, v_set, k_set, v_n, v_asg, k_asg, a_nm, a_nil, a_cons, k_as, a_tup, v_par, v_par3, k_par, k_par3, v_setIx, k_x1, v_x1, k_mu, k_x2, v_x2, v_augIx, v_g1, k_g1, v_b2, k_g2, k_g3, v_g3, v_g4, v_aug, v_au, k_au, v_au1, v_au2, v_mut, v_m0, v_m1, k_m, v_m2, v_m3, v_callF, k_cf, v_c2, v_callI, v_i1, k_ci, v_i2, v_i3, v_it, k_it, v_itS, it_l, it_t, it_s, v_R1, k_R1, v_for, k_for, v_lc, k_lc, v_lcT, cl_1s, cl_1z, v_yes, v_fgt, v_frt, v_fnx, f_ff, f_fo, f_tf, f_to, f_fs, f_ts, v_ef, v_eo, st_f, st_t, mf_nil, mf_cons, rep_s, rep_z, f_addI, f_addS, f_addL, f_addT, f_sub, f_mod, f_div, f_mulI, f_mulJ, f_mulM, f_mulS, f_pow, f_neg, f_eqI, f_eqS, f_neI, f_neS, f_ltI, f_leI, f_gtI, f_geI, f_ltS, f_is, f_isnt, f_ixL, f_ixT, a_d, se_0, se_1, se_2, i_add, f_slL, f_slT, f_slS, f_slR, f_lenS, f_lenL, f_lenT, f_intI, f_intB, f_abs, f_tupL, f_tupT, f_isi_s, atI0, atI1, atI2, atI3, List.length_cons, List.length_nil, List.cons_append, List.nil_append, Nat.reduceAdd, Nat.reduceSub, Nat.reduceLeDiff, Nat.reduceEqDiff, Int.reduceAdd, Int.reduceSub, Int.reduceMul, Int.reduceNeg, Int.reduceLT, Int.reduceLE, Int.reduceEq, Int.reduceBEq, Int.reducePow, Int.reduceToNat, Bool.not_true, Bool.not_false, decide_true, decide_false, true_and, and_true, cut_fst, tk, mk_drop, mk_put, f_eqRow1, f_neRow1, e1, e2, h1, h2, List.length_map, g2, g3]
theorem sp_lawread2 {l a : List Nat} {m : List (List Nat)} {z : List Nat} (h : spl [10] 0 [] l = a :: (m ++ [z])) (hl : l.length ≤ 570) : r_law_read_log [.str (mkS l)] = .ok (.fr (readA a m z)) none := by
  have hmem : ∀ p ∈ a :: (m ++ [z]), p.length ≤ 570 := fun p hp => by
    rw [← h] at hp
    have := spl_len _ _ _ p hp
    rw [List.length_nil] at this
    omega
  have hword : ∀ p ∈ a :: (m ++ [z]), ∀ w ∈ spl [32] 0 [] p, w.length ≤ 570 := fun p hp w hw => by
    have h1 := spl_len _ _ _ w hw
    have h2 := hmem p hp
    rw [List.length_nil] at h1
    omega
  have hml : m.length ≤ 1000000 := by
    have hsz : szW (a :: (m ++ [z])) = l.length + 1 := by rw [← h, szW_spl]; simp
    rw [szW_cons, szW_app] at hsz
    have := szW_len m
    omega
  unfold r_law_read_log c_law_read_log
  rw [v_run]
  simp only [b_ok, b_no, oo_some, oo_none, g_fr, g_z, g_s, sl_s, sl_fr, sl_ow, sl_io, rv_fr, rv_ow, rv_sl, fz_fr, fz_ow, kCo_, fz_s, fz_zf, fz_zo, om_some, ob_some, om_none, ow_s, ow_ow, ow_io, mu_s, mu_ow, mu_io, st_s, st_so, st_zn, st_zf, st_zo, so_zn, so_zf, so_zo, v_nm, v_nmf, v_nmo, v_nmi, v_k, v_fz, k_fz, v_anil, v_acons, k_a1, k_a2, v_bnil, v_bcons, k_b1, k_b2, v_tup, v_lst, k_tup, k_lst, v_bin, k_o1, k_o2, v_b, v_r, v_un, k_un, v_u, rvs_nil, rvs_cons, v_cons, v_call, k_call, v_l, v_mt, k_mt, v_testOf, k_t, v_truth, k_tr, v_tr, v_kk, tru_b, v_notT, k_nt, v_andT, v_orT, k_at1, k_at0, k_ot1, k_ot0, v_if, k_if1, k_if0, v_and, v_or, v_not, k_and1, k_and0, k_or1, k_or0, k_not, v_chain, k_ch1, k_ch2, v_b', k_ch3t, k_ch3f, v_pn, v_ps, k_p, v_sl, k_s1, k_s2, k_s3, v_s, v_seq, k_snx, k_srt, k_sbk, k_sct, v_ifS, k_ifS1, k_ifS0, v_skip, v_brk, v_cnt, v_exp, v_ret, k_exp, k_ret, v_set, k_set, v_n, v_asg, k_asg, a_nm, a_nil, a_cons, k_as, a_tup, v_par, v_par3, k_par, k_par3, v_setIx, k_x1, v_x1, k_mu, k_x2, v_x2, v_augIx, v_g1, k_g1, v_b2, k_g2, k_g3, v_g3, v_g4, v_aug, v_au, k_au, v_au1, v_au2, v_mut, v_m0, v_m1, k_m, v_m2, v_m3, v_callF, k_cf, v_c2, v_callI, v_i1, k_ci, v_i2, v_i3, v_it, k_it, v_itS, it_l, it_t, it_s, v_R1, k_R1, v_for, k_for, v_lc, k_lc, v_lcT, cl_1s, cl_1z, v_yes, v_fgt, v_frt, v_fnx, f_ff, f_fo, f_tf, f_to, f_fs, f_ts, v_ef, v_eo, st_f, st_t, mf_nil, mf_cons, rep_s, rep_z, f_addI, f_addS, f_addL, f_addT, f_sub, f_mod, f_div, f_mulI, f_mulJ, f_mulM, f_mulS, f_pow, f_neg, f_eqI, f_eqS, f_neI, f_neS, f_ltI, f_leI, f_gtI, f_geI, f_ltS, f_is, f_isnt, f_ixL, f_ixT, a_d, se_0, se_1, se_2, i_add, f_slL, f_slT, f_slS, f_slR, f_lenS, f_lenL, f_lenT, f_intI, f_intB, f_abs, f_tupL, f_tupT, f_isi_s, atI0, atI1, atI2, atI3, List.length_cons, List.length_nil, List.cons_append, List.nil_append, Nat.reduceAdd, Nat.reduceSub, Nat.reduceLeDiff, Nat.reduceEqDiff, Int.reduceAdd, Int.reduceSub, Int.reduceMul, Int.reduceNeg, Int.reduceLT, Int.reduceLE, Int.reduceEq, Int.reduceBEq, Int.reducePow, Int.reduceToNat, Bool.not_true, Bool.not_false, decide_true, decide_false, true_and, and_true, sp_lf, h]
  rw [lc_fmap (fun w => .str (mkS w)) (fun w => rowD (spl [32] 0 [] w))]
  rotate_left
  · intro d _
    refine ⟨[.fr (.str (mkS l)), .no, .no, .fr (.str (mkS d))], rfl, ?_, rfl⟩
    simp only [b_ok, b_no, oo_some, oo_none, g_fr, g_z, g_s, sl_s, sl_fr, sl_ow, sl_io, rv_fr, rv_ow, rv_sl, fz_fr, fz_ow, kCo_, fz_s, fz_zf, fz_zo, om_some, ob_some, om_none, ow_s, ow_ow, ow_io, mu_s, mu_ow, mu_io, st_s, st_so, st_zn, st_zf, st_zo, so_zn, so_zf, so_zo, v_nm, v_nmf, v_nmo, v_nmi, v_k, v_fz, k_fz, v_anil, v_acons, k_a1, k_a2, v_bnil, v_bcons, k_b1, k_b2, v_tup, v_lst, k_tup, k_lst, v_bin, k_o1, k_o2, v_b, v_r, v_un, k_un, v_u, rvs_nil, rvs_cons, v_cons, v_call, k_call, v_l, v_mt, k_mt, v_testOf, k_t, v_truth, k_tr, v_tr, v_kk, tru_b, v_notT, k_nt, v_andT, v_orT, k_at1, k_at0, k_ot1, k_ot0, v_if, k_if1, k_if0, v_and, v_or, v_not, k_and1, k_and0, k_or1, k_or0, k_not, v_chain, k_ch1, k_ch2, v_b', k_ch3t, k_ch3f, v_pn, v_ps, k_p, v_sl, k_s1, k_s2, k_s3, v_s, v_seq, k_snx, k_srt, k_sbk, k_sct, v_ifS, k_ifS1, k_ifS0, v_skip, v_brk, v_cnt, v_exp, v_ret, k_exp, k_ret, v_set, k_set, v_n, v_asg, k_asg, a_nm, a_nil, a_cons, k_as, a_tup, v_par, v_par3, k_par, k_par3, v_setIx, k_x1, v_x1, k_mu, k_x2, v_x2, v_augIx, v_g1, k_g1, v_b2, k_g2, k_g3, v_g3, v_g4, v_aug, v_au, k_au, v_au1, v_au2, v_mut, v_m0, v_m1, k_m, v_m2, v_m3, v_callF, k_cf, v_c2, v_callI, v_i1, k_ci, v_i2, v_i3, v_it, k_it, v_itS, it_l, it_t, it_s, v_R1, k_R1, v_for, k_for, v_lc, k_lc, v_lcT, cl_1s, cl_1z, v_yes, v_fgt, v_frt, v_fnx, f_ff, f_fo, f_tf, f_to, f_fs, f_ts, v_ef, v_eo, st_f, st_t, mf_nil, mf_cons, rep_s, rep_z, f_addI, f_addS, f_addL, f_addT, f_sub, f_mod, f_div, f_mulI, f_mulJ, f_mulM, f_mulS, f_pow, f_neg, f_eqI, f_eqS, f_neI, f_neS, f_ltI, f_leI, f_gtI, f_geI, f_ltS, f_is, f_isnt, f_ixL, f_ixT, a_d, se_0, se_1, se_2, i_add, f_slL, f_slT, f_slS, f_slR, f_lenS, f_lenL, f_lenT, f_intI, f_intB, f_abs, f_tupL, f_tupT, f_isi_s, atI0, atI1, atI2, atI3, List.length_cons, List.length_nil, List.cons_append, List.nil_append, Nat.reduceAdd, Nat.reduceSub, Nat.reduceLeDiff, Nat.reduceEqDiff, Int.reduceAdd, Int.reduceSub, Int.reduceMul, Int.reduceNeg, Int.reduceLT, Int.reduceLE, Int.reduceEq, Int.reduceBEq, Int.reducePow, Int.reduceToNat, Bool.not_true, Bool.not_false, decide_true, decide_false, true_and, and_true, sp_blank, rowD]
  have g1 : ¬ (((m.length + 1 + 1 : Nat) : Int) < 2) := by omega
  have g2 : ((m.length + 1 + 1 : Nat) : Int) - 2 = (m.length : Nat) := by omega
  have g3 := f_strN (n := m.length) (by omega)
  have g4 : fNe (rowD (spl [32] 0 [] a)) (.list [.str "log", .str (mkS (numT m.length))]) = some (.fr (.bool (!decide (a = lnLog m.length)))) := by
    rw [show Str.ofString "log" = mkS wLog from mk_log]
    show fNe (.list _) _ = _
    rw [f_neRow2]
    have : decide (spl [32] 0 [] a = [wLog, numT m.length]) = decide (a = lnLog m.length) := decide_eq_decide.mpr ⟨fun e => by
      have := join_spl 32 a []
      rw [e] at this
      exact this.symm, fun e => by
      rw [e]
      exact spl_join (s := 32) (S := []) (parts := [wLog, numT m.length]) (by simp) fun p hp => by
        rcases List.mem_cons.mp hp with rfl | hp
        · decide
        · rw [List.mem_singleton.mp hp]
          exact numT_free ⟨by decide, .inl (by decide)⟩⟩
    rw [this]
  simp only [noEx, b_ok, b_no, oo_some, oo_none, g_fr, g_z, g_s, sl_s, sl_fr, sl_ow, sl_io, rv_fr, rv_ow, rv_sl, fz_fr, fz_ow, kCo_, fz_s, fz_zf, fz_zo, om_some, ob_some, om_none, ow_s, ow_ow, ow_io, mu_s, mu_ow, mu_io, st_s, st_so, st_zn, st_zf, st_zo, so_zn, so_zf, so_zo, v_nm, v_nmf, v_nmo, v_nmi, v_k, v_fz, k_fz, v_anil, v_acons, k_a1, k_a2, v_bnil, v_bcons, k_b1, k_b2, v_tup, v_lst, k_tup, k_lst, v_bin, k_o1, k_o2, v_b, v_r, v_un, k_un, v_u, rvs_nil, rvs_cons, v_cons, v_call, k_call, v_l, v_mt, k_mt, v_testOf, k_t, v_truth, k_tr, v_tr, v_kk, tru_b, v_notT, k_nt, v_andT, v_orT, k_at1, k_at0, k_ot1, k_ot0, v_if, k_if1, k_if0, v_and, v_or, v_not, k_and1, k_and0, k_or1, k_or0, k_not, v_chain, k_ch1, k_ch2, v_b', k_ch3t, k_ch3f, v_pn, v_ps, k_p, v_sl, k_s1, k_s2, k_s3, v_s, v_seq, k_snx, k_srt, k_sbk, k_sct, v_ifS, k_ifS1, k_ifS0, v_skip, v_brk, v_cnt, v_exp, v_ret, k_exp, k_ret, v_set, k_set, v_n, v_asg, k_asg, a_nm, a_nil, a_cons, k_as, a_tup, v_par, v_par3, k_par, k_par3, v_setIx, k_x1, v_x1, k_mu, k_x2, v_x2, v_augIx, v_g1, k_g1, v_b2, k_g2, k_g3, v_g3, v_g4, v_aug, v_au, k_au, v_au1, v_au2, v_mut, v_m0, v_m1, k_m, v_m2, v_m3, v_callF, k_cf, v_c2, v_callI, v_i1, k_ci, v_i2, v_i3, v_it, k_it, v_itS, it_l, it_t, it_s, v_R1, k_R1, v_for, k_for, v_lc, k_lc, v_lcT, cl_1s, cl_1z, v_yes, v_fgt, v_frt, v_fnx, f_ff, f_fo, f_tf, f_to, f_fs, f_ts, v_ef, v_eo, st_f, st_t, mf_nil, mf_cons, rep_s, rep_z, f_addI, f_addS, f_addL, f_addT, f_sub, f_mod, f_div, f_mulI, f_mulJ, f_mulM, f_mulS, f_pow, f_neg, f_eqI, f_eqS, f_neI, f_neS, f_ltI, f_leI, f_gtI, f_geI, f_ltS, f_is, f_isnt, f_ixL, f_ixT, a_d, se_0, se_1, se_2, i_add, f_slL, f_slT, f_slS, f_slR, f_lenS, f_lenL, f_lenT, f_intI, f_intB, f_abs, f_tupL, f_tupT, f_isi_s, atI0, atI1, atI2, atI3, List.length_cons, List.length_nil, List.cons_append, List.nil_append, Nat.reduceAdd, Nat.reduceSub, Nat.reduceLeDiff, Nat.reduceEqDiff, Int.reduceAdd, Int.reduceSub, Int.reduceMul, Int.reduceNeg, Int.reduceLT, Int.reduceLE, Int.reduceEq, Int.reduceBEq, Int.reducePow, Int.reduceToNat, Bool.not_true, Bool.not_false, decide_true, decide_false, true_and, and_true, List.length_map, List.length_append, g1, g2, g3, at_fst, g4]
  cases hA : decide (a = lnLog m.length) with
  | false =>
    have hg : readA a m z = .none := by
      unfold readA goodB
      rw [hA, Bool.false_and]
    rw [hg]
    simp only [b_ok, b_no, oo_some, oo_none, g_fr, g_z, g_s, sl_s, sl_fr, sl_ow, sl_io, rv_fr, rv_ow, rv_sl, fz_fr, fz_ow, kCo_, fz_s, fz_zf, fz_zo, om_some, ob_some, om_none, ow_s, ow_ow, ow_io, mu_s, mu_ow, mu_io, st_s, st_so, st_zn, st_zf, st_zo, so_zn, so_zf, so_zo, v_nm, v_nmf, v_nmo, v_nmi, v_k, v_fz, k_fz, v_anil, v_acons, k_a1, k_a2, v_bnil, v_bcons, k_b1, k_b2, v_tup, v_lst, k_tup, k_lst, v_bin, k_o1, k_o2, v_b, v_r, v_un, k_un, v_u, rvs_nil, rvs_cons, v_cons, v_call, k_call, v_l, v_mt, k_mt, v_testOf, k_t, v_truth, k_tr, v_tr, v_kk, tru_b, v_notT, k_nt, v_andT, v_orT, k_at1, k_at0, k_ot1, k_ot0, v_if, k_if1, k_if0, v_and, v_or, v_not, k_and1, k_and0, k_or1, k_or0, k_not, v_chain, k_ch1, k_ch2, v_b', k_ch3t, k_ch3f, v_pn, v_ps, k_p, v_sl, k_s1, k_s2, k_s3, v_s, v_seq, k_snx, k_srt, k_sbk, k_sct, v_ifS, k_ifS1, k_ifS0, v_skip, v_brk, v_cnt, v_exp, v_ret, k_exp, k_ret, v_set, k_set, v_n, v_asg, k_asg, a_nm, a_nil, a_cons, k_as, a_tup, v_par, v_par3, k_par, k_par3, v_setIx, k_x1, v_x1, k_mu, k_x2, v_x2, v_augIx, v_g1, k_g1, v_b2, k_g2, k_g3, v_g3, v_g4, v_aug, v_au, k_au, v_au1, v_au2, v_mut, v_m0, v_m1, k_m, v_m2, v_m3, v_callF, k_cf, v_c2, v_callI, v_i1, k_ci, v_i2, v_i3, v_it, k_it, v_itS, it_l, it_t, it_s, v_R1, k_R1, v_for, k_for, v_lc, k_lc, v_lcT, cl_1s, cl_1z, v_yes, v_fgt, v_frt, v_fnx, f_ff, f_fo, f_tf, f_to, f_fs, f_ts, v_ef, v_eo, st_f, st_t, mf_nil, mf_cons, rep_s, rep_z, f_addI, f_addS, f_addL, f_addT, f_sub, f_mod, f_div, f_mulI, f_mulJ, f_mulM, f_mulS, f_pow, f_neg, f_eqI, f_eqS, f_neI, f_neS, f_ltI, f_leI, f_gtI, f_geI, f_ltS, f_is, f_isnt, f_ixL, f_ixT, a_d, se_0, se_1, se_2, i_add, f_slL, f_slT, f_slS, f_slR, f_lenS, f_lenL, f_lenT, f_intI, f_intB, f_abs, f_tupL, f_tupT, f_isi_s, atI0, atI1, atI2, atI3, List.length_cons, List.length_nil, List.cons_append, List.nil_append, Nat.reduceAdd, Nat.reduceSub, Nat.reduceLeDiff, Nat.reduceEqDiff, Int.reduceAdd, Int.reduceSub, Int.reduceMul, Int.reduceNeg, Int.reduceLT, Int.reduceLE, Int.reduceEq, Int.reduceBEq, Int.reducePow, Int.reduceToNat, Bool.not_true, Bool.not_false, decide_true, decide_false, true_and, and_true]
  | true =>
    obtain ⟨r', hr⟩ := for_fret (a := aNm 2) (body := bodyLR) (fun w => rowD (spl [32] 0 [] w)) (fun r => ∃ X, r = [.fr (.str (mkS l)), .ow (.list (List.map (fun w => rowD (spl [32] 0 [] w)) (a :: (m ++ [z])))), X, .no] ∧ (X = .no ∨ ∃ d, X = .fr d)) (fun w => stepOk (spl [32] 0 [] w)) (.fr .none) m
      [.fr (.str (mkS l)), .ow (.list (List.map (fun w => rowD (spl [32] 0 [] w)) (a :: (m ++ [z])))), .no, .no] (fun d hd r hr => by
        obtain ⟨X, rfl, hX⟩ := hr
        refine ⟨[.fr (.str (mkS l)), .ow (.list (List.map (fun w => rowD (spl [32] 0 [] w)) (a :: (m ++ [z])))), .fr (rowD (spl [32] 0 [] d)), .no], [.fr (.str (mkS l)), .ow (.list (List.map (fun w => rowD (spl [32] 0 [] w)) (a :: (m ++ [z])))), .fr (rowD (spl [32] 0 [] d)), .no], ?_, ?_⟩
        · rcases hX with rfl | ⟨d', rfl⟩ <;> rfl
        · rcases bodyLR_ok (spl_ne 32 d []) (hword d (List.mem_cons_of_mem _ (List.mem_append_left _ hd))) (.str (mkS l)) (.list (List.map (fun w => rowD (spl [32] 0 [] w)) (a :: (m ++ [z])))) with ⟨h1, h2⟩ | ⟨h1, h2⟩
          · exact .inl ⟨h1, h2, _, rfl, .inr ⟨_, rfl⟩⟩
          · exact .inr ⟨h1, h2⟩) ⟨_, rfl, .inl rfl⟩
    unfold bodyLR at hr
    rcases hr with ⟨hm, hf, X, rfl, hX⟩ | ⟨hm, hf⟩
    · have fin : ∀ Y : Sl, fgt [0] (X :: [.no]) = .no :: [.no] := fun _ => by rcases hX with rfl | ⟨d, rfl⟩ <;> rfl
      generalize hw : spl [32] 0 [] z = ws
      have bad : (∀ k, ws = [wLock, k] → shB k = false) → readA a m z = .none := fun hn => by
        unfold readA goodB
        rw [hw]
        by_cases e : ws = [wLock, keyW z]
        · rw [hn _ e, Bool.and_false, Bool.and_false, Bool.and_false]
        · rw [decide_eq_false e, Bool.false_and, Bool.and_false, Bool.and_false]
      match ws, hw, bad with
      | [], hw, bad => exact absurd hw (spl_ne 32 z [])
      | [u], hw, bad =>
        rw [bad (by intro k e; cases e)]
        simp only [b_ok, b_no, oo_some, oo_none, g_fr, g_z, g_s, sl_s, sl_fr, sl_ow, sl_io, rv_fr, rv_ow, rv_sl, fz_fr, fz_ow, kCo_, fz_s, fz_zf, fz_zo, om_some, ob_some, om_none, ow_s, ow_ow, ow_io, mu_s, mu_ow, mu_io, st_s, st_so, st_zn, st_zf, st_zo, so_zn, so_zf, so_zo, v_nm, v_nmf, v_nmo, v_nmi, v_k, v_fz, k_fz, v_anil, v_acons, k_a1, k_a2, v_bnil, v_bcons, k_b1, k_b2, v_tup, v_lst, k_tup, k_lst, v_bin, k_o1, k_o2, v_b, v_r, v_un, k_un, v_u, rvs_nil, rvs_cons, v_cons, v_call, k_call, v_l, v_mt, k_mt, v_testOf, k_t, v_truth, k_tr, v_tr, v_kk, tru_b, v_notT, k_nt, v_andT, v_orT, k_at1, k_at0, k_ot1, k_ot0, v_if, k_if1, k_if0, v_and, v_or, v_not, k_and1, k_and0, k_or1, k_or0, k_not, v_chain, k_ch1, k_ch2, v_b', k_ch3t, k_ch3f, v_pn, v_ps, k_p, v_sl, k_s1, k_s2, k_s3, v_s, v_seq, k_snx, k_srt, k_sbk, k_sct, v_ifS, k_ifS1, k_ifS0, v_skip, v_brk, v_cnt, v_exp, v_ret, k_exp, k_ret, v_set, k_set, v_n, v_asg, k_asg, a_nm, a_nil, a_cons, k_as, a_tup, v_par, v_par3, k_par, k_par3, v_setIx, k_x1, v_x1, k_mu, k_x2, v_x2, v_augIx, v_g1, k_g1, v_b2, k_g2, k_g3, v_g3, v_g4, v_aug, v_au, k_au, v_au1, v_au2, v_mut, v_m0, v_m1, k_m, v_m2, v_m3, v_callF, k_cf, v_c2, v_callI, v_i1, k_ci, v_i2, v_i3, v_it, k_it, v_itS, it_l, it_t, it_s, v_R1, k_R1, v_for, k_for, v_lc, k_lc, v_lcT, cl_1s, cl_1z, v_yes, v_fgt, v_frt, v_fnx, f_ff, f_fo, f_tf, f_to, f_fs, f_ts, v_ef, v_eo, st_f, st_t, mf_nil, mf_cons, rep_s, rep_z, f_addI, f_addS, f_addL, f_addT, f_sub, f_mod, f_div, f_mulI, f_mulJ, f_mulM, f_mulS, f_pow, f_neg, f_eqI, f_eqS, f_neI, f_neS, f_ltI, f_leI, f_gtI, f_geI, f_ltS, f_is, f_isnt, f_ixL, f_ixT, a_d, se_0, se_1, se_2, i_add, f_slL, f_slT, f_slS, f_slR, f_lenS, f_lenL, f_lenT, f_intI, f_intB, f_abs, f_tupL, f_tupT, f_isi_s, atI0, atI1, atI2, atI3, List.length_cons, List.length_nil, List.cons_append, List.nil_append, Nat.reduceAdd, Nat.reduceSub, Nat.reduceLeDiff, Nat.reduceEqDiff, Int.reduceAdd, Int.reduceSub, Int.reduceMul, Int.reduceNeg, Int.reduceLT, Int.reduceLE, Int.reduceEq, Int.reduceBEq, Int.reducePow, Int.reduceToNat, Bool.not_true, Bool.not_false, decide_true, decide_false, true_and, and_true, cut_mid, hf, at_last, hw, f_lenR, f_ixR, List.length_cons, List.length_nil, nc1]
      | u :: k :: c :: r, hw, bad =>
        rw [bad (by intro k e; cases e)]
        have g : (((r.length + 1 + 1 + 1 : Nat) : Int) == 2) = false := by rw [← Bool.not_eq_true, beq_iff_eq]; omega
        simp only [b_ok, b_no, oo_some, oo_none, g_fr, g_z, g_s, sl_s, sl_fr, sl_ow, sl_io, rv_fr, rv_ow, rv_sl, fz_fr, fz_ow, kCo_, fz_s, fz_zf, fz_zo, om_some, ob_some, om_none, ow_s, ow_ow, ow_io, mu_s, mu_ow, mu_io, st_s, st_so, st_zn, st_zf, st_zo, so_zn, so_zf, so_zo, v_nm, v_nmf, v_nmo, v_nmi, v_k, v_fz, k_fz, v_anil, v_acons, k_a1, k_a2, v_bnil, v_bcons, k_b1, k_b2, v_tup, v_lst, k_tup, k_lst, v_bin, k_o1, k_o2, v_b, v_r, v_un, k_un, v_u, rvs_nil, rvs_cons, v_cons, v_call, k_call, v_l, v_mt, k_mt, v_testOf, k_t, v_truth, k_tr, v_tr, v_kk, tru_b, v_notT, k_nt, v_andT, v_orT, k_at1, k_at0, k_ot1, k_ot0, v_if, k_if1, k_if0, v_and, v_or, v_not, k_and1, k_and0, k_or1, k_or0, k_not, v_chain, k_ch1, k_ch2, v_b', k_ch3t, k_ch3f, v_pn, v_ps, k_p, v_sl, k_s1, k_s2, k_s3, v_s, v_seq, k_snx, k_srt, k_sbk, k_sct, v_ifS, k_ifS1, k_ifS0, v_skip, v_brk, v_cnt, v_exp, v_ret, k_exp, k_ret, v_set, k_set, v_n, v_asg, k_asg, a_nm, a_nil, a_cons, k_as, a_tup, v_par, v_par3, k_par, k_par3, v_setIx, k_x1, v_x1, k_mu, k_x2, v_x2, v_augIx, v_g1, k_g1, v_b2, k_g2, k_g3, v_g3, v_g4, v_aug, v_au, k_au, v_au1, v_au2, v_mut, v_m0, v_m1, k_m, v_m2, v_m3, v_callF, k_cf, v_c2, v_callI, v_i1, k_ci, v_i2, v_i3, v_it, k_it, v_itS, it_l, it_t, it_s, v_R1, k_R1, v_for, k_for, v_lc, k_lc, v_lcT, cl_1s, cl_1z, v_yes, v_fgt, v_frt, v_fnx, f_ff, f_fo, f_tf, f_to, f_fs, f_ts, v_ef, v_eo, st_f, st_t, mf_nil, mf_cons, rep_s, rep_z, f_addI, f_addS, f_addL, f_addT, f_sub, f_mod, f_div, f_mulI, f_mulJ, f_mulM, f_mulS, f_pow, f_neg, f_eqI, f_eqS, f_neI, f_neS, f_ltI, f_leI, f_gtI, f_geI, f_ltS, f_is, f_isnt, f_ixL, f_ixT, a_d, se_0, se_1, se_2, i_add, f_slL, f_slT, f_slS, f_slR, f_lenS, f_lenL, f_lenT, f_intI, f_intB, f_abs, f_tupL, f_tupT, f_isi_s, atI0, atI1, atI2, atI3, List.length_cons, List.length_nil, List.cons_append, List.nil_append, Nat.reduceAdd, Nat.reduceSub, Nat.reduceLeDiff, Nat.reduceEqDiff, Int.reduceAdd, Int.reduceSub, Int.reduceMul, Int.reduceNeg, Int.reduceLT, Int.reduceLE, Int.reduceEq, Int.reduceBEq, Int.reducePow, Int.reduceToNat, Bool.not_true, Bool.not_false, decide_true, decide_false, true_and, and_true, cut_mid, hf, at_last, hw, f_lenR, f_ixR, List.length_cons, List.length_nil, g]
      | [u, k], hw, bad =>
        have hq : (mkS u == Str.ofString "lock") = decide (u = wLock) := by rw [mk_lock, mkS_inj]
        have hsh := sp_law_is_shelf k (hword z (by simp) k (by rw [hw]; simp))
        cases hu : decide (u = wLock) with
        | false =>
          rw [hu] at hq
          rw [bad (by intro k e; injection e with e _; exact absurd e (of_decide_eq_false hu))]
          simp only [b_ok, b_no, oo_some, oo_none, g_fr, g_z, g_s, sl_s, sl_fr, sl_ow, sl_io, rv_fr, rv_ow, rv_sl, fz_fr, fz_ow, kCo_, fz_s, fz_zf, fz_zo, om_some, ob_some, om_none, ow_s, ow_ow, ow_io, mu_s, mu_ow, mu_io, st_s, st_so, st_zn, st_zf, st_zo, so_zn, so_zf, so_zo, v_nm, v_nmf, v_nmo, v_nmi, v_k, v_fz, k_fz, v_anil, v_acons, k_a1, k_a2, v_bnil, v_bcons, k_b1, k_b2, v_tup, v_lst, k_tup, k_lst, v_bin, k_o1, k_o2, v_b, v_r, v_un, k_un, v_u, rvs_nil, rvs_cons, v_cons, v_call, k_call, v_l, v_mt, k_mt, v_testOf, k_t, v_truth, k_tr, v_tr, v_kk, tru_b, v_notT, k_nt, v_andT, v_orT, k_at1, k_at0, k_ot1, k_ot0, v_if, k_if1, k_if0, v_and, v_or, v_not, k_and1, k_and0, k_or1, k_or0, k_not, v_chain, k_ch1, k_ch2, v_b', k_ch3t, k_ch3f, v_pn, v_ps, k_p, v_sl, k_s1, k_s2, k_s3, v_s, v_seq, k_snx, k_srt, k_sbk, k_sct, v_ifS, k_ifS1, k_ifS0, v_skip, v_brk, v_cnt, v_exp, v_ret, k_exp, k_ret, v_set, k_set, v_n, v_asg, k_asg, a_nm, a_nil, a_cons, k_as, a_tup, v_par, v_par3, k_par, k_par3, v_setIx, k_x1, v_x1, k_mu, k_x2, v_x2, v_augIx, v_g1, k_g1, v_b2, k_g2, k_g3, v_g3, v_g4, v_aug, v_au, k_au, v_au1, v_au2, v_mut, v_m0, v_m1, k_m, v_m2, v_m3, v_callF, k_cf, v_c2, v_callI, v_i1, k_ci, v_i2, v_i3, v_it, k_it, v_itS, it_l, it_t, it_s, v_R1, k_R1, v_for, k_for, v_lc, k_lc, v_lcT, cl_1s, cl_1z, v_yes, v_fgt, v_frt, v_fnx, f_ff, f_fo, f_tf, f_to, f_fs, f_ts, v_ef, v_eo, st_f, st_t, mf_nil, mf_cons, rep_s, rep_z, f_addI, f_addS, f_addL, f_addT, f_sub, f_mod, f_div, f_mulI, f_mulJ, f_mulM, f_mulS, f_pow, f_neg, f_eqI, f_eqS, f_neI, f_neS, f_ltI, f_leI, f_gtI, f_geI, f_ltS, f_is, f_isnt, f_ixL, f_ixT, a_d, se_0, se_1, se_2, i_add, f_slL, f_slT, f_slS, f_slR, f_lenS, f_lenL, f_lenT, f_intI, f_intB, f_abs, f_tupL, f_tupT, f_isi_s, atI0, atI1, atI2, atI3, List.length_cons, List.length_nil, List.cons_append, List.nil_append, Nat.reduceAdd, Nat.reduceSub, Nat.reduceLeDiff, Nat.reduceEqDiff, Int.reduceAdd, Int.reduceSub, Int.reduceMul, Int.reduceNeg, Int.reduceLT, Int.reduceLE, Int.reduceEq, Int.reduceBEq, Int.reducePow, Int.reduceToNat, Bool.not_true, Bool.not_false, decide_true, decide_false, true_and, and_true, cut_mid, hf, at_last, hw, f_lenR, f_ixR, List.length_cons, List.length_nil, nc2, at_20, hq]
        | true =>
          rw [hu] at hq
          cases hs : shB k with
          | false =>
            rw [hs] at hsh
            rw [bad (by intro k' e; injection e with _ e; injection e with e _; rw [← e]; exact hs)]
            simp only [b_ok, b_no, oo_some, oo_none, g_fr, g_z, g_s, sl_s, sl_fr, sl_ow, sl_io, rv_fr, rv_ow, rv_sl, fz_fr, fz_ow, kCo_, fz_s, fz_zf, fz_zo, om_some, ob_some, om_none, ow_s, ow_ow, ow_io, mu_s, mu_ow, mu_io, st_s, st_so, st_zn, st_zf, st_zo, so_zn, so_zf, so_zo, v_nm, v_nmf, v_nmo, v_nmi, v_k, v_fz, k_fz, v_anil, v_acons, k_a1, k_a2, v_bnil, v_bcons, k_b1, k_b2, v_tup, v_lst, k_tup, k_lst, v_bin, k_o1, k_o2, v_b, v_r, v_un, k_un, v_u, rvs_nil, rvs_cons, v_cons, v_call, k_call, v_l, v_mt, k_mt, v_testOf, k_t, v_truth, k_tr, v_tr, v_kk, tru_b, v_notT, k_nt, v_andT, v_orT, k_at1, k_at0, k_ot1, k_ot0, v_if, k_if1, k_if0, v_and, v_or, v_not, k_and1, k_and0, k_or1, k_or0, k_not, v_chain, k_ch1, k_ch2, v_b', k_ch3t, k_ch3f, v_pn, v_ps, k_p, v_sl, k_s1, k_s2, k_s3, v_s, v_seq, k_snx, k_srt, k_sbk, k_sct, v_ifS, k_ifS1, k_ifS0, v_skip, v_brk, v_cnt, v_exp, v_ret, k_exp, k_ret, v_set, k_set, v_n, v_asg, k_asg, a_nm, a_nil, a_cons, k_as, a_tup, v_par, v_par3, k_par, k_par3, v_setIx, k_x1, v_x1, k_mu, k_x2, v_x2, v_augIx, v_g1, k_g1, v_b2, k_g2, k_g3, v_g3, v_g4, v_aug, v_au, k_au, v_au1, v_au2, v_mut, v_m0, v_m1, k_m, v_m2, v_m3, v_callF, k_cf, v_c2, v_callI, v_i1, k_ci, v_i2, v_i3, v_it, k_it, v_itS, it_l, it_t, it_s, v_R1, k_R1, v_for, k_for, v_lc, k_lc, v_lcT, cl_1s, cl_1z, v_yes, v_fgt, v_frt, v_fnx, f_ff, f_fo, f_tf, f_to, f_fs, f_ts, v_ef, v_eo, st_f, st_t, mf_nil, mf_cons, rep_s, rep_z, f_addI, f_addS, f_addL, f_addT, f_sub, f_mod, f_div, f_mulI, f_mulJ, f_mulM, f_mulS, f_pow, f_neg, f_eqI, f_eqS, f_neI, f_neS, f_ltI, f_leI, f_gtI, f_geI, f_ltS, f_is, f_isnt, f_ixL, f_ixT, a_d, se_0, se_1, se_2, i_add, f_slL, f_slT, f_slS, f_slR, f_lenS, f_lenL, f_lenT, f_intI, f_intB, f_abs, f_tupL, f_tupT, f_isi_s, atI0, atI1, atI2, atI3, List.length_cons, List.length_nil, List.cons_append, List.nil_append, Nat.reduceAdd, Nat.reduceSub, Nat.reduceLeDiff, Nat.reduceEqDiff, Int.reduceAdd, Int.reduceSub, Int.reduceMul, Int.reduceNeg, Int.reduceLT, Int.reduceLE, Int.reduceEq, Int.reduceBEq, Int.reducePow, Int.reduceToNat, Bool.not_true, Bool.not_false, decide_true, decide_false, true_and, and_true, cut_mid, hf, at_last, hw, f_lenR, f_ixR, List.length_cons, List.length_nil, nc2, at_20, at_21, hq, hsh]
          | true =>
            rw [hs] at hsh
            have hk : keyW z = k := by unfold keyW; rw [hw]; rfl
            have hg : readA a m z = logD (m.map (spl [32] 0 [])) k := by
              have : goodB a m z = true := by
                unfold goodB
                rw [hA, hm, hk, hs, hw, decide_eq_true (by rw [of_decide_eq_true hu])]
                rfl
              unfold readA
              rw [this, hk]
            rw [hg]
            simp only [b_ok, b_no, oo_some, oo_none, g_fr, g_z, g_s, sl_s, sl_fr, sl_ow, sl_io, rv_fr, rv_ow, rv_sl, fz_fr, fz_ow, kCo_, fz_s, fz_zf, fz_zo, om_some, ob_some, om_none, ow_s, ow_ow, ow_io, mu_s, mu_ow, mu_io, st_s, st_so, st_zn, st_zf, st_zo, so_zn, so_zf, so_zo, v_nm, v_nmf, v_nmo, v_nmi, v_k, v_fz, k_fz, v_anil, v_acons, k_a1, k_a2, v_bnil, v_bcons, k_b1, k_b2, v_tup, v_lst, k_tup, k_lst, v_bin, k_o1, k_o2, v_b, v_r, v_un, k_un, v_u, rvs_nil, rvs_cons, v_cons, v_call, k_call, v_l, v_mt, k_mt, v_testOf, k_t, v_truth, k_tr, v_tr, v_kk, tru_b, v_notT, k_nt, v_andT, v_orT, k_at1, k_at0, k_ot1, k_ot0, v_if, k_if1, k_if0, v_and, v_or, v_not, k_and1, k_and0, k_or1, k_or0, k_not, v_chain, k_ch1, k_ch2, v_b', k_ch3t, k_ch3f, v_pn, v_ps, k_p, v_sl, k_s1, k_s2, k_s3, v_s, v_seq, k_snx, k_srt, k_sbk, k_sct, v_ifS, k_ifS1, k_ifS0, v_skip, v_brk, v_cnt, v_exp, v_ret, k_exp, k_ret, v_set, k_set, v_n, v_asg, k_asg, a_nm, a_nil, a_cons, k_as, a_tup, v_par, v_par3, k_par, k_par3, v_setIx, k_x1, v_x1, k_mu, k_x2, v_x2, v_augIx, v_g1, k_g1, v_b2, k_g2, k_g3, v_g3, v_g4, v_aug, v_au, k_au, v_au1, v_au2, v_mut, v_m0, v_m1, k_m, v_m2, v_m3, v_callF, k_cf, v_c2, v_callI, v_i1, k_ci, v_i2, v_i3, v_it, k_it, v_itS, it_l, it_t, it_s, v_R1, k_R1, v_for, k_for, v_lc, k_lc, v_lcT, cl_1s, cl_1z, v_yes, v_fgt, v_frt, v_fnx, f_ff, f_fo, f_tf, f_to, f_fs, f_ts, v_ef, v_eo, st_f, st_t, mf_nil, mf_cons, rep_s, rep_z, f_addI, f_addS, f_addL, f_addT, f_sub, f_mod, f_div, f_mulI, f_mulJ, f_mulM, f_mulS, f_pow, f_neg, f_eqI, f_eqS, f_neI, f_neS, f_ltI, f_leI, f_gtI, f_geI, f_ltS, f_is, f_isnt, f_ixL, f_ixT, a_d, se_0, se_1, se_2, i_add, f_slL, f_slT, f_slS, f_slR, f_lenS, f_lenL, f_lenT, f_intI, f_intB, f_abs, f_tupL, f_tupT, f_isi_s, atI0, atI1, atI2, atI3, List.length_cons, List.length_nil, List.cons_append, List.nil_append, Nat.reduceAdd, Nat.reduceSub, Nat.reduceLeDiff, Nat.reduceEqDiff, Int.reduceAdd, Int.reduceSub, Int.reduceMul, Int.reduceNeg, Int.reduceLT, Int.reduceLE, Int.reduceEq, Int.reduceBEq, Int.reducePow, Int.reduceToNat, Bool.not_true, Bool.not_false, decide_true, decide_false, true_and, and_true, cut_mid, hf, at_last, hw, f_lenR, f_ixR, List.length_cons, List.length_nil, nc2, at_20, at_21, hq, hsh, fg_s, fin .no]
            rw [lc_fmap (fun w => rowD (spl [32] 0 [] w)) (fun w => stepD (spl [32] 0 [] w))]
            · simp only [noEx, b_ok, b_no, oo_some, oo_none, g_fr, g_z, g_s, sl_s, sl_fr, sl_ow, sl_io, rv_fr, rv_ow, rv_sl, fz_fr, fz_ow, kCo_, fz_s, fz_zf, fz_zo, om_some, ob_some, om_none, ow_s, ow_ow, ow_io, mu_s, mu_ow, mu_io, st_s, st_so, st_zn, st_zf, st_zo, so_zn, so_zf, so_zo, v_nm, v_nmf, v_nmo, v_nmi, v_k, v_fz, k_fz, v_anil, v_acons, k_a1, k_a2, v_bnil, v_bcons, k_b1, k_b2, v_tup, v_lst, k_tup, k_lst, v_bin, k_o1, k_o2, v_b, v_r, v_un, k_un, v_u, rvs_nil, rvs_cons, v_cons, v_call, k_call, v_l, v_mt, k_mt, v_testOf, k_t, v_truth, k_tr, v_tr, v_kk, tru_b, v_notT, k_nt, v_andT, v_orT, k_at1, k_at0, k_ot1, k_ot0, v_if, k_if1, k_if0, v_and, v_or, v_not, k_and1, k_and0, k_or1, k_or0, k_not, v_chain, k_ch1, k_ch2, v_b', k_ch3t, k_ch3f, v_pn, v_ps, k_p, v_sl, k_s1, k_s2, k_s3, v_s, v_seq, k_snx, k_srt, k_sbk, k_sct, v_ifS, k_ifS1, k_ifS0, v_skip, v_brk, v_cnt, v_exp, v_ret, k_exp, k_ret, v_set, k_set, v_n, v_asg, k_asg, a_nm, a_nil, a_cons, k_as, a_tup, v_par, v_par3, k_par, k_par3, v_setIx, k_x1, v_x1, k_mu, k_x2, v_x2, v_augIx, v_g1, k_g1, v_b2, k_g2, k_g3, v_g3, v_g4, v_aug, v_au, k_au, v_au1, v_au2, v_mut, v_m0, v_m1, k_m, v_m2, v_m3, v_callF, k_cf, v_c2, v_callI, v_i1, k_ci, v_i2, v_i3, v_it, k_it, v_itS, it_l, it_t, it_s, v_R1, k_R1, v_for, k_for, v_lc, k_lc, v_lcT, cl_1s, cl_1z, v_yes, v_fgt, v_frt, v_fnx, f_ff, f_fo, f_tf, f_to, f_fs, f_ts, v_ef, v_eo, st_f, st_t, mf_nil, mf_cons, rep_s, rep_z, f_addI, f_addS, f_addL, f_addT, f_sub, f_mod, f_div, f_mulI, f_mulJ, f_mulM, f_mulS, f_pow, f_neg, f_eqI, f_eqS, f_neI, f_neS, f_ltI, f_leI, f_gtI, f_geI, f_ltS, f_is, f_isnt, f_ixL, f_ixT, a_d, se_0, se_1, se_2, i_add, f_slL, f_slT, f_slS, f_slR, f_lenS, f_lenL, f_lenT, f_intI, f_intB, f_abs, f_tupL, f_tupT, f_isi_s, atI0, atI1, atI2, atI3, List.length_cons, List.length_nil, List.cons_append, List.nil_append, Nat.reduceAdd, Nat.reduceSub, Nat.reduceLeDiff, Nat.reduceEqDiff, Int.reduceAdd, Int.reduceSub, Int.reduceMul, Int.reduceNeg, Int.reduceLT, Int.reduceLE, Int.reduceEq, Int.reduceBEq, Int.reducePow, Int.reduceToNat, Bool.not_true, Bool.not_false, decide_true, decide_false, true_and, and_true, at_last, hw, f_ixR, at_21]
              unfold logD
              rw [List.map_map]
              rfl
            · intro d _
              refine ⟨[.fr (.str (mkS l)), .ow (.list (List.map (fun w => rowD (spl [32] 0 [] w)) (a :: (m ++ [z])))), .fr (rowD (spl [32] 0 [] d)), .no], rfl, ?_, rfl⟩
              simp only [b_ok, b_no, oo_some, oo_none, g_fr, g_z, g_s, sl_s, sl_fr, sl_ow, sl_io, rv_fr, rv_ow, rv_sl, fz_fr, fz_ow, kCo_, fz_s, fz_zf, fz_zo, om_some, ob_some, om_none, ow_s, ow_ow, ow_io, mu_s, mu_ow, mu_io, st_s, st_so, st_zn, st_zf, st_zo, so_zn, so_zf, so_zo, v_nm, v_nmf, v_nmo, v_nmi, v_k, v_fz, k_fz, v_anil, v_acons, k_a1, k_a2, v_bnil, v_bcons, k_b1, k_b2, v_tup, v_lst, k_tup, k_lst, v_bin, k_o1, k_o2, v_b, v_r, v_un, k_un, v_u, rvs_nil, rvs_cons, v_cons, v_call, k_call, v_l, v_mt, k_mt, v_testOf, k_t, v_truth, k_tr, v_tr, v_kk, tru_b, v_notT, k_nt, v_andT, v_orT, k_at1, k_at0, k_ot1, k_ot0, v_if, k_if1, k_if0, v_and, v_or, v_not, k_and1, k_and0, k_or1, k_or0, k_not, v_chain, k_ch1, k_ch2, v_b', k_ch3t, k_ch3f, v_pn, v_ps, k_p, v_sl, k_s1, k_s2, k_s3, v_s, v_seq, k_snx, k_srt, k_sbk, k_sct, v_ifS, k_ifS1, k_ifS0, v_skip, v_brk, v_cnt, v_exp, v_ret, k_exp, k_ret, v_set, k_set, v_n, v_asg, k_asg, a_nm, a_nil, a_cons, k_as, a_tup, v_par, v_par3, k_par, k_par3, v_setIx, k_x1, v_x1, k_mu, k_x2, v_x2, v_augIx, v_g1, k_g1, v_b2, k_g2, k_g3, v_g3, v_g4, v_aug, v_au, k_au, v_au1, v_au2, v_mut, v_m0, v_m1, k_m, v_m2, v_m3, v_callF, k_cf, v_c2, v_callI, v_i1, k_ci, v_i2, v_i3, v_it, k_it, v_itS, it_l, it_t, it_s, v_R1, k_R1, v_for, k_for, v_lc, k_lc, v_lcT, cl_1s, cl_1z, v_yes, v_fgt, v_frt, v_fnx, f_ff, f_fo, f_tf, f_to, f_fs, f_ts, v_ef, v_eo, st_f, st_t, mf_nil, mf_cons, rep_s, rep_z, f_addI, f_addS, f_addL, f_addT, f_sub, f_mod, f_div, f_mulI, f_mulJ, f_mulM, f_mulS, f_pow, f_neg, f_eqI, f_eqS, f_neI, f_neS, f_ltI, f_leI, f_gtI, f_geI, f_ltS, f_is, f_isnt, f_ixL, f_ixT, a_d, se_0, se_1, se_2, i_add, f_slL, f_slT, f_slS, f_slR, f_lenS, f_lenL, f_lenT, f_intI, f_intB, f_abs, f_tupL, f_tupT, f_isi_s, atI0, atI1, atI2, atI3, List.length_cons, List.length_nil, List.cons_append, List.nil_append, Nat.reduceAdd, Nat.reduceSub, Nat.reduceLeDiff, Nat.reduceEqDiff, Int.reduceAdd, Int.reduceSub, Int.reduceMul, Int.reduceNeg, Int.reduceLT, Int.reduceLE, Int.reduceEq, Int.reduceBEq, Int.reducePow, Int.reduceToNat, Bool.not_true, Bool.not_false, decide_true, decide_false, true_and, and_true, f_tupR]
    · have hg : readA a m z = .none := by
        unfold readA goodB
        rw [hm, Bool.false_and, Bool.and_false]
      rw [hg]
      simp only [b_ok, b_no, oo_some, oo_none, g_fr, g_z, g_s, sl_s, sl_fr, sl_ow, sl_io, rv_fr, rv_ow, rv_sl, fz_fr, fz_ow, kCo_, fz_s, fz_zf, fz_zo, om_some, ob_some, om_none, ow_s, ow_ow, ow_io, mu_s, mu_ow, mu_io, st_s, st_so, st_zn, st_zf, st_zo, so_zn, so_zf, so_zo, v_nm, v_nmf, v_nmo, v_nmi, v_k, v_fz, k_fz, v_anil, v_acons, k_a1, k_a2, v_bnil, v_bcons, k_b1, k_b2, v_tup, v_lst, k_tup, k_lst, v_bin, k_o1, k_o2, v_b, v_r, v_un, k_un, v_u, rvs_nil, rvs_cons, v_cons, v_call, k_call, v_l, v_mt, k_mt, v_testOf, k_t, v_truth, k_tr, v_tr, v_kk, tru_b, v_notT, k_nt, v_andT, v_orT, k_at1, k_at0, k_ot1, k_ot0, v_if, k_if1, k_if0, v_and, v_or, v_not, k_and1, k_and0, k_or1, k_or0, k_not, v_chain, k_ch1, k_ch2, v_b', k_ch3t, k_ch3f, v_pn, v_ps, k_p, v_sl, k_s1, k_s2, k_s3, v_s, v_seq, k_snx, k_srt, k_sbk, k_sct, v_ifS, k_ifS1, k_ifS0, v_skip, v_brk, v_cnt, v_exp, v_ret, k_exp, k_ret, v_set, k_set, v_n, v_asg, k_asg, a_nm, a_nil, a_cons, k_as, a_tup, v_par, v_par3, k_par, k_par3, v_setIx, k_x1, v_x1, k_mu, k_x2, v_x2, v_augIx, v_g1, k_g1, v_b2, k_g2, k_g3, v_g3, v_g4, v_aug, v_au, k_au, v_au1, v_au2, v_mut, v_m0, v_m1, k_m, v_m2, v_m3, v_callF, k_cf, v_c2, v_callI, v_i1, k_ci, v_i2, v_i3, v_it, k_it, v_itS, it_l, it_t, it_s, v_R1, k_R1, v_for, k_for, v_lc, k_lc, v_lcT, cl_1s, cl_1z, v_yes, v_fgt, v_frt, v_fnx, f_ff, f_fo, f_tf, f_to, f_fs, f_ts, v_ef, v_eo, st_f, st_t, mf_nil, mf_cons, rep_s, rep_z, f_addI, f_addS, f_addL, f_addT, f_sub, f_mod, f_div, f_mulI, f_mulJ, f_mulM, f_mulS, f_pow, f_neg, f_eqI, f_eqS, f_neI, f_neS, f_ltI, f_leI, f_gtI, f_geI, f_ltS, f_is, f_isnt, f_ixL, f_ixT, a_d, se_0, se_1, se_2, i_add, f_slL, f_slT, f_slS, f_slR, f_lenS, f_lenL, f_lenT, f_intI, f_intB, f_abs, f_tupL, f_tupT, f_isi_s, atI0, atI1, atI2, atI3, List.length_cons, List.length_nil, List.cons_append, List.nil_append, Nat.reduceAdd, Nat.reduceSub, Nat.reduceLeDiff, Nat.reduceEqDiff, Int.reduceAdd, Int.reduceSub, Int.reduceMul, Int.reduceNeg, Int.reduceLT, Int.reduceLE, Int.reduceEq, Int.reduceBEq, Int.reducePow, Int.reduceToNat, Bool.not_true, Bool.not_false, decide_true, decide_false, true_and, and_true, cut_mid, hf]
end Ed
end
section
namespace Ed
open PySem PySem.Spec L2 TL
/-- no line is longer -/
def LB (M : Nat) (l : List Nat) : Prop := ∀ p ∈ spl [10] 0 [] l, p.length ≤ M
theorem spl_acc (s : Nat) : ∀ (l acc : List Nat), ∃ h t, spl [s] 0 [] l = h :: t ∧ spl [s] 0 acc l = (acc ++ h) :: t
  | [], acc => ⟨[], [], by rw [spl_nil], by rw [spl_nil, List.append_nil]⟩
  | c :: l, acc => by
    rw [spl_one, spl_one]
    by_cases h : c = s
    · rw [if_pos h, if_pos h]
      exact ⟨[], _, rfl, by rw [List.append_nil]⟩
    · rw [if_neg h, if_neg h]
      obtain ⟨h1, t1, e1, e2⟩ := spl_acc s l (acc ++ [c])
      obtain ⟨h2, t2, e3, e4⟩ := spl_acc s l ([] ++ [c])
      rw [e3] at e1
      injection e1 with e5 e6
      subst e5 e6
      exact ⟨[] ++ [c] ++ h2, t2, e4, by rw [e2, List.append_assoc, List.append_assoc]; rfl⟩
theorem acc_le {s M : Nat} {l : List Nat} (acc : List Nat) (h : ∀ p ∈ spl [s] 0 [] l, p.length ≤ M) : ∀ p ∈ spl [s] 0 acc l, p.length ≤ acc.length + M := fun p hp => by
  obtain ⟨h1, t, e1, e2⟩ := spl_acc s l acc
  rw [e1] at h
  rw [e2] at hp
  rcases List.mem_cons.mp hp with rfl | hp
  · rw [List.length_append]
    have := h h1 (List.mem_cons_self ..)
    omega
  · have := h p (List.mem_cons_of_mem _ hp)
    omega
theorem lb_app {A B : Nat} {b : List Nat} (hb : LB B b) : ∀ (a acc : List Nat), (∀ p ∈ spl [10] 0 acc a, p.length ≤ A) → ∀ p ∈ spl [10] 0 acc (a ++ b), p.length ≤ A + B
  | [], acc, ha, p, hp => by
    have h1 := acc_le acc hb p hp
    have h2 := ha acc (by rw [spl_nil]; exact List.mem_singleton.mpr rfl)
    omega
  | c :: a, acc, ha, p, hp => by
    rw [List.cons_append, spl_one] at hp
    rw [spl_one] at ha
    by_cases h : c = 10
    · rw [if_pos h] at hp ha
      rcases List.mem_cons.mp hp with rfl | hp
      · have := ha p (List.mem_cons_self ..)
        omega
      · exact lb_app hb a [] (fun q hq => ha q (List.mem_cons_of_mem _ hq)) p hp
    · rw [if_neg h] at hp ha
      exact lb_app hb a _ ha p hp
theorem LB.app {A B : Nat} {a b : List Nat} (ha : LB A a) (hb : LB B b) : LB (A + B) (a ++ b) := fun p hp => lb_app hb a [] ha p hp
theorem LB.up {A B : Nat} {a : List Nat} (ha : LB A a) (h : A ≤ B) : LB B a := fun p hp => Nat.le_trans (ha p hp) h
theorem lb_one (c : Nat) : LB 1 [c] := fun p hp => by
  rw [spl_one] at hp
  split at hp
  · rw [spl_nil] at hp
    rcases List.mem_cons.mp hp with rfl | hp
    · exact Nat.zero_le _
    · rw [List.mem_singleton.mp hp]
      exact Nat.zero_le _
  · rw [spl_nil] at hp
    rw [List.mem_singleton.mp hp]
    exact Nat.le_refl _
theorem lb_take {M : Nat} : ∀ (l acc : List Nat) (n : Nat), (∀ p ∈ spl [10] 0 acc l, p.length ≤ M) → ∀ p ∈ spl [10] 0 acc (l.take n), p.length ≤ M
  | l, acc, 0, h, p, hp => by
    rw [List.take_zero, spl_nil] at hp
    rw [List.mem_singleton.mp hp]
    obtain ⟨h1, t, _, e2⟩ := spl_acc 10 l acc
    have := h (acc ++ h1) (by rw [e2]; exact List.mem_cons_self ..)
    rw [List.length_append] at this
    omega
  | [], acc, n + 1, h, p, hp => h p hp
  | c :: l, acc, n + 1, h, p, hp => by
    rw [List.take_succ_cons, spl_one] at hp
    rw [spl_one] at h
    by_cases e : c = 10
    · rw [if_pos e] at hp h
      rcases List.mem_cons.mp hp with rfl | hp
      · exact h p (List.mem_cons_self ..)
      · exact lb_take l [] n (fun q hq => h q (List.mem_cons_of_mem _ hq)) p hp
    · rw [if_neg e] at hp h
      exact lb_take l _ n h p hp
theorem lb_drop {M : Nat} : ∀ (l acc : List Nat) (n : Nat), (∀ p ∈ spl [10] 0 acc l, p.length ≤ M) → ∀ p ∈ spl [10] 0 [] (l.drop n), p.length ≤ M
  | l, acc, 0, h, p, hp => by
    obtain ⟨h1, t, e1, e2⟩ := spl_acc 10 l acc
    rw [List.drop_zero, e1] at hp
    rw [e2] at h
    rcases List.mem_cons.mp hp with rfl | hp
    · have := h (acc ++ p) (List.mem_cons_self ..)
      rw [List.length_append] at this
      omega
    · exact h p (List.mem_cons_of_mem _ hp)
  | [], acc, n + 1, h, p, hp => by
    rw [List.drop_nil, spl_nil] at hp
    rw [List.mem_singleton.mp hp]
    exact Nat.zero_le _
  | c :: l, acc, n + 1, h, p, hp => by
    rw [List.drop_succ_cons] at hp
    rw [spl_one] at h
    by_cases e : c = 10
    · rw [if_pos e] at h
      exact lb_drop l [] n (fun q hq => h q (List.mem_cons_of_mem _ hq)) p hp
    · rw [if_neg e] at h
      exact lb_drop l _ n h p hp
theorem LB.take {M : Nat} {l : List Nat} (h : LB M l) (n : Nat) : LB M (l.take n) := lb_take l [] n h
theorem LB.drop {M : Nat} {l : List Nat} (h : LB M l) (n : Nat) : LB M (l.drop n) := lb_drop l [] n h
theorem lb_join {M : Nat} {ws : List (List Nat)} (h : ∀ w ∈ ws, w.length ≤ M) (f : ∀ w ∈ ws, 10 ∉ w) : LB M (joinL [10] ws) := fun p hp => by
  cases ws with
  | nil =>
    have hp : p ∈ spl [10] 0 [] [] := hp
    rw [spl_nil] at hp
    rw [List.mem_singleton.mp hp]
    exact Nat.zero_le _
  | cons w ws =>
    rw [spl_join (by simp) f] at hp
    exact h p hp
/-- a text: not long, its lines not long, its signs signs -/
structure TX (L M : Nat) (l : List Nat) : Prop where
  len : l.length ≤ L
  ln : LB M l
  sg : ∀ c ∈ l, c < 0x110000
theorem TX.sok {L M : Nat} {l : List Nat} (h : TX L M l) (hL : L ≤ 8000000) : sOk (mkS l) := ⟨by rw [len_mkS]; exact Nat.le_trans h.len hL, h.sg⟩
theorem TX.up {L M L' M' : Nat} {l : List Nat} (h : TX L M l) (h1 : L ≤ L') (h2 : M ≤ M') : TX L' M' l := ⟨Nat.le_trans h.len h1, h.ln.up h2, h.sg⟩
theorem TX.take {L M : Nat} {l : List Nat} (h : TX L M l) (n : Nat) : TX L M (l.take n) := ⟨Nat.le_trans (by rw [List.length_take]; omega) h.len, h.ln.take n, fun c hc => h.sg c (List.mem_of_mem_take hc)⟩
theorem TX.drop {L M : Nat} {l : List Nat} (h : TX L M l) (n : Nat) : TX L M (l.drop n) := ⟨Nat.le_trans (by rw [List.length_drop]; omega) h.len, h.ln.drop n, fun c hc => h.sg c (List.mem_of_mem_drop hc)⟩
/-- lines of a text -/
theorem TX.lines {L M : Nat} {l : List Nat} (h : TX L M l) : ∀ p ∈ spl [10] 0 [] l, p.length ≤ M ∧ 10 ∉ p ∧ ∀ c ∈ p, c < 0x110000 := fun p hp => ⟨h.ln p hp, spl_free 10 l [] (by simp) p hp, fun c hc => by
  rcases spl_mem _ _ _ p hp c hc with z | z
  · cases z
  · exact h.sg c z⟩
theorem tx_join {L M : Nat} {ws : List (List Nat)} (hs : szW ws ≤ L + 1) (h : ∀ p ∈ ws, p.length ≤ M ∧ 10 ∉ p ∧ ∀ c ∈ p, c < 0x110000) : TX L M (joinL [10] ws) := by
  refine ⟨?_, lb_join (fun w hw => (h w hw).1) (fun w hw => (h w hw).2.1), fun c hc => ?_⟩
  · cases ws with
    | nil => exact Nat.zero_le _
    | cons w ws =>
      have := szW_join 10 (ws := w :: ws) (by simp)
      omega
  rcases joinL_mem _ c hc with z | ⟨p, z1, z2⟩
  · rw [List.mem_singleton.mp z]
    decide
  · exact (h p z1).2.2 c z2
theorem szW_take (ws : List (List Nat)) (n : Nat) : szW (ws.take n) + szW (ws.drop n) = szW ws := by rw [← szW_app, List.take_append_drop]
/-- a sign put in, in the place of k signs -/
theorem tx_sign {L M c : Nat} {l : List Nat} (h : TX L M l) (hc : c < 0x110000) (n k : Nat) : TX (L + 1) (2 * M + 1) (l.take n ++ [c] ++ l.drop (n + k)) := by
  refine ⟨?_, ?_, fun x hx => ?_⟩
  · have := h.len
    simp only [List.length_append, List.length_take, List.length_drop, List.length_singleton]
    omega
  · exact (((h.take n).ln.app (lb_one c)).app (h.drop (n + k)).ln).up (by omega)
  · rcases List.mem_append.mp hx with hx | hx
    · rcases List.mem_append.mp hx with hx | hx
      · exact (h.take n).sg x hx
      · rw [List.mem_singleton.mp hx]; exact hc
    · exact (h.drop (n + k)).sg x hx
/-- lines left out, put in, doubled -/
theorem tx_lines {L M : Nat} {l o : List Nat} (h : TX L M l) {i j : Nat} (ho : o.length ≤ M ∧ 10 ∉ o ∧ ∀ c ∈ o, c < 0x110000) : TX (L + M + 1) M (joinL [10] ((spl [10] 0 [] l).take i ++ [o] ++ (spl [10] 0 [] l).drop (i + 1))) := by
  have hz : szW (spl [10] 0 [] l) ≤ L + 1 := by
    have h1 := szW_spl 10 l []
    have h2 := h.len
    rw [List.length_nil] at h1
    omega
  refine tx_join ?_ fun p hp => ?_
  · have h1 := szW_take (spl [10] 0 [] l) i
    have h2 := szW_take ((spl [10] 0 [] l).drop i) 1
    rw [List.drop_drop] at h2
    rw [szW_app, szW_app, szW_cons]
    have : szW [] = 0 := rfl
    omega
  · rcases List.mem_append.mp hp with hp | hp
    · rcases List.mem_append.mp hp with hp | hp
      · exact h.lines p (List.mem_of_mem_take hp)
      · rw [List.mem_singleton.mp hp]; exact ho
    · exact h.lines p (List.mem_of_mem_drop hp)
theorem tx_out {L M : Nat} {l : List Nat} (h : TX L M l) (i : Nat) : TX (L + M + 1) M (joinL [10] ((spl [10] 0 [] l).take i ++ (spl [10] 0 [] l).drop (i + 1))) := by
  have hz : szW (spl [10] 0 [] l) ≤ L + 1 := by
    have h1 := szW_spl 10 l []
    have h2 := h.len
    rw [List.length_nil] at h1
    omega
  refine tx_join ?_ fun p hp => ?_
  · have h1 := szW_take (spl [10] 0 [] l) i
    have h2 := szW_take ((spl [10] 0 [] l).drop i) 1
    rw [List.drop_drop] at h2
    rw [szW_app]
    omega
  · rcases List.mem_append.mp hp with hp | hp
    · exact h.lines p (List.mem_of_mem_take hp)
    · exact h.lines p (List.mem_of_mem_drop hp)
theorem tx_twice {L M : Nat} {l : List Nat} (h : TX L M l) {i : Nat} (hi : i < (spl [10] 0 [] l).length) : TX (L + M + 1) M (joinL [10] ((spl [10] 0 [] l).take (i + 1) ++ (spl [10] 0 [] l).drop i)) := by
  have hz : szW (spl [10] 0 [] l) ≤ L + 1 := by
    have h1 := szW_spl 10 l []
    have h2 := h.len
    rw [List.length_nil] at h1
    omega
  refine tx_join ?_ fun p hp => ?_
  · have h1 := szW_take (spl [10] 0 [] l) (i + 1)
    have h2 := szW_take ((spl [10] 0 [] l).drop i) 1
    rw [List.drop_drop] at h2
    rw [szW_app]
    have h3 : szW (((spl [10] 0 [] l).drop i).take 1) ≤ M + 1 := by
      rw [List.drop_eq_getElem_cons hi, List.take_succ_cons, List.take_zero, szW_cons]
      have := (h.lines _ (List.getElem_mem hi)).1
      have : szW [] = 0 := rfl
      omega
    omega
  · rcases List.mem_append.mp hp with hp | hp
    · exact h.lines p (List.mem_of_mem_take hp)
    · exact h.lines p (List.mem_of_mem_drop hp)
end Ed
end
section
namespace Ed
open PySem PySem.Spec L2 PyProof.Rows

def keyT (x : Int × Value) : Str := match x.2 with | .str k _ => k | _ => Str.empty
def GoodT (w : World) (x : Int × Value) : Prop := ∃ k tk, x.2 = Value.str k tk ∧ x.1 = hashStr w k
/-- the set of texts at a, its members in some order -/
def SetT (w : World) (h : Heap) (a : Addr) (M : Str → Prop) (n : Nat) : Prop :=
  ∃ ob qs v0 tb, h.get? a = some ob ∧ ob.ExactSet ∧ ob.data = .set qs v0 tb ∧ (∀ x ∈ qs.toList, GoodT w x) ∧ (qs.toList.map keyT).Nodup ∧ (∀ k, M k ↔ k ∈ qs.toList.map keyT) ∧
    qs.size < scanBound ∧ tb.fits qs.size = true ∧ qs.size ≤ n ∧ Ris tb.place.toList ∧ (w.params.followText "set-order" = true ∨ tb.led = true)
section
variable {P : Program} {w : World} {h h' : Heap} {a : Addr} {M : Str → Prop} {n : Nat}
theorem SetT.at' (R : SetT w h a M n) (k : ∀ ob, h.get? a = some ob → h'.get? a = some ob) : SetT w h' a M n := by
  obtain ⟨ob, qs, v0, tb, q, r⟩ := R
  exact ⟨ob, qs, v0, tb, k ob q, r⟩
theorem goodT_elems {l : List (Int × Value)} (g : ∀ x ∈ l, GoodT w x) : ElemsOf (PySem.strKind P w) l := fun x hx => by
  obtain ⟨k, tk, q1, q2⟩ := g x hx
  exact ⟨⟨k, by rw [q1]; exact strKind_is P w k tk, q2⟩, by rw [q1]; rfl⟩
theorem goodT_is {x : Int × Value} (g : GoodT w x) (k : Str) : (PySem.strKind P w).is k x.2 = true ↔ keyT x = k := by
  obtain ⟨k0, tk, q1, _⟩ := g
  unfold keyT
  rw [q1]
  constructor
  · intro q
    exact (PySem.strKind P w).inj _ _ _ (strKind_is P w k0 tk) q
  · intro q
    subst q
    exact strKind_is P w k0 tk
theorem goodT_mem {l : List (Int × Value)} (g : ∀ x ∈ l, GoodT w x) (k : Str) : k ∈ l.map keyT ↔ ∃ x ∈ l, (PySem.strKind P w).is k x.2 = true := by
  rw [List.mem_map]
  exact ⟨fun ⟨x, hx, q⟩ => ⟨x, hx, (goodT_is (g x hx) k).2 q⟩, fun ⟨x, hx, q⟩ => ⟨x, hx, (goodT_is (g x hx) k).1 q⟩⟩
end
section
variable {P : Program} {w : World} {A : Around} {E : Value → Shared → Prop} {s : Shared} {a : Addr} {M : Str → Prop} {n : Nat}
theorem setT_tail {g : Bool → Sem Unit} (hg : ∀ (b : Bool) (s₁ : Shared) (Q' : Unit → Shared → Prop), Q' () s₁ → wpAny (model P w) A (g b) Q' E s₁)
    {ob : Obj} {qs : Array (Int × Value)} {v0 : Nat} {tb : SetTable} (e0 : s.heap.get? a = some ob) (ex : ob.ExactSet) (ed : ob.data = .set qs v0 tb)
    {q1 : Array (Int × Value)} {t2 : SetTable} {M' : Str → Prop} (g1 : ∀ x ∈ q1.toList, GoodT w x) (nd1 : (q1.toList.map keyT).Nodup) (m1 : ∀ k, M' k ↔ k ∈ q1.toList.map keyT)
    (b1 : q1.size < scanBound) (f2 : t2.fits q1.size = true) (hr : Ris t2.place.toList) (hl : w.params.followText "set-order" = true ∨ t2.led = true) {wasDummy : Bool} {R : Option Bool → Shared → Prop}
    (hR : ∀ h', Heap.SameBut a s.heap h' → SetT w h' a M' q1.size → R (some true) { s with heap := h' }) :
    wpAny (model P w) A (do
        storeSet a q1 t2
        if (!wasDummy && t2.tooFull) = true then do
            g (relayAll t2 q1 (SetTable.grown q1.size)).2.2
            storeSet a (relayAll t2 q1 (SetTable.grown q1.size)).1 (relayAll t2 q1 (SetTable.grown q1.size)).2.1
            pure (some true)
          else pure (some true)) R E s := by
  refine wpAny_bind (wpAny_storeSet_of e0 ed ?_ (fits_of_scanBound b1))
  have e1 := store_at (es' := q1) (t' := t2) e0 ed
  have sb1 := Heap.SameBut.update s.heap a (Obj.putSet q1 t2)
  split
  · have pm := relayAll_perm t2 q1 (SetTable.grown q1.size)
    have f3 := relayAll_fits t2 q1 (SetTable.grown q1.size)
    have r3 := relayAll_ris t2 q1 (SetTable.grown q1.size)
    have l3 := relayAll_led t2 q1 (SetTable.grown q1.size)
    generalize relayAll t2 q1 (SetTable.grown q1.size) = Z at pm f3 r3 l3 ⊢
    obtain ⟨q2, t3, gave⟩ := Z
    dsimp only at pm f3 r3 l3 ⊢
    have sz : q2.size = q1.size := by rw [← Array.length_toList, pm.length_eq, Array.length_toList]
    have b2 : q2.size < scanBound := by rw [sz]; exact b1
    refine wpAny_bind (hg _ _ _ (wpAny_bind (wpAny_storeSet_of e1 rfl ?_ (fits_of_scanBound b2))))
    have e2 := store_at (es' := q2) (t' := t3) e1 rfl
    refine wpAny_pure (hR _ (sb1.trans (Heap.SameBut.update _ a _)) ⟨_, q2, _, t3, e2, ex, rfl, fun x hx => g1 x (pm.mem_iff.mp hx), (pm.map keyT).nodup_iff.mpr nd1, fun k => (m1 k).trans (pm.map keyT).mem_iff.symm, b2, f3, Nat.le_of_eq sz, r3, hl.imp id fun z => by rw [l3]; exact z⟩)
  · exact wpAny_pure (hR _ sb1 ⟨_, q1, _, t2, e1, ex, rfl, g1, nd1, m1, b1, f2, Nat.le_refl _, hr, hl⟩)
theorem setT_add {k : Str} {tk : Tok} {Q : Bool → Shared → Prop} (R : SetT w s.heap a M n) (room : n + 1 < scanBound)
    (hQ : ∀ h' b, Heap.SameBut a s.heap h' → SetT w h' a (fun j => M j ∨ j = k) (n + 1) → Q b { s with heap := h' }) :
    wpAny (model P w) A (setAddHashed a (.str k tk) ((PySem.strKind P w).hash k)) Q E s := by
  obtain ⟨ob, qs, v0, tb, e0, ex, ed, g, nd, hm, hb, hf, hn, hr, hl⟩ := R
  have hkey : (PySem.strKind P w).is k (.str k tk) = true := strKind_is P w k tk
  have hsc : (Value.str k tk).scannable = true := rfl
  have hel : ElemsOf (PySem.strKind P w) qs.toList := goodT_elems g
  unfold setAddHashed setAddHashedIn
  refine wpAny_holding (wpAny_bind (wpAny_setState_of e0 ed hf ?_))
  dsimp only
  rw [byScan_of hsc hb hel]
  simp only [↓reduceIte]
  unfold setAddByScan
  refine wpAny_bind (wpAny_bind (wpAny_rule (wpAny_bind (wpAny_setScan_of hkey e0 ed hf hel ?_))))
  cases hfi : List.findIdx? (fun x => (PySem.strKind P w).is k x.2) qs.toList with
  | some j =>
    dsimp only
    obtain ⟨hj, pj, _⟩ := List.findIdx?_eq_some_iff_getElem.mp hfi
    have hk : M k := (hm k).2 ((goodT_mem (P := P) (w := w) g k).2 ⟨qs.toList[j], List.getElem_mem hj, pj⟩)
    exact wpAny_pure (wpAny_pure (hQ s.heap _ (Heap.SameBut.refl a s.heap) ⟨ob, qs, v0, tb, e0, ex, ed, g, nd, fun i => by
      rw [← hm i]
      exact ⟨fun z => z.elim id (fun q => q ▸ hk), .inl⟩, hb, hf, by omega, hr, hl⟩))
  | none =>
    dsimp only
    have hnk : k ∉ qs.toList.map keyT := fun z => by
      obtain ⟨x, hx, q⟩ := (goodT_mem (P := P) (w := w) g k).1 z
      have c := List.findIdx?_eq_none_iff.mp hfi x hx
      rw [q] at c
      cases c
    have hgw : ∀ (b : Bool) {s₁ : Shared} {Q' : Unit → Shared → Prop}, Q' () s₁ → wpAny (model P w) A (match b with | true => rule "set.scan.the-table-gave-way" | false => pure ()) Q' E s₁ := fun b s₁ Q' q => by
      cases b <;> first | exact wpAny_pure q | exact wpAny_rule q
    have pm := layNew_perm tb qs ((PySem.strKind P w).hash k) (.str k tk)
    have f1 := layNew_fits tb qs ((PySem.strKind P w).hash k) (.str k tk)
    have r1 := layNew_ris tb qs ((PySem.strKind P w).hash k) (.str k tk) hr
    have l1 := layNew_led tb qs ((PySem.strKind P w).hash k) (.str k tk)
    generalize layNew tb qs ((PySem.strKind P w).hash k) (.str k tk) = Z at pm f1 r1 l1 ⊢
    obtain ⟨q1, t1, wasDummy, gave⟩ := Z
    dsimp only at pm f1 r1 l1 ⊢
    rw [Array.toList_push] at pm
    have pc : q1.toList.Perm (((PySem.strKind P w).hash k, Value.str k tk) :: qs.toList) := pm.trans (List.perm_append_singleton _ _)
    have pk : (q1.toList.map keyT).Perm (k :: qs.toList.map keyT) := pc.map keyT
    have g1 : ∀ x ∈ q1.toList, GoodT w x := fun x hx => by
      rcases List.mem_cons.mp (pc.mem_iff.mp hx) with z | z
      · rw [z]; exact ⟨k, tk, rfl, rfl⟩
      · exact g x z
    have nd1 : (q1.toList.map keyT).Nodup := pk.nodup_iff.mpr (List.nodup_cons.mpr ⟨hnk, nd⟩)
    have m1 : ∀ i, (M i ∨ i = k) ↔ i ∈ q1.toList.map keyT := fun i => by
      rw [hm i, pk.mem_iff, List.mem_cons]
      exact Or.comm
    have sz : q1.size = qs.size + 1 := by rw [← Array.length_toList, pc.length_eq, List.length_cons, Array.length_toList]
    have b1 : q1.size < scanBound := by omega
    have led : w.params.followText "set-order" = true ∨ t1.led = true := hl.imp id fun z => by rw [l1]; exact z
    have fin : ∀ h', Heap.SameBut a s.heap h' → SetT w h' a (fun j => M j ∨ j = k) q1.size → Q true { s with heap := h' } := fun h' sb r => by
      refine hQ h' _ sb ?_
      obtain ⟨o', q', v', t', c1, c2, c3, c4, c5, c6, c7, c8, c9, c10⟩ := r
      exact ⟨o', q', v', t', c1, c2, c3, c4, c5, c6, c7, c8, by omega, c10⟩
    refine wpAny_bind (hgw _ ?_)
    split
    · refine wpAny_bind ?_
      rw [hashByValue_scannable 8 hsc]
      refine wpAny_pure (setT_tail ?_ e0 ex ed g1 nd1 m1 b1 ?_ ?_ ?_ ?_)
      · intro b s₁ Q' q; cases b <;> first | exact wpAny_pure q | exact wpAny_rule q
      · first | (split <;> first | exact f1 | exact SetTable.fits_plain_off f1) | exact f1
      · first | (split <;> exact r1) | exact r1
      · first | (split <;> exact led) | exact led
      · intro h' sb r; dsimp only; exact wpAny_pure (fin h' sb r)
    · refine wpAny_bind (wpAny_pure ?_)
      simp only [↓reduceIte]
      refine setT_tail ?_ e0 ex ed g1 nd1 m1 b1 f1 r1 led ?_
      · intro b s₁ Q' q; cases b <;> first | exact wpAny_pure q | exact wpAny_rule q
      · intro h' sb r; dsimp only; exact wpAny_pure (fin h' sb r)
end
/-- the members of what stands ahead of place i -/
def MT (xs : List Str) (i : Nat) (k : Str) : Prop := k ∈ xs.take i
section
variable {prog : Program} {w : World} {A : Around} {R : Result → Shared → Prop} {I : Addr} {fp wr : List Addr} {G : Array GenState → Array GenState → Prop} {n : Nat} {P : Nat → Value → Prop} {St : Nat → Shared → Prop}
theorem loopT (W : WalksS prog w A.in1 I fp wr G n P St) (S : Addr) (hSf : S ∉ fp) (xs : List Str) (hsz : xs.length = n) (hb : n + 1 < scanBound)
    (hval : ∀ i v, P i v → ∃ t, v = .str (xs.getD i Str.empty) t) :
    ∀ (k i : Nat) (s : Shared), n - i = k → i ≤ n → St i s → SetT w s.heap S (MT xs i) i →
      (∀ s', Moved (S :: wr) G s s' → SetT w s'.heap S (MT xs n) n → R (.ok (.ret .none)) s') →
      codeAny (model prog w) A (.builtin "set.update.loop" ⟨[.ref S, .ref I], []⟩) R s := by
  have hSw : S ∉ wr := fun q => hSf (W.sub _ q)
  have hsub : ∀ b ∈ wr, b ∈ S :: wr := fun b q => List.mem_cons_of_mem _ q
  intro k
  induction k with
  | zero =>
    intro i s hk hi hst hS hR
    have hin : i = n := by omega
    subst hin
    refine codeAny_builtin PyProof.Rows.F.entry_set_update_loop ?_
    rw [Around.under_plainId PyProof.Rows.F.plain_set_update_loop _]
    show wpAny _ A.in1 (pyNext (.ref I) >>= _) _ _ s
    exact wpAny_bind (W.done s _ _ hst fun s' hm => by
      show wpAny _ A.in1 (PySem.ret Value.none) _ _ s'
      exact wpAny_pure (hR s' (hm.mono hsub) (hS.at' fun ob q => hm.heap S _ hSw q)))
  | succ k ih =>
    intro i s hk hi hst hS hR
    have hlt : i < n := by omega
    refine codeAny_builtin PyProof.Rows.F.entry_set_update_loop ?_
    rw [Around.under_plainId PyProof.Rows.F.plain_set_update_loop _]
    show wpAny _ A.in1 (pyNext (.ref I) >>= _) _ _ s
    refine wpAny_bind (W.item i s _ _ hlt hst fun v s' hP hst' hm => ?_)
    obtain ⟨t, rfl⟩ := hval i v hP
    have hS' : SetT w s'.heap S (MT xs i) i := hS.at' fun ob q => hm.heap S _ hSw q
    show wpAny _ A.in1 (holding [Value.str (xs.getD i Str.empty) t] (setAdd S (.str (xs.getD i Str.empty) t)) >>= _) _ _ s'
    refine wpAny_bind (wpAny_holding ?_)
    unfold setAdd
    refine wpAny_holding (wpAny_bind ((PySem.strKind prog w).pyHash (k := xs.getD i Str.empty) (strKind_is _ _ _ _) ?_))
    refine setT_add (s := { s' with toks := s'.toks + 1 }) hS' (by omega) fun h' b hsb hS2 => ?_
    have hSi : SetT w h' S (MT xs (i + 1)) (i + 1) := by
      obtain ⟨o', q', v', t', c1, c2, c3, c4, c5, c6, c7⟩ := hS2
      refine ⟨o', q', v', t', c1, c2, c3, c4, c5, fun j => ?_, c7⟩
      rw [← c6 j]
      unfold MT
      have hi' : i < xs.length := by omega
      rw [List.take_add_one, List.getElem?_eq_getElem hi', List.mem_append, List.getD_eq_getElem?_getD, List.getElem?_eq_getElem hi']
      simp
    refine wpAny_pure ⟨plainId_quiet PyProof.Rows.F.plain_set_update_loop _, ih (i + 1) _ (by omega) hlt (W.frame _ s' _ _ hst' (Nat.le_succ _) fun b hb o q => ?_) hSi fun s'' hm'' hS'' => ?_⟩
    · rw [hsb.2 b (fun z : b = S => hSf (by rw [← z]; exact hb))]; exact q
    · refine hR s'' (Moved.trans W.gtrans ((hm.mono hsub).then_heap (Nat.le_succ _) fun b o hb q => ?_) hm'') hS''
      rw [hsb.2 b (fun z : b = S => hb (by rw [z]; exact List.mem_cons_self))]; exact q
end
end Ed
end
section
namespace Ed
open PySem PySem.Spec L2 PyProof.Rows
section
variable {P : Program} {w : World} {A : Around} {E : Value → Shared → Prop} {s : Shared}
/-- a new set -/
abbrev ob0 (w : World) : Obj := { cls := .type "set", dict := none, data := .set #[] 0 (.fresh 0 0 (!w.params.followText "set-order")) }
theorem setT_fresh {h : Heap} {a : Addr} (w : World) (q : h.get? a = some (ob0 w)) (xs : List Str) : SetT w h a (MT xs 0) 0 := by
  have hl : w.params.followText "set-order" = true ∨ (SetTable.fresh 0 0 (!w.params.followText "set-order")).led = true := by
    cases z : w.params.followText "set-order" with
    | true => exact .inl rfl
    | false => exact .inr rfl
  exact ⟨_, #[], 0, _, q, ⟨rfl, rfl, rfl⟩, rfl, (fun x hx => absurd hx (by simp)), List.Pairwise.nil, (fun k => by unfold MT; simp), (by unfold scanBound; decide), rfl, Nat.le_refl _, List.Pairwise.nil, hl⟩
set_option maxHeartbeats 3200000 in
theorem call_setT {l : Addr} {vs : Array Value} {xs : List Str} {Q : Value → Shared → Prop} (hh : A.handled = none) (hl : s.heap.IsList l vs) (hi : PyProof.Rows.StrsAre vs.toList xs) (hb : xs.length + 1 < scanBound)
    (fin : ∀ (h' : Heap) (tk : Nat), SetT w h' s.heap.objs.size (MT xs xs.length) xs.length → (∀ b o, s.heap.get? b = some o → h'.get? b = some o) → Q (.ref s.heap.objs.size) { s with heap := h', toks := tk }) :
    wpAny (model P w) A (call (.type "set") [.ref l]) Q E s := by
  obtain ⟨c, r0, mro⟩ := PySem.F.called_set.mro
  have m0 := PySem.F.called_set.made; have m1 := PySem.F.called_set.sub
  refine wpAny_call (codeAny_of_tree (show wpAny _ _ (callAny (.type "set") _) _ _ _ from ?_))
  refine wpAny_pure ⟨Code.quiet_builtin _ (by decide +kernel), codeAny_builtin PySem.F.entry_type_call ?_⟩
  rw [Around.under_plain (weight_type_call_type "set" [.ref l] []) rfl]
  have m2 := PySem.F.called_set.notType; have m3 := PySem.F.called_set.canCreate; have m4 := PySem.F.typeCall_set_1 (.ref l)
  repeat (any_goals first | assumption | wp_step)
  refine codeAny_mono (code_set_led1 (.ref l) (E := E) (Q₁ := fun v s₁ => v = .ref s.heap.objs.size ∧ s₁ = { s with heap := s.heap.push (ob0 w) }) ⟨rfl, rfl⟩) fun r s₁ hr => ?_
  cases r with
  | error x => exact hr
  | ok fl =>
    cases fl with
    | ret v =>
      obtain ⟨rfl, rfl⟩ := hr
      have gS : (s.heap.push (ob0 w)).get? s.heap.objs.size = some (ob0 w) := Heap.get?_push_size _ rfl
      have tS : Shared.TypeIs { s with heap := s.heap.push (ob0 w) } (.ref s.heap.objs.size) "set" := ⟨_, gS, rfl⟩
      have n1 := PySem.F.called_set.init.lookup; have n2 := PySem.F.called_set.init.bind (.ref s.heap.objs.size)
      repeat (any_goals first | assumption | wp_step)
      refine codeAny_mono (codeAny_call_builtin (R := wants (fun r s₂ => r = .none ∧ ∃ h' tk, s₂ = { s with heap := h', toks := tk } ∧ SetT w h' s.heap.objs.size (MT xs xs.length) xs.length ∧
          (∀ b o, s.heap.get? b = some o → h'.get? b = some o)) E) PySem.F.called_set.init.plain PySem.F.entry_set_init (check_set_init_1 tS ?_)) fun r₂ s₂ q2 => ?_
      · obtain ⟨ob, hob, k1, nl, k2⟩ := hl
        obtain ⟨oc, od, oa, osl⟩ := ob
        simp only at k1 k2
        subst k1; subst k2
        have hob' : (s.heap.push (ob0 w)).get? l = some { cls := .type "list", dict := od, data := .seq vs nl, slots := osl } := Heap.get?_push_of_some _ hob
        have p1 := PySem.F.sub_list_set; have p2 := PySem.F.sub_list_frozenset
        have p3 : (Value.type "list" == Value.type "dict") = false := by decide
        have li : (s.heap.push (ob0 w)).IsList l vs := ⟨_, hob', rfl, nl, rfl⟩
        unfold Builtin.«set.__init__» noKeywords Builtin.Frozenset.updateFrom
        generalize hG : pyIter = GG
        wp_walk
        subst hG
        refine wpAny_pyIter_list li (wpAny_bind (wpAny_runValue ?_))
        have lt : l < s.heap.objs.size := Heap.lt_size hob
        have hd3 : A.in1.in1.in1.handled = none := by simp [hh]
        have ne1 : l ≠ (s.heap.push (ob0 w)).objs.size := by rw [Heap.size_push]; exact Nat.ne_of_lt (Nat.lt_succ_of_lt lt)
        have nf : s.heap.objs.size ∉ [(s.heap.push (ob0 w)).objs.size, l] := by
          rw [Heap.size_push]; simp only [List.mem_cons, List.not_mem_nil, or_false, not_or]; exact ⟨Nat.ne_of_lt (Nat.lt_succ_self _), Nat.ne_of_gt lt⟩
        have sz : xs.length = vs.size := by rw [← StrsAre.len_eq hi, Array.length_toList]
        have vl : ∀ (i : Nat) (v : Value), vs[i]? = some v → ∃ t, v = .str (xs.getD i Str.empty) t := fun i v hv => SS.strs_at hi i v (by rw [Array.getElem?_toList]; exact hv)
        refine loopT ((Walks.list hd3 _ l ne1 vs).toS) s.heap.objs.size nf xs sz (by rw [← sz]; exact hb) vl (vs.size - 0) 0 _ (by omega) (Nat.zero_le _) ⟨⟨_, Heap.get?_push_size _ rfl, rfl, rfl⟩, (li.push _)⟩ (setT_fresh w (Heap.get?_push_of_some _ gS) xs) ?hR
        case hR =>
          intro s' hm q'
          obtain ⟨h', g', d', tk', os'⟩ := s'
          obtain rfl : g' = s.gens := hm.gens
          obtain rfl : d' = s.drawn := hm.drawn
          obtain rfl : os' = s.os := hm.os
          show wpAny _ _ _ _ _ _
          refine wpAny_pure (show wpAny _ _ (PySem.ret Value.none) _ _ _ from ?_)
          rw [← sz] at q'
          refine wpAny_pure ⟨rfl, h', tk', rfl, q', fun b o q => ?_⟩
          have lb : b < s.heap.objs.size := Heap.lt_size q
          have c1 : b ≠ s.heap.objs.size := Nat.ne_of_lt lb
          have c2 : b ≠ (s.heap.push (ob0 w)).objs.size := by rw [Heap.size_push]; exact Nat.ne_of_lt (Nat.lt_succ_of_lt lb)
          exact hm.heap b o (by simp only [List.mem_cons, List.not_mem_nil, or_false, not_or]; exact ⟨c1, c2⟩) (Heap.get?_push_of_some _ (Heap.get?_push_of_some _ q))
      · cases r₂ with
        | error x => exact q2
        | ok f2 =>
          cases f2 with
          | ret r =>
            obtain ⟨rfl, h', tk, rfl, c1, c2⟩ := q2
            repeat (any_goals first | assumption | wp_step)
            exact fin _ _ c1 c2
          | _ => exact q2.elim
    | _ => exact hr.elim
end
end Ed
end
section
namespace Ed
open PySem PySem.Spec L2 PyProof.Rows
section
variable {P : Program} {w : World} {A : Around} {E : Value → Shared → Prop} {s : Shared}
theorem sortedT {a : Addr} {M : Str → Prop} {n : Nat} {Q : Value → Shared → Prop} (R : SetT w s.heap a M n) (hh : A.handled = none) (h64 : n < 64)
    (hQ : ∀ s' p (out : Array Value) (c : Nat) (ys : List Str), (∀ b o, s.heap.get? b = some o → s'.heap.get? b = some o) → s'.gens = s.gens → s'.os = s.os → s.heap.objs.size ≤ p →
      s'.heap.get? p = some (seqObj "list" out c) → StrsAre out.toList ys → ys.Nodup → sortedS ys = true → (∀ k, k ∈ ys ↔ M k) → ys.length ≤ n → Q (.ref p) s') :
    wpAny (model P w) A (call (.builtin "sorted") [.ref a]) Q E s := by
  obtain ⟨ob, qs, v0, tb, e0, ex, ed, g, nd, hm, hb, hf, hn, hr, hl⟩ := R
  refine Calls.call_function_entry kind_sorted plain_sorted entry_sorted (args_sorted1 _) (show wpAny _ _ (Builtin.«sorted» _) _ _ _ from ?_)
  unfold Builtin.«sorted»
  refine wpAny_bind (m := checkCount "sorted" 1 1 _) (wpAny_pure (wpAny_bind (collect_set (A := A.in1) hh ⟨ob, e0, ex.1, ed⟩ hf hb hr hl fun s1 vs k1 hz g1 o1 pm => ?_)))
  have vl : vs.length = qs.size := by rw [pm.length_eq, List.length_map, Array.length_toList]
  have v64 : vs.length < 64 := by omega
  have sA : StrsAre vs (vs.map strOf) := strsAre_map vs fun v hv => by
    obtain ⟨x, hx, q⟩ := List.mem_map.mp (pm.mem_iff.mp hv)
    obtain ⟨k, tk, c1, _⟩ := g x hx
    exact ⟨k, tk, by rw [← q]; exact c1⟩
  have pk : (vs.map strOf).Perm (qs.toList.map keyT) := by
    have q := pm.map strOf
    rw [List.map_map] at q
    refine q.trans (.of_eq (List.map_congr_left fun x hx => ?_))
    obtain ⟨k, tk, c1, _⟩ := g x hx
    show strOf x.2 = keyT x
    unfold keyT
    rw [c1]
    rfl
  refine wpAny_bind (wpAny_newList ?_ (by rw [sizeLine_eq]; omega))
  have oL : (s1.heap.push (seqObj "list" vs.toArray 0)).get? s1.heap.objs.size = some (seqObj "list" vs.toArray 0) := Heap.get?_push_size _ rfl
  refine wpAny_bind (wpAny_holding (wpAny_call_entry slot_list_sort ⟨_, oL, rfl⟩ entry_list_sort (list_sort_treeK strKind_oneLt oL sA.keysOf (fun v₁ v₂ rest q => keyKind_strs (by rw [← q]; exact sA)) v64 fun st' a1 a2 => ⟨_, rfl, ?_⟩) (args_list_sort _)))
  obtain ⟨ys, y1, y2, y3⟩ := sorted_out_str sA a1 a2
  obtain ⟨c, hc⟩ := sortedHeap_at (vs := vs) (out := (arrOf st').map (·.2)) oL
  have pn : ys.Perm (qs.toList.map keyT) := y2.trans pk
  refine wpAny_pure ⟨_, rfl, hQ _ s1.heap.objs.size _ c ys (fun b u q => ?_) g1 o1 hz hc y1 (pn.nodup_iff.mpr nd) y3 (fun k => by rw [pn.mem_iff, ← hm k]) (by rw [pn.length_eq, List.length_map, Array.length_toList]; exact hn)⟩
  have q' := k1 b u q
  have lt := Heap.lt_size q'
  show (sortedHeap (s1.heap.push (seqObj "list" vs.toArray 0)) s1.heap.objs.size vs _).get? b = some u
  rw [sortedHeap_old (Nat.ne_of_lt lt) (by rw [size_push']; exact Nat.lt_succ_of_lt lt)]
  exact Heap.get?_push_of_some _ q'
end
/-- the set as a tracked object -/
def SetTO (w : World) (a : Addr) (M : Str → Prop) (n : Nat) : HO := .ext fun h => SetT w h a M n
def rSetT (K : PySem.W.Frag) (w : World) : List V → Hp → VK → Prop := fun xs H Q => ∃ (a : Addr) (ys : List Str), xs = [V.ref a] ∧ SqL K H a (ys.map V.str) ∧ ys.length < 64 ∧ ∀ p, H p = none → Q (.ref p) (upd H p (SetTO w p (MT ys ys.length) ys.length))
def rSortT (w : World) : List V → Hp → VK → Prop := fun xs H Q => ∃ (a : Addr) (M : Str → Prop) (n : Nat), xs = [V.ref a] ∧ H a = some (SetTO w a M n) ∧ n < 64 ∧
  ∀ (ys : List Str) (p : Addr), ys.Nodup → sortedS ys = true → (∀ k, k ∈ ys ↔ M k) → H p = none → Q (.ref p) (upd H p (.lst (ys.map V.str)))
section
variable {X : Cx}
theorem setTO_new {w : World} {P : Program} {H : Hp} {h : Heap} {a : Addr} {M : Str → Prop} {n : Nat} (R : SetT w h a M n) : ObjOk P w H h a (SetTO w a M n) := by
  have ⟨ob, _, _, _, e0, _⟩ := R
  exact ⟨R, ⟨ob, e0⟩, fun h1 h2 p k => SetT.at' p k⟩
theorem cr_setT (hc : X.calm = true) : CallR X (.type "set") (rSetT X.K X.w) := by
  intro pins s σ H vs us Q I r q
  obtain ⟨a, ys, rfl, hs, h64, q⟩ := q
  obtain ⟨its, rv, hl, _⟩ := I.list hs
  rw [Vals.ref1 r]
  have hlen := rv.length
  rw [List.length_map] at hlen
  refine call_setT (I.ok.hd hc) hl.isList rv.strs (by unfold scanBound; omega) fun h' tk c1 c2 => ?_
  exact ⟨.ref _, upd H s.heap.objs.size (SetTO X.w s.heap.objs.size (MT ys ys.length) ys.length), I.laid (t' := tk) c2 (Nat.le_refl _) (setTO_new c1), rfl, q _ (I.hok.fresh (Nat.le_refl _))⟩
theorem cr_sortSetT (hc : X.calm = true) : CallR X (.builtin "sorted") (rSortT X.w) := by
  intro pins s σ H vs us Q I r q
  obtain ⟨a, M, n, rfl, ha, h64, q⟩ := q
  have R : SetT X.w s.heap a M n := (I.hok a _ ha).1
  rw [Vals.ref1 r]
  refine sortedT R (I.ok.hd hc) h64 fun s' p out c ys k g o hp hg hi nd hs hm hl => ?_
  have hlen : (ys.map V.str).length ≤ sizeLine := by rw [List.length_map, sizeLine_eq]; omega
  have hn : H p = none := I.hok.fresh hp
  have J : Inv X pins σ (upd H p (.lst (ys.map V.str))) { s with heap := s'.heap, gens := s'.gens, drawn := s'.drawn, toks := s'.toks } :=
    I.call (ch := []) (Un.laid k hp hn) (I.hok.laid k hp ⟨hlen, out.toList, c, vals_of_strs hi, hg⟩) (by rw [g]; exact I.bare) (fun _ z => nomatch z)
  have e : s' = { s with heap := s'.heap, gens := s'.gens, drawn := s'.drawn, toks := s'.toks } := by
    cases s'; cases s; cases o; rfl
  rw [e]
  exact ⟨.ref p, _, J, rfl, q ys p nd hs hm hn⟩
end
end Ed
end
section
namespace Ed
open PySem PySem.Spec L2 TL PyProof.Rows
def leS (a b : Str) : Bool := !decide (tl b < tl a)
theorem leS_iff {a b : Str} : leS a b = true ↔ tl a ≤ tl b := by
  unfold leS
  rw [Bool.not_eq_true', decide_eq_false_iff_not]
  exact Iff.rfl
theorem leS_trans {a b c : Str} (h : leS a b = true) (h2 : leS b c = true) : leS a c = true := leS_iff.mpr (List.le_trans (leS_iff.mp h) (leS_iff.mp h2))
theorem leS_anti {a b : Str} (h : leS a b = true) (h2 : leS b a = true) : a = b := ext_tl (List.le_antisymm (leS_iff.mp h) (leS_iff.mp h2))
theorem leS_total (a b : Str) : leS a b = true ∨ leS b a = true := by
  rcases List.le_total (tl a) (tl b) with h | h
  · exact .inl (leS_iff.mpr h)
  · exact .inr (leS_iff.mpr h)
theorem uniqS : ∀ {l m : List Str}, l.Perm m → l.Pairwise (fun a b => leS a b = true) → m.Pairwise (fun a b => leS a b = true) → l = m
  | [], m, p, _, _ => (List.nil_perm.mp p).symm
  | a :: l, [], p, _, _ => absurd p.length_eq (by simp)
  | a :: l, b :: m, p, h1, h2 => by
    rw [List.pairwise_cons] at h1 h2
    have e : a = b := by
      rcases List.mem_cons.mp (p.mem_iff.mp (List.mem_cons_self (a := a))) with z | z
      · exact z
      · rcases List.mem_cons.mp (p.mem_iff.mpr (List.mem_cons_self (a := b))) with y | y
        · exact y.symm
        · exact leS_anti (h1.1 b y) (h2.1 a z)
    subst e
    rw [uniqS (List.perm_cons a |>.mp p) h1.2 h2.2]
theorem risingS_pw : ∀ (p : Str) (l : List Str), risingS p l = true → (p :: l).Pairwise (fun a b => leS a b = true)
  | p, [], _ => by simp
  | p, x :: r, h => by
    have h : (!ltCps x.cps.toList p.cps.toList && risingS x r) = true := h
    rw [Bool.and_eq_true, ltCps_eq] at h
    have ih := risingS_pw x r h.2
    have hx : leS p x = true := h.1
    refine List.pairwise_cons.mpr ⟨fun y hy => ?_, ih⟩
    rcases List.mem_cons.mp hy with rfl | hy
    · exact hx
    · exact leS_trans hx ((List.pairwise_cons.mp ih).1 y hy)
theorem sortedS_pw : ∀ {l : List Str}, sortedS l = true → l.Pairwise (fun a b => leS a b = true)
  | [], _ => .nil
  | x :: r, h => risingS_pw x r h
def srt (l : List Str) : List Str := l.mergeSort leS
theorem srt_perm (l : List Str) : (srt l).Perm l := List.mergeSort_perm l leS
theorem srt_pw (l : List Str) : (srt l).Pairwise (fun a b => leS a b = true) := List.pairwise_mergeSort (le := leS) (fun a b c => leS_trans) (fun a b => by
  rcases leS_total a b with h | h <;> simp [h]) l
theorem srt_is {l m : List Str} (p : m.Perm l) (h : sortedS m = true) : m = srt l := uniqS (p.trans (srt_perm l).symm) (sortedS_pw h) (srt_pw l)
def dd : List Str → List Str
  | [] => []
  | x :: r => if x ∈ r then dd r else x :: dd r
theorem mem_dd (k : Str) : ∀ l : List Str, k ∈ dd l ↔ k ∈ l
  | [] => Iff.rfl
  | x :: r => by
    unfold dd
    by_cases h : x ∈ r
    · rw [if_pos h, mem_dd k r, List.mem_cons]
      exact ⟨.inr, fun z => z.elim (fun z => z ▸ h) id⟩
    · rw [if_neg h, List.mem_cons, List.mem_cons, mem_dd k r]
theorem nodup_dd : ∀ l : List Str, (dd l).Nodup
  | [] => .nil
  | x :: r => by
    unfold dd
    by_cases h : x ∈ r
    · rw [if_pos h]
      exact nodup_dd r
    · rw [if_neg h]
      exact List.nodup_cons.mpr ⟨fun z => h ((mem_dd x r).mp z), nodup_dd r⟩
theorem srtd_is {l m : List Str} (nd : m.Nodup) (h : sortedS m = true) (hm : ∀ k, k ∈ m ↔ k ∈ l) : m = srt (dd l) :=
  srt_is ((List.perm_ext_iff_of_nodup nd (nodup_dd l)).mpr fun k => (hm k).trans (mem_dd k l).symm) h
def fSortS : List D → Option Rv
  | [.list ds] => (strsOf ds).bind fun ys => if ys.length < 64 then some (.ow (.list ((srt ys).map .str))) else none
  | _ => none
theorem fSortS_ok {K : PySem.W.Frag} : CallOk K (rSortedS K) fSortS := fun F H xs ds z Q hd hr h q => by
  unfold fSortS at h
  split at h
  · obtain ⟨ys, h1, h2⟩ := Option.bind_eq_some_iff.mp h
    split at h2
    · rename_i hl
      cases h2
      rw [strsOf_map h1] at hr
      obtain ⟨v, rfl, r⟩ := hr.one
      obtain ⟨a, vs, rfl, e, r⟩ := r.vLst
      obtain ⟨rfl, hy⟩ := rp_strs r
      refine ⟨a, ys, rfl, .inl e, hl, fun m p pm hs hp => ?_⟩
      rw [srt_is pm hs]
      exact retL hd (strs_rp fun y hy' => hy y ((srt_perm ys).mem_iff.mp hy')) hp q
    · cases h2
  · cases h
def fSortD : D → Option Rv
  | .list ds => (strsOf ds).bind fun ys => if ys.length < 64 then some (.ow (.list ((srt (dd ys)).map .str))) else none
  | _ => none
section
variable {X : Cx} {B : Bd} {W : Wx} {e : Expr} {c : C} {p q p' q' : Pos}
theorem d_sortset (hc : X.calm = true) (hg : Gl X "sorted") (hm : X.mg "sorted" = none) (hg2 : Gl X "set") (hm2 : X.mg "set" = none) (he : PE X e (tC X.K B W c))
    (hs1 : starEach [e] X.env = (false, eval e X.env) :: starEach [] X.env := by rfl) (hpl1 : (backTo q' (starEach [] X.env)).any (·.1) = false := by rfl)
    (hs2 : starEach [.Call (.Name "set" p') [e] [] q'] X.env = (false, eval (.Call (.Name "set" p') [e] [] q') X.env) :: starEach [] X.env := by rfl) (hpl2 : (backTo q (starEach [] X.env)).any (·.1) = false := by rfl)
    (hv1 : bootBuiltins "set" = some (.type "set") := by rfl) (hv2 : bootBuiltins "sorted" = some (.builtin "sorted") := by rfl) :
    PE X (.Call (.Name "sorted" p) [.Call (.Name "set" p') [e] [] q'] [] q) (tC X.K B W (cUn fSortD c)) :=
  PE_mono (pe_callB (cr_sortSetT hc) hg hm hv2 (pa_cons (pe_callTy (cr_setT hc) hg2 hm2 hv1 (pa_cons he pa_nil hs1) (by decide) (by decide) hs1 hpl1) pa_nil hs2) (by decide) (by decide) hs2 hpl2) fun s H Q ⟨F, r, es, hO⟩ =>
    tC_bind es hO fun p v F1 H1 p1 ok1 _ hO1 => by
      obtain ⟨⟨z, r2⟩, h1, h2⟩ := hO1.ofO
      obtain ⟨d, hd, h1⟩ := Option.bind_eq_some_iff.mp h1
      obtain ⟨z', hz, e⟩ := Option.map_eq_some_iff.mp h1
      cases e
      have rq := rsv_ok p1.es ok1 hd
      unfold fSortD at hz
      split at hz
      · obtain ⟨ys, g1, g2⟩ := Option.bind_eq_some_iff.mp hz
        split at g2
        · rename_i hl
          cases g2
          rw [strsOf_map g1] at rq
          obtain ⟨a, vs, rfl, e, rp⟩ := rq.vLst
          obtain ⟨rfl, hy⟩ := rp_strs rp
          refine (show rSetT X.K X.w [.ref a] H1 (fun y H2 => rSortT X.w [y] H2 Q) from ⟨a, ys, rfl, .inl e, hl, fun sp hsp => ⟨sp, _, _, rfl, upd_same, hl, fun m lp nd hs hm hlp => ?_⟩⟩)
          have e3 : m = srt (dd ys) := srtd_is nd hs fun k => (hm k).trans (by unfold MT; rw [List.take_length])
          rw [e3]
          have al1 := al_own (o := SetTO X.w sp (MT ys ys.length) ys.length) p1.es.dom hsp
          have all : RpAll X.K F1 (upd H1 sp (SetTO X.w sp (MT ys ys.length) ys.length)) ((srt (dd ys)).map V.str) ((srt (dd ys)).map .str) := strs_rp fun y hy' => hy y ((mem_dd y ys).mp ((srt_perm (dd ys)).mem_iff.mp hy'))
          obtain ⟨al2, n⟩ := new_lst al1.dom hlp all
          obtain ⟨a2, e1, n1, n2, n3⟩ := n
          exact al_end (p := p1) (x := .ow (.list ((srt (dd ys)).map .str))) (al1.trans al2) ⟨a2, e1, n1, by
            by_cases z : a2 = sp
            · rw [z]; exact hsp
            · rw [upd_ne z] at n2; exact n2, n3⟩ h2
        · cases g2
      · cases hz
end
def pairD (p : D × D) : D := .tuple [p.1, p.2]
def zipD : List D → Option (List D)
  | [.list xs, .list ys] => some ((xs.zip ys).map pairD)
  | [.tuple xs, .tuple ys] => some ((xs.zip ys).map pairD)
  | _ => none
def cZip (ca : CA) : CI := fun r => (ca r).bind fun p => ofO ((zipD p.1).bind fun ds => if ds.length ≤ 16777216 then some (ds, p.2) else none)
theorem zip_get {xs ys : List D} {i : Nat} {d : D} (h : ((xs.zip ys).map pairD)[i]? = some d) : ∃ x y, xs[i]? = some x ∧ ys[i]? = some y ∧ d = .tuple [x, y] := by
  rw [List.getElem?_map] at h
  obtain ⟨p, h1, rfl⟩ := Option.map_eq_some_iff.mp h
  obtain ⟨x, y⟩ := p
  obtain ⟨h2, h3⟩ := List.getElem?_zip_eq_some.mp h1
  exact ⟨x, y, h2, h3, rfl⟩
section
variable {K : PySem.W.Frag} {F : Fz} {H : Hp} {a b : Addr} {xs ys : List V} {ds es : List D}
theorem zip_step {F1 : Fz} {H1 : Hp} {v : V} {H' : Hp} {T : Addr} {x y : V} {d1 d2 : D} (dm : ∀ a, F1 a → H1 a ≠ none) (hT : H1 T = none) (r1 : Rp K F1 H1 x d1) (r2 : Rp K F1 H1 y d2) : ∃ F', Al F1 H1 F' (upd H1 T (.tup [x, y])) ∧ Rp K F' (upd H1 T (.tup [x, y])) (.ref T) (.tuple [d1, d2]) := by
  obtain ⟨al, n⟩ := new_tup (K := K) dm hT (.cons r1 (.cons r2 .nil))
  exact ⟨_, al, n⟩
theorem ItOk.zipL (fa : F a) (fb : F b) (ra : Rd H a (.lst xs)) (rb : Rd H b (.lst ys)) (h1 : RpAll K F H xs ds) (h2 : RpAll K F H ys es) (hl : ((ds.zip es).map pairD).length ≤ 16777216) : ItOk K F H (Itz K a b) ((ds.zip es).map pairD) := by
  have l1 := h1.length
  have l2 := h2.length
  refine ⟨fun F1 H1 e i hi => ?_, fun F1 H1 e => ?_, fun F1 H1 e dm i d hd x H' hy => ?_, hl⟩
  · rw [List.length_map, List.length_zip] at hi
    exact ⟨xs, ys, xs[i]'(by omega), ys[i]'(by omega), .inl (e.rd a _ fa ra), .inl (e.rd b _ fb rb), List.getElem?_eq_getElem _, List.getElem?_eq_getElem _⟩
  · refine ⟨xs, ys, .inl (e.rd a _ fa ra), .inl (e.rd b _ fb rb), ?_⟩
    rw [List.length_map, List.length_zip]
    omega
  · obtain ⟨T, u, v, rfl, hT, rfl, q1, q2⟩ := hy
    obtain ⟨d1, d2, g1, g2, rfl⟩ := zip_get hd
    obtain ⟨u', k1, k2⟩ := h1.at g1
    obtain ⟨v', k3, k4⟩ := h2.at g2
    have e1 := q1 xs (.inl (e.rd a _ fa ra))
    have e2 := q2 ys (.inl (e.rd b _ fb rb))
    rw [k1] at e1
    rw [k3] at e2
    cases e1
    cases e2
    exact zip_step (v := .non) (H' := H) dm hT (k2.ext e) (k4.ext e)
theorem ItOk.zipT (ka : (F a ∧ Rd H a (.tup xs)) ∨ KT K a xs) (kb : (F b ∧ Rd H b (.tup ys)) ∨ KT K b ys) (h1 : RpAll K F H xs ds) (h2 : RpAll K F H ys es) (hl : ((ds.zip es).map pairD).length ≤ 16777216) : ItOk K F H (RZ.ItzT K a b) ((ds.zip es).map pairD) := by
  have l1 := h1.length
  have l2 := h2.length
  have sa : ∀ F1 H1, Ext F H F1 H1 → SqT K H1 a xs := fun F1 H1 e => ka.elim (fun q => .inl (e.rd a _ q.1 q.2)) fun q => q.seq H1
  have sb : ∀ F1 H1, Ext F H F1 H1 → SqT K H1 b ys := fun F1 H1 e => kb.elim (fun q => .inl (e.rd b _ q.1 q.2)) fun q => q.seq H1
  refine ⟨fun F1 H1 e i hi => ?_, fun F1 H1 e => ?_, fun F1 H1 e dm i d hd x H' hy => ?_, hl⟩
  · rw [List.length_map, List.length_zip] at hi
    exact ⟨xs, ys, xs[i]'(by omega), ys[i]'(by omega), sa F1 H1 e, sb F1 H1 e, List.getElem?_eq_getElem _, List.getElem?_eq_getElem _⟩
  · refine ⟨xs, ys, sa F1 H1 e, sb F1 H1 e, ?_⟩
    rw [List.length_map, List.length_zip]
    omega
  · obtain ⟨T, u, v, rfl, hT, rfl, q1, q2⟩ := hy
    obtain ⟨d1, d2, g1, g2, rfl⟩ := zip_get hd
    obtain ⟨u', k1, k2⟩ := h1.at g1
    obtain ⟨v', k3, k4⟩ := h2.at g2
    have e1 := q1 xs (sa F1 H1 e)
    have e2 := q2 ys (sb F1 H1 e)
    rw [k1] at e1
    rw [k3] at e2
    cases e1
    cases e2
    exact zip_step (v := .non) (H' := H) dm hT (k2.ext e) (k4.ext e)
end
section
variable {X : Cx} {B : Bd} {W : Wx} {e e2 : Expr} {ca : CA} {p pos tpos : Pos} {elts : List Expr} {kk : Nat}
theorem d_zip (hg : Gl X "zip") (hm : X.mg "zip" = none) (ha : PA X [e, e2] (tA' X.K B W ca))
    (hs : starEach [e, e2] X.env = (false, eval e X.env) :: starEach [e2] X.env := by rfl) (hpl : (backTo pos (starEach [e2] X.env)).any (·.1) = false := by rfl) :
    PI X (.Tuple elts kk tpos) (.Call (.Name "zip" p) [e, e2] [] pos) (tI X.K B W (cZip ca)) := by
  refine PI_mono (RZ.pi_zipA hg hm ha hs hpl) fun s H R ⟨F, r, es, hO⟩ => tA_bind es hO fun q vs F1 H1 p1 ok1 hO1 => ?_
  obtain ⟨⟨zs, r2⟩, h1, h2⟩ := hO1.ofO
  obtain ⟨ds, hz, h1⟩ := Option.bind_eq_some_iff.mp h1
  split at h1
  · rename_i hl
    cases h1
    unfold zipD at hz
    split at hz
    · rename_i e
      rw [e] at ok1
      cases hz
      cases ok1 with
      | cons a1 r1 =>
        cases r1 with
        | cons a2 r2 =>
          cases r2
          cases a1 with
          | lst f1 d1 k1 =>
            cases a2 with
            | lst f2 d2 k2 => exact ⟨_, _, _, _, rfl, .inl ⟨.inl d1, .inl d2, h2 _ F1 H1 p1 (.zipL f1 f2 d1 d2 k1 k2 hl)⟩⟩
    · rename_i e
      rw [e] at ok1
      cases hz
      cases ok1 with
      | cons a1 r1 =>
        cases r1 with
        | cons a2 r2 =>
          cases r2
          cases a1 with
          | tup d1 k1 =>
            cases a2 with
            | tup d2 k2 => exact ⟨_, _, _, _, rfl, .inr ⟨d1.elim (fun q => .inl q.2) (fun q => q.seq H1), d2.elim (fun q => .inl q.2) (fun q => q.seq H1), h2 _ F1 H1 p1 (.zipT d1 d2 k1 k2 hl)⟩⟩
    · cases hz
  · cases h1
end
end Ed
end
section
open PySem PySem.Spec L2 Ed
namespace Wk73
def topS (i : Nat) : Stmt := PySem.Challenge.pw_packsworn_k73_manifests_and_texts.main.body.getD i (.Pass ⟨0, 0, 0, 0⟩)
abbrev s_is_name : Stmt := topS 3
abbrev N_is_name : List Str := ["thing", "sign"]
theorem sc_is_name : FnScope N_is_name ["thing"] (defScope s_is_name) := ⟨rfl, rfl, rfl, by decide +kernel, rfl, by decide +kernel, by decide +kernel⟩
def c_is_name : SC := cSeq (cIfS (cOrT (cNotT (cTruth (cUn (fIsi "str") (cNm 0)))) (cOrT (cNotT (cTestOf (cChain fLe fLe (cK (.int 1)) (cCall fLen (cBCons (cNm 0) (cBNil))) (cK (.int 20))))) (cTestOf (cBin fNin (cBin fIx (cNm 0) (cK (.int 0))) (cK (.str "abcdefghijklmnopqrstuvwxyz")))))) (cRet (cK (.bool false))) (cSkip)) (cRet (cCall fAll (cBCons (cLc [1] (aNm 1) (cIt (cFz (cNm 0))) (cYes) (cFz (cBin fIn (cNm 1) (cBin fAdd (cBin fAdd (cK (.str "abcdefghijklmnopqrstuvwxyz")) (cK (.str "0123456789"))) (cK (.str "-")))))) (cBNil))))
def r_is_name : List D → FOut := runF false 2 c_is_name
abbrev s_is_path : Stmt := topS 5
abbrev N_is_path : List Str := ["thing", "word"]
theorem sc_is_path : FnScope N_is_path ["thing"] (defScope s_is_path) := ⟨rfl, rfl, rfl, by decide +kernel, rfl, by decide +kernel, by decide +kernel⟩
def c_is_path : SC := cRet (cAnd (cUn (fIsi "str") (cNm 0)) (cCall fAll (cBCons (cLc [1] (aNm 1) (cIt (cFz (cMt fSplit (cNm 0) (cBCons (cK (.str "/")) (cBNil))))) (cYes) (cFz (cCallF 1 r_is_name (cACons (cFz (cNm 1)) (cANil))))) (cBNil))))
def r_is_path : List D → FOut := runF false 2 c_is_path
abbrev s_number_behind : Stmt := topS 9
abbrev N_number_behind : List Str := ["path", "begin", "word", "sign"]
theorem sc_number_behind : FnScope N_number_behind ["path", "begin"] (defScope s_number_behind) := ⟨rfl, rfl, rfl, by decide +kernel, rfl, by decide +kernel, by decide +kernel⟩
def c_number_behind : SC := cSeq (cSet 2 (cSl fSl (cNm 0) (cPSome (cCall fLen (cBCons (cNm 1) (cBNil)))) (cPNone))) (cSeq (cIfS (cOrT (cTestOf (cBin fNe (cSl fSl (cNm 0) (cPNone) (cPSome (cCall fLen (cBCons (cNm 1) (cBNil))))) (cNm 1))) (cNotT (cTestOf (cChain fLe fLe (cK (.int 1)) (cCall fLen (cBCons (cNm 2) (cBNil))) (cK (.int 19)))))) (cRet (cK .none)) (cSkip)) (cSeq (cIfS (cNotT (cTruth (cCall fAll (cBCons (cLc [3] (aNm 3) (cIt (cFz (cNm 2))) (cYes) (cFz (cBin fIn (cNm 3) (cK (.str "0123456789"))))) (cBNil))))) (cRet (cK .none)) (cSkip)) (cRet (cIf (cAndT (cTestOf (cBin fGt (cCall fLen (cBCons (cNm 2) (cBNil))) (cK (.int 1)))) (cTestOf (cBin fEq (cBin fIx (cNm 2) (cK (.int 0))) (cK (.str "0"))))) (cK .none) (cCall fInt (cBCons (cNm 2) (cBNil)))))))
def r_number_behind : List D → FOut := runF false 4 c_number_behind
abbrev s_is_shelf : Stmt := topS 10
abbrev N_is_shelf : List Str := ["path"]
theorem sc_is_shelf : FnScope N_is_shelf ["path"] (defScope s_is_shelf) := ⟨rfl, rfl, rfl, by decide +kernel, rfl, by decide +kernel, by decide +kernel⟩
def c_is_shelf : SC := cRet (cBin fIsnt (cCallF 2 r_number_behind (cACons (cFz (cNm 0)) (cACons (cFz (cK (.str "store/c"))) (cANil)))) (cK .none))
def r_is_shelf : List D → FOut := runF false 1 c_is_shelf
abbrev s_manifest_text : Stmt := topS 12
abbrev N_manifest_text : List Str := ["manifest", "entries", "lock", "lines", "path", "shelf"]
theorem sc_manifest_text : FnScope N_manifest_text ["manifest"] (defScope s_manifest_text) := ⟨rfl, rfl, rfl, by decide +kernel, rfl, by decide +kernel, by decide +kernel⟩
def c_manifest_text : SC := cSeq (cAsg (aTup 2 (aCons (aNm 1) (aCons (aNm 2) (aNil)))) (cFz (cNm 0))) (cSeq (cSet 3 (cBin fAdd (cLst (cACons (cFz (cBin fAdd (cK (.str "entries ")) (cCall fStr (cBCons (cCall fLen (cBCons (cNm 1) (cBNil))) (cBNil))))) (cANil))) (cLc [4, 5] (aTup 2 (aCons (aNm 4) (aCons (aNm 5) (aNil)))) (cIt (cFz (cNm 1))) (cYes) (cFz (cBin fAdd (cBin fAdd (cNm 4) (cK (.str " "))) (cNm 5)))))) (cRet (cMt fJoin (cK (.str "\n")) (cBCons (cBin fAdd (cNm 3) (cLst (cACons (cFz (cBin fAdd (cK (.str "lock ")) (cIf (cTestOf (cBin fIs (cNm 2) (cK .none))) (cK (.str "-")) (cNm 2)))) (cANil)))) (cBNil)))))
def r_manifest_text : List D → FOut := runF false 6 c_manifest_text
abbrev s_read_entry : Stmt := topS 13
abbrev N_read_entry : List Str := ["line", "words"]
theorem sc_read_entry : FnScope N_read_entry ["line"] (defScope s_read_entry) := ⟨rfl, rfl, rfl, by decide +kernel, rfl, by decide +kernel, by decide +kernel⟩
def c_read_entry : SC := cSeq (cSet 1 (cCall fTuple (cBCons (cMt fSplit (cNm 0) (cBCons (cK (.str " ")) (cBNil))) (cBNil)))) (cRet (cIf (cAndT (cTestOf (cBin fEq (cCall fLen (cBCons (cNm 1) (cBNil))) (cK (.int 2)))) (cAndT (cTruth (cCallF 1 r_is_path (cACons (cFz (cBin fIx (cNm 1) (cK (.int 0)))) (cANil)))) (cTruth (cCallF 1 r_is_shelf (cACons (cFz (cBin fIx (cNm 1) (cK (.int 1)))) (cANil)))))) (cNm 1) (cK .none)))
def r_read_entry : List D → FOut := runF false 2 c_read_entry
abbrev s_read_manifest : Stmt := topS 14
abbrev N_read_manifest : List Str := ["text", "lines", "entries", "words", "manifest", "line", "one", "other"]
theorem sc_read_manifest : FnScope N_read_manifest ["text"] (defScope s_read_manifest) := ⟨rfl, rfl, rfl, by decide +kernel, rfl, by decide +kernel, by decide +kernel⟩
def c_read_manifest : SC := cSeq (cSet 1 (cMt fSplit (cNm 0) (cBCons (cK (.str "\n")) (cBNil)))) (cSeq (cPar 2 3 (cACons (cFz (cCall fTuple (cBCons (cLc [5] (aNm 5) (cIt (cFz (cSl fSl (cNm 1) (cPSome (cK (.int 1))) (cPSome (cUn fNeg (cK (.int 1))))))) (cYes) (cFz (cCallF 1 r_read_entry (cACons (cFz (cNm 5)) (cANil))))) (cBNil)))) (cACons (cFz (cMt fSplit (cBin fIx (cNm 1) (cUn fNeg (cK (.int 1)))) (cBCons (cK (.str " ")) (cBNil)))) (cANil)))) (cSeq (cIfS (cOrT (cTestOf (cBin fIn (cK .none) (cNm 2))) (cOrT (cTestOf (cBin fNe (cCall fLen (cBCons (cNm 3) (cBNil))) (cK (.int 2)))) (cAndT (cTestOf (cBin fNe (cBin fIx (cNm 3) (cK (.int 1))) (cK (.str "-")))) (cNotT (cTruth (cCallF 1 r_is_shelf (cACons (cFz (cBin fIx (cNm 3) (cK (.int 1)))) (cANil)))))))) (cRet (cK .none)) (cSkip)) (cSeq (cIfS (cNotT (cTruth (cCall fAll (cBCons (cLc [6, 7] (aTup 2 (aCons (aNm 6) (aCons (aNm 7) (aNil)))) (cZip (cACons (cFz (cNm 2)) (cACons (cFz (cSl fSl (cNm 2) (cPSome (cK (.int 1))) (cPNone))) (cANil)))) (cYes) (cFz (cBin fLt (cBin fIx (cNm 6) (cK (.int 0))) (cBin fIx (cNm 7) (cK (.int 0)))))) (cBNil))))) (cRet (cK .none)) (cSkip)) (cSeq (cSet 4 (cTup (cACons (cFz (cNm 2)) (cACons (cFz (cIf (cTestOf (cBin fEq (cBin fIx (cNm 3) (cK (.int 1))) (cK (.str "-")))) (cK .none) (cBin fIx (cNm 3) (cK (.int 1))))) (cANil))))) (cRet (cIf (cTestOf (cBin fEq (cCallF 1 r_manifest_text (cACons (cFz (cNm 4)) (cANil))) (cNm 0))) (cNm 4) (cK .none)))))))
def r_read_manifest : List D → FOut := runF false 8 c_read_manifest
abbrev s_law_bag : Stmt := topS 16
abbrev N_law_bag : List Str := ["_law_script", "_law_cell"]
theorem sc_law_bag : FnScope N_law_bag ["_law_script"] (defScope s_law_bag) := ⟨rfl, rfl, rfl, by decide +kernel, rfl, by decide +kernel, by decide +kernel⟩
def c_law_bag : SC := cRet (cLst (cACons (cFz (cK (.int 0))) (cACons (cFz (cK (.int 1234567891))) (cACons (cFz (cK (.int 0))) (cACons (cFz (cLc [1] (aNm 1) (cIt (cFz (cSl fSl (cNm 0) (cPNone) (cPSome (cK (.int 63)))))) (cYes) (cFz (cCall fAbs (cBCons (cNm 1) (cBNil)))))) (cANil))))))
def r_law_bag : List D → FOut := runF false 2 c_law_bag
abbrev s_law_take : Stmt := topS 17
abbrev N_law_take : List Str := ["_law_bag_here", "_law_many", "_law_cell", "_law_stirred", "_law_value", "_law_begin", "_law_second"]
theorem sc_law_take : FnScope N_law_take ["_law_bag_here", "_law_many"] (defScope s_law_take) := ⟨rfl, rfl, rfl, by decide +kernel, rfl, by decide +kernel, by decide +kernel⟩
def c_law_take : SC := cSeq (cIfS (cTestOf (cBin fEq (cBin fIx (cNm 0) (cK (.int 0))) (cK (.int 0)))) (cSeq (cSet 2 (cBin fIx (cBin fAdd (cSl fSl (cBin fIx (cNm 0) (cK (.int 3))) (cPSome (cBin fIx (cNm 0) (cK (.int 2)))) (cPNone)) (cLst (cACons (cFz (cK (.int 0))) (cANil)))) (cK (.int 0)))) (cSeq (cAugIx atD iAdd setD 0 (cK (.int 2)) (cK (.int 1))) (cSeq (cIfS (cTestOf (cBin fGe (cNm 2) (cBin fPow (cK (.int 10)) (cK (.int 18))))) (cSetIx setD 0 (cFz (cNm 2)) (cK (.int 0))) (cSkip)) (cSeq (cSet 3 (cBin fAdd (cBin fAdd (cBin fMul2 (cBin fIx (cNm 0) (cK (.int 1))) (cK (.int 48271))) (cBin fMod (cCall fInt (cBCons (cNm 2) (cBNil))) (cK (.int 2147483647)))) (cBin fMul2 (cK (.int 7919)) (cBin fIx (cNm 0) (cK (.int 2)))))) (cSetIx setD 0 (cFz (cBin fMod (cCall fInt (cBCons (cNm 3) (cBNil))) (cK (.int 2147483647)))) (cK (.int 1))))))) (cSkip)) (cSeq (cIfS (cTestOf (cBin fGt (cBin fIx (cNm 0) (cK (.int 0))) (cK (.int 0)))) (cSeq (cSet 4 (cBin fMod (cCall fInt (cBCons (cBin fIx (cNm 0) (cK (.int 0))) (cBNil))) (cNm 1))) (cSeq (cSetIx setD 0 (cFz (cBin fDiv (cCall fInt (cBCons (cBin fIx (cNm 0) (cK (.int 0))) (cBNil))) (cNm 1))) (cK (.int 0))) (cRet (cNm 4)))) (cSkip)) (cSeq (cSet 5 (cBin fMod (cCall fInt (cBCons (cBin fMul2 (cBin fAdd (cBin fIx (cNm 0) (cK (.int 1))) (cK (.int 1))) (cK (.int 39373))) (cBNil))) (cK (.int 1000000007)))) (cSeq (cSet 6 (cBin fMod (cCall fInt (cBCons (cBin fMul2 (cBin fMod (cCall fInt (cBCons (cBin fMul2 (cNm 5) (cNm 5)) (cBNil))) (cK (.int 998244353))) (cK (.int 30011))) (cBNil))) (cK (.int 998244353)))) (cRet (cBin fMod (cCall fInt (cBCons (cBin fDiv (cNm 6) (cK (.int 7))) (cBNil))) (cNm 1))))))
def r_law_take : List D → FOut := runF true 7 c_law_take
abbrev s_law_one : Stmt := topS 18
abbrev N_law_one : List Str := ["_law_bag_here", "_law_things"]
theorem sc_law_one : FnScope N_law_one ["_law_bag_here", "_law_things"] (defScope s_law_one) := ⟨rfl, rfl, rfl, by decide +kernel, rfl, by decide +kernel, by decide +kernel⟩
def c_law_one : SC := cRet (cBin fIx (cNm 1) (cCallI 2 r_law_take 0 (cACons (cFz (cCall fLen (cBCons (cNm 1) (cBNil)))) (cANil))))
def r_law_one : List D → FOut := runF true 2 c_law_one
abbrev s_law_mixed : Stmt := topS 19
abbrev N_law_mixed : List Str := ["_law_bag_here", "_law_things", "_law_found", "_law_thing"]
theorem sc_law_mixed : FnScope N_law_mixed ["_law_bag_here", "_law_things"] (defScope s_law_mixed) := ⟨rfl, rfl, rfl, by decide +kernel, rfl, by decide +kernel, by decide +kernel⟩
def c_law_mixed : SC := cSeq (cSet 2 (cLst (cANil))) (cSeq (cFor (aNm 3) (cIt (cFz (cNm 1))) (cExp (cMut isL fInsert 2 (cACons (cFz (cCallI 2 r_law_take 0 (cACons (cFz (cBin fAdd (cCall fLen (cBCons (cNm 2) (cBNil))) (cK (.int 1)))) (cANil)))) (cACons (cFz (cNm 3)) (cANil)))))) (cRet (cNm 2)))
def r_law_mixed : List D → FOut := runF true 4 c_law_mixed
abbrev s_law_alike : Stmt := topS 20
abbrev N_law_alike : List Str := ["_law_found", "_law_due"]
theorem sc_law_alike : FnScope N_law_alike ["_law_found", "_law_due"] (defScope s_law_alike) := ⟨rfl, rfl, rfl, by decide +kernel, rfl, by decide +kernel, by decide +kernel⟩
def c_law_alike : SC := cRet (cAnd (cBin fEq (cNm 0) (cNm 1)) (cRepEq (cNm 0) (cNm 1)))
def r_law_alike : List D → FOut := runF false 2 c_law_alike
abbrev s_law_number_of : Stmt := topS 21
abbrev N_law_number_of : List Str := ["_law_path", "_law_head", "_law_word", "_law_sign"]
theorem sc_law_number_of : FnScope N_law_number_of ["_law_path", "_law_head"] (defScope s_law_number_of) := ⟨rfl, rfl, rfl, by decide +kernel, rfl, by decide +kernel, by decide +kernel⟩
def c_law_number_of : SC := cSeq (cSet 2 (cSl fSl (cNm 0) (cPSome (cCall fLen (cBCons (cNm 1) (cBNil)))) (cPNone))) (cSeq (cIfS (cOrT (cTestOf (cBin fNe (cSl fSl (cNm 0) (cPNone) (cPSome (cCall fLen (cBCons (cNm 1) (cBNil))))) (cNm 1))) (cOrT (cTestOf (cBin fEq (cNm 2) (cK (.str "")))) (cTestOf (cBin fNe (cLc [3] (aNm 3) (cIt (cFz (cNm 2))) (cTestOf (cBin fNin (cNm 3) (cK (.str "0123456789")))) (cFz (cNm 3))) (cLst (cANil)))))) (cRet (cK .none)) (cSkip)) (cRet (cIf (cTestOf (cBin fEq (cCall fStr (cBCons (cCall fInt (cBCons (cNm 2) (cBNil))) (cBNil))) (cNm 2))) (cCall fInt (cBCons (cNm 2) (cBNil))) (cK .none))))
def r_law_number_of : List D → FOut := runF false 4 c_law_number_of
abbrev s_law_is_name : Stmt := topS 22
abbrev N_law_is_name : List Str := ["_law_word", "_law_signs", "_law_sign"]
theorem sc_law_is_name : FnScope N_law_is_name ["_law_word"] (defScope s_law_is_name) := ⟨rfl, rfl, rfl, by decide +kernel, rfl, by decide +kernel, by decide +kernel⟩
def c_law_is_name : SC := cSeq (cSet 1 (cK (.str "abcdefghijklmnopqrstuvwxyz"))) (cSeq (cIfS (cOrT (cNotT (cTestOf (cChain fLe fLe (cK (.int 1)) (cCall fLen (cBCons (cNm 0) (cBNil))) (cK (.int 20))))) (cTestOf (cBin fNin (cBin fIx (cNm 0) (cK (.int 0))) (cNm 1)))) (cRet (cK (.bool false))) (cSkip)) (cRet (cBin fEq (cLc [2] (aNm 2) (cIt (cFz (cNm 0))) (cTestOf (cBin fNin (cNm 2) (cBin fAdd (cNm 1) (cK (.str "0123456789-"))))) (cFz (cNm 2))) (cLst (cANil)))))
def r_law_is_name : List D → FOut := runF false 3 c_law_is_name
abbrev s_law_is_path : Stmt := topS 23
abbrev N_law_is_path : List Str := ["_law_thing", "_law_word"]
theorem sc_law_is_path : FnScope N_law_is_path ["_law_thing"] (defScope s_law_is_path) := ⟨rfl, rfl, rfl, by decide +kernel, rfl, by decide +kernel, by decide +kernel⟩
def c_law_is_path : SC := cRet (cAnd (cUn (fIsi "str") (cNm 0)) (cBin fEq (cLc [1] (aNm 1) (cIt (cFz (cMt fSplit (cNm 0) (cBCons (cK (.str "/")) (cBNil))))) (cNotT (cTruth (cCallF 1 r_law_is_name (cACons (cFz (cNm 1)) (cANil))))) (cFz (cNm 1))) (cLst (cANil))))
def r_law_is_path : List D → FOut := runF false 2 c_law_is_path
abbrev s_law_is_shelf : Stmt := topS 24
abbrev N_law_is_shelf : List Str := ["_law_thing"]
theorem sc_law_is_shelf : FnScope N_law_is_shelf ["_law_thing"] (defScope s_law_is_shelf) := ⟨rfl, rfl, rfl, by decide +kernel, rfl, by decide +kernel, by decide +kernel⟩
def c_law_is_shelf : SC := cRet (cAnd (cUn (fIsi "str") (cNm 0)) (cAnd (cBin fIsnt (cCallF 2 r_law_number_of (cACons (cFz (cNm 0)) (cACons (cFz (cK (.str "store/c"))) (cANil)))) (cK .none)) (cCallF 1 r_law_is_path (cACons (cFz (cNm 0)) (cANil)))))
def r_law_is_shelf : List D → FOut := runF false 1 c_law_is_shelf
abbrev s_law_manifest_text : Stmt := topS 25
abbrev N_law_manifest_text : List Str := ["_law_manifest", "_law_lines", "_law_entry"]
theorem sc_law_manifest_text : FnScope N_law_manifest_text ["_law_manifest"] (defScope s_law_manifest_text) := ⟨rfl, rfl, rfl, by decide +kernel, rfl, by decide +kernel, by decide +kernel⟩
def c_law_manifest_text : SC := cSeq (cSet 1 (cBin fAdd (cLst (cACons (cFz (cBin fAdd (cK (.str "entries ")) (cCall fStr (cBCons (cCall fLen (cBCons (cBin fIx (cNm 0) (cK (.int 0))) (cBNil))) (cBNil))))) (cANil))) (cLc [2] (aNm 2) (cIt (cFz (cBin fIx (cNm 0) (cK (.int 0))))) (cYes) (cFz (cMt fJoin (cK (.str " ")) (cBCons (cNm 2) (cBNil))))))) (cRet (cMt fJoin (cK (.str "\n")) (cBCons (cBin fAdd (cNm 1) (cLst (cACons (cFz (cBin fAdd (cK (.str "lock ")) (cIf (cTestOf (cBin fIs (cBin fIx (cNm 0) (cK (.int 1))) (cK .none))) (cK (.str "-")) (cBin fIx (cNm 0) (cK (.int 1)))))) (cANil)))) (cBNil))))
def r_law_manifest_text : List D → FOut := runF false 3 c_law_manifest_text
abbrev s_law_read_manifest : Stmt := topS 26
abbrev N_law_read_manifest : List Str := ["_law_text", "_law_lines", "_law_words", "_law_paths", "_law_lock", "_law_line"]
theorem sc_law_read_manifest : FnScope N_law_read_manifest ["_law_text"] (defScope s_law_read_manifest) := ⟨rfl, rfl, rfl, by decide +kernel, rfl, by decide +kernel, by decide +kernel⟩
def c_law_read_manifest : SC := cSeq (cSet 1 (cLc [5] (aNm 5) (cIt (cFz (cMt fSplit (cNm 0) (cBCons (cK (.str "\n")) (cBNil))))) (cYes) (cFz (cMt fSplit (cNm 5) (cBCons (cK (.str " ")) (cBNil)))))) (cSeq (cIfS (cOrT (cTestOf (cBin fLt (cCall fLen (cBCons (cNm 1) (cBNil))) (cK (.int 2)))) (cTestOf (cBin fNe (cBin fIx (cNm 1) (cK (.int 0))) (cLst (cACons (cFz (cK (.str "entries"))) (cACons (cFz (cCall fStr (cBCons (cBin fSub (cCall fLen (cBCons (cNm 1) (cBNil))) (cK (.int 2))) (cBNil)))) (cANil))))))) (cRet (cK .none)) (cSkip)) (cSeq (cFor (aNm 2) (cIt (cFz (cSl fSl (cNm 1) (cPSome (cK (.int 1))) (cPSome (cUn fNeg (cK (.int 1))))))) (cIfS (cOrT (cTestOf (cBin fNe (cCall fLen (cBCons (cNm 2) (cBNil))) (cK (.int 2)))) (cOrT (cNotT (cTruth (cCallF 1 r_law_is_path (cACons (cFz (cBin fIx (cNm 2) (cK (.int 0)))) (cANil))))) (cNotT (cTruth (cCallF 1 r_law_is_shelf (cACons (cFz (cBin fIx (cNm 2) (cK (.int 1)))) (cANil))))))) (cRet (cK .none)) (cSkip))) (cSeq (cFgt [2] (cSet 3 (cLc [2] (aNm 2) (cIt (cFz (cSl fSl (cNm 1) (cPSome (cK (.int 1))) (cPSome (cUn fNeg (cK (.int 1))))))) (cYes) (cFz (cBin fIx (cNm 2) (cK (.int 0))))))) (cSeq (cIfS (cOrT (cTestOf (cBin fNe (cNm 3) (cUn fSortD (cNm 3)))) (cOrT (cTestOf (cBin fNe (cCall fLen (cBCons (cBin fIx (cNm 1) (cUn fNeg (cK (.int 1)))) (cBNil))) (cK (.int 2)))) (cTestOf (cBin fNe (cBin fIx (cBin fIx (cNm 1) (cUn fNeg (cK (.int 1)))) (cK (.int 0))) (cK (.str "lock")))))) (cRet (cK .none)) (cSkip)) (cSeq (cSet 4 (cBin fIx (cBin fIx (cNm 1) (cUn fNeg (cK (.int 1)))) (cK (.int 1)))) (cSeq (cIfS (cAndT (cTestOf (cBin fNe (cNm 4) (cK (.str "-")))) (cNotT (cTruth (cCallF 1 r_law_is_shelf (cACons (cFz (cNm 4)) (cANil)))))) (cRet (cK .none)) (cSkip)) (cFgt [2] (cRet (cTup (cACons (cFz (cCall fTuple (cBCons (cLc [2] (aNm 2) (cIt (cFz (cSl fSl (cNm 1) (cPSome (cK (.int 1))) (cPSome (cUn fNeg (cK (.int 1))))))) (cYes) (cFz (cCall fTuple (cBCons (cNm 2) (cBNil))))) (cBNil)))) (cACons (cFz (cIf (cTestOf (cBin fEq (cNm 4) (cK (.str "-")))) (cK .none) (cNm 4))) (cANil))))))))))))
def r_law_read_manifest : List D → FOut := runF false 6 c_law_read_manifest
abbrev s_law_drawn_manifest : Stmt := topS 27
abbrev N_law_drawn_manifest : List Str := ["_law_bag_here", "_law_paths", "_law_shelves", "_law_entries", "_law_path", "_law_number"]
theorem sc_law_drawn_manifest : FnScope N_law_drawn_manifest ["_law_bag_here"] (defScope s_law_drawn_manifest) := ⟨rfl, rfl, rfl, by decide +kernel, rfl, by decide +kernel, by decide +kernel⟩
def c_law_drawn_manifest : SC := cSeq (cSet 1 (cLc [4] (aNm 4) (cIt (cFz (cLst (cACons (cFz (cK (.str "a"))) (cACons (cFz (cK (.str "a-b"))) (cACons (cFz (cK (.str "a/b"))) (cACons (cFz (cK (.str "app/doc"))) (cACons (cFz (cK (.str "b"))) (cACons (cFz (cBin fMul2 (cK (.str "x")) (cK (.int 20)))) (cACons (cFz (cK (.str "z9"))) (cANil))))))))))) (cTestOf (cBin fEq (cCallI 2 r_law_take 0 (cACons (cFz (cK (.int 2))) (cANil))) (cK (.int 0)))) (cFz (cNm 4)))) (cSeq (cSet 2 (cLc [5] (aNm 5) (cIt (cFz (cLst (cACons (cFz (cK (.int 0))) (cACons (cFz (cK (.int 1))) (cACons (cFz (cK (.int 7))) (cACons (cFz (cK (.int 10))) (cACons (cFz (cK (.int 123456789))) (cACons (cFz (cBin fPow (cK (.int 10)) (cK (.int 18)))) (cANil)))))))))) (cYes) (cFz (cBin fAdd (cK (.str "store/c")) (cCall fStr (cBCons (cNm 5) (cBNil))))))) (cSeq (cSet 3 (cCall fTuple (cBCons (cLc [4] (aNm 4) (cIt (cFz (cCall fSortS (cBCons (cNm 1) (cBNil))))) (cYes) (cFz (cTup (cACons (cFz (cNm 4)) (cACons (cFz (cCallI 2 r_law_one 0 (cACons (cFz (cNm 2)) (cANil)))) (cANil)))))) (cBNil)))) (cRet (cTup (cACons (cFz (cNm 3)) (cACons (cFz (cCallI 2 r_law_one 0 (cACons (cFz (cBin fAdd (cNm 2) (cLst (cACons (cFz (cK .none)) (cACons (cFz (cK .none)) (cACons (cFz (cK .none)) (cANil))))))) (cANil)))) (cANil)))))))
def r_law_drawn_manifest : List D → FOut := runF true 6 c_law_drawn_manifest
abbrev s_law_near_text : Stmt := topS 28
abbrev N_law_near_text : List Str := ["_law_bag_here", "_law_text", "_law_lines", "_law_way", "_law_at", "_law_line", "_law_odd", "_law_sign"]
theorem sc_law_near_text : FnScope N_law_near_text ["_law_bag_here", "_law_text"] (defScope s_law_near_text) := ⟨rfl, rfl, rfl, by decide +kernel, rfl, by decide +kernel, by decide +kernel⟩
def c_law_near_text : SC := cSeq (cPar3 2 3 4 (cACons (cFz (cMt fSplit (cNm 1) (cBCons (cK (.str "\n")) (cBNil)))) (cACons (cFz (cCallI 2 r_law_take 0 (cACons (cFz (cK (.int 9))) (cANil)))) (cACons (cFz (cCallI 2 r_law_take 0 (cACons (cFz (cBin fAdd (cCall fLen (cBCons (cNm 1) (cBNil))) (cK (.int 1)))) (cANil)))) (cANil))))) (cSeq (cSet 5 (cCallI 2 r_law_take 0 (cACons (cFz (cCall fLen (cBCons (cNm 2) (cBNil)))) (cANil)))) (cSeq (cSet 6 (cLst (cACons (cFz (cK (.str "entries 1"))) (cACons (cFz (cK (.str "entries 01"))) (cACons (cFz (cK (.str "a store/c0"))) (cACons (cFz (cK (.str "a store/c01"))) (cACons (cFz (cK (.str "A store/c0"))) (cACons (cFz (cK (.str "a store/c"))) (cACons (cFz (cK (.str "a b c"))) (cANil)))))))))) (cSeq (cSet 6 (cBin fAdd (cNm 6) (cLst (cACons (cFz (cK (.str "lock store/c0"))) (cACons (cFz (cK (.str "lock -"))) (cACons (cFz (cK (.str ""))) (cANil))))))) (cSeq (cIfS (cTestOf (cBin fEq (cNm 3) (cK (.int 0)))) (cRet (cMt fJoin (cK (.str "\n")) (cBCons (cBin fAdd (cSl fSl (cNm 2) (cPNone) (cPSome (cNm 5))) (cSl fSl (cNm 2) (cPSome (cBin fAdd (cNm 5) (cK (.int 1)))) (cPNone))) (cBNil)))) (cSkip)) (cSeq (cIfS (cTestOf (cBin fEq (cNm 3) (cK (.int 1)))) (cRet (cMt fJoin (cK (.str "\n")) (cBCons (cBin fAdd (cBin fAdd (cSl fSl (cNm 2) (cPNone) (cPSome (cNm 5))) (cLst (cACons (cFz (cCallI 2 r_law_one 0 (cACons (cFz (cNm 6)) (cANil)))) (cANil)))) (cSl fSl (cNm 2) (cPSome (cBin fAdd (cNm 5) (cK (.int 1)))) (cPNone))) (cBNil)))) (cSkip)) (cSeq (cIfS (cTestOf (cBin fEq (cNm 3) (cK (.int 2)))) (cRet (cMt fJoin (cK (.str "\n")) (cBCons (cBin fAdd (cSl fSl (cNm 2) (cPNone) (cPSome (cBin fAdd (cNm 5) (cK (.int 1))))) (cSl fSl (cNm 2) (cPSome (cNm 5)) (cPNone))) (cBNil)))) (cSkip)) (cSeq (cIfS (cTestOf (cBin fEq (cNm 3) (cK (.int 3)))) (cRet (cMt fJoin (cK (.str "\n")) (cBCons (cBin fAdd (cBin fAdd (cSl fSl (cNm 2) (cPNone) (cPSome (cK (.int 1)))) (cCallI 2 r_law_mixed 0 (cACons (cFz (cSl fSl (cNm 2) (cPSome (cK (.int 1))) (cPSome (cUn fNeg (cK (.int 1)))))) (cANil)))) (cSl fSl (cNm 2) (cPSome (cUn fNeg (cK (.int 1)))) (cPNone))) (cBNil)))) (cSkip)) (cSeq (cIfS (cTestOf (cBin fEq (cNm 3) (cK (.int 4)))) (cRet (cSl fSl (cNm 1) (cPNone) (cPSome (cNm 4)))) (cSkip)) (cSeq (cSet 7 (cCallI 2 r_law_one 0 (cACons (cFz (cLst (cACons (cFz (cK (.str " "))) (cACons (cFz (cK (.str "\n"))) (cACons (cFz (cK (.str "0"))) (cACons (cFz (cK (.str "a"))) (cACons (cFz (cK (.str "/"))) (cACons (cFz (cK (.str "-"))) (cACons (cFz (cK (.str "A"))) (cACons (cFz (cK (.str "9"))) (cANil))))))))))) (cANil)))) (cRet (cBin fAdd (cBin fAdd (cSl fSl (cNm 1) (cPNone) (cPSome (cNm 4))) (cNm 7)) (cSl fSl (cNm 1) (cPSome (cBin fAdd (cNm 4) (cCall fInt (cBCons (cBin fLt (cNm 3) (cK (.int 7))) (cBNil))))) (cPNone)))))))))))))
def r_law_near_text : List D → FOut := runF true 8 c_law_near_text
abbrev s_law : Stmt := topS 29
abbrev N_law : List Str := ["_law_script", "_law_bag_here", "_law_turn", "_law_manifest", "_law_text", "_law_texts", "_law_far", "_law_thing", "_law_size", "_law_k"]
theorem sc_law : FnScope N_law ["_law_script"] (defScope s_law) := ⟨rfl, rfl, rfl, by decide +kernel, rfl, by decide +kernel, by decide +kernel⟩
def c_law : SC := cSeq (cSet 1 (cCallF 1 r_law_bag (cACons (cFz (cNm 0)) (cANil)))) (cSeq (cFor (aNm 2) (cR1 (cK (.int 3))) (cSeq (cSet 3 (cCallI 1 r_law_drawn_manifest 1 (cANil))) (cSeq (cSet 4 (cCallF 1 r_law_manifest_text (cACons (cFz (cNm 3)) (cANil)))) (cSeq (cIfS (cNotT (cTruth (cCallF 2 r_law_alike (cACons (cFz (cLst (cACons (cFz (cCallF 1 r_manifest_text (cACons (cFz (cNm 3)) (cANil)))) (cACons (cFz (cCallF 1 r_read_manifest (cACons (cFz (cNm 4)) (cANil)))) (cANil))))) (cACons (cFz (cLst (cACons (cFz (cNm 4)) (cACons (cFz (cNm 3)) (cANil))))) (cANil)))))) (cRet (cK (.bool false))) (cSkip)) (cSeq (cSet 5 (cLc [8] (aNm 8) (cR3 (cK (.int 0)) (cCall fLen (cBCons (cNm 4) (cBNil))) (cBin fAdd (cK (.int 1)) (cCallI 2 r_law_take 1 (cACons (cFz (cK (.int 5))) (cANil))))) (cYes) (cFz (cSl fSl (cNm 4) (cPNone) (cPSome (cNm 8)))))) (cSeq (cSet 5 (cBin fAdd (cBin fAdd (cNm 5) (cLc [9] (aNm 9) (cR1 (cK (.int 12))) (cYes) (cFz (cCallI 2 r_law_near_text 1 (cACons (cFz (cNm 4)) (cANil)))))) (cLst (cACons (cFz (cCallI 2 r_law_near_text 1 (cACons (cFz (cCallI 2 r_law_near_text 1 (cACons (cFz (cNm 4)) (cANil)))) (cANil)))) (cANil))))) (cSeq (cSet 6 (cBin fAdd (cK (.str "store/c1")) (cBin fMul2 (cK (.str "0")) (cCallI 2 r_law_one 1 (cACons (cFz (cLst (cACons (cFz (cK (.int 19))) (cACons (cFz (cK (.int 18))) (cACons (cFz (cK (.int 20))) (cANil)))))) (cANil)))))) (cSeq (cSet 5 (cBin fAdd (cNm 5) (cLst (cACons (cFz (cBin fAdd (cK (.str "entries 0\nlock ")) (cNm 6))) (cACons (cFz (cBin fAdd (cBin fAdd (cK (.str "entries 1\na ")) (cNm 6)) (cK (.str "\nlock -")))) (cANil)))))) (cFor (aNm 7) (cIt (cFz (cBin fAdd (cNm 5) (cLst (cACons (cFz (cK (.str ""))) (cACons (cFz (cK (.str "entries"))) (cACons (cFz (cK (.str "entries 0"))) (cACons (cFz (cK (.str "entries 0\nlock -"))) (cACons (cFz (cK (.str "entries 0\nlock -\n"))) (cACons (cFz (cK (.str "entries 1\nlock -"))) (cANil))))))))))) (cIfS (cNotT (cTruth (cCallF 2 r_law_alike (cACons (cFz (cCallF 1 r_read_manifest (cACons (cFz (cNm 7)) (cANil)))) (cACons (cFz (cCallF 1 r_law_read_manifest (cACons (cFz (cNm 7)) (cANil)))) (cANil)))))) (cRet (cK (.bool false))) (cSkip))))))))))) (cRet (cK (.bool true))))
def r_law : List D → FOut := runF false 10 c_law
section
variable {P : Program} {w : World} {K : PySem.W.Frag} {mg : Str → Option Value} {base : Heap}
set_option maxHeartbeats 4000000 in
theorem ok_is_name (a : FnAt K mg "is_name" s_is_name ["thing"]) (z_isinstance : mg "isinstance" = none) (z_str : mg "str" = none) (z_len : mg "len" = none) {t_LETTERS : Tok} (z_LETTERS : mg "LETTERS" = some (.str "abcdefghijklmnopqrstuvwxyz" t_LETTERS)) (z_all : mg "all" = none) {t_DIGITS : Tok} (z_DIGITS : mg "DIGITS" = some (.str "0123456789" t_DIGITS)) : OkF P w K mg base 1 "is_name" ["thing"] (spF K false 1 r_is_name) := by
  refine okF_of (N := N_is_name) (c := c_is_name) a sc_is_name fun f cdv A o s H E B hr hgd => ?_
  have h4 := hu4 hr
  have h5 := hu5 hr
  exact d_cons (d_ifS (d_pw (d_orT (d_notT (d_truth (d_isi (d_nm 0) (by rfl) z_isinstance (by rfl) z_str rfl))) (d_orT (d_notT (d_chainT op_le2 op_le2 fLe_ok fLe_ok (d_int) (d_callB call_len fLen_ok (by rfl) z_len (by rfl) (d_bcons (d_nm 0) (d_bnil))) (d_int))) (d_or1 (d_cmpT (op_nin3 h5) fNin_ok (d_ix ix_seq fIx_ok (d_nm 0) (d_int)) (d_gstr (by rfl) z_LETTERS)))))) (d_one' (d_ret (d_bl))) (d_nil)) (d_one' (d_ret (d_callB (cr_all rfl) fAll_ok (by rfl) z_all (by rfl) (d_bcons (d_lc (own := [("sign", 1)]) rfl sc_is_name.nd (d_it (d_fz (d_nm 0))) (blkOk_by (own := [("sign", 1)]) (N := N_is_name) (by first | decide +kernel | rfl)) (aNm_ok _) (fun _ _ _ _ _ => d_gnm 1 sc_is_name.nd) (fun _ _ _ _ _ => d_yes) (fun _ _ _ _ _ => d_fz (d_cmp (op_in3 h5) fIn_ok (d_nm 1) (d_op op_add4 fAdd_ok (d_op op_add4 fAdd_ok (d_gstr (by rfl) z_LETTERS) (d_gstr (by rfl) z_DIGITS)) (d_str))))) (d_bnil)))))
set_option maxHeartbeats 4000000 in
theorem ok_is_path (a : FnAt K mg "is_path" s_is_path ["thing"]) (z_isinstance : mg "isinstance" = none) (z_str : mg "str" = none) (z_all : mg "all" = none) (o_is_name : OkF P w K mg base 1 "is_name" ["thing"] (spF K false 1 r_is_name)) : OkF P w K mg base 2 "is_path" ["thing"] (spF K false 1 r_is_path) := by
  obtain ⟨_, _, m_is_name, k_is_name, b_is_name, G_is_name⟩ := o_is_name
  refine okF_of (N := N_is_path) (c := c_is_path) a sc_is_path fun f cdv A o s H E B hr hgd => ?_
  have h4 := hu4 hr
  have h5 := hu5 hr
  exact d_one' (d_ret (d_and (d_isi (d_nm 0) (by rfl) z_isinstance (by rfl) z_str rfl) (d_one (d_callB (cr_all rfl) fAll_ok (by rfl) z_all (by rfl) (d_bcons (d_lc (own := [("word", 1)]) rfl sc_is_path.nd (d_it (d_fz (d_mt fSplit_ok mt_split PySem.F.slot_str_split PySem.F.type_str_split (d_nm 0) (d_bcons (d_str) (d_bnil))))) (blkOk_by (own := [("word", 1)]) (N := N_is_path) (by first | decide +kernel | rfl)) (aNm_ok _) (fun _ _ _ _ _ => d_gnm 1 sc_is_path.nd) (fun _ _ _ _ _ => d_yes) (fun _ _ _ _ _ => d_fz (d_call (G_is_name.up (by decide)) hr hgd (by rfl) m_is_name k_is_name b_is_name (d_acons (d_fz (d_nm 1)) (d_anil))))) (d_bnil))))))
set_option maxHeartbeats 4000000 in
theorem ok_number_behind (a : FnAt K mg "number_behind" s_number_behind ["path", "begin"]) (z_len : mg "len" = none) {t_MOST_DIGITS : Tok} (z_MOST_DIGITS : mg "MOST_DIGITS" = some (.int 19 t_MOST_DIGITS)) (z_all : mg "all" = none) (z_int : mg "int" = none) : OkF P w K mg base 1 "number_behind" ["path", "begin"] (spF K false 2 r_number_behind) := by
  refine okF_of (N := N_number_behind) (c := c_number_behind) a sc_number_behind fun f cdv A o s H E B hr hgd => ?_
  have h4 := hu4 hr
  have h5 := hu5 hr
  exact d_cons (d_set 2 sc_number_behind.nd (d_slice sl_3 fSl_ok (d_nm 0) (d_psome (d_callB call_len fLen_ok (by rfl) z_len (by rfl) (d_bcons (d_nm 1) (d_bnil)))) (d_pnone))) (d_cons (d_ifS (d_pw (d_orT (d_cmpT (op_neD h4) fNe_ok (d_slice sl_3 fSl_ok (d_nm 0) (d_pnone) (d_psome (d_callB call_len fLen_ok (by rfl) z_len (by rfl) (d_bcons (d_nm 1) (d_bnil))))) (d_nm 1)) (d_or1 (d_notT (d_chainT op_le2 op_le2 fLe_ok fLe_ok (d_int) (d_callB call_len fLen_ok (by rfl) z_len (by rfl) (d_bcons (d_nm 2) (d_bnil))) (d_gint (by rfl) z_MOST_DIGITS)))))) (d_one' (d_ret (d_non))) (d_nil)) (d_cons (d_ifS (d_notT (d_truth (d_callB (cr_all rfl) fAll_ok (by rfl) z_all (by rfl) (d_bcons (d_lc (own := [("sign", 3)]) rfl sc_number_behind.nd (d_it (d_fz (d_nm 2))) (blkOk_by (own := [("sign", 3)]) (N := N_number_behind) (by first | decide +kernel | rfl)) (aNm_ok _) (fun _ _ _ _ _ => d_gnm 3 sc_number_behind.nd) (fun _ _ _ _ _ => d_yes) (fun _ _ _ _ _ => d_fz (d_cmp (op_in3 h5) fIn_ok (d_nm 3) (d_str)))) (d_bnil))))) (d_one' (d_ret (d_non))) (d_nil)) (d_one' (d_ret (d_if (d_pw (d_andT (d_cmpT op_gt2 fGt_ok (d_callB call_len fLen_ok (by rfl) z_len (by rfl) (d_bcons (d_nm 2) (d_bnil))) (d_int)) (d_and1 (d_cmpT (op_eqD h4) fEq_ok (d_ix ix_seq fIx_ok (d_nm 2) (d_int)) (d_str))))) (d_non) (d_callTy call_int2 fInt_ok (by rfl) z_int (by rfl) (d_bcons (d_nm 2) (d_bnil))))))))
set_option maxHeartbeats 4000000 in
theorem ok_is_shelf (a : FnAt K mg "is_shelf" s_is_shelf ["path"]) {t_SHELF : Tok} (z_SHELF : mg "SHELF" = some (.str "store/c" t_SHELF)) (o_number_behind : OkF P w K mg base 1 "number_behind" ["path", "begin"] (spF K false 2 r_number_behind)) : OkF P w K mg base 2 "is_shelf" ["path"] (spF K false 1 r_is_shelf) := by
  obtain ⟨_, _, m_number_behind, k_number_behind, b_number_behind, G_number_behind⟩ := o_number_behind
  refine okF_of (N := N_is_shelf) (c := c_is_shelf) a sc_is_shelf fun f cdv A o s H E B hr hgd => ?_
  have h4 := hu4 hr
  have h5 := hu5 hr
  exact d_one' (d_ret (d_cmp op_isnt2 fIsnt_ok (d_call (G_number_behind.up (by decide)) hr hgd (by rfl) m_number_behind k_number_behind b_number_behind (d_acons (d_fz (d_nm 0)) (d_acons (d_fz (d_gstr (by rfl) z_SHELF)) (d_anil)))) (d_non)))
set_option maxHeartbeats 4000000 in
theorem ok_manifest_text (a : FnAt K mg "manifest_text" s_manifest_text ["manifest"]) (z_str : mg "str" = none) (z_len : mg "len" = none) : OkF P w K mg base 1 "manifest_text" ["manifest"] (spF K false 1 r_manifest_text) := by
  refine okF_of (N := N_manifest_text) (c := c_manifest_text) a sc_manifest_text fun f cdv A o s H E B hr hgd => ?_
  have h4 := hu4 hr
  have h5 := hu5 hr
  exact d_cons (d_asg (d_fz (d_nm 0)) (d_gtup rfl (d_gcons (d_gnm 1 sc_manifest_text.nd) (d_gcons (d_gnm 2 sc_manifest_text.nd) (d_gnil))))) (d_cons (d_set 3 sc_manifest_text.nd (d_op op_add4 fAdd_ok (d_lst (d_acons (d_fz (d_op op_add4 fAdd_ok (d_str) (d_callTy call_str2 fStr_ok (by rfl) z_str (by rfl) (d_bcons (d_callB call_len fLen_ok (by rfl) z_len (by rfl) (d_bcons (d_nm 1) (d_bnil))) (d_bnil))))) (d_anil))) (d_lc (own := [("path", 4), ("shelf", 5)]) rfl sc_manifest_text.nd (d_it (d_fz (d_nm 1))) (blkOk_by (own := [("path", 4), ("shelf", 5)]) (N := N_manifest_text) (by first | decide +kernel | rfl)) (aTup_ok (aCons_ok (aNm_ok _) (aCons_ok (aNm_ok _) (aNil_ok)))) (fun _ _ _ _ _ => d_gtup rfl (d_gcons (d_gnm 4 sc_manifest_text.nd) (d_gcons (d_gnm 5 sc_manifest_text.nd) (d_gnil)))) (fun _ _ _ _ _ => d_yes) (fun _ _ _ _ _ => d_fz (d_op op_add4 fAdd_ok (d_op op_add4 fAdd_ok (d_nm 4) (d_str)) (d_nm 5)))))) (d_one' (d_ret (d_mt fJoin_ok mt_join PySem.F.slot_str_join PySem.F.type_str_join (d_str) (d_bcons (d_op op_add4 fAdd_ok (d_nm 3) (d_lst (d_acons (d_fz (d_op op_add4 fAdd_ok (d_str) (d_if (d_cmpT op_is2 fIs_ok (d_nm 2) (d_non)) (d_str) (d_nm 2)))) (d_anil)))) (d_bnil))))))
set_option maxHeartbeats 4000000 in
theorem ok_read_entry (a : FnAt K mg "read_entry" s_read_entry ["line"]) (z_tuple : mg "tuple" = none) (z_len : mg "len" = none) (o_is_path : OkF P w K mg base 2 "is_path" ["thing"] (spF K false 1 r_is_path)) (o_is_shelf : OkF P w K mg base 2 "is_shelf" ["path"] (spF K false 1 r_is_shelf)) : OkF P w K mg base 3 "read_entry" ["line"] (spF K false 1 r_read_entry) := by
  obtain ⟨_, _, m_is_path, k_is_path, b_is_path, G_is_path⟩ := o_is_path
  obtain ⟨_, _, m_is_shelf, k_is_shelf, b_is_shelf, G_is_shelf⟩ := o_is_shelf
  refine okF_of (N := N_read_entry) (c := c_read_entry) a sc_read_entry fun f cdv A o s H E B hr hgd => ?_
  have h4 := hu4 hr
  have h5 := hu5 hr
  exact d_cons (d_set 1 sc_read_entry.nd (d_callTy call_tuple_of fTuple_ok (by rfl) z_tuple (by rfl) (d_bcons (d_mt fSplit_ok mt_split PySem.F.slot_str_split PySem.F.type_str_split (d_nm 0) (d_bcons (d_str) (d_bnil))) (d_bnil)))) (d_one' (d_ret (d_if (d_pw (d_andT (d_cmpT (op_eqD h4) fEq_ok (d_callB call_len fLen_ok (by rfl) z_len (by rfl) (d_bcons (d_nm 1) (d_bnil))) (d_int)) (d_andT (d_truth (d_call (G_is_path.up (by decide)) hr hgd (by rfl) m_is_path k_is_path b_is_path (d_acons (d_fz (d_ix ix_seq fIx_ok (d_nm 1) (d_int))) (d_anil)))) (d_and1 (d_truth (d_call (G_is_shelf.up (by decide)) hr hgd (by rfl) m_is_shelf k_is_shelf b_is_shelf (d_acons (d_fz (d_ix ix_seq fIx_ok (d_nm 1) (d_int))) (d_anil)))))))) (d_nm 1) (d_non))))
set_option maxHeartbeats 4000000 in
theorem ok_read_manifest (a : FnAt K mg "read_manifest" s_read_manifest ["text"]) (z_tuple : mg "tuple" = none) (z_len : mg "len" = none) (z_all : mg "all" = none) (z_zip : mg "zip" = none) (o_read_entry : OkF P w K mg base 3 "read_entry" ["line"] (spF K false 1 r_read_entry)) (o_is_shelf : OkF P w K mg base 2 "is_shelf" ["path"] (spF K false 1 r_is_shelf)) (o_manifest_text : OkF P w K mg base 1 "manifest_text" ["manifest"] (spF K false 1 r_manifest_text)) : OkF P w K mg base 4 "read_manifest" ["text"] (spF K false 1 r_read_manifest) := by
  obtain ⟨_, _, m_read_entry, k_read_entry, b_read_entry, G_read_entry⟩ := o_read_entry
  obtain ⟨_, _, m_is_shelf, k_is_shelf, b_is_shelf, G_is_shelf⟩ := o_is_shelf
  obtain ⟨_, _, m_manifest_text, k_manifest_text, b_manifest_text, G_manifest_text⟩ := o_manifest_text
  refine okF_of (N := N_read_manifest) (c := c_read_manifest) a sc_read_manifest fun f cdv A o s H E B hr hgd => ?_
  have h4 := hu4 hr
  have h5 := hu5 hr
  exact d_cons (d_set 1 sc_read_manifest.nd (d_mt fSplit_ok mt_split PySem.F.slot_str_split PySem.F.type_str_split (d_nm 0) (d_bcons (d_str) (d_bnil)))) (d_cons (d_par 2 3 rfl sc_read_manifest.nd (d_acons (d_fz (d_callTy call_tuple_of fTuple_ok (by rfl) z_tuple (by rfl) (d_bcons (d_lc (own := [("line", 5)]) rfl sc_read_manifest.nd (d_it (d_fz (d_slice sl_3 fSl_ok (d_nm 1) (d_psome (d_int)) (d_psome (d_neg (d_int)))))) (blkOk_by (own := [("line", 5)]) (N := N_read_manifest) (by first | decide +kernel | rfl)) (aNm_ok _) (fun _ _ _ _ _ => d_gnm 5 sc_read_manifest.nd) (fun _ _ _ _ _ => d_yes) (fun _ _ _ _ _ => d_fz (d_call (G_read_entry.up (by decide)) hr hgd (by rfl) m_read_entry k_read_entry b_read_entry (d_acons (d_fz (d_nm 5)) (d_anil))))) (d_bnil)))) (d_acons (d_fz (d_mt fSplit_ok mt_split PySem.F.slot_str_split PySem.F.type_str_split (d_ix ix_seq fIx_ok (d_nm 1) (d_neg (d_int))) (d_bcons (d_str) (d_bnil)))) (d_anil)))) (d_cons (d_ifS (d_pw (d_orT (d_cmpT (op_in3 h5) fIn_ok (d_non) (d_nm 2)) (d_orT (d_cmpT (op_neD h4) fNe_ok (d_callB call_len fLen_ok (by rfl) z_len (by rfl) (d_bcons (d_nm 3) (d_bnil))) (d_int)) (d_or1 (d_pw (d_andT (d_cmpT (op_neD h4) fNe_ok (d_ix ix_seq fIx_ok (d_nm 3) (d_int)) (d_str)) (d_and1 (d_notT (d_truth (d_call (G_is_shelf.up (by decide)) hr hgd (by rfl) m_is_shelf k_is_shelf b_is_shelf (d_acons (d_fz (d_ix ix_seq fIx_ok (d_nm 3) (d_int))) (d_anil)))))))))))) (d_one' (d_ret (d_non))) (d_nil)) (d_cons (d_ifS (d_notT (d_truth (d_callB (cr_all rfl) fAll_ok (by rfl) z_all (by rfl) (d_bcons (d_lc (own := [("one", 6), ("other", 7)]) rfl sc_read_manifest.nd (d_zip (by rfl) z_zip (d_acons (d_fz (d_nm 2)) (d_acons (d_fz (d_slice sl_3 fSl_ok (d_nm 2) (d_psome (d_int)) (d_pnone))) (d_anil)))) (blkOk_by (own := [("one", 6), ("other", 7)]) (N := N_read_manifest) (by first | decide +kernel | rfl)) (aTup_ok (aCons_ok (aNm_ok _) (aCons_ok (aNm_ok _) (aNil_ok)))) (fun _ _ _ _ _ => d_gtup rfl (d_gcons (d_gnm 6 sc_read_manifest.nd) (d_gcons (d_gnm 7 sc_read_manifest.nd) (d_gnil)))) (fun _ _ _ _ _ => d_yes) (fun _ _ _ _ _ => d_fz (d_cmp op_lt2 fLt_ok (d_ix ix_seq fIx_ok (d_nm 6) (d_int)) (d_ix ix_seq fIx_ok (d_nm 7) (d_int))))) (d_bnil))))) (d_one' (d_ret (d_non))) (d_nil)) (d_cons (d_set 4 sc_read_manifest.nd (d_tup (d_acons (d_fz (d_nm 2)) (d_acons (d_fz (d_if (d_cmpT (op_eqD h4) fEq_ok (d_ix ix_seq fIx_ok (d_nm 3) (d_int)) (d_str)) (d_non) (d_ix ix_seq fIx_ok (d_nm 3) (d_int)))) (d_anil))))) (d_one' (d_ret (d_if (d_cmpT (op_eqD h4) fEq_ok (d_call (G_manifest_text.up (by decide)) hr hgd (by rfl) m_manifest_text k_manifest_text b_manifest_text (d_acons (d_fz (d_nm 4)) (d_anil))) (d_nm 0)) (d_nm 4) (d_non))))))))
set_option maxHeartbeats 4000000 in
theorem ok_law_bag (a : FnAt K mg "_law_bag" s_law_bag ["_law_script"]) (z_abs : mg "abs" = none) : OkF P w K mg base 1 "_law_bag" ["_law_script"] (spF K false 1 r_law_bag) := by
  refine okF_of (N := N_law_bag) (c := c_law_bag) a sc_law_bag fun f cdv A o s H E B hr hgd => ?_
  have h4 := hu4 hr
  have h5 := hu5 hr
  exact d_one' (d_ret (d_lst (d_acons (d_fz (d_int)) (d_acons (d_fz (d_int)) (d_acons (d_fz (d_int)) (d_acons (d_fz (d_lc (own := [("_law_cell", 1)]) rfl sc_law_bag.nd (d_it (d_fz (d_slice sl_3 fSl_ok (d_nm 0) (d_pnone) (d_psome (d_int))))) (blkOk_by (own := [("_law_cell", 1)]) (N := N_law_bag) (by first | decide +kernel | rfl)) (aNm_ok _) (fun _ _ _ _ _ => d_gnm 1 sc_law_bag.nd) (fun _ _ _ _ _ => d_yes) (fun _ _ _ _ _ => d_fz (d_callB call_abs fAbs_ok (by rfl) z_abs (by rfl) (d_bcons (d_nm 1) (d_bnil)))))) (d_anil)))))))
set_option maxHeartbeats 4000000 in
theorem ok_law_take (a : FnAt K mg "_law_take" s_law_take ["_law_bag_here", "_law_many"]) (z_int : mg "int" = none) : OkF P w K mg base 1 "_law_take" ["_law_bag_here", "_law_many"] (spF K true 2 r_law_take) := by
  refine okF_of (N := N_law_take) (c := c_law_take) a sc_law_take fun f cdv A o s H E B hr hgd => ?_
  have h4 := hu4 hr
  have h5 := hu5 hr
  exact d_cons (d_ifS (d_cmpT (op_eqD h4) fEq_ok (d_ix ix_seq fIx_ok (d_nm 0) (d_int)) (d_int)) (d_cons (d_set 2 sc_law_take.nd (d_ix ix_seq fIx_ok (d_op op_add4 fAdd_ok (d_slice sl_3 fSl_ok (d_ix ix_seq fIx_ok (d_nm 0) (d_int)) (d_psome (d_ix ix_seq fIx_ok (d_nm 0) (d_int))) (d_pnone)) (d_lst (d_acons (d_fz (d_int)) (d_anil)))) (d_int))) (d_cons (d_augIx 0 (d_int) get_listR getL_ok (d_int) ip_add (ipI_ok iAdd_ok) set_list setL_ok) (d_cons (d_ifS (d_cmpT op_ge2 fGe_ok (d_nm 2) (d_op op_pow fPow_ok (d_int) (d_int))) (d_one' (d_setIx 0 (d_fz (d_nm 2)) (d_int) set_list setL_ok)) (d_nil)) (d_cons (d_set 3 sc_law_take.nd (d_op op_add4 fAdd_ok (d_op op_add4 fAdd_ok (d_op op_mul3 fMul_ok (d_ix ix_seq fIx_ok (d_nm 0) (d_int)) (d_int)) (d_op op_mod fMod_ok (d_callTy call_int2 fInt_ok (by rfl) z_int (by rfl) (d_bcons (d_nm 2) (d_bnil))) (d_int))) (d_op op_mul3 fMul_ok (d_int) (d_ix ix_seq fIx_ok (d_nm 0) (d_int))))) (d_one' (d_setIx 0 (d_fz (d_op op_mod fMod_ok (d_callTy call_int2 fInt_ok (by rfl) z_int (by rfl) (d_bcons (d_nm 3) (d_bnil))) (d_int))) (d_int) set_list setL_ok)))))) (d_nil)) (d_cons (d_ifS (d_cmpT op_gt2 fGt_ok (d_ix ix_seq fIx_ok (d_nm 0) (d_int)) (d_int)) (d_cons (d_set 4 sc_law_take.nd (d_op op_mod fMod_ok (d_callTy call_int2 fInt_ok (by rfl) z_int (by rfl) (d_bcons (d_ix ix_seq fIx_ok (d_nm 0) (d_int)) (d_bnil))) (d_nm 1))) (d_cons (d_setIx 0 (d_fz (d_op op_fdiv fDiv_ok (d_callTy call_int2 fInt_ok (by rfl) z_int (by rfl) (d_bcons (d_ix ix_seq fIx_ok (d_nm 0) (d_int)) (d_bnil))) (d_nm 1))) (d_int) set_list setL_ok) (d_one' (d_ret (d_nm 4))))) (d_nil)) (d_cons (d_set 5 sc_law_take.nd (d_op op_mod fMod_ok (d_callTy call_int2 fInt_ok (by rfl) z_int (by rfl) (d_bcons (d_op op_mul3 fMul_ok (d_op op_add4 fAdd_ok (d_ix ix_seq fIx_ok (d_nm 0) (d_int)) (d_int)) (d_int)) (d_bnil))) (d_int))) (d_cons (d_set 6 sc_law_take.nd (d_op op_mod fMod_ok (d_callTy call_int2 fInt_ok (by rfl) z_int (by rfl) (d_bcons (d_op op_mul3 fMul_ok (d_op op_mod fMod_ok (d_callTy call_int2 fInt_ok (by rfl) z_int (by rfl) (d_bcons (d_op op_mul3 fMul_ok (d_nm 5) (d_nm 5)) (d_bnil))) (d_int)) (d_int)) (d_bnil))) (d_int))) (d_one' (d_ret (d_op op_mod fMod_ok (d_callTy call_int2 fInt_ok (by rfl) z_int (by rfl) (d_bcons (d_op op_fdiv fDiv_ok (d_nm 6) (d_int)) (d_bnil))) (d_nm 1)))))))
set_option maxHeartbeats 4000000 in
theorem ok_law_one (a : FnAt K mg "_law_one" s_law_one ["_law_bag_here", "_law_things"]) (z_len : mg "len" = none) (o_law_take : OkF P w K mg base 1 "_law_take" ["_law_bag_here", "_law_many"] (spF K true 2 r_law_take)) : OkF P w K mg base 2 "_law_one" ["_law_bag_here", "_law_things"] (spF K true 2 r_law_one) := by
  obtain ⟨_, _, m_law_take, k_law_take, b_law_take, G_law_take⟩ := o_law_take
  refine okF_of (N := N_law_one) (c := c_law_one) a sc_law_one fun f cdv A o s H E B hr hgd => ?_
  have h4 := hu4 hr
  have h5 := hu5 hr
  exact d_one' (d_ret (d_ix ix_seq fIx_ok (d_nm 1) (d_callI 0 (G_law_take.up (by decide)) hr hgd (by rfl) m_law_take k_law_take b_law_take (d_acons (d_fz (d_callB call_len fLen_ok (by rfl) z_len (by rfl) (d_bcons (d_nm 1) (d_bnil)))) (d_anil)))))
set_option maxHeartbeats 4000000 in
theorem ok_law_mixed (a : FnAt K mg "_law_mixed" s_law_mixed ["_law_bag_here", "_law_things"]) (z_len : mg "len" = none) (o_law_take : OkF P w K mg base 1 "_law_take" ["_law_bag_here", "_law_many"] (spF K true 2 r_law_take)) : OkF P w K mg base 2 "_law_mixed" ["_law_bag_here", "_law_things"] (spF K true 2 r_law_mixed) := by
  obtain ⟨_, _, m_law_take, k_law_take, b_law_take, G_law_take⟩ := o_law_take
  refine okF_of (N := N_law_mixed) (c := c_law_mixed) a sc_law_mixed fun f cdv A o s H E B hr hgd => ?_
  have h4 := hu4 hr
  have h5 := hu5 hr
  exact d_cons (d_set 2 sc_law_mixed.nd (d_lst (d_anil))) (d_cons (d_for PassesOwn.never rfl (d_it (d_fz (d_nm 1))) (d_gnm 3 sc_law_mixed.nd) (d_one' (d_exp (d_mut 2 PySem.F.plainAttrs_list PySem.F.slot_list_insert PySem.F.type_list_insert mt_insert insert_ok tyV_L (d_acons (d_fz (d_callI 0 (G_law_take.up (by decide)) hr hgd (by rfl) m_law_take k_law_take b_law_take (d_acons (d_fz (d_op op_add4 fAdd_ok (d_callB call_len fLen_ok (by rfl) z_len (by rfl) (d_bcons (d_nm 2) (d_bnil))) (d_int))) (d_anil)))) (d_acons (d_fz (d_nm 3)) (d_anil))))))) (d_one' (d_ret (d_nm 2))))
set_option maxHeartbeats 4000000 in
theorem ok_law_alike (a : FnAt K mg "_law_alike" s_law_alike ["_law_found", "_law_due"]) (z_repr : mg "repr" = none) : OkF P w K mg base 1 "_law_alike" ["_law_found", "_law_due"] (spF K false 2 r_law_alike) := by
  refine okF_of (N := N_law_alike) (c := c_law_alike) a sc_law_alike fun f cdv A o s H E B hr hgd => ?_
  have h4 := hu4 hr
  have h5 := hu5 hr
  exact d_one' (d_ret (d_and (d_cmp (op_eqD h4) fEq_ok (d_nm 0) (d_nm 1)) (d_one (d_reprEq hgd h5 (by rfl) z_repr (d_nm 0) (d_nm 1)))))
set_option maxHeartbeats 4000000 in
theorem ok_law_number_of (a : FnAt K mg "_law_number_of" s_law_number_of ["_law_path", "_law_head"]) (z_len : mg "len" = none) (z_str : mg "str" = none) (z_int : mg "int" = none) : OkF P w K mg base 1 "_law_number_of" ["_law_path", "_law_head"] (spF K false 2 r_law_number_of) := by
  refine okF_of (N := N_law_number_of) (c := c_law_number_of) a sc_law_number_of fun f cdv A o s H E B hr hgd => ?_
  have h4 := hu4 hr
  have h5 := hu5 hr
  exact d_cons (d_set 2 sc_law_number_of.nd (d_slice sl_3 fSl_ok (d_nm 0) (d_psome (d_callB call_len fLen_ok (by rfl) z_len (by rfl) (d_bcons (d_nm 1) (d_bnil)))) (d_pnone))) (d_cons (d_ifS (d_pw (d_orT (d_cmpT (op_neD h4) fNe_ok (d_slice sl_3 fSl_ok (d_nm 0) (d_pnone) (d_psome (d_callB call_len fLen_ok (by rfl) z_len (by rfl) (d_bcons (d_nm 1) (d_bnil))))) (d_nm 1)) (d_orT (d_cmpT (op_eqD h4) fEq_ok (d_nm 2) (d_str)) (d_or1 (d_cmpT (op_neD h4) fNe_ok (d_lc (own := [("_law_sign", 3)]) rfl sc_law_number_of.nd (d_it (d_fz (d_nm 2))) (blkOk_by (own := [("_law_sign", 3)]) (N := N_law_number_of) (by first | decide +kernel | rfl)) (aNm_ok _) (fun _ _ _ _ _ => d_gnm 3 sc_law_number_of.nd) (fun _ _ _ _ _ => d_tone (d_cmpT (op_nin3 h5) fNin_ok (d_nm 3) (d_str))) (fun _ _ _ _ _ => d_fz (d_nm 3))) (d_lst (d_anil))))))) (d_one' (d_ret (d_non))) (d_nil)) (d_one' (d_ret (d_if (d_cmpT (op_eqD h4) fEq_ok (d_callTy call_str2 fStr_ok (by rfl) z_str (by rfl) (d_bcons (d_callTy call_int2 fInt_ok (by rfl) z_int (by rfl) (d_bcons (d_nm 2) (d_bnil))) (d_bnil))) (d_nm 2)) (d_callTy call_int2 fInt_ok (by rfl) z_int (by rfl) (d_bcons (d_nm 2) (d_bnil))) (d_non)))))
set_option maxHeartbeats 4000000 in
theorem ok_law_is_name (a : FnAt K mg "_law_is_name" s_law_is_name ["_law_word"]) (z_len : mg "len" = none) : OkF P w K mg base 1 "_law_is_name" ["_law_word"] (spF K false 1 r_law_is_name) := by
  refine okF_of (N := N_law_is_name) (c := c_law_is_name) a sc_law_is_name fun f cdv A o s H E B hr hgd => ?_
  have h4 := hu4 hr
  have h5 := hu5 hr
  exact d_cons (d_set 1 sc_law_is_name.nd (d_str)) (d_cons (d_ifS (d_pw (d_orT (d_notT (d_chainT op_le2 op_le2 fLe_ok fLe_ok (d_int) (d_callB call_len fLen_ok (by rfl) z_len (by rfl) (d_bcons (d_nm 0) (d_bnil))) (d_int))) (d_or1 (d_cmpT (op_nin3 h5) fNin_ok (d_ix ix_seq fIx_ok (d_nm 0) (d_int)) (d_nm 1))))) (d_one' (d_ret (d_bl))) (d_nil)) (d_one' (d_ret (d_cmp (op_eqD h4) fEq_ok (d_lc (own := [("_law_sign", 2)]) rfl sc_law_is_name.nd (d_it (d_fz (d_nm 0))) (blkOk_by (own := [("_law_sign", 2)]) (N := N_law_is_name) (by first | decide +kernel | rfl)) (aNm_ok _) (fun _ _ _ _ _ => d_gnm 2 sc_law_is_name.nd) (fun _ _ _ _ _ => d_tone (d_cmpT (op_nin3 h5) fNin_ok (d_nm 2) (d_op op_add4 fAdd_ok (d_nm 1) (d_str)))) (fun _ _ _ _ _ => d_fz (d_nm 2))) (d_lst (d_anil))))))
set_option maxHeartbeats 4000000 in
theorem ok_law_is_path (a : FnAt K mg "_law_is_path" s_law_is_path ["_law_thing"]) (z_isinstance : mg "isinstance" = none) (z_str : mg "str" = none) (o_law_is_name : OkF P w K mg base 1 "_law_is_name" ["_law_word"] (spF K false 1 r_law_is_name)) : OkF P w K mg base 2 "_law_is_path" ["_law_thing"] (spF K false 1 r_law_is_path) := by
  obtain ⟨_, _, m_law_is_name, k_law_is_name, b_law_is_name, G_law_is_name⟩ := o_law_is_name
  refine okF_of (N := N_law_is_path) (c := c_law_is_path) a sc_law_is_path fun f cdv A o s H E B hr hgd => ?_
  have h4 := hu4 hr
  have h5 := hu5 hr
  exact d_one' (d_ret (d_and (d_isi (d_nm 0) (by rfl) z_isinstance (by rfl) z_str rfl) (d_one (d_cmp (op_eqD h4) fEq_ok (d_lc (own := [("_law_word", 1)]) rfl sc_law_is_path.nd (d_it (d_fz (d_mt fSplit_ok mt_split PySem.F.slot_str_split PySem.F.type_str_split (d_nm 0) (d_bcons (d_str) (d_bnil))))) (blkOk_by (own := [("_law_word", 1)]) (N := N_law_is_path) (by first | decide +kernel | rfl)) (aNm_ok _) (fun _ _ _ _ _ => d_gnm 1 sc_law_is_path.nd) (fun _ _ _ _ _ => d_tone (d_notT (d_truth (d_call (G_law_is_name.up (by decide)) hr hgd (by rfl) m_law_is_name k_law_is_name b_law_is_name (d_acons (d_fz (d_nm 1)) (d_anil)))))) (fun _ _ _ _ _ => d_fz (d_nm 1))) (d_lst (d_anil))))))
set_option maxHeartbeats 4000000 in
theorem ok_law_is_shelf (a : FnAt K mg "_law_is_shelf" s_law_is_shelf ["_law_thing"]) (z_isinstance : mg "isinstance" = none) (z_str : mg "str" = none) (o_law_number_of : OkF P w K mg base 1 "_law_number_of" ["_law_path", "_law_head"] (spF K false 2 r_law_number_of)) (o_law_is_path : OkF P w K mg base 2 "_law_is_path" ["_law_thing"] (spF K false 1 r_law_is_path)) : OkF P w K mg base 3 "_law_is_shelf" ["_law_thing"] (spF K false 1 r_law_is_shelf) := by
  obtain ⟨_, _, m_law_number_of, k_law_number_of, b_law_number_of, G_law_number_of⟩ := o_law_number_of
  obtain ⟨_, _, m_law_is_path, k_law_is_path, b_law_is_path, G_law_is_path⟩ := o_law_is_path
  refine okF_of (N := N_law_is_shelf) (c := c_law_is_shelf) a sc_law_is_shelf fun f cdv A o s H E B hr hgd => ?_
  have h4 := hu4 hr
  have h5 := hu5 hr
  exact d_one' (d_ret (d_and (d_isi (d_nm 0) (by rfl) z_isinstance (by rfl) z_str rfl) (d_and (d_cmp op_isnt2 fIsnt_ok (d_call (G_law_number_of.up (by decide)) hr hgd (by rfl) m_law_number_of k_law_number_of b_law_number_of (d_acons (d_fz (d_nm 0)) (d_acons (d_fz (d_str)) (d_anil)))) (d_non)) (d_one (d_call (G_law_is_path.up (by decide)) hr hgd (by rfl) m_law_is_path k_law_is_path b_law_is_path (d_acons (d_fz (d_nm 0)) (d_anil)))))))
set_option maxHeartbeats 4000000 in
theorem ok_law_manifest_text (a : FnAt K mg "_law_manifest_text" s_law_manifest_text ["_law_manifest"]) (z_str : mg "str" = none) (z_len : mg "len" = none) : OkF P w K mg base 1 "_law_manifest_text" ["_law_manifest"] (spF K false 1 r_law_manifest_text) := by
  refine okF_of (N := N_law_manifest_text) (c := c_law_manifest_text) a sc_law_manifest_text fun f cdv A o s H E B hr hgd => ?_
  have h4 := hu4 hr
  have h5 := hu5 hr
  exact d_cons (d_set 1 sc_law_manifest_text.nd (d_op op_add4 fAdd_ok (d_lst (d_acons (d_fz (d_op op_add4 fAdd_ok (d_str) (d_callTy call_str2 fStr_ok (by rfl) z_str (by rfl) (d_bcons (d_callB call_len fLen_ok (by rfl) z_len (by rfl) (d_bcons (d_ix ix_seq fIx_ok (d_nm 0) (d_int)) (d_bnil))) (d_bnil))))) (d_anil))) (d_lc (own := [("_law_entry", 2)]) rfl sc_law_manifest_text.nd (d_it (d_fz (d_ix ix_seq fIx_ok (d_nm 0) (d_int)))) (blkOk_by (own := [("_law_entry", 2)]) (N := N_law_manifest_text) (by first | decide +kernel | rfl)) (aNm_ok _) (fun _ _ _ _ _ => d_gnm 2 sc_law_manifest_text.nd) (fun _ _ _ _ _ => d_yes) (fun _ _ _ _ _ => d_fz (d_mt fJoin_ok mt_join PySem.F.slot_str_join PySem.F.type_str_join (d_str) (d_bcons (d_nm 2) (d_bnil))))))) (d_one' (d_ret (d_mt fJoin_ok mt_join PySem.F.slot_str_join PySem.F.type_str_join (d_str) (d_bcons (d_op op_add4 fAdd_ok (d_nm 1) (d_lst (d_acons (d_fz (d_op op_add4 fAdd_ok (d_str) (d_if (d_cmpT op_is2 fIs_ok (d_ix ix_seq fIx_ok (d_nm 0) (d_int)) (d_non)) (d_str) (d_ix ix_seq fIx_ok (d_nm 0) (d_int))))) (d_anil)))) (d_bnil)))))
set_option maxHeartbeats 4000000 in
theorem ok_law_read_manifest (a : FnAt K mg "_law_read_manifest" s_law_read_manifest ["_law_text"]) (z_len : mg "len" = none) (z_str : mg "str" = none) (z_sorted : mg "sorted" = none) (z_set : mg "set" = none) (z_tuple : mg "tuple" = none) (o_law_is_path : OkF P w K mg base 2 "_law_is_path" ["_law_thing"] (spF K false 1 r_law_is_path)) (o_law_is_shelf : OkF P w K mg base 3 "_law_is_shelf" ["_law_thing"] (spF K false 1 r_law_is_shelf)) : OkF P w K mg base 4 "_law_read_manifest" ["_law_text"] (spF K false 1 r_law_read_manifest) := by
  obtain ⟨_, _, m_law_is_path, k_law_is_path, b_law_is_path, G_law_is_path⟩ := o_law_is_path
  obtain ⟨_, _, m_law_is_shelf, k_law_is_shelf, b_law_is_shelf, G_law_is_shelf⟩ := o_law_is_shelf
  refine okF_of (N := N_law_read_manifest) (c := c_law_read_manifest) a sc_law_read_manifest fun f cdv A o s H E B hr hgd => ?_
  have h4 := hu4 hr
  have h5 := hu5 hr
  exact d_cons (d_setLc 1 (own := [("_law_line", 5)]) rfl sc_law_read_manifest.nd (d_it (d_fz (d_mt fSplit_ok mt_split PySem.F.slot_str_split PySem.F.type_str_split (d_nm 0) (d_bcons (d_str) (d_bnil))))) (blkOk_by (own := [("_law_line", 5)]) (N := N_law_read_manifest) (by first | decide +kernel | rfl)) (aNm_ok _) (fun _ _ _ _ _ => d_gnm 5 sc_law_read_manifest.nd) (fun _ _ _ _ _ => d_yes) (fun _ _ _ _ _ => d_fz (d_mt fSplit_ok mt_split PySem.F.slot_str_split PySem.F.type_str_split (d_nm 5) (d_bcons (d_str) (d_bnil)))) (sw_true rfl rfl rfl (by decide +kernel))) (d_cons (d_ifS (d_pw (d_orT (d_cmpT op_lt2 fLt_ok (d_callB call_len fLen_ok (by rfl) z_len (by rfl) (d_bcons (d_nm 1) (d_bnil))) (d_int)) (d_or1 (d_cmpT (op_neD h4) fNe_ok (d_ix ix_seq fIx_ok (d_nm 1) (d_int)) (d_lst (d_acons (d_fz (d_str)) (d_acons (d_fz (d_callTy call_str2 fStr_ok (by rfl) z_str (by rfl) (d_bcons (d_op op_sub fSub_ok (d_callB call_len fLen_ok (by rfl) z_len (by rfl) (d_bcons (d_nm 1) (d_bnil))) (d_int)) (d_bnil)))) (d_anil)))))))) (d_one' (d_ret (d_non))) (d_nil)) (d_cons (d_for PassesOwn.never rfl (d_it (d_fz (d_slice sl_3 fSl_ok (d_nm 1) (d_psome (d_int)) (d_psome (d_neg (d_int)))))) (d_gnm 2 sc_law_read_manifest.nd) (d_one' (d_ifS (d_pw (d_orT (d_cmpT (op_neD h4) fNe_ok (d_callB call_len fLen_ok (by rfl) z_len (by rfl) (d_bcons (d_nm 2) (d_bnil))) (d_int)) (d_orT (d_notT (d_truth (d_call (G_law_is_path.up (by decide)) hr hgd (by rfl) m_law_is_path k_law_is_path b_law_is_path (d_acons (d_fz (d_ix ix_seq fIx_ok (d_nm 2) (d_int))) (d_anil))))) (d_or1 (d_notT (d_truth (d_call (G_law_is_shelf.up (by decide)) hr hgd (by rfl) m_law_is_shelf k_law_is_shelf b_law_is_shelf (d_acons (d_fz (d_ix ix_seq fIx_ok (d_nm 2) (d_int))) (d_anil))))))))) (d_one' (d_ret (d_non))) (d_nil)))) (d_cons (d_fgt [2] (d_setLc 3 (own := [("_law_words", 2)]) rfl sc_law_read_manifest.nd (d_it (d_fz (d_slice sl_3 fSl_ok (d_nm 1) (d_psome (d_int)) (d_psome (d_neg (d_int)))))) (blkOk_by (own := [("_law_words", 2)]) (N := N_law_read_manifest) (by first | decide +kernel | rfl)) (aNm_ok _) (fun _ _ _ _ _ => d_gnm 2 sc_law_read_manifest.nd) (fun _ _ _ _ _ => d_yes) (fun _ _ _ _ _ => d_fz (d_ix ix_seq fIx_ok (d_nm 2) (d_int))) (sw_true rfl rfl rfl (by decide +kernel)))) (d_cons (d_ifS (d_pw (d_orT (d_cmpT (op_neD h4) fNe_ok (d_nm 3) (d_sortset rfl (by rfl) z_sorted (by rfl) z_set (d_nm 3))) (d_orT (d_cmpT (op_neD h4) fNe_ok (d_callB call_len fLen_ok (by rfl) z_len (by rfl) (d_bcons (d_ix ix_seq fIx_ok (d_nm 1) (d_neg (d_int))) (d_bnil))) (d_int)) (d_or1 (d_cmpT (op_neD h4) fNe_ok (d_ix ix_seq fIx_ok (d_ix ix_seq fIx_ok (d_nm 1) (d_neg (d_int))) (d_int)) (d_str)))))) (d_one' (d_ret (d_non))) (d_nil)) (d_cons (d_set 4 sc_law_read_manifest.nd (d_ix ix_seq fIx_ok (d_ix ix_seq fIx_ok (d_nm 1) (d_neg (d_int))) (d_int))) (d_cons (d_ifS (d_pw (d_andT (d_cmpT (op_neD h4) fNe_ok (d_nm 4) (d_str)) (d_and1 (d_notT (d_truth (d_call (G_law_is_shelf.up (by decide)) hr hgd (by rfl) m_law_is_shelf k_law_is_shelf b_law_is_shelf (d_acons (d_fz (d_nm 4)) (d_anil)))))))) (d_one' (d_ret (d_non))) (d_nil)) (d_one' (d_fgt [2] (d_ret (d_tup (d_acons (d_fz (d_callTy call_tuple_of fTuple_ok (by rfl) z_tuple (by rfl) (d_bcons (d_lc (own := [("_law_words", 2)]) rfl sc_law_read_manifest.nd (d_it (d_fz (d_slice sl_3 fSl_ok (d_nm 1) (d_psome (d_int)) (d_psome (d_neg (d_int)))))) (blkOk_by (own := [("_law_words", 2)]) (N := N_law_read_manifest) (by first | decide +kernel | rfl)) (aNm_ok _) (fun _ _ _ _ _ => d_gnm 2 sc_law_read_manifest.nd) (fun _ _ _ _ _ => d_yes) (fun _ _ _ _ _ => d_fz (d_callTy call_tuple_of fTuple_ok (by rfl) z_tuple (by rfl) (d_bcons (d_nm 2) (d_bnil))))) (d_bnil)))) (d_acons (d_fz (d_if (d_cmpT (op_eqD h4) fEq_ok (d_nm 4) (d_str)) (d_non) (d_nm 4))) (d_anil)))))))))))))
set_option maxHeartbeats 4000000 in
theorem ok_law_drawn_manifest (a : FnAt K mg "_law_drawn_manifest" s_law_drawn_manifest ["_law_bag_here"]) (z_str : mg "str" = none) (z_tuple : mg "tuple" = none) (z_sorted : mg "sorted" = none) (o_law_take : OkF P w K mg base 1 "_law_take" ["_law_bag_here", "_law_many"] (spF K true 2 r_law_take)) (o_law_one : OkF P w K mg base 2 "_law_one" ["_law_bag_here", "_law_things"] (spF K true 2 r_law_one)) : OkF P w K mg base 3 "_law_drawn_manifest" ["_law_bag_here"] (spF K true 1 r_law_drawn_manifest) := by
  obtain ⟨_, _, m_law_take, k_law_take, b_law_take, G_law_take⟩ := o_law_take
  obtain ⟨_, _, m_law_one, k_law_one, b_law_one, G_law_one⟩ := o_law_one
  refine okF_of (N := N_law_drawn_manifest) (c := c_law_drawn_manifest) a sc_law_drawn_manifest fun f cdv A o s H E B hr hgd => ?_
  have h4 := hu4 hr
  have h5 := hu5 hr
  exact d_cons (d_setLc 1 (own := [("_law_path", 4)]) rfl sc_law_drawn_manifest.nd (d_it (d_fz (d_lst (d_acons (d_fz (d_str)) (d_acons (d_fz (d_str)) (d_acons (d_fz (d_str)) (d_acons (d_fz (d_str)) (d_acons (d_fz (d_str)) (d_acons (d_fz (d_op op_mul3 fMul_ok (d_str) (d_int))) (d_acons (d_fz (d_str)) (d_anil))))))))))) (blkOk_by (own := [("_law_path", 4)]) (N := N_law_drawn_manifest) (by first | decide +kernel | rfl)) (aNm_ok _) (fun _ _ _ _ _ => d_gnm 4 sc_law_drawn_manifest.nd) (fun _ _ _ _ _ => d_tone (d_cmpT (op_eqD h4) fEq_ok (d_callI 0 (G_law_take.up (by decide)) hr hgd (by rfl) m_law_take k_law_take b_law_take (d_acons (d_fz (d_int)) (d_anil))) (d_int))) (fun _ _ _ _ _ => d_fz (d_nm 4)) (sw_true rfl rfl rfl (by decide +kernel))) (d_cons (d_set 2 sc_law_drawn_manifest.nd (d_lc (own := [("_law_number", 5)]) rfl sc_law_drawn_manifest.nd (d_it (d_fz (d_lst (d_acons (d_fz (d_int)) (d_acons (d_fz (d_int)) (d_acons (d_fz (d_int)) (d_acons (d_fz (d_int)) (d_acons (d_fz (d_int)) (d_acons (d_fz (d_op op_pow fPow_ok (d_int) (d_int))) (d_anil)))))))))) (blkOk_by (own := [("_law_number", 5)]) (N := N_law_drawn_manifest) (by first | decide +kernel | rfl)) (aNm_ok _) (fun _ _ _ _ _ => d_gnm 5 sc_law_drawn_manifest.nd) (fun _ _ _ _ _ => d_yes) (fun _ _ _ _ _ => d_fz (d_op op_add4 fAdd_ok (d_str) (d_callTy call_str2 fStr_ok (by rfl) z_str (by rfl) (d_bcons (d_nm 5) (d_bnil))))))) (d_cons (d_set 3 sc_law_drawn_manifest.nd (d_callTy call_tuple_of fTuple_ok (by rfl) z_tuple (by rfl) (d_bcons (d_lc (own := [("_law_path", 4)]) rfl sc_law_drawn_manifest.nd (d_it (d_fz (d_callB cr_sortedS fSortS_ok (by rfl) z_sorted (by rfl) (d_bcons (d_nm 1) (d_bnil))))) (blkOk_by (own := [("_law_path", 4)]) (N := N_law_drawn_manifest) (by first | decide +kernel | rfl)) (aNm_ok _) (fun _ _ _ _ _ => d_gnm 4 sc_law_drawn_manifest.nd) (fun _ _ _ _ _ => d_yes) (fun _ _ _ _ _ => d_fz (d_tup (d_acons (d_fz (d_nm 4)) (d_acons (d_fz (d_callI 0 (G_law_one.up (by decide)) hr hgd (by rfl) m_law_one k_law_one b_law_one (d_acons (d_fz (d_nm 2)) (d_anil)))) (d_anil)))))) (d_bnil)))) (d_one' (d_ret (d_tup (d_acons (d_fz (d_nm 3)) (d_acons (d_fz (d_callI 0 (G_law_one.up (by decide)) hr hgd (by rfl) m_law_one k_law_one b_law_one (d_acons (d_fz (d_op op_add4 fAdd_ok (d_nm 2) (d_lst (d_acons (d_fz (d_non)) (d_acons (d_fz (d_non)) (d_acons (d_fz (d_non)) (d_anil))))))) (d_anil)))) (d_anil))))))))
set_option maxHeartbeats 4000000 in
theorem ok_law_near_text (a : FnAt K mg "_law_near_text" s_law_near_text ["_law_bag_here", "_law_text"]) (z_len : mg "len" = none) (z_int : mg "int" = none) (o_law_take : OkF P w K mg base 1 "_law_take" ["_law_bag_here", "_law_many"] (spF K true 2 r_law_take)) (o_law_one : OkF P w K mg base 2 "_law_one" ["_law_bag_here", "_law_things"] (spF K true 2 r_law_one)) (o_law_mixed : OkF P w K mg base 2 "_law_mixed" ["_law_bag_here", "_law_things"] (spF K true 2 r_law_mixed)) : OkF P w K mg base 3 "_law_near_text" ["_law_bag_here", "_law_text"] (spF K true 2 r_law_near_text) := by
  obtain ⟨_, _, m_law_take, k_law_take, b_law_take, G_law_take⟩ := o_law_take
  obtain ⟨_, _, m_law_one, k_law_one, b_law_one, G_law_one⟩ := o_law_one
  obtain ⟨_, _, m_law_mixed, k_law_mixed, b_law_mixed, G_law_mixed⟩ := o_law_mixed
  refine okF_of (N := N_law_near_text) (c := c_law_near_text) a sc_law_near_text fun f cdv A o s H E B hr hgd => ?_
  have h4 := hu4 hr
  have h5 := hu5 hr
  exact d_cons (d_par3 2 3 4 rfl sc_law_near_text.nd (d_acons (d_fz (d_mt fSplit_ok mt_split PySem.F.slot_str_split PySem.F.type_str_split (d_nm 1) (d_bcons (d_str) (d_bnil)))) (d_acons (d_fz (d_callI 0 (G_law_take.up (by decide)) hr hgd (by rfl) m_law_take k_law_take b_law_take (d_acons (d_fz (d_int)) (d_anil)))) (d_acons (d_fz (d_callI 0 (G_law_take.up (by decide)) hr hgd (by rfl) m_law_take k_law_take b_law_take (d_acons (d_fz (d_op op_add4 fAdd_ok (d_callB call_len fLen_ok (by rfl) z_len (by rfl) (d_bcons (d_nm 1) (d_bnil))) (d_int))) (d_anil)))) (d_anil))))) (d_cons (d_set 5 sc_law_near_text.nd (d_callI 0 (G_law_take.up (by decide)) hr hgd (by rfl) m_law_take k_law_take b_law_take (d_acons (d_fz (d_callB call_len fLen_ok (by rfl) z_len (by rfl) (d_bcons (d_nm 2) (d_bnil)))) (d_anil)))) (d_cons (d_set 6 sc_law_near_text.nd (d_lst (d_acons (d_fz (d_str)) (d_acons (d_fz (d_str)) (d_acons (d_fz (d_str)) (d_acons (d_fz (d_str)) (d_acons (d_fz (d_str)) (d_acons (d_fz (d_str)) (d_acons (d_fz (d_str)) (d_anil)))))))))) (d_cons (d_set 6 sc_law_near_text.nd (d_op op_add4 fAdd_ok (d_nm 6) (d_lst (d_acons (d_fz (d_str)) (d_acons (d_fz (d_str)) (d_acons (d_fz (d_str)) (d_anil))))))) (d_cons (d_ifS (d_cmpT (op_eqD h4) fEq_ok (d_nm 3) (d_int)) (d_one' (d_ret (d_mt fJoin_ok mt_join PySem.F.slot_str_join PySem.F.type_str_join (d_str) (d_bcons (d_op op_add4 fAdd_ok (d_slice sl_3 fSl_ok (d_nm 2) (d_pnone) (d_psome (d_nm 5))) (d_slice sl_3 fSl_ok (d_nm 2) (d_psome (d_op op_add4 fAdd_ok (d_nm 5) (d_int))) (d_pnone))) (d_bnil))))) (d_nil)) (d_cons (d_ifS (d_cmpT (op_eqD h4) fEq_ok (d_nm 3) (d_int)) (d_one' (d_ret (d_mt fJoin_ok mt_join PySem.F.slot_str_join PySem.F.type_str_join (d_str) (d_bcons (d_op op_add4 fAdd_ok (d_op op_add4 fAdd_ok (d_slice sl_3 fSl_ok (d_nm 2) (d_pnone) (d_psome (d_nm 5))) (d_lst (d_acons (d_fz (d_callI 0 (G_law_one.up (by decide)) hr hgd (by rfl) m_law_one k_law_one b_law_one (d_acons (d_fz (d_nm 6)) (d_anil)))) (d_anil)))) (d_slice sl_3 fSl_ok (d_nm 2) (d_psome (d_op op_add4 fAdd_ok (d_nm 5) (d_int))) (d_pnone))) (d_bnil))))) (d_nil)) (d_cons (d_ifS (d_cmpT (op_eqD h4) fEq_ok (d_nm 3) (d_int)) (d_one' (d_ret (d_mt fJoin_ok mt_join PySem.F.slot_str_join PySem.F.type_str_join (d_str) (d_bcons (d_op op_add4 fAdd_ok (d_slice sl_3 fSl_ok (d_nm 2) (d_pnone) (d_psome (d_op op_add4 fAdd_ok (d_nm 5) (d_int)))) (d_slice sl_3 fSl_ok (d_nm 2) (d_psome (d_nm 5)) (d_pnone))) (d_bnil))))) (d_nil)) (d_cons (d_ifS (d_cmpT (op_eqD h4) fEq_ok (d_nm 3) (d_int)) (d_one' (d_ret (d_mt fJoin_ok mt_join PySem.F.slot_str_join PySem.F.type_str_join (d_str) (d_bcons (d_op op_add4 fAdd_ok (d_op op_add4 fAdd_ok (d_slice sl_3 fSl_ok (d_nm 2) (d_pnone) (d_psome (d_int))) (d_callI 0 (G_law_mixed.up (by decide)) hr hgd (by rfl) m_law_mixed k_law_mixed b_law_mixed (d_acons (d_fz (d_slice sl_3 fSl_ok (d_nm 2) (d_psome (d_int)) (d_psome (d_neg (d_int))))) (d_anil)))) (d_slice sl_3 fSl_ok (d_nm 2) (d_psome (d_neg (d_int))) (d_pnone))) (d_bnil))))) (d_nil)) (d_cons (d_ifS (d_cmpT (op_eqD h4) fEq_ok (d_nm 3) (d_int)) (d_one' (d_ret (d_slice sl_3 fSl_ok (d_nm 1) (d_pnone) (d_psome (d_nm 4))))) (d_nil)) (d_cons (d_set 7 sc_law_near_text.nd (d_callI 0 (G_law_one.up (by decide)) hr hgd (by rfl) m_law_one k_law_one b_law_one (d_acons (d_fz (d_lst (d_acons (d_fz (d_str)) (d_acons (d_fz (d_str)) (d_acons (d_fz (d_str)) (d_acons (d_fz (d_str)) (d_acons (d_fz (d_str)) (d_acons (d_fz (d_str)) (d_acons (d_fz (d_str)) (d_acons (d_fz (d_str)) (d_anil))))))))))) (d_anil)))) (d_one' (d_ret (d_op op_add4 fAdd_ok (d_op op_add4 fAdd_ok (d_slice sl_3 fSl_ok (d_nm 1) (d_pnone) (d_psome (d_nm 4))) (d_nm 7)) (d_slice sl_3 fSl_ok (d_nm 1) (d_psome (d_op op_add4 fAdd_ok (d_nm 4) (d_callTy call_int2 fInt_ok (by rfl) z_int (by rfl) (d_bcons (d_cmp op_lt2 fLt_ok (d_nm 3) (d_int)) (d_bnil))))) (d_pnone))))))))))))))
set_option maxHeartbeats 4000000 in
theorem ok_law_fn {fa : Addr} {fd : FuncData} (F : Fun K "law" "law" s_law fa fd) (z_range : mg "range" = none) (z_len : mg "len" = none) (o_law_bag : OkF P w K mg base 1 "_law_bag" ["_law_script"] (spF K false 1 r_law_bag)) (o_law_drawn_manifest : OkF P w K mg base 3 "_law_drawn_manifest" ["_law_bag_here"] (spF K true 1 r_law_drawn_manifest)) (o_law_manifest_text : OkF P w K mg base 1 "_law_manifest_text" ["_law_manifest"] (spF K false 1 r_law_manifest_text)) (o_law_alike : OkF P w K mg base 1 "_law_alike" ["_law_found", "_law_due"] (spF K false 2 r_law_alike)) (o_manifest_text : OkF P w K mg base 1 "manifest_text" ["manifest"] (spF K false 1 r_manifest_text)) (o_read_manifest : OkF P w K mg base 4 "read_manifest" ["text"] (spF K false 1 r_read_manifest)) (o_law_take : OkF P w K mg base 1 "_law_take" ["_law_bag_here", "_law_many"] (spF K true 2 r_law_take)) (o_law_near_text : OkF P w K mg base 3 "_law_near_text" ["_law_bag_here", "_law_text"] (spF K true 2 r_law_near_text)) (o_law_one : OkF P w K mg base 2 "_law_one" ["_law_bag_here", "_law_things"] (spF K true 2 r_law_one)) (o_law_read_manifest : OkF P w K mg base 4 "_law_read_manifest" ["_law_text"] (spF K false 1 r_law_read_manifest)) : FnG P w K mg base CX0 5 fa fd ["_law_script"] (spF K false 1 r_law) := by
  obtain ⟨_, _, m_law_bag, k_law_bag, b_law_bag, G_law_bag⟩ := o_law_bag
  obtain ⟨_, _, m_law_drawn_manifest, k_law_drawn_manifest, b_law_drawn_manifest, G_law_drawn_manifest⟩ := o_law_drawn_manifest
  obtain ⟨_, _, m_law_manifest_text, k_law_manifest_text, b_law_manifest_text, G_law_manifest_text⟩ := o_law_manifest_text
  obtain ⟨_, _, m_law_alike, k_law_alike, b_law_alike, G_law_alike⟩ := o_law_alike
  obtain ⟨_, _, m_manifest_text, k_manifest_text, b_manifest_text, G_manifest_text⟩ := o_manifest_text
  obtain ⟨_, _, m_read_manifest, k_read_manifest, b_read_manifest, G_read_manifest⟩ := o_read_manifest
  obtain ⟨_, _, m_law_take, k_law_take, b_law_take, G_law_take⟩ := o_law_take
  obtain ⟨_, _, m_law_near_text, k_law_near_text, b_law_near_text, G_law_near_text⟩ := o_law_near_text
  obtain ⟨_, _, m_law_one, k_law_one, b_law_one, G_law_one⟩ := o_law_one
  obtain ⟨_, _, m_law_read_manifest, k_law_read_manifest, b_law_read_manifest, G_law_read_manifest⟩ := o_law_read_manifest
  refine fn_body (N := N_law) (io := false) (c := c_law) F sc_law fun cdv A o s H E B hr hgd => ?_
  have h4 := hu4 hr
  have h5 := hu5 hr
  exact d_cons (d_set 1 sc_law.nd (d_call (G_law_bag.up (by decide)) hr hgd (by rfl) m_law_bag k_law_bag b_law_bag (d_acons (d_fz (d_nm 0)) (d_anil)))) (d_cons (d_for PassesOwn.never rfl (d_R1 (by rfl) z_range (d_int)) (d_gnm 2 sc_law.nd) (d_cons (d_set 3 sc_law.nd (d_callI 1 (G_law_drawn_manifest.up (by decide)) hr hgd (by rfl) m_law_drawn_manifest k_law_drawn_manifest b_law_drawn_manifest (d_anil))) (d_cons (d_set 4 sc_law.nd (d_call (G_law_manifest_text.up (by decide)) hr hgd (by rfl) m_law_manifest_text k_law_manifest_text b_law_manifest_text (d_acons (d_fz (d_nm 3)) (d_anil)))) (d_cons (d_ifS (d_notT (d_truth (d_call (G_law_alike.up (by decide)) hr hgd (by rfl) m_law_alike k_law_alike b_law_alike (d_acons (d_fz (d_lst (d_acons (d_fz (d_call (G_manifest_text.up (by decide)) hr hgd (by rfl) m_manifest_text k_manifest_text b_manifest_text (d_acons (d_fz (d_nm 3)) (d_anil)))) (d_acons (d_fz (d_call (G_read_manifest.up (by decide)) hr hgd (by rfl) m_read_manifest k_read_manifest b_read_manifest (d_acons (d_fz (d_nm 4)) (d_anil)))) (d_anil))))) (d_acons (d_fz (d_lst (d_acons (d_fz (d_nm 4)) (d_acons (d_fz (d_nm 3)) (d_anil))))) (d_anil)))))) (d_one' (d_ret (d_bl))) (d_nil)) (d_cons (d_setLc 5 (own := [("_law_size", 8)]) rfl sc_law.nd (d_R3 (by rfl) z_range (d_int) (d_callB call_len fLen_ok (by rfl) z_len (by rfl) (d_bcons (d_nm 4) (d_bnil))) (d_op op_add4 fAdd_ok (d_int) (d_callI 1 (G_law_take.up (by decide)) hr hgd (by rfl) m_law_take k_law_take b_law_take (d_acons (d_fz (d_int)) (d_anil))))) (blkOk_by (own := [("_law_size", 8)]) (N := N_law) (by first | decide +kernel | rfl)) (aNm_ok _) (fun _ _ _ _ _ => d_gnm 8 sc_law.nd) (fun _ _ _ _ _ => d_yes) (fun _ _ _ _ _ => d_fz (d_slice sl_3 fSl_ok (d_nm 4) (d_pnone) (d_psome (d_nm 8)))) (sw_true rfl rfl rfl (by decide +kernel))) (d_cons (d_set 5 sc_law.nd (d_op op_add4 fAdd_ok (d_op op_add4 fAdd_ok (d_nm 5) (d_lc (own := [("_law_k", 9)]) rfl sc_law.nd (d_R1 (by rfl) z_range (d_int)) (blkOk_by (own := [("_law_k", 9)]) (N := N_law) (by first | decide +kernel | rfl)) (aNm_ok _) (fun _ _ _ _ _ => d_gnm 9 sc_law.nd) (fun _ _ _ _ _ => d_yes) (fun _ _ _ _ _ => d_fz (d_callI 1 (G_law_near_text.up (by decide)) hr hgd (by rfl) m_law_near_text k_law_near_text b_law_near_text (d_acons (d_fz (d_nm 4)) (d_anil)))))) (d_lst (d_acons (d_fz (d_callI 1 (G_law_near_text.up (by decide)) hr hgd (by rfl) m_law_near_text k_law_near_text b_law_near_text (d_acons (d_fz (d_callI 1 (G_law_near_text.up (by decide)) hr hgd (by rfl) m_law_near_text k_law_near_text b_law_near_text (d_acons (d_fz (d_nm 4)) (d_anil)))) (d_anil)))) (d_anil))))) (d_cons (d_set 6 sc_law.nd (d_op op_add4 fAdd_ok (d_str) (d_op op_mul3 fMul_ok (d_str) (d_callI 1 (G_law_one.up (by decide)) hr hgd (by rfl) m_law_one k_law_one b_law_one (d_acons (d_fz (d_lst (d_acons (d_fz (d_int)) (d_acons (d_fz (d_int)) (d_acons (d_fz (d_int)) (d_anil)))))) (d_anil)))))) (d_cons (d_set 5 sc_law.nd (d_op op_add4 fAdd_ok (d_nm 5) (d_lst (d_acons (d_fz (d_op op_add4 fAdd_ok (d_str) (d_nm 6))) (d_acons (d_fz (d_op op_add4 fAdd_ok (d_op op_add4 fAdd_ok (d_str) (d_nm 6)) (d_str))) (d_anil)))))) (d_one' (d_for PassesOwn.never rfl (d_it (d_fz (d_op op_add4 fAdd_ok (d_nm 5) (d_lst (d_acons (d_fz (d_str)) (d_acons (d_fz (d_str)) (d_acons (d_fz (d_str)) (d_acons (d_fz (d_str)) (d_acons (d_fz (d_str)) (d_acons (d_fz (d_str)) (d_anil))))))))))) (d_gnm 7 sc_law.nd) (d_one' (d_ifS (d_notT (d_truth (d_call (G_law_alike.up (by decide)) hr hgd (by rfl) m_law_alike k_law_alike b_law_alike (d_acons (d_fz (d_call (G_read_manifest.up (by decide)) hr hgd (by rfl) m_read_manifest k_read_manifest b_read_manifest (d_acons (d_fz (d_nm 7)) (d_anil)))) (d_acons (d_fz (d_call (G_law_read_manifest.up (by decide)) hr hgd (by rfl) m_law_read_manifest k_law_read_manifest b_law_read_manifest (d_acons (d_fz (d_nm 7)) (d_anil)))) (d_anil)))))) (d_one' (d_ret (d_bl))) (d_nil))))))))))))) (d_one' (d_ret (d_bl))))
set_option maxHeartbeats 4000000 in
theorem all_mk {l : PySem.W.OpenLaw} {h : Heap} {fa : Addr} (X : K.In h) (G : h.Ns mainGlobals mg) (hfa : mg "law" = some (.ref fa)) {oc_is_name : Value} {kV_is_name : Value} {dc_is_name : Value} {pm_is_name : Value} {cd_is_name : Value} {ct_is_name : Value} {od_is_name an_is_name : Option Addr} {sl_is_name : Array (Option Value)} {f_is_name : Addr} {oc_is_path : Value} {kV_is_path : Value} {dc_is_path : Value} {pm_is_path : Value} {cd_is_path : Value} {ct_is_path : Value} {od_is_path an_is_path : Option Addr} {sl_is_path : Array (Option Value)} {f_is_path : Addr} {oc_number_behind : Value} {kV_number_behind : Value} {dc_number_behind : Value} {pm_number_behind : Value} {cd_number_behind : Value} {ct_number_behind : Value} {od_number_behind an_number_behind : Option Addr} {sl_number_behind : Array (Option Value)} {f_number_behind : Addr} {oc_is_shelf : Value} {kV_is_shelf : Value} {dc_is_shelf : Value} {pm_is_shelf : Value} {cd_is_shelf : Value} {ct_is_shelf : Value} {od_is_shelf an_is_shelf : Option Addr} {sl_is_shelf : Array (Option Value)} {f_is_shelf : Addr} {oc_manifest_text : Value} {kV_manifest_text : Value} {dc_manifest_text : Value} {pm_manifest_text : Value} {cd_manifest_text : Value} {ct_manifest_text : Value} {od_manifest_text an_manifest_text : Option Addr} {sl_manifest_text : Array (Option Value)} {f_manifest_text : Addr} {oc_read_entry : Value} {kV_read_entry : Value} {dc_read_entry : Value} {pm_read_entry : Value} {cd_read_entry : Value} {ct_read_entry : Value} {od_read_entry an_read_entry : Option Addr} {sl_read_entry : Array (Option Value)} {f_read_entry : Addr} {oc_read_manifest : Value} {kV_read_manifest : Value} {dc_read_manifest : Value} {pm_read_manifest : Value} {cd_read_manifest : Value} {ct_read_manifest : Value} {od_read_manifest an_read_manifest : Option Addr} {sl_read_manifest : Array (Option Value)} {f_read_manifest : Addr} {oc_law_bag : Value} {kV_law_bag : Value} {dc_law_bag : Value} {pm_law_bag : Value} {cd_law_bag : Value} {ct_law_bag : Value} {od_law_bag an_law_bag : Option Addr} {sl_law_bag : Array (Option Value)} {f_law_bag : Addr} {oc_law_take : Value} {kV_law_take : Value} {dc_law_take : Value} {pm_law_take : Value} {cd_law_take : Value} {ct_law_take : Value} {od_law_take an_law_take : Option Addr} {sl_law_take : Array (Option Value)} {f_law_take : Addr} {oc_law_one : Value} {kV_law_one : Value} {dc_law_one : Value} {pm_law_one : Value} {cd_law_one : Value} {ct_law_one : Value} {od_law_one an_law_one : Option Addr} {sl_law_one : Array (Option Value)} {f_law_one : Addr} {oc_law_mixed : Value} {kV_law_mixed : Value} {dc_law_mixed : Value} {pm_law_mixed : Value} {cd_law_mixed : Value} {ct_law_mixed : Value} {od_law_mixed an_law_mixed : Option Addr} {sl_law_mixed : Array (Option Value)} {f_law_mixed : Addr} {oc_law_alike : Value} {kV_law_alike : Value} {dc_law_alike : Value} {pm_law_alike : Value} {cd_law_alike : Value} {ct_law_alike : Value} {od_law_alike an_law_alike : Option Addr} {sl_law_alike : Array (Option Value)} {f_law_alike : Addr} {oc_law_number_of : Value} {kV_law_number_of : Value} {dc_law_number_of : Value} {pm_law_number_of : Value} {cd_law_number_of : Value} {ct_law_number_of : Value} {od_law_number_of an_law_number_of : Option Addr} {sl_law_number_of : Array (Option Value)} {f_law_number_of : Addr} {oc_law_is_name : Value} {kV_law_is_name : Value} {dc_law_is_name : Value} {pm_law_is_name : Value} {cd_law_is_name : Value} {ct_law_is_name : Value} {od_law_is_name an_law_is_name : Option Addr} {sl_law_is_name : Array (Option Value)} {f_law_is_name : Addr} {oc_law_is_path : Value} {kV_law_is_path : Value} {dc_law_is_path : Value} {pm_law_is_path : Value} {cd_law_is_path : Value} {ct_law_is_path : Value} {od_law_is_path an_law_is_path : Option Addr} {sl_law_is_path : Array (Option Value)} {f_law_is_path : Addr} {oc_law_is_shelf : Value} {kV_law_is_shelf : Value} {dc_law_is_shelf : Value} {pm_law_is_shelf : Value} {cd_law_is_shelf : Value} {ct_law_is_shelf : Value} {od_law_is_shelf an_law_is_shelf : Option Addr} {sl_law_is_shelf : Array (Option Value)} {f_law_is_shelf : Addr} {oc_law_manifest_text : Value} {kV_law_manifest_text : Value} {dc_law_manifest_text : Value} {pm_law_manifest_text : Value} {cd_law_manifest_text : Value} {ct_law_manifest_text : Value} {od_law_manifest_text an_law_manifest_text : Option Addr} {sl_law_manifest_text : Array (Option Value)} {f_law_manifest_text : Addr} {oc_law_read_manifest : Value} {kV_law_read_manifest : Value} {dc_law_read_manifest : Value} {pm_law_read_manifest : Value} {cd_law_read_manifest : Value} {ct_law_read_manifest : Value} {od_law_read_manifest an_law_read_manifest : Option Addr} {sl_law_read_manifest : Array (Option Value)} {f_law_read_manifest : Addr} {oc_law_drawn_manifest : Value} {kV_law_drawn_manifest : Value} {dc_law_drawn_manifest : Value} {pm_law_drawn_manifest : Value} {cd_law_drawn_manifest : Value} {ct_law_drawn_manifest : Value} {od_law_drawn_manifest an_law_drawn_manifest : Option Addr} {sl_law_drawn_manifest : Array (Option Value)} {f_law_drawn_manifest : Addr} {oc_law_near_text : Value} {kV_law_near_text : Value} {dc_law_near_text : Value} {pm_law_near_text : Value} {cd_law_near_text : Value} {ct_law_near_text : Value} {od_law_near_text an_law_near_text : Option Addr} {sl_law_near_text : Array (Option Value)} {f_law_near_text : Addr} {oc_law : Value} {kV_law : Value} {dc_law : Value} {pm_law : Value} {cd_law : Value} {ct_law : Value} {od_law an_law : Option Addr} {sl_law : Array (Option Value)} {f_law : Addr} {t_LETTERS : Tok} {t_DIGITS : Tok} {t_MOST_DIGITS : Tok} {t_SHELF : Tok} (a_is_name : PySem.W.nsIn K mainGlobals "is_name" = some (some (.ref f_is_name))) (l_is_name : K.lookup f_is_name = some ⟨oc_is_name, od_is_name, .func (PySem.W.fnOf "is_name" "is_name" (defArgs s_is_name) (defBody s_is_name) (defScope s_is_name) .none kV_is_name dc_is_name pm_is_name an_is_name cd_is_name ct_is_name), sl_is_name⟩) (c_is_name : PySem.W.codeIn K cd_is_name "is_name" = true) (k_is_name : PySem.W.keepIn K (.ref f_is_name) = true) (a_is_path : PySem.W.nsIn K mainGlobals "is_path" = some (some (.ref f_is_path))) (l_is_path : K.lookup f_is_path = some ⟨oc_is_path, od_is_path, .func (PySem.W.fnOf "is_path" "is_path" (defArgs s_is_path) (defBody s_is_path) (defScope s_is_path) .none kV_is_path dc_is_path pm_is_path an_is_path cd_is_path ct_is_path), sl_is_path⟩) (c_is_path : PySem.W.codeIn K cd_is_path "is_path" = true) (k_is_path : PySem.W.keepIn K (.ref f_is_path) = true) (a_number_behind : PySem.W.nsIn K mainGlobals "number_behind" = some (some (.ref f_number_behind))) (l_number_behind : K.lookup f_number_behind = some ⟨oc_number_behind, od_number_behind, .func (PySem.W.fnOf "number_behind" "number_behind" (defArgs s_number_behind) (defBody s_number_behind) (defScope s_number_behind) .none kV_number_behind dc_number_behind pm_number_behind an_number_behind cd_number_behind ct_number_behind), sl_number_behind⟩) (c_number_behind : PySem.W.codeIn K cd_number_behind "number_behind" = true) (k_number_behind : PySem.W.keepIn K (.ref f_number_behind) = true) (a_is_shelf : PySem.W.nsIn K mainGlobals "is_shelf" = some (some (.ref f_is_shelf))) (l_is_shelf : K.lookup f_is_shelf = some ⟨oc_is_shelf, od_is_shelf, .func (PySem.W.fnOf "is_shelf" "is_shelf" (defArgs s_is_shelf) (defBody s_is_shelf) (defScope s_is_shelf) .none kV_is_shelf dc_is_shelf pm_is_shelf an_is_shelf cd_is_shelf ct_is_shelf), sl_is_shelf⟩) (c_is_shelf : PySem.W.codeIn K cd_is_shelf "is_shelf" = true) (k_is_shelf : PySem.W.keepIn K (.ref f_is_shelf) = true) (a_manifest_text : PySem.W.nsIn K mainGlobals "manifest_text" = some (some (.ref f_manifest_text))) (l_manifest_text : K.lookup f_manifest_text = some ⟨oc_manifest_text, od_manifest_text, .func (PySem.W.fnOf "manifest_text" "manifest_text" (defArgs s_manifest_text) (defBody s_manifest_text) (defScope s_manifest_text) .none kV_manifest_text dc_manifest_text pm_manifest_text an_manifest_text cd_manifest_text ct_manifest_text), sl_manifest_text⟩) (c_manifest_text : PySem.W.codeIn K cd_manifest_text "manifest_text" = true) (k_manifest_text : PySem.W.keepIn K (.ref f_manifest_text) = true) (a_read_entry : PySem.W.nsIn K mainGlobals "read_entry" = some (some (.ref f_read_entry))) (l_read_entry : K.lookup f_read_entry = some ⟨oc_read_entry, od_read_entry, .func (PySem.W.fnOf "read_entry" "read_entry" (defArgs s_read_entry) (defBody s_read_entry) (defScope s_read_entry) .none kV_read_entry dc_read_entry pm_read_entry an_read_entry cd_read_entry ct_read_entry), sl_read_entry⟩) (c_read_entry : PySem.W.codeIn K cd_read_entry "read_entry" = true) (k_read_entry : PySem.W.keepIn K (.ref f_read_entry) = true) (a_read_manifest : PySem.W.nsIn K mainGlobals "read_manifest" = some (some (.ref f_read_manifest))) (l_read_manifest : K.lookup f_read_manifest = some ⟨oc_read_manifest, od_read_manifest, .func (PySem.W.fnOf "read_manifest" "read_manifest" (defArgs s_read_manifest) (defBody s_read_manifest) (defScope s_read_manifest) .none kV_read_manifest dc_read_manifest pm_read_manifest an_read_manifest cd_read_manifest ct_read_manifest), sl_read_manifest⟩) (c_read_manifest : PySem.W.codeIn K cd_read_manifest "read_manifest" = true) (k_read_manifest : PySem.W.keepIn K (.ref f_read_manifest) = true) (a_law_bag : PySem.W.nsIn K mainGlobals "_law_bag" = some (some (.ref f_law_bag))) (l_law_bag : K.lookup f_law_bag = some ⟨oc_law_bag, od_law_bag, .func (PySem.W.fnOf "_law_bag" "_law_bag" (defArgs s_law_bag) (defBody s_law_bag) (defScope s_law_bag) .none kV_law_bag dc_law_bag pm_law_bag an_law_bag cd_law_bag ct_law_bag), sl_law_bag⟩) (c_law_bag : PySem.W.codeIn K cd_law_bag "_law_bag" = true) (k_law_bag : PySem.W.keepIn K (.ref f_law_bag) = true) (a_law_take : PySem.W.nsIn K mainGlobals "_law_take" = some (some (.ref f_law_take))) (l_law_take : K.lookup f_law_take = some ⟨oc_law_take, od_law_take, .func (PySem.W.fnOf "_law_take" "_law_take" (defArgs s_law_take) (defBody s_law_take) (defScope s_law_take) .none kV_law_take dc_law_take pm_law_take an_law_take cd_law_take ct_law_take), sl_law_take⟩) (c_law_take : PySem.W.codeIn K cd_law_take "_law_take" = true) (k_law_take : PySem.W.keepIn K (.ref f_law_take) = true) (a_law_one : PySem.W.nsIn K mainGlobals "_law_one" = some (some (.ref f_law_one))) (l_law_one : K.lookup f_law_one = some ⟨oc_law_one, od_law_one, .func (PySem.W.fnOf "_law_one" "_law_one" (defArgs s_law_one) (defBody s_law_one) (defScope s_law_one) .none kV_law_one dc_law_one pm_law_one an_law_one cd_law_one ct_law_one), sl_law_one⟩) (c_law_one : PySem.W.codeIn K cd_law_one "_law_one" = true) (k_law_one : PySem.W.keepIn K (.ref f_law_one) = true) (a_law_mixed : PySem.W.nsIn K mainGlobals "_law_mixed" = some (some (.ref f_law_mixed))) (l_law_mixed : K.lookup f_law_mixed = some ⟨oc_law_mixed, od_law_mixed, .func (PySem.W.fnOf "_law_mixed" "_law_mixed" (defArgs s_law_mixed) (defBody s_law_mixed) (defScope s_law_mixed) .none kV_law_mixed dc_law_mixed pm_law_mixed an_law_mixed cd_law_mixed ct_law_mixed), sl_law_mixed⟩) (c_law_mixed : PySem.W.codeIn K cd_law_mixed "_law_mixed" = true) (k_law_mixed : PySem.W.keepIn K (.ref f_law_mixed) = true) (a_law_alike : PySem.W.nsIn K mainGlobals "_law_alike" = some (some (.ref f_law_alike))) (l_law_alike : K.lookup f_law_alike = some ⟨oc_law_alike, od_law_alike, .func (PySem.W.fnOf "_law_alike" "_law_alike" (defArgs s_law_alike) (defBody s_law_alike) (defScope s_law_alike) .none kV_law_alike dc_law_alike pm_law_alike an_law_alike cd_law_alike ct_law_alike), sl_law_alike⟩) (c_law_alike : PySem.W.codeIn K cd_law_alike "_law_alike" = true) (k_law_alike : PySem.W.keepIn K (.ref f_law_alike) = true) (a_law_number_of : PySem.W.nsIn K mainGlobals "_law_number_of" = some (some (.ref f_law_number_of))) (l_law_number_of : K.lookup f_law_number_of = some ⟨oc_law_number_of, od_law_number_of, .func (PySem.W.fnOf "_law_number_of" "_law_number_of" (defArgs s_law_number_of) (defBody s_law_number_of) (defScope s_law_number_of) .none kV_law_number_of dc_law_number_of pm_law_number_of an_law_number_of cd_law_number_of ct_law_number_of), sl_law_number_of⟩) (c_law_number_of : PySem.W.codeIn K cd_law_number_of "_law_number_of" = true) (k_law_number_of : PySem.W.keepIn K (.ref f_law_number_of) = true) (a_law_is_name : PySem.W.nsIn K mainGlobals "_law_is_name" = some (some (.ref f_law_is_name))) (l_law_is_name : K.lookup f_law_is_name = some ⟨oc_law_is_name, od_law_is_name, .func (PySem.W.fnOf "_law_is_name" "_law_is_name" (defArgs s_law_is_name) (defBody s_law_is_name) (defScope s_law_is_name) .none kV_law_is_name dc_law_is_name pm_law_is_name an_law_is_name cd_law_is_name ct_law_is_name), sl_law_is_name⟩) (c_law_is_name : PySem.W.codeIn K cd_law_is_name "_law_is_name" = true) (k_law_is_name : PySem.W.keepIn K (.ref f_law_is_name) = true) (a_law_is_path : PySem.W.nsIn K mainGlobals "_law_is_path" = some (some (.ref f_law_is_path))) (l_law_is_path : K.lookup f_law_is_path = some ⟨oc_law_is_path, od_law_is_path, .func (PySem.W.fnOf "_law_is_path" "_law_is_path" (defArgs s_law_is_path) (defBody s_law_is_path) (defScope s_law_is_path) .none kV_law_is_path dc_law_is_path pm_law_is_path an_law_is_path cd_law_is_path ct_law_is_path), sl_law_is_path⟩) (c_law_is_path : PySem.W.codeIn K cd_law_is_path "_law_is_path" = true) (k_law_is_path : PySem.W.keepIn K (.ref f_law_is_path) = true) (a_law_is_shelf : PySem.W.nsIn K mainGlobals "_law_is_shelf" = some (some (.ref f_law_is_shelf))) (l_law_is_shelf : K.lookup f_law_is_shelf = some ⟨oc_law_is_shelf, od_law_is_shelf, .func (PySem.W.fnOf "_law_is_shelf" "_law_is_shelf" (defArgs s_law_is_shelf) (defBody s_law_is_shelf) (defScope s_law_is_shelf) .none kV_law_is_shelf dc_law_is_shelf pm_law_is_shelf an_law_is_shelf cd_law_is_shelf ct_law_is_shelf), sl_law_is_shelf⟩) (c_law_is_shelf : PySem.W.codeIn K cd_law_is_shelf "_law_is_shelf" = true) (k_law_is_shelf : PySem.W.keepIn K (.ref f_law_is_shelf) = true) (a_law_manifest_text : PySem.W.nsIn K mainGlobals "_law_manifest_text" = some (some (.ref f_law_manifest_text))) (l_law_manifest_text : K.lookup f_law_manifest_text = some ⟨oc_law_manifest_text, od_law_manifest_text, .func (PySem.W.fnOf "_law_manifest_text" "_law_manifest_text" (defArgs s_law_manifest_text) (defBody s_law_manifest_text) (defScope s_law_manifest_text) .none kV_law_manifest_text dc_law_manifest_text pm_law_manifest_text an_law_manifest_text cd_law_manifest_text ct_law_manifest_text), sl_law_manifest_text⟩) (c_law_manifest_text : PySem.W.codeIn K cd_law_manifest_text "_law_manifest_text" = true) (k_law_manifest_text : PySem.W.keepIn K (.ref f_law_manifest_text) = true) (a_law_read_manifest : PySem.W.nsIn K mainGlobals "_law_read_manifest" = some (some (.ref f_law_read_manifest))) (l_law_read_manifest : K.lookup f_law_read_manifest = some ⟨oc_law_read_manifest, od_law_read_manifest, .func (PySem.W.fnOf "_law_read_manifest" "_law_read_manifest" (defArgs s_law_read_manifest) (defBody s_law_read_manifest) (defScope s_law_read_manifest) .none kV_law_read_manifest dc_law_read_manifest pm_law_read_manifest an_law_read_manifest cd_law_read_manifest ct_law_read_manifest), sl_law_read_manifest⟩) (c_law_read_manifest : PySem.W.codeIn K cd_law_read_manifest "_law_read_manifest" = true) (k_law_read_manifest : PySem.W.keepIn K (.ref f_law_read_manifest) = true) (a_law_drawn_manifest : PySem.W.nsIn K mainGlobals "_law_drawn_manifest" = some (some (.ref f_law_drawn_manifest))) (l_law_drawn_manifest : K.lookup f_law_drawn_manifest = some ⟨oc_law_drawn_manifest, od_law_drawn_manifest, .func (PySem.W.fnOf "_law_drawn_manifest" "_law_drawn_manifest" (defArgs s_law_drawn_manifest) (defBody s_law_drawn_manifest) (defScope s_law_drawn_manifest) .none kV_law_drawn_manifest dc_law_drawn_manifest pm_law_drawn_manifest an_law_drawn_manifest cd_law_drawn_manifest ct_law_drawn_manifest), sl_law_drawn_manifest⟩) (c_law_drawn_manifest : PySem.W.codeIn K cd_law_drawn_manifest "_law_drawn_manifest" = true) (k_law_drawn_manifest : PySem.W.keepIn K (.ref f_law_drawn_manifest) = true) (a_law_near_text : PySem.W.nsIn K mainGlobals "_law_near_text" = some (some (.ref f_law_near_text))) (l_law_near_text : K.lookup f_law_near_text = some ⟨oc_law_near_text, od_law_near_text, .func (PySem.W.fnOf "_law_near_text" "_law_near_text" (defArgs s_law_near_text) (defBody s_law_near_text) (defScope s_law_near_text) .none kV_law_near_text dc_law_near_text pm_law_near_text an_law_near_text cd_law_near_text ct_law_near_text), sl_law_near_text⟩) (c_law_near_text : PySem.W.codeIn K cd_law_near_text "_law_near_text" = true) (k_law_near_text : PySem.W.keepIn K (.ref f_law_near_text) = true) (a_law : PySem.W.nsIn K mainGlobals "law" = some (some (.ref f_law))) (l_law : K.lookup f_law = some ⟨oc_law, od_law, .func (PySem.W.fnOf "law" "law" (defArgs s_law) (defBody s_law) (defScope s_law) .none kV_law dc_law pm_law an_law cd_law ct_law), sl_law⟩) (c_law : PySem.W.codeIn K cd_law "law" = true) (k_law : PySem.W.keepIn K (.ref f_law) = true) (z_isinstance : PySem.W.nsIn K mainGlobals "isinstance" = some none) (z_str : PySem.W.nsIn K mainGlobals "str" = some none) (z_len : PySem.W.nsIn K mainGlobals "len" = some none) (z_LETTERS : PySem.W.nsIn K mainGlobals "LETTERS" = some (some (.str "abcdefghijklmnopqrstuvwxyz" t_LETTERS))) (z_all : PySem.W.nsIn K mainGlobals "all" = some none) (z_DIGITS : PySem.W.nsIn K mainGlobals "DIGITS" = some (some (.str "0123456789" t_DIGITS))) (z_MOST_DIGITS : PySem.W.nsIn K mainGlobals "MOST_DIGITS" = some (some (.int 19 t_MOST_DIGITS))) (z_int : PySem.W.nsIn K mainGlobals "int" = some none) (z_SHELF : PySem.W.nsIn K mainGlobals "SHELF" = some (some (.str "store/c" t_SHELF))) (z_tuple : PySem.W.nsIn K mainGlobals "tuple" = some none) (z_zip : PySem.W.nsIn K mainGlobals "zip" = some none) (z_abs : PySem.W.nsIn K mainGlobals "abs" = some none) (z_repr : PySem.W.nsIn K mainGlobals "repr" = some none) (z_sorted : PySem.W.nsIn K mainGlobals "sorted" = some none) (z_set : PySem.W.nsIn K mainGlobals "set" = some none) (z_range : PySem.W.nsIn K mainGlobals "range" = some none) : ∃ fd : FuncData, (∀ (s : Shared) (v : Value), BindsTo s fd ⟨[v], []⟩ [("_law_script", v)]) ∧ ∀ base : Heap, K.In base → base.Ns mainGlobals mg → FnG l.prog w K mg base CX0 5 fa fd ["_law_script"] (spF K false 1 r_law) := by
  have z_isinstance := PySem.W.mg_none_of X G z_isinstance
  have z_str := PySem.W.mg_none_of X G z_str
  have z_len := PySem.W.mg_none_of X G z_len
  have z_LETTERS := PySem.W.mg_of X G z_LETTERS
  have z_all := PySem.W.mg_none_of X G z_all
  have z_DIGITS := PySem.W.mg_of X G z_DIGITS
  have z_MOST_DIGITS := PySem.W.mg_of X G z_MOST_DIGITS
  have z_int := PySem.W.mg_none_of X G z_int
  have z_SHELF := PySem.W.mg_of X G z_SHELF
  have z_tuple := PySem.W.mg_none_of X G z_tuple
  have z_zip := PySem.W.mg_none_of X G z_zip
  have z_abs := PySem.W.mg_none_of X G z_abs
  have z_repr := PySem.W.mg_none_of X G z_repr
  have z_sorted := PySem.W.mg_none_of X G z_sorted
  have z_set := PySem.W.mg_none_of X G z_set
  have z_range := PySem.W.mg_none_of X G z_range
  have F_is_name := fun_mk (st := s_is_name) l_is_name c_is_name k_is_name
  have at_is_name : FnAt K mg "is_name" s_is_name ["thing"] := ⟨_, _, PySem.W.mg_of X G a_is_name, F_is_name, F_is_name.binds (ps := ["thing"]) fun _ _ _ _ _ _ us hl => match us, hl with | [_], _ => rfl⟩
  have F_is_path := fun_mk (st := s_is_path) l_is_path c_is_path k_is_path
  have at_is_path : FnAt K mg "is_path" s_is_path ["thing"] := ⟨_, _, PySem.W.mg_of X G a_is_path, F_is_path, F_is_path.binds (ps := ["thing"]) fun _ _ _ _ _ _ us hl => match us, hl with | [_], _ => rfl⟩
  have F_number_behind := fun_mk (st := s_number_behind) l_number_behind c_number_behind k_number_behind
  have at_number_behind : FnAt K mg "number_behind" s_number_behind ["path", "begin"] := ⟨_, _, PySem.W.mg_of X G a_number_behind, F_number_behind, F_number_behind.binds (ps := ["path", "begin"]) fun _ _ _ _ _ _ us hl => match us, hl with | [_, _], _ => rfl⟩
  have F_is_shelf := fun_mk (st := s_is_shelf) l_is_shelf c_is_shelf k_is_shelf
  have at_is_shelf : FnAt K mg "is_shelf" s_is_shelf ["path"] := ⟨_, _, PySem.W.mg_of X G a_is_shelf, F_is_shelf, F_is_shelf.binds (ps := ["path"]) fun _ _ _ _ _ _ us hl => match us, hl with | [_], _ => rfl⟩
  have F_manifest_text := fun_mk (st := s_manifest_text) l_manifest_text c_manifest_text k_manifest_text
  have at_manifest_text : FnAt K mg "manifest_text" s_manifest_text ["manifest"] := ⟨_, _, PySem.W.mg_of X G a_manifest_text, F_manifest_text, F_manifest_text.binds (ps := ["manifest"]) fun _ _ _ _ _ _ us hl => match us, hl with | [_], _ => rfl⟩
  have F_read_entry := fun_mk (st := s_read_entry) l_read_entry c_read_entry k_read_entry
  have at_read_entry : FnAt K mg "read_entry" s_read_entry ["line"] := ⟨_, _, PySem.W.mg_of X G a_read_entry, F_read_entry, F_read_entry.binds (ps := ["line"]) fun _ _ _ _ _ _ us hl => match us, hl with | [_], _ => rfl⟩
  have F_read_manifest := fun_mk (st := s_read_manifest) l_read_manifest c_read_manifest k_read_manifest
  have at_read_manifest : FnAt K mg "read_manifest" s_read_manifest ["text"] := ⟨_, _, PySem.W.mg_of X G a_read_manifest, F_read_manifest, F_read_manifest.binds (ps := ["text"]) fun _ _ _ _ _ _ us hl => match us, hl with | [_], _ => rfl⟩
  have F_law_bag := fun_mk (st := s_law_bag) l_law_bag c_law_bag k_law_bag
  have at_law_bag : FnAt K mg "_law_bag" s_law_bag ["_law_script"] := ⟨_, _, PySem.W.mg_of X G a_law_bag, F_law_bag, F_law_bag.binds (ps := ["_law_script"]) fun _ _ _ _ _ _ us hl => match us, hl with | [_], _ => rfl⟩
  have F_law_take := fun_mk (st := s_law_take) l_law_take c_law_take k_law_take
  have at_law_take : FnAt K mg "_law_take" s_law_take ["_law_bag_here", "_law_many"] := ⟨_, _, PySem.W.mg_of X G a_law_take, F_law_take, F_law_take.binds (ps := ["_law_bag_here", "_law_many"]) fun _ _ _ _ _ _ us hl => match us, hl with | [_, _], _ => rfl⟩
  have F_law_one := fun_mk (st := s_law_one) l_law_one c_law_one k_law_one
  have at_law_one : FnAt K mg "_law_one" s_law_one ["_law_bag_here", "_law_things"] := ⟨_, _, PySem.W.mg_of X G a_law_one, F_law_one, F_law_one.binds (ps := ["_law_bag_here", "_law_things"]) fun _ _ _ _ _ _ us hl => match us, hl with | [_, _], _ => rfl⟩
  have F_law_mixed := fun_mk (st := s_law_mixed) l_law_mixed c_law_mixed k_law_mixed
  have at_law_mixed : FnAt K mg "_law_mixed" s_law_mixed ["_law_bag_here", "_law_things"] := ⟨_, _, PySem.W.mg_of X G a_law_mixed, F_law_mixed, F_law_mixed.binds (ps := ["_law_bag_here", "_law_things"]) fun _ _ _ _ _ _ us hl => match us, hl with | [_, _], _ => rfl⟩
  have F_law_alike := fun_mk (st := s_law_alike) l_law_alike c_law_alike k_law_alike
  have at_law_alike : FnAt K mg "_law_alike" s_law_alike ["_law_found", "_law_due"] := ⟨_, _, PySem.W.mg_of X G a_law_alike, F_law_alike, F_law_alike.binds (ps := ["_law_found", "_law_due"]) fun _ _ _ _ _ _ us hl => match us, hl with | [_, _], _ => rfl⟩
  have F_law_number_of := fun_mk (st := s_law_number_of) l_law_number_of c_law_number_of k_law_number_of
  have at_law_number_of : FnAt K mg "_law_number_of" s_law_number_of ["_law_path", "_law_head"] := ⟨_, _, PySem.W.mg_of X G a_law_number_of, F_law_number_of, F_law_number_of.binds (ps := ["_law_path", "_law_head"]) fun _ _ _ _ _ _ us hl => match us, hl with | [_, _], _ => rfl⟩
  have F_law_is_name := fun_mk (st := s_law_is_name) l_law_is_name c_law_is_name k_law_is_name
  have at_law_is_name : FnAt K mg "_law_is_name" s_law_is_name ["_law_word"] := ⟨_, _, PySem.W.mg_of X G a_law_is_name, F_law_is_name, F_law_is_name.binds (ps := ["_law_word"]) fun _ _ _ _ _ _ us hl => match us, hl with | [_], _ => rfl⟩
  have F_law_is_path := fun_mk (st := s_law_is_path) l_law_is_path c_law_is_path k_law_is_path
  have at_law_is_path : FnAt K mg "_law_is_path" s_law_is_path ["_law_thing"] := ⟨_, _, PySem.W.mg_of X G a_law_is_path, F_law_is_path, F_law_is_path.binds (ps := ["_law_thing"]) fun _ _ _ _ _ _ us hl => match us, hl with | [_], _ => rfl⟩
  have F_law_is_shelf := fun_mk (st := s_law_is_shelf) l_law_is_shelf c_law_is_shelf k_law_is_shelf
  have at_law_is_shelf : FnAt K mg "_law_is_shelf" s_law_is_shelf ["_law_thing"] := ⟨_, _, PySem.W.mg_of X G a_law_is_shelf, F_law_is_shelf, F_law_is_shelf.binds (ps := ["_law_thing"]) fun _ _ _ _ _ _ us hl => match us, hl with | [_], _ => rfl⟩
  have F_law_manifest_text := fun_mk (st := s_law_manifest_text) l_law_manifest_text c_law_manifest_text k_law_manifest_text
  have at_law_manifest_text : FnAt K mg "_law_manifest_text" s_law_manifest_text ["_law_manifest"] := ⟨_, _, PySem.W.mg_of X G a_law_manifest_text, F_law_manifest_text, F_law_manifest_text.binds (ps := ["_law_manifest"]) fun _ _ _ _ _ _ us hl => match us, hl with | [_], _ => rfl⟩
  have F_law_read_manifest := fun_mk (st := s_law_read_manifest) l_law_read_manifest c_law_read_manifest k_law_read_manifest
  have at_law_read_manifest : FnAt K mg "_law_read_manifest" s_law_read_manifest ["_law_text"] := ⟨_, _, PySem.W.mg_of X G a_law_read_manifest, F_law_read_manifest, F_law_read_manifest.binds (ps := ["_law_text"]) fun _ _ _ _ _ _ us hl => match us, hl with | [_], _ => rfl⟩
  have F_law_drawn_manifest := fun_mk (st := s_law_drawn_manifest) l_law_drawn_manifest c_law_drawn_manifest k_law_drawn_manifest
  have at_law_drawn_manifest : FnAt K mg "_law_drawn_manifest" s_law_drawn_manifest ["_law_bag_here"] := ⟨_, _, PySem.W.mg_of X G a_law_drawn_manifest, F_law_drawn_manifest, F_law_drawn_manifest.binds (ps := ["_law_bag_here"]) fun _ _ _ _ _ _ us hl => match us, hl with | [_], _ => rfl⟩
  have F_law_near_text := fun_mk (st := s_law_near_text) l_law_near_text c_law_near_text k_law_near_text
  have at_law_near_text : FnAt K mg "_law_near_text" s_law_near_text ["_law_bag_here", "_law_text"] := ⟨_, _, PySem.W.mg_of X G a_law_near_text, F_law_near_text, F_law_near_text.binds (ps := ["_law_bag_here", "_law_text"]) fun _ _ _ _ _ _ us hl => match us, hl with | [_, _], _ => rfl⟩
  have F_law := fun_mk (st := s_law) l_law c_law k_law
  have at_law : FnAt K mg "law" s_law ["_law_script"] := ⟨_, _, PySem.W.mg_of X G a_law, F_law, F_law.binds (ps := ["_law_script"]) fun _ _ _ _ _ _ us hl => match us, hl with | [_], _ => rfl⟩
  have e := hfa.symm.trans (PySem.W.mg_of X G a_law)
  cases e
  refine ⟨PySem.W.fnOf "law" "law" (defArgs s_law) (defBody s_law) (defScope s_law) .none kV_law dc_law pm_law an_law cd_law ct_law, fun s v => .of_eq rfl, fun base _ _ => ?_⟩
  have o_is_name : OkF l.prog w K mg base _ _ _ _ := ok_is_name at_is_name z_isinstance z_str z_len z_LETTERS z_all z_DIGITS
  have o_is_path : OkF l.prog w K mg base _ _ _ _ := ok_is_path at_is_path z_isinstance z_str z_all o_is_name
  have o_number_behind : OkF l.prog w K mg base _ _ _ _ := ok_number_behind at_number_behind z_len z_MOST_DIGITS z_all z_int
  have o_is_shelf : OkF l.prog w K mg base _ _ _ _ := ok_is_shelf at_is_shelf z_SHELF o_number_behind
  have o_manifest_text : OkF l.prog w K mg base _ _ _ _ := ok_manifest_text at_manifest_text z_str z_len
  have o_read_entry : OkF l.prog w K mg base _ _ _ _ := ok_read_entry at_read_entry z_tuple z_len o_is_path o_is_shelf
  have o_read_manifest : OkF l.prog w K mg base _ _ _ _ := ok_read_manifest at_read_manifest z_tuple z_len z_all z_zip o_read_entry o_is_shelf o_manifest_text
  have o_law_bag : OkF l.prog w K mg base _ _ _ _ := ok_law_bag at_law_bag z_abs
  have o_law_take : OkF l.prog w K mg base _ _ _ _ := ok_law_take at_law_take z_int
  have o_law_one : OkF l.prog w K mg base _ _ _ _ := ok_law_one at_law_one z_len o_law_take
  have o_law_mixed : OkF l.prog w K mg base _ _ _ _ := ok_law_mixed at_law_mixed z_len o_law_take
  have o_law_alike : OkF l.prog w K mg base _ _ _ _ := ok_law_alike at_law_alike z_repr
  have o_law_number_of : OkF l.prog w K mg base _ _ _ _ := ok_law_number_of at_law_number_of z_len z_str z_int
  have o_law_is_name : OkF l.prog w K mg base _ _ _ _ := ok_law_is_name at_law_is_name z_len
  have o_law_is_path : OkF l.prog w K mg base _ _ _ _ := ok_law_is_path at_law_is_path z_isinstance z_str o_law_is_name
  have o_law_is_shelf : OkF l.prog w K mg base _ _ _ _ := ok_law_is_shelf at_law_is_shelf z_isinstance z_str o_law_number_of o_law_is_path
  have o_law_manifest_text : OkF l.prog w K mg base _ _ _ _ := ok_law_manifest_text at_law_manifest_text z_str z_len
  have o_law_read_manifest : OkF l.prog w K mg base _ _ _ _ := ok_law_read_manifest at_law_read_manifest z_len z_str z_sorted z_set z_tuple o_law_is_path o_law_is_shelf
  have o_law_drawn_manifest : OkF l.prog w K mg base _ _ _ _ := ok_law_drawn_manifest at_law_drawn_manifest z_str z_tuple z_sorted o_law_take o_law_one
  have o_law_near_text : OkF l.prog w K mg base _ _ _ _ := ok_law_near_text at_law_near_text z_len z_int o_law_take o_law_one o_law_mixed
  exact ok_law_fn F_law z_range z_len o_law_bag o_law_drawn_manifest o_law_manifest_text o_law_alike o_manifest_text o_read_manifest o_law_take o_law_near_text o_law_one o_law_read_manifest
end
end Wk73
end
section
namespace Wk73
open PySem PySem.Spec L2 TL Ed
theorem q_take : r_law_take = Ed.r_take := rfl
theorem q_one : r_law_one = Ed.r_one := rfl
theorem q_bag : r_law_bag = Ed.r_bag := rfl
theorem q_alike : r_law_alike = Ed.r_alike := rfl
theorem q_ip : r_is_path = Ed.r_is_path := rfl
theorem q_is : r_is_shelf = Ed.r_is_shelf := rfl
theorem q_lip : r_law_is_path = Ed.r_law_is_path := rfl
theorem q_lis : r_law_is_shelf = Ed.r_law_is_shelf := rfl
theorem cl_2s (i j : Nat) (w : Sl) (r : DE) : clear [i + 1, j + 1] (w :: r) = clear [i, j] r := rfl
theorem cl_2z (j : Nat) (r : DE) : clear [0, j + 1] (.no :: r) = clear [j] r := rfl
abbrev wEnt : List Nat := [101, 110, 116, 114, 105, 101, 115]
theorem mk_ent : Str.ofString "entries" = mkS wEnt := by decide +kernel
theorem mk_dash : Str.ofString "-" = mkS [45] := by decide +kernel
theorem tl_ent : Str.ofString "entries " = mkS (wEnt ++ [32]) := by decide +kernel
theorem tl_blk : Str.ofString " " = mkS [32] := by decide +kernel
def lockW (k : Option (List Nat)) : List Nat := match k with
  | none => [45]
  | some k => k
def lockD (k : Option (List Nat)) : D := match k with
  | none => .none
  | some k => .str (mkS k)
def manD (S : List (List (List Nat))) (k : Option (List Nat)) : D := .tuple [.tuple (S.map stepD), lockD k]
def entOk (ws : List (List Nat)) : Bool := match ws with
  | [p, s] => pathB p && shB s
  | _ => false
def entV (l : List Nat) : D := match entOk (spl [32] 0 [] l) with
  | true => stepD (spl [32] 0 [] l)
  | false => .none
def isPair (ws : List (List Nat)) : Prop := ∃ p s, ws = [p, s]
theorem entOk_pair {ws : List (List Nat)} (h : entOk ws = true) : isPair ws := by
  unfold entOk at h
  split at h
  · exact ⟨_, _, rfl⟩
  · cases h
theorem sp_read_entry (l : List Nat) : r_read_entry [.str (mkS l)] = .ok (.fr (entV l)) none := by
  unfold r_read_entry c_read_entry entV
  rw [v_run]
  generalize hw : spl [32] 0 [] l = ws
  match ws, hw with
  | [], hw => exact absurd hw (spl_ne 32 l [])
  | [a], hw => simp only [b_ok, b_no, oo_some, oo_none, g_fr, g_z, g_s, sl_s, sl_fr, sl_ow, sl_io, rv_fr, rv_ow, rv_sl, fz_fr, fz_ow, kCo_, fz_s, fz_zf, fz_zo, om_some, ob_some, om_none, ow_s, ow_ow, ow_io, mu_s, mu_ow, mu_io, st_s, st_so, st_zn, st_zf, st_zo, so_zn, so_zf, so_zo, v_nm, v_nmf, v_nmo, v_nmi, v_k, v_fz, k_fz, v_anil, v_acons, k_a1, k_a2, v_bnil, v_bcons, k_b1, k_b2, v_tup, v_lst, k_tup, k_lst, v_bin, k_o1, k_o2, v_b, v_r, v_un, k_un, v_u, rvs_nil, rvs_cons, v_cons, v_call, k_call, v_l, v_mt, k_mt, v_testOf, k_t, v_truth, k_tr, v_tr, v_kk, tru_b, v_notT, k_nt, v_andT, v_orT, k_at1, k_at0, k_ot1, k_ot0, v_if, k_if1, k_if0, v_and, v_or, v_not, k_and1, k_and0, k_or1, k_or0, k_not, v_chain, k_ch1, k_ch2, v_b', k_ch3t, k_ch3f, v_pn, v_ps, k_p, v_sl, k_s1, k_s2, k_s3, v_s, v_seq, k_snx, k_srt, k_sbk, k_sct, v_ifS, k_ifS1, k_ifS0, v_skip, v_brk, v_cnt, v_exp, v_ret, k_exp, k_ret, v_set, k_set, v_n, v_asg, k_asg, a_nm, a_nil, a_cons, k_as, a_tup, v_par, v_par3, k_par, k_par3, v_setIx, k_x1, v_x1, k_mu, k_x2, v_x2, v_augIx, v_g1, k_g1, v_b2, k_g2, k_g3, v_g3, v_g4, v_aug, v_au, k_au, v_au1, v_au2, v_mut, v_m0, v_m1, k_m, v_m2, v_m3, v_callF, k_cf, v_c2, v_callI, v_i1, k_ci, v_i2, v_i3, v_it, k_it, v_itS, it_l, it_t, it_s, v_R1, k_R1, v_for, k_for, v_lc, k_lc, v_lcT, cl_1s, cl_1z, v_yes, v_fgt, v_frt, v_fnx, f_ff, f_fo, f_tf, f_to, f_fs, f_ts, v_ef, v_eo, st_f, st_t, mf_nil, mf_cons, rep_s, rep_z, f_addI, f_addS, f_addL, f_addT, f_sub, f_mod, f_div, f_mulI, f_mulJ, f_mulM, f_mulS, f_pow, f_neg, f_eqI, f_eqS, f_neI, f_neS, f_ltI, f_leI, f_gtI, f_geI, f_ltS, f_is, f_isnt, f_ixL, f_ixT, a_d, se_0, se_1, se_2, i_add, f_slL, f_slT, f_slS, f_slR, f_lenS, f_lenL, f_lenT, f_intI, f_intB, f_abs, f_tupL, f_tupT, f_isi_s, atI0, atI1, atI2, atI3, List.length_cons, List.length_nil, List.cons_append, List.nil_append, Nat.reduceAdd, Nat.reduceSub, Nat.reduceLeDiff, Nat.reduceEqDiff, Int.reduceAdd, Int.reduceSub, Int.reduceMul, Int.reduceNeg, Int.reduceLT, Int.reduceLE, Int.reduceEq, Int.reduceBEq, Int.reducePow, Int.reduceToNat, Bool.not_true, Bool.not_false, decide_true, decide_false, true_and, and_true, sp_blank, hw, List.length_map, nc1, entOk]
  | [a, b], hw =>
    have ho : entOk [a, b] = (pathB a && shB b) := rfl
    rw [ho]
    cases h1 : pathB a <;> cases h2 : shB b <;> simp only [b_ok, b_no, oo_some, oo_none, g_fr, g_z, g_s, sl_s, sl_fr, sl_ow, sl_io, rv_fr, rv_ow, rv_sl, fz_fr, fz_ow, kCo_, fz_s, fz_zf, fz_zo, om_some, ob_some, om_none, ow_s, ow_ow, ow_io, mu_s, mu_ow, mu_io, st_s, st_so, st_zn, st_zf, st_zo, so_zn, so_zf, so_zo, v_nm, v_nmf, v_nmo, v_nmi, v_k, v_fz, k_fz, v_anil, v_acons, k_a1, k_a2, v_bnil, v_bcons, k_b1, k_b2, v_tup, v_lst, k_tup, k_lst, v_bin, k_o1, k_o2, v_b, v_r, v_un, k_un, v_u, rvs_nil, rvs_cons, v_cons, v_call, k_call, v_l, v_mt, k_mt, v_testOf, k_t, v_truth, k_tr, v_tr, v_kk, tru_b, v_notT, k_nt, v_andT, v_orT, k_at1, k_at0, k_ot1, k_ot0, v_if, k_if1, k_if0, v_and, v_or, v_not, k_and1, k_and0, k_or1, k_or0, k_not, v_chain, k_ch1, k_ch2, v_b', k_ch3t, k_ch3f, v_pn, v_ps, k_p, v_sl, k_s1, k_s2, k_s3, v_s, v_seq, k_snx, k_srt, k_sbk, k_sct, v_ifS, k_ifS1, k_ifS0, v_skip, v_brk, v_cnt, v_exp, v_ret, k_exp, k_ret, v_set, k_set, v_n, v_asg, k_asg, a_nm, a_nil, a_cons, k_as, a_tup, v_par, v_par3, k_par, k_par3, v_setIx, k_x1, v_x1, k_mu, k_x2, v_x2, v_augIx, v_g1, k_g1, v_b2, k_g2, k_g3, v_g3, v_g4, v_aug, v_au, k_au, v_au1, v_au2, v_mut, v_m0, v_m1, k_m, v_m2, v_m3, v_callF, k_cf, v_c2, v_callI, v_i1, k_ci, v_i2, v_i3, v_it, k_it, v_itS, it_l, it_t, it_s, v_R1, k_R1, v_for, k_for, v_lc, k_lc, v_lcT, cl_1s, cl_1z, v_yes, v_fgt, v_frt, v_fnx, f_ff, f_fo, f_tf, f_to, f_fs, f_ts, v_ef, v_eo, st_f, st_t, mf_nil, mf_cons, rep_s, rep_z, f_addI, f_addS, f_addL, f_addT, f_sub, f_mod, f_div, f_mulI, f_mulJ, f_mulM, f_mulS, f_pow, f_neg, f_eqI, f_eqS, f_neI, f_neS, f_ltI, f_leI, f_gtI, f_geI, f_ltS, f_is, f_isnt, f_ixL, f_ixT, a_d, se_0, se_1, se_2, i_add, f_slL, f_slT, f_slS, f_slR, f_lenS, f_lenL, f_lenT, f_intI, f_intB, f_abs, f_tupL, f_tupT, f_isi_s, atI0, atI1, atI2, atI3, List.length_cons, List.length_nil, List.cons_append, List.nil_append, Nat.reduceAdd, Nat.reduceSub, Nat.reduceLeDiff, Nat.reduceEqDiff, Int.reduceAdd, Int.reduceSub, Int.reduceMul, Int.reduceNeg, Int.reduceLT, Int.reduceLE, Int.reduceEq, Int.reduceBEq, Int.reducePow, Int.reduceToNat, Bool.not_true, Bool.not_false, decide_true, decide_false, true_and, and_true, q_ip, q_is, sp_blank, hw, List.length_map, nc2, at_20, at_21, sp_is_path, sp_is_shelf, h1, h2, Bool.false_and, Bool.true_and, Bool.and_false, stepD]
  | a :: b :: c :: r, hw =>
    have g : (((r.length + 1 + 1 + 1 : Nat) : Int) == 2) = false := by rw [← Bool.not_eq_true, beq_iff_eq]; omega
    simp only [b_ok, b_no, oo_some, oo_none, g_fr, g_z, g_s, sl_s, sl_fr, sl_ow, sl_io, rv_fr, rv_ow, rv_sl, fz_fr, fz_ow, kCo_, fz_s, fz_zf, fz_zo, om_some, ob_some, om_none, ow_s, ow_ow, ow_io, mu_s, mu_ow, mu_io, st_s, st_so, st_zn, st_zf, st_zo, so_zn, so_zf, so_zo, v_nm, v_nmf, v_nmo, v_nmi, v_k, v_fz, k_fz, v_anil, v_acons, k_a1, k_a2, v_bnil, v_bcons, k_b1, k_b2, v_tup, v_lst, k_tup, k_lst, v_bin, k_o1, k_o2, v_b, v_r, v_un, k_un, v_u, rvs_nil, rvs_cons, v_cons, v_call, k_call, v_l, v_mt, k_mt, v_testOf, k_t, v_truth, k_tr, v_tr, v_kk, tru_b, v_notT, k_nt, v_andT, v_orT, k_at1, k_at0, k_ot1, k_ot0, v_if, k_if1, k_if0, v_and, v_or, v_not, k_and1, k_and0, k_or1, k_or0, k_not, v_chain, k_ch1, k_ch2, v_b', k_ch3t, k_ch3f, v_pn, v_ps, k_p, v_sl, k_s1, k_s2, k_s3, v_s, v_seq, k_snx, k_srt, k_sbk, k_sct, v_ifS, k_ifS1, k_ifS0, v_skip, v_brk, v_cnt, v_exp, v_ret, k_exp, k_ret, v_set, k_set, v_n, v_asg, k_asg, a_nm, a_nil, a_cons, k_as, a_tup, v_par, v_par3, k_par, k_par3, v_setIx, k_x1, v_x1, k_mu, k_x2, v_x2, v_augIx, v_g1, k_g1, v_b2, k_g2, k_g3, v_g3, v_g4, v_aug, v_au, k_au, v_au1, v_au2, v_mut, v_m0, v_m1, k_m, v_m2, v_m3, v_callF, k_cf, v_c2, v_callI, v_i1, k_ci, v_i2, v_i3, v_it, k_it, v_itS, it_l, it_t, it_s, v_R1, k_R1, v_for, k_for, v_lc, k_lc, v_lcT, cl_1s, cl_1z, v_yes, v_fgt, v_frt, v_fnx, f_ff, f_fo, f_tf, f_to, f_fs, f_ts, v_ef, v_eo, st_f, st_t, mf_nil, mf_cons, rep_s, rep_z, f_addI, f_addS, f_addL, f_addT, f_sub, f_mod, f_div, f_mulI, f_mulJ, f_mulM, f_mulS, f_pow, f_neg, f_eqI, f_eqS, f_neI, f_neS, f_ltI, f_leI, f_gtI, f_geI, f_ltS, f_is, f_isnt, f_ixL, f_ixT, a_d, se_0, se_1, se_2, i_add, f_slL, f_slT, f_slS, f_slR, f_lenS, f_lenL, f_lenT, f_intI, f_intB, f_abs, f_tupL, f_tupT, f_isi_s, atI0, atI1, atI2, atI3, List.length_cons, List.length_nil, List.cons_append, List.nil_append, Nat.reduceAdd, Nat.reduceSub, Nat.reduceLeDiff, Nat.reduceEqDiff, Int.reduceAdd, Int.reduceSub, Int.reduceMul, Int.reduceNeg, Int.reduceLT, Int.reduceLE, Int.reduceEq, Int.reduceBEq, Int.reducePow, Int.reduceToNat, Bool.not_true, Bool.not_false, decide_true, decide_false, true_and, and_true, sp_blank, hw, List.length_map, g, entOk]
def lnEnt (n : Nat) : List Nat := wEnt ++ 32 :: numT n
theorem lnEnt_len (n : Nat) : (lnEnt n).length = (numT n).length + 8 := rfl
def linesM (S : List (List (List Nat))) (k : Option (List Nat)) : List (List Nat) := lnEnt S.length :: (S.map (joinL [32]) ++ [lnLock (lockW k)])
def textM (S : List (List (List Nat))) (k : Option (List Nat)) : List Nat := joinL [10] (linesM S k)
section
variable {S : List (List (List Nat))} {k : Option (List Nat)} (hp : ∀ ws ∈ S, isPair ws) (hS : (S.map szW).sum ≤ 1000000) (hl : S.length ≤ 1000000) (hk : (lockW k).length ≤ 1000000)
include hp hS hl hk
theorem linesM_sz : szW (linesM S k) ≤ big := by
  have h1 := szW_map S
  have h2 := numT_len (n := S.length) (by omega)
  unfold linesM
  rw [szW_cons, szW_app, szW_cons, lnEnt_len, lnLock_len]
  have e3 : szW [] = 0 := rfl
  show _ ≤ 8000000
  omega
theorem join_linesM : fJoin "\n" [.list (.str (mkS (lnEnt S.length)) :: (List.map (fun ws => PyData.str (mkS (joinL [32] ws))) S ++ [.str (mkS (lnLock (lockW k)))]))] = some (.fr (.str (mkS (textM S k)))) := by
  have e : (PyData.str (mkS (lnEnt S.length)) :: (List.map (fun ws => PyData.str (mkS (joinL [32] ws))) S ++ [.str (mkS (lnLock (lockW k)))])) = (linesM S k).map fun w => .str (mkS w) := by
    unfold linesM
    rw [List.map_cons, List.map_append, List.map_map]
    rfl
  rw [e]
  exact f_joinW _ 10 tl_lf (linesM_sz hp hS hl hk)
theorem sp_manifest_text : r_manifest_text [manD S k] = .ok (.fr (.str (mkS (textM S k)))) none := by
  have a1 : (Str.ofString "entries ").length + (mkS (numT S.length)).length ≤ big := by
    have := numT_len (n := S.length) (by omega)
    rw [tl_ent, len_mkS, len_mkS]
    show 8 + _ ≤ 8000000
    omega
  have a2 : Str.ofString "entries " ++ mkS (numT S.length) = mkS (lnEnt S.length) := by
    rw [tl_ent, app_mk, List.append_assoc]
    rfl
  have a5 := f_strN (n := S.length) (by omega)
  have a6 : 1 + S.length ≤ 16777216 := by omega
  have a7 : S.length + 1 + 1 ≤ 16777216 := by omega
  have hj := join_linesM hp hS hl hk
  have lc : ∀ X : Sl, lcD [4, 5] (aTup 2 (aCons (aNm 4) (aCons (aNm 5) (aNil)))) cYes (cFz (cBin fAdd (cBin fAdd (cNm 4) (cK (.str " "))) (cNm 5))) (S.map stepD) [.fr (manD S k), .fr (.tuple (S.map stepD)), .fr (lockD k), .no, .no, .no] = .ok (S.map fun ws => .str (mkS (joinL [32] ws)), [.fr (manD S k), .fr (.tuple (S.map stepD)), .fr (lockD k), .no, .no, .no]) := fun _ => by
    rw [lc_fmap stepD (fun ws => .str (mkS (joinL [32] ws)))]
    intro ws hws
    obtain ⟨p, s, rfl⟩ := hp ws hws
    have hz := Nat.le_trans (sz_mem hws) hS
    rw [szW_cons, szW_cons] at hz
    have b1 : p.length + (Str.ofString " ").length ≤ big := by
      rw [tl_blk, len_mkS]
      show _ + 1 ≤ 8000000
      omega
    have b2 : mkS p ++ Str.ofString " " = mkS (p ++ [32]) := by rw [tl_blk, app_mk]
    have b3 : (p ++ [32]).length + s.length ≤ big := by
      rw [List.length_append, List.length_singleton]
      show _ ≤ 8000000
      omega
    have b4 : mkS (p ++ [32]) ++ mkS s = mkS (joinL [32] [p, s]) := by
      rw [app_mk, List.append_assoc]
      rfl
    refine ⟨[.fr (manD S k), .fr (.tuple (S.map stepD)), .fr (lockD k), .no, .fr (.str (mkS p)), .fr (.str (mkS s))], rfl, ?_, rfl⟩
    simp only [b_ok, b_no, oo_some, oo_none, g_fr, g_z, g_s, sl_s, sl_fr, sl_ow, sl_io, rv_fr, rv_ow, rv_sl, fz_fr, fz_ow, kCo_, fz_s, fz_zf, fz_zo, om_some, ob_some, om_none, ow_s, ow_ow, ow_io, mu_s, mu_ow, mu_io, st_s, st_so, st_zn, st_zf, st_zo, so_zn, so_zf, so_zo, v_nm, v_nmf, v_nmo, v_nmi, v_k, v_fz, k_fz, v_anil, v_acons, k_a1, k_a2, v_bnil, v_bcons, k_b1, k_b2, v_tup, v_lst, k_tup, k_lst, v_bin, k_o1, k_o2, v_b, v_r, v_un, k_un, v_u, rvs_nil, rvs_cons, v_cons, v_call, k_call, v_l, v_mt, k_mt, v_testOf, k_t, v_truth, k_tr, v_tr, v_kk, tru_b, v_notT, k_nt, v_andT, v_orT, k_at1, k_at0, k_ot1, k_ot0, v_if, k_if1, k_if0, v_and, v_or, v_not, k_and1, k_and0, k_or1, k_or0, k_not, v_chain, k_ch1, k_ch2, v_b', k_ch3t, k_ch3f, v_pn, v_ps, k_p, v_sl, k_s1, k_s2, k_s3, v_s, v_seq, k_snx, k_srt, k_sbk, k_sct, v_ifS, k_ifS1, k_ifS0, v_skip, v_brk, v_cnt, v_exp, v_ret, k_exp, k_ret, v_set, k_set, v_n, v_asg, k_asg, a_nm, a_nil, a_cons, k_as, a_tup, v_par, v_par3, k_par, k_par3, v_setIx, k_x1, v_x1, k_mu, k_x2, v_x2, v_augIx, v_g1, k_g1, v_b2, k_g2, k_g3, v_g3, v_g4, v_aug, v_au, k_au, v_au1, v_au2, v_mut, v_m0, v_m1, k_m, v_m2, v_m3, v_callF, k_cf, v_c2, v_callI, v_i1, k_ci, v_i2, v_i3, v_it, k_it, v_itS, it_l, it_t, it_s, v_R1, k_R1, v_for, k_for, v_lc, k_lc, v_lcT, cl_1s, cl_1z, v_yes, v_fgt, v_frt, v_fnx, f_ff, f_fo, f_tf, f_to, f_fs, f_ts, v_ef, v_eo, st_f, st_t, mf_nil, mf_cons, rep_s, rep_z, f_addI, f_addS, f_addL, f_addT, f_sub, f_mod, f_div, f_mulI, f_mulJ, f_mulM, f_mulS, f_pow, f_neg, f_eqI, f_eqS, f_neI, f_neS, f_ltI, f_leI, f_gtI, f_geI, f_ltS, f_is, f_isnt, f_ixL, f_ixT, a_d, se_0, se_1, se_2, i_add, f_slL, f_slT, f_slS, f_slR, f_lenS, f_lenL, f_lenT, f_intI, f_intB, f_abs, f_tupL, f_tupT, f_isi_s, atI0, atI1, atI2, atI3, List.length_cons, List.length_nil, List.cons_append, List.nil_append, Nat.reduceAdd, Nat.reduceSub, Nat.reduceLeDiff, Nat.reduceEqDiff, Int.reduceAdd, Int.reduceSub, Int.reduceMul, Int.reduceNeg, Int.reduceLT, Int.reduceLE, Int.reduceEq, Int.reduceBEq, Int.reducePow, Int.reduceToNat, Bool.not_true, Bool.not_false, decide_true, decide_false, true_and, and_true, len_mkS, b1, b2, b3, b4]
  unfold r_manifest_text c_manifest_text
  rw [v_run]
  cases k with
  | none =>
    have a3 : (Str.ofString "lock ").length + (Str.ofString "-").length ≤ big := by decide +kernel
    have a4 : Str.ofString "lock " ++ Str.ofString "-" = mkS (lnLock (lockW none)) := by decide +kernel
    have lc := lc .no
    unfold manD at lc ⊢
    simp only [lockD] at lc
    simp only [b_ok, b_no, oo_some, oo_none, g_fr, g_z, g_s, sl_s, sl_fr, sl_ow, sl_io, rv_fr, rv_ow, rv_sl, fz_fr, fz_ow, kCo_, fz_s, fz_zf, fz_zo, om_some, ob_some, om_none, ow_s, ow_ow, ow_io, mu_s, mu_ow, mu_io, st_s, st_so, st_zn, st_zf, st_zo, so_zn, so_zf, so_zo, v_nm, v_nmf, v_nmo, v_nmi, v_k, v_fz, k_fz, v_anil, v_acons, k_a1, k_a2, v_bnil, v_bcons, k_b1, k_b2, v_tup, v_lst, k_tup, k_lst, v_bin, k_o1, k_o2, v_b, v_r, v_un, k_un, v_u, rvs_nil, rvs_cons, v_cons, v_call, k_call, v_l, v_mt, k_mt, v_testOf, k_t, v_truth, k_tr, v_tr, v_kk, tru_b, v_notT, k_nt, v_andT, v_orT, k_at1, k_at0, k_ot1, k_ot0, v_if, k_if1, k_if0, v_and, v_or, v_not, k_and1, k_and0, k_or1, k_or0, k_not, v_chain, k_ch1, k_ch2, v_b', k_ch3t, k_ch3f, v_pn, v_ps, k_p, v_sl, k_s1, k_s2, k_s3, v_s, v_seq, k_snx, k_srt, k_sbk, k_sct, v_ifS, k_ifS1, k_ifS0, v_skip, v_brk, v_cnt, v_exp, v_ret, k_exp, k_ret, v_set, k_set, v_n, v_asg, k_asg, a_nm, a_nil, a_cons, k_as, a_tup, v_par, v_par3, k_par, k_par3, v_setIx, k_x1, v_x1, k_mu, k_x2, v_x2, v_augIx, v_g1, k_g1, v_b2, k_g2, k_g3, v_g3, v_g4, v_aug, v_au, k_au, v_au1, v_au2, v_mut, v_m0, v_m1, k_m, v_m2, v_m3, v_callF, k_cf, v_c2, v_callI, v_i1, k_ci, v_i2, v_i3, v_it, k_it, v_itS, it_l, it_t, it_s, v_R1, k_R1, v_for, k_for, v_lc, k_lc, v_lcT, cl_1s, cl_1z, v_yes, v_fgt, v_frt, v_fnx, f_ff, f_fo, f_tf, f_to, f_fs, f_ts, v_ef, v_eo, st_f, st_t, mf_nil, mf_cons, rep_s, rep_z, f_addI, f_addS, f_addL, f_addT, f_sub, f_mod, f_div, f_mulI, f_mulJ, f_mulM, f_mulS, f_pow, f_neg, f_eqI, f_eqS, f_neI, f_neS, f_ltI, f_leI, f_gtI, f_geI, f_ltS, f_is, f_isnt, f_ixL, f_ixT, a_d, se_0, se_1, se_2, i_add, f_slL, f_slT, f_slS, f_slR, f_lenS, f_lenL, f_lenT, f_intI, f_intB, f_abs, f_tupL, f_tupT, f_isi_s, atI0, atI1, atI2, atI3, List.length_cons, List.length_nil, List.cons_append, List.nil_append, Nat.reduceAdd, Nat.reduceSub, Nat.reduceLeDiff, Nat.reduceEqDiff, Int.reduceAdd, Int.reduceSub, Int.reduceMul, Int.reduceNeg, Int.reduceLT, Int.reduceLE, Int.reduceEq, Int.reduceBEq, Int.reducePow, Int.reduceToNat, Bool.not_true, Bool.not_false, decide_true, decide_false, true_and, and_true, cl_2s, cl_2z, List.length_map, a5, a1, a2, lc, noEx, a6, a7, a3, a4, isN, lockD, hj]
  | some k =>
    have a3 : (Str.ofString "lock ").length + (mkS k).length ≤ big := by
      rw [tl_lock, len_mkS, len_mkS]
      have : k.length ≤ 1000000 := hk
      show 5 + _ ≤ 8000000
      omega
    have a4 : Str.ofString "lock " ++ mkS k = mkS (lnLock (lockW (some k))) := by
      rw [tl_lock, app_mk, List.append_assoc]
      rfl
    have lc := lc .no
    unfold manD at lc ⊢
    simp only [lockD] at lc
    simp only [b_ok, b_no, oo_some, oo_none, g_fr, g_z, g_s, sl_s, sl_fr, sl_ow, sl_io, rv_fr, rv_ow, rv_sl, fz_fr, fz_ow, kCo_, fz_s, fz_zf, fz_zo, om_some, ob_some, om_none, ow_s, ow_ow, ow_io, mu_s, mu_ow, mu_io, st_s, st_so, st_zn, st_zf, st_zo, so_zn, so_zf, so_zo, v_nm, v_nmf, v_nmo, v_nmi, v_k, v_fz, k_fz, v_anil, v_acons, k_a1, k_a2, v_bnil, v_bcons, k_b1, k_b2, v_tup, v_lst, k_tup, k_lst, v_bin, k_o1, k_o2, v_b, v_r, v_un, k_un, v_u, rvs_nil, rvs_cons, v_cons, v_call, k_call, v_l, v_mt, k_mt, v_testOf, k_t, v_truth, k_tr, v_tr, v_kk, tru_b, v_notT, k_nt, v_andT, v_orT, k_at1, k_at0, k_ot1, k_ot0, v_if, k_if1, k_if0, v_and, v_or, v_not, k_and1, k_and0, k_or1, k_or0, k_not, v_chain, k_ch1, k_ch2, v_b', k_ch3t, k_ch3f, v_pn, v_ps, k_p, v_sl, k_s1, k_s2, k_s3, v_s, v_seq, k_snx, k_srt, k_sbk, k_sct, v_ifS, k_ifS1, k_ifS0, v_skip, v_brk, v_cnt, v_exp, v_ret, k_exp, k_ret, v_set, k_set, v_n, v_asg, k_asg, a_nm, a_nil, a_cons, k_as, a_tup, v_par, v_par3, k_par, k_par3, v_setIx, k_x1, v_x1, k_mu, k_x2, v_x2, v_augIx, v_g1, k_g1, v_b2, k_g2, k_g3, v_g3, v_g4, v_aug, v_au, k_au, v_au1, v_au2, v_mut, v_m0, v_m1, k_m, v_m2, v_m3, v_callF, k_cf, v_c2, v_callI, v_i1, k_ci, v_i2, v_i3, v_it, k_it, v_itS, it_l, it_t, it_s, v_R1, k_R1, v_for, k_for, v_lc, k_lc, v_lcT, cl_1s, cl_1z, v_yes, v_fgt, v_frt, v_fnx, f_ff, f_fo, f_tf, f_to, f_fs, f_ts, v_ef, v_eo, st_f, st_t, mf_nil, mf_cons, rep_s, rep_z, f_addI, f_addS, f_addL, f_addT, f_sub, f_mod, f_div, f_mulI, f_mulJ, f_mulM, f_mulS, f_pow, f_neg, f_eqI, f_eqS, f_neI, f_neS, f_ltI, f_leI, f_gtI, f_geI, f_ltS, f_is, f_isnt, f_ixL, f_ixT, a_d, se_0, se_1, se_2, i_add, f_slL, f_slT, f_slS, f_slR, f_lenS, f_lenL, f_lenT, f_intI, f_intB, f_abs, f_tupL, f_tupT, f_isi_s, atI0, atI1, atI2, atI3, List.length_cons, List.length_nil, List.cons_append, List.nil_append, Nat.reduceAdd, Nat.reduceSub, Nat.reduceLeDiff, Nat.reduceEqDiff, Int.reduceAdd, Int.reduceSub, Int.reduceMul, Int.reduceNeg, Int.reduceLT, Int.reduceLE, Int.reduceEq, Int.reduceBEq, Int.reducePow, Int.reduceToNat, Bool.not_true, Bool.not_false, decide_true, decide_false, true_and, and_true, cl_2s, cl_2z, List.length_map, a5, a1, a2, lc, noEx, a6, a7, a3, a4, isN, lockD, hj]
theorem sp_law_manifest_text : r_law_manifest_text [manD S k] = .ok (.fr (.str (mkS (textM S k)))) none := by
  have a1 : (Str.ofString "entries ").length + (mkS (numT S.length)).length ≤ big := by
    have := numT_len (n := S.length) (by omega)
    rw [tl_ent, len_mkS, len_mkS]
    show 8 + _ ≤ 8000000
    omega
  have a2 : Str.ofString "entries " ++ mkS (numT S.length) = mkS (lnEnt S.length) := by
    rw [tl_ent, app_mk, List.append_assoc]
    rfl
  have a5 := f_strN (n := S.length) (by omega)
  have a6 : 1 + S.length ≤ 16777216 := by omega
  have a7 : S.length + 1 + 1 ≤ 16777216 := by omega
  have hj := join_linesM hp hS hl hk
  have lc : lcD [2] (aNm 2) cYes (cFz (cMt fJoin (cK (.str " ")) (cBCons (cNm 2) (cBNil)))) (S.map stepD) [.fr (manD S k), .no, .no] = .ok (S.map fun ws => .str (mkS (joinL [32] ws)), [.fr (manD S k), .no, .no]) := by
    rw [lc_fmap stepD (fun ws => .str (mkS (joinL [32] ws)))]
    intro ws hws
    refine ⟨[.fr (manD S k), .no, .fr (stepD ws)], rfl, ?_, rfl⟩
    unfold stepD
    simp only [b_ok, b_no, oo_some, oo_none, g_fr, g_z, g_s, sl_s, sl_fr, sl_ow, sl_io, rv_fr, rv_ow, rv_sl, fz_fr, fz_ow, kCo_, fz_s, fz_zf, fz_zo, om_some, ob_some, om_none, ow_s, ow_ow, ow_io, mu_s, mu_ow, mu_io, st_s, st_so, st_zn, st_zf, st_zo, so_zn, so_zf, so_zo, v_nm, v_nmf, v_nmo, v_nmi, v_k, v_fz, k_fz, v_anil, v_acons, k_a1, k_a2, v_bnil, v_bcons, k_b1, k_b2, v_tup, v_lst, k_tup, k_lst, v_bin, k_o1, k_o2, v_b, v_r, v_un, k_un, v_u, rvs_nil, rvs_cons, v_cons, v_call, k_call, v_l, v_mt, k_mt, v_testOf, k_t, v_truth, k_tr, v_tr, v_kk, tru_b, v_notT, k_nt, v_andT, v_orT, k_at1, k_at0, k_ot1, k_ot0, v_if, k_if1, k_if0, v_and, v_or, v_not, k_and1, k_and0, k_or1, k_or0, k_not, v_chain, k_ch1, k_ch2, v_b', k_ch3t, k_ch3f, v_pn, v_ps, k_p, v_sl, k_s1, k_s2, k_s3, v_s, v_seq, k_snx, k_srt, k_sbk, k_sct, v_ifS, k_ifS1, k_ifS0, v_skip, v_brk, v_cnt, v_exp, v_ret, k_exp, k_ret, v_set, k_set, v_n, v_asg, k_asg, a_nm, a_nil, a_cons, k_as, a_tup, v_par, v_par3, k_par, k_par3, v_setIx, k_x1, v_x1, k_mu, k_x2, v_x2, v_augIx, v_g1, k_g1, v_b2, k_g2, k_g3, v_g3, v_g4, v_aug, v_au, k_au, v_au1, v_au2, v_mut, v_m0, v_m1, k_m, v_m2, v_m3, v_callF, k_cf, v_c2, v_callI, v_i1, k_ci, v_i2, v_i3, v_it, k_it, v_itS, it_l, it_t, it_s, v_R1, k_R1, v_for, k_for, v_lc, k_lc, v_lcT, cl_1s, cl_1z, v_yes, v_fgt, v_frt, v_fnx, f_ff, f_fo, f_tf, f_to, f_fs, f_ts, v_ef, v_eo, st_f, st_t, mf_nil, mf_cons, rep_s, rep_z, f_addI, f_addS, f_addL, f_addT, f_sub, f_mod, f_div, f_mulI, f_mulJ, f_mulM, f_mulS, f_pow, f_neg, f_eqI, f_eqS, f_neI, f_neS, f_ltI, f_leI, f_gtI, f_geI, f_ltS, f_is, f_isnt, f_ixL, f_ixT, a_d, se_0, se_1, se_2, i_add, f_slL, f_slT, f_slS, f_slR, f_lenS, f_lenL, f_lenT, f_intI, f_intB, f_abs, f_tupL, f_tupT, f_isi_s, atI0, atI1, atI2, atI3, List.length_cons, List.length_nil, List.cons_append, List.nil_append, Nat.reduceAdd, Nat.reduceSub, Nat.reduceLeDiff, Nat.reduceEqDiff, Int.reduceAdd, Int.reduceSub, Int.reduceMul, Int.reduceNeg, Int.reduceLT, Int.reduceLE, Int.reduceEq, Int.reduceBEq, Int.reducePow, Int.reduceToNat, Bool.not_true, Bool.not_false, decide_true, decide_false, true_and, and_true, f_joinT _ _ tl_bl (Nat.le_trans (sz_mem hws) (Nat.le_trans hS (by decide)))]
  unfold r_law_manifest_text c_law_manifest_text
  rw [v_run]
  cases k with
  | none =>
    have a3 : (Str.ofString "lock ").length + (Str.ofString "-").length ≤ big := by decide +kernel
    have a4 : Str.ofString "lock " ++ Str.ofString "-" = mkS (lnLock (lockW none)) := by decide +kernel
    unfold manD at lc ⊢
    simp only [lockD] at lc
    simp only [b_ok, b_no, oo_some, oo_none, g_fr, g_z, g_s, sl_s, sl_fr, sl_ow, sl_io, rv_fr, rv_ow, rv_sl, fz_fr, fz_ow, kCo_, fz_s, fz_zf, fz_zo, om_some, ob_some, om_none, ow_s, ow_ow, ow_io, mu_s, mu_ow, mu_io, st_s, st_so, st_zn, st_zf, st_zo, so_zn, so_zf, so_zo, v_nm, v_nmf, v_nmo, v_nmi, v_k, v_fz, k_fz, v_anil, v_acons, k_a1, k_a2, v_bnil, v_bcons, k_b1, k_b2, v_tup, v_lst, k_tup, k_lst, v_bin, k_o1, k_o2, v_b, v_r, v_un, k_un, v_u, rvs_nil, rvs_cons, v_cons, v_call, k_call, v_l, v_mt, k_mt, v_testOf, k_t, v_truth, k_tr, v_tr, v_kk, tru_b, v_notT, k_nt, v_andT, v_orT, k_at1, k_at0, k_ot1, k_ot0, v_if, k_if1, k_if0, v_and, v_or, v_not, k_and1, k_and0, k_or1, k_or0, k_not, v_chain, k_ch1, k_ch2, v_b', k_ch3t, k_ch3f, v_pn, v_ps, k_p, v_sl, k_s1, k_s2, k_s3, v_s, v_seq, k_snx, k_srt, k_sbk, k_sct, v_ifS, k_ifS1, k_ifS0, v_skip, v_brk, v_cnt, v_exp, v_ret, k_exp, k_ret, v_set, k_set, v_n, v_asg, k_asg, a_nm, a_nil, a_cons, k_as, a_tup, v_par, v_par3, k_par, k_par3, v_setIx, k_x1, v_x1, k_mu, k_x2, v_x2, v_augIx, v_g1, k_g1, v_b2, k_g2, k_g3, v_g3, v_g4, v_aug, v_au, k_au, v_au1, v_au2, v_mut, v_m0, v_m1, k_m, v_m2, v_m3, v_callF, k_cf, v_c2, v_callI, v_i1, k_ci, v_i2, v_i3, v_it, k_it, v_itS, it_l, it_t, it_s, v_R1, k_R1, v_for, k_for, v_lc, k_lc, v_lcT, cl_1s, cl_1z, v_yes, v_fgt, v_frt, v_fnx, f_ff, f_fo, f_tf, f_to, f_fs, f_ts, v_ef, v_eo, st_f, st_t, mf_nil, mf_cons, rep_s, rep_z, f_addI, f_addS, f_addL, f_addT, f_sub, f_mod, f_div, f_mulI, f_mulJ, f_mulM, f_mulS, f_pow, f_neg, f_eqI, f_eqS, f_neI, f_neS, f_ltI, f_leI, f_gtI, f_geI, f_ltS, f_is, f_isnt, f_ixL, f_ixT, a_d, se_0, se_1, se_2, i_add, f_slL, f_slT, f_slS, f_slR, f_lenS, f_lenL, f_lenT, f_intI, f_intB, f_abs, f_tupL, f_tupT, f_isi_s, atI0, atI1, atI2, atI3, List.length_cons, List.length_nil, List.cons_append, List.nil_append, Nat.reduceAdd, Nat.reduceSub, Nat.reduceLeDiff, Nat.reduceEqDiff, Int.reduceAdd, Int.reduceSub, Int.reduceMul, Int.reduceNeg, Int.reduceLT, Int.reduceLE, Int.reduceEq, Int.reduceBEq, Int.reducePow, Int.reduceToNat, Bool.not_true, Bool.not_false, decide_true, decide_false, true_and, and_true, List.length_map, a5, a1, a2, lc, noEx, a6, a7, a3, a4, isN, lockD, hj]
  | some k =>
    have a3 : (Str.ofString "lock ").length + (mkS k).length ≤ big := by
      rw [tl_lock, len_mkS, len_mkS]
      have : k.length ≤ 1000000 := hk
      show 5 + _ ≤ 8000000
      omega
    have a4 : Str.ofString "lock " ++ mkS k = mkS (lnLock (lockW (some k))) := by
      rw [tl_lock, app_mk, List.append_assoc]
      rfl
    unfold manD at lc ⊢
    simp only [lockD] at lc
    simp only [b_ok, b_no, oo_some, oo_none, g_fr, g_z, g_s, sl_s, sl_fr, sl_ow, sl_io, rv_fr, rv_ow, rv_sl, fz_fr, fz_ow, kCo_, fz_s, fz_zf, fz_zo, om_some, ob_some, om_none, ow_s, ow_ow, ow_io, mu_s, mu_ow, mu_io, st_s, st_so, st_zn, st_zf, st_zo, so_zn, so_zf, so_zo, v_nm, v_nmf, v_nmo, v_nmi, v_k, v_fz, k_fz, v_anil, v_acons, k_a1, k_a2, v_bnil, v_bcons, k_b1, k_b2, v_tup, v_lst, k_tup, k_lst, v_bin, k_o1, k_o2, v_b, v_r, v_un, k_un, v_u, rvs_nil, rvs_cons, v_cons, v_call, k_call, v_l, v_mt, k_mt, v_testOf, k_t, v_truth, k_tr, v_tr, v_kk, tru_b, v_notT, k_nt, v_andT, v_orT, k_at1, k_at0, k_ot1, k_ot0, v_if, k_if1, k_if0, v_and, v_or, v_not, k_and1, k_and0, k_or1, k_or0, k_not, v_chain, k_ch1, k_ch2, v_b', k_ch3t, k_ch3f, v_pn, v_ps, k_p, v_sl, k_s1, k_s2, k_s3, v_s, v_seq, k_snx, k_srt, k_sbk, k_sct, v_ifS, k_ifS1, k_ifS0, v_skip, v_brk, v_cnt, v_exp, v_ret, k_exp, k_ret, v_set, k_set, v_n, v_asg, k_asg, a_nm, a_nil, a_cons, k_as, a_tup, v_par, v_par3, k_par, k_par3, v_setIx, k_x1, v_x1, k_mu, k_x2, v_x2, v_augIx, v_g1, k_g1, v_b2, k_g2, k_g3, v_g3, v_g4, v_aug, v_au, k_au, v_au1, v_au2, v_mut, v_m0, v_m1, k_m, v_m2, v_m3, v_callF, k_cf, v_c2, v_callI, v_i1, k_ci, v_i2, v_i3, v_it, k_it, v_itS, it_l, it_t, it_s, v_R1, k_R1, v_for, k_for, v_lc, k_lc, v_lcT, cl_1s, cl_1z, v_yes, v_fgt, v_frt, v_fnx, f_ff, f_fo, f_tf, f_to, f_fs, f_ts, v_ef, v_eo, st_f, st_t, mf_nil, mf_cons, rep_s, rep_z, f_addI, f_addS, f_addL, f_addT, f_sub, f_mod, f_div, f_mulI, f_mulJ, f_mulM, f_mulS, f_pow, f_neg, f_eqI, f_eqS, f_neI, f_neS, f_ltI, f_leI, f_gtI, f_geI, f_ltS, f_is, f_isnt, f_ixL, f_ixT, a_d, se_0, se_1, se_2, i_add, f_slL, f_slT, f_slS, f_slR, f_lenS, f_lenL, f_lenT, f_intI, f_intB, f_abs, f_tupL, f_tupT, f_isi_s, atI0, atI1, atI2, atI3, List.length_cons, List.length_nil, List.cons_append, List.nil_append, Nat.reduceAdd, Nat.reduceSub, Nat.reduceLeDiff, Nat.reduceEqDiff, Int.reduceAdd, Int.reduceSub, Int.reduceMul, Int.reduceNeg, Int.reduceLT, Int.reduceLE, Int.reduceEq, Int.reduceBEq, Int.reducePow, Int.reduceToNat, Bool.not_true, Bool.not_false, decide_true, decide_false, true_and, and_true, List.length_map, a5, a1, a2, lc, noEx, a6, a7, a3, a4, isN, lockD, hj]
end
def incr (ps : List (List Nat)) : Bool := (ps.zip (ps.drop 1)).all fun p => decide (p.1 < p.2)
theorem incr_cc (a b : List Nat) (r : List (List Nat)) : incr (a :: b :: r) = (decide (a < b) && incr (b :: r)) := rfl
theorem incr_pw : ∀ {ps : List (List Nat)}, incr ps = true → ps.Pairwise (· < ·)
  | [], _ => .nil
  | [a], _ => by simp
  | a :: b :: r, h => by
    rw [incr_cc, Bool.and_eq_true, decide_eq_true_iff] at h
    have ih := incr_pw h.2
    refine List.pairwise_cons.mpr ⟨fun y hy => ?_, ih⟩
    rcases List.mem_cons.mp hy with rfl | hy
    · exact h.1
    · exact List.lt_trans h.1 ((List.pairwise_cons.mp ih).1 y hy)
theorem pw_incr : ∀ {ps : List (List Nat)}, ps.Pairwise (· < ·) → incr ps = true
  | [], _ => rfl
  | [a], _ => rfl
  | a :: b :: r, h => by
    rw [incr_cc, Bool.and_eq_true, decide_eq_true_iff]
    rw [List.pairwise_cons] at h
    exact ⟨h.1 b (List.mem_cons_self ..), pw_incr h.2⟩
theorem incr_srt (ps : List (List Nat)) : decide (ps.map mkS = srt (dd (ps.map mkS))) = incr ps := by
  rw [Bool.eq_iff_iff, decide_eq_true_iff]
  constructor
  · intro e
    have nd : (ps.map mkS).Nodup := by
      rw [e]
      exact (srt_perm _).nodup_iff.mpr (nodup_dd _)
    have pw := srt_pw (dd (ps.map mkS))
    rw [← e] at pw
    refine pw_incr ?_
    have both := pw.and nd
    rw [List.pairwise_map] at both
    refine both.imp fun {a b} h => ?_
    have h1 : a ≤ b := leS_iff.mp h.1
    rcases List.le_total b a with z | z
    · exact absurd (congrArg mkS (List.le_antisymm h1 z)) h.2
    · by_cases q : a < b
      · exact q
      · exact absurd (congrArg mkS (List.le_antisymm h1 (List.not_lt.mp q))) h.2
  · intro h
    have pw := incr_pw h
    refine uniqS ((List.perm_ext_iff_of_nodup ?_ ((srt_perm _).nodup_iff.mpr (nodup_dd _))).mpr fun k => ?_) ?_ (srt_pw _)
    · rw [List.Nodup, List.pairwise_map]
      exact pw.imp fun {a b} q e => by
        have : a = b := congrArg tl e
        subst this
        exact List.lt_irrefl _ q
    · rw [(srt_perm _).mem_iff, mem_dd]
    · rw [List.pairwise_map]
      exact pw.imp fun {a b} q => leS_iff.mpr (List.le_of_lt q)
end Wk73
end
section
namespace Wk73
open PySem PySem.Spec L2 TL Ed
def hdW (x : List Nat) : List Nat := (spl [32] 0 [] x).headD []
def goodM (a : List Nat) (m : List (List Nat)) (z : List Nat) : Bool := decide (a = lnEnt m.length) && (m.all (fun x => entOk (spl [32] 0 [] x)) && (incr (m.map hdW) && (decide (spl [32] 0 [] z = [wLock, keyW z]) && (decide (keyW z = [45]) || shB (keyW z)))))
def keyO (k : List Nat) : Option (List Nat) := match decide (k = [45]) with
  | true => none
  | false => some k
theorem keyO_w (k : List Nat) : lockW (keyO k) = k := by
  unfold keyO
  cases h : decide (k = [45]) with
  | true => exact (of_decide_eq_true h).symm
  | false => rfl
def readM (a : List Nat) (m : List (List Nat)) (z : List Nat) : D := match goodM a m z with
  | true => manD (m.map (spl [32] 0 [])) (keyO (keyW z))
  | false => .none
theorem ents_all {m : List (List Nat)} (h : (m.all fun x => entOk (spl [32] 0 [] x)) = true) : m.map entV = (m.map (spl [32] 0 [])).map stepD := by
  rw [List.map_map]
  refine List.map_congr_left fun x hx => ?_
  unfold entV
  rw [List.all_eq_true.mp h x hx]
  rfl
theorem f_noneInE (m : List (List Nat)) : fIn .none (.tuple (m.map entV)) = some (.fr (.bool (!m.all fun x => entOk (spl [32] 0 [] x)))) := by
  have hp : plainD (.tuple (m.map entV)) = true := by
    obtain ⟨h1, h2⟩ := plain_le (n := 1) (l := m.map entV) fun d hd => by
      obtain ⟨a, _, rfl⟩ := List.mem_map.mp hd
      unfold entV
      split
      · exact stepD_plain _
      · exact ⟨rfl, by simp only [PyData.depth]; omega⟩
    unfold plainD
    rw [show (PyData.tuple (m.map entV)).hasDict = false from h1, decide_eq_true (by simp only [PyData.depth]; omega)]
    rfl
  have key : ∀ m : List (List Nat), ((m.map entV).any fun z => PyData.eqv z .none) = !m.all fun x => entOk (spl [32] 0 [] x) := by
    intro m
    induction m with
    | nil => rfl
    | cons x m ih =>
      rw [List.map_cons, List.any_cons, ih, List.all_cons, Bool.not_and]
      congr 1
      unfold entV
      cases entOk (spl [32] 0 [] x) <;> rfl
  have e : isIn .none (.tuple (m.map entV)) = match plainD .none && plainD (.tuple (m.map entV)) with
    | true => some ((m.map entV).any fun z => PyData.eqv z .none)
    | false => none := rfl
  show (isIn .none (.tuple (m.map entV))).map _ = _
  rw [e, hp, ← key]
  rfl
theorem f_noneInE0 : fIn .none (.tuple []) = some (.fr (.bool false)) := f_noneInE []
theorem text_iffM {l a : List Nat} {m : List (List Nat)} {z u k : List Nat} (h : spl [10] 0 [] l = a :: (m ++ [z])) (hz : spl [32] 0 [] z = [u, k]) : textM (m.map (spl [32] 0 [])) (keyO k) = l ↔ a = lnEnt m.length ∧ u = wLock := by
  have hl : joinL [10] (a :: (m ++ [z])) = l := by rw [← h, join_spl]; rfl
  have hzj : z = u ++ (32 :: k) := by
    have := join_spl 32 z []
    rw [hz] at this
    exact this.symm
  have free := spl_free 10 l [] (by simp)
  rw [h] at free
  have fz : 10 ∉ z := free z (by simp)
  have fk : 10 ∉ k := fun w => fz (by rw [hzj]; exact List.mem_append_right _ (List.mem_cons_of_mem _ w))
  have hT : textM (m.map (spl [32] 0 [])) (keyO k) = joinL [10] (lnEnt m.length :: (m ++ [lnLock k])) := by
    unfold textM linesM
    rw [map_join, List.length_map, keyO_w]
  rw [hT, ← hl]
  constructor
  · intro e
    have e2 := join_inj (s := 10) (by simp) (by simp) (fun p hp => ?_) free e
    · injection e2 with e3 e4
      have e5 := List.append_cancel_left e4
      injection e5 with e6 _
      refine ⟨e3.symm, ?_⟩
      rw [hzj] at e6
      exact (List.append_cancel_right (show wLock ++ (32 :: k) = u ++ (32 :: k) from e6)).symm
    · rcases List.mem_cons.mp hp with rfl | hp
      · unfold lnEnt
        intro w
        rcases List.mem_append.mp w with w | w
        · revert w; decide
        · rcases List.mem_cons.mp w with w | w
          · cases w
          · exact numT_free ⟨by decide, .inl (by decide)⟩ w
      · rcases List.mem_append.mp hp with hp | hp
        · exact free p (List.mem_cons_of_mem _ (List.mem_append_left _ hp))
        · rw [List.mem_singleton.mp hp]
          unfold lnLock
          intro w
          rcases List.mem_append.mp w with w | w
          · revert w; decide
          · rcases List.mem_cons.mp w with w | w
            · cases w
            · exact fk w
  · rintro ⟨rfl, rfl⟩
    rw [hzj]
    rfl
/- zip -/
def kZip (p : List D × DE) : Out (List D × DE) := ofO ((zipD p.1).bind fun ds => if ds.length ≤ 16777216 then some (ds, p.2) else none)
theorem v_zip (ca : CA) (r : DE) : cZip ca r = (ca r).bind kZip := rfl
theorem k_zipT (xs ys : List D) (r : DE) (h : (xs.zip ys).length ≤ 16777216) : kZip ([.tuple xs, .tuple ys], r) = .ok ((xs.zip ys).map pairD, r) := by
  show ofO (if ((xs.zip ys).map pairD).length ≤ 16777216 then some ((xs.zip ys).map pairD, r) else none) = _
  rw [if_pos (by rw [List.length_map]; exact h)]
theorem cutD_1 {α : Type} (f : α → D) (l : List α) : cutD (l.map f) (some 1) none = (l.drop 1).map f := by
  unfold cutD
  rw [show HT.sIx (l.map f).length 0 (some 1) = min 1 (l.map f).length from HT.sIx_nat _ _ 1, HT.sIx_none, List.map_drop]
  rcases Nat.le_total 1 (l.map f).length with h | h
  · rw [Nat.min_eq_left h]
    exact List.take_of_length_le (by rw [List.length_drop]; omega)
  · rw [Nat.min_eq_right h, List.drop_length, List.drop_eq_nil_of_le h, List.take_nil]
theorem zip_pairs (m n : List (List Nat)) : ((m.map entV).zip (n.map entV)).map pairD = (m.zip n).map fun p => .tuple [entV p.1, entV p.2] := by
  rw [List.zip_map, List.map_map]
  rfl
theorem zip_all (m : List (List Nat)) : ((m.zip (m.drop 1)).all fun p => decide (hdW p.1 < hdW p.2)) = incr (m.map hdW) := by
  unfold incr
  rw [← List.map_drop, List.zip_map, List.all_map]
  rfl
theorem lc_zip {m : List (List Nat)} (hA : (m.all fun x => entOk (spl [32] 0 [] x)) = true) (X0 X1 X2 X3 : Sl) : lcD [6, 7] (aTup 2 (aCons (aNm 6) (aCons (aNm 7) (aNil)))) cYes (cFz (cBin fLt (cBin fIx (cNm 6) (cK (.int 0))) (cBin fIx (cNm 7) (cK (.int 0))))) (((m.map entV).zip ((m.drop 1).map entV)).map pairD) [X0, X1, X2, X3, .no, .no, .no, .no] =
    .ok ((m.zip (m.drop 1)).map fun p => .bool (decide (hdW p.1 < hdW p.2)), [X0, X1, X2, X3, .no, .no, .no, .no]) := by
  rw [zip_pairs, lc_fmap (fun p : List Nat × List Nat => PyData.tuple [entV p.1, entV p.2]) (fun p => .bool (decide (hdW p.1 < hdW p.2)))]
  intro p hp
  obtain ⟨x, y⟩ := p
  have hx : x ∈ m := (List.of_mem_zip hp).1
  have hy : y ∈ m := List.mem_of_mem_drop (List.of_mem_zip hp).2
  have ex := List.all_eq_true.mp hA x hx
  have ey := List.all_eq_true.mp hA y hy
  obtain ⟨p1, s1, e1⟩ := entOk_pair ex
  obtain ⟨p2, s2, e2⟩ := entOk_pair ey
  have v1 : entV x = .tuple [.str (mkS p1), .str (mkS s1)] := by unfold entV; rw [ex, e1]; rfl
  have v2 : entV y = .tuple [.str (mkS p2), .str (mkS s2)] := by unfold entV; rw [ey, e2]; rfl
  have w1 : hdW x = p1 := by unfold hdW; rw [e1]; rfl
  have w2 : hdW y = p2 := by unfold hdW; rw [e2]; rfl
  refine ⟨[X0, X1, X2, X3, .no, .no, .fr (entV x), .fr (entV y)], rfl, ?_, rfl⟩
  dsimp only
  rw [v1, v2, w1, w2]
  simp only [b_ok, b_no, oo_some, oo_none, g_fr, g_z, g_s, sl_s, sl_fr, sl_ow, sl_io, rv_fr, rv_ow, rv_sl, fz_fr, fz_ow, kCo_, fz_s, fz_zf, fz_zo, om_some, ob_some, om_none, ow_s, ow_ow, ow_io, mu_s, mu_ow, mu_io, st_s, st_so, st_zn, st_zf, st_zo, so_zn, so_zf, so_zo, v_nm, v_nmf, v_nmo, v_nmi, v_k, v_fz, k_fz, v_anil, v_acons, k_a1, k_a2, v_bnil, v_bcons, k_b1, k_b2, v_tup, v_lst, k_tup, k_lst, v_bin, k_o1, k_o2, v_b, v_r, v_un, k_un, v_u, rvs_nil, rvs_cons, v_cons, v_call, k_call, v_l, v_mt, k_mt, v_testOf, k_t, v_truth, k_tr, v_tr, v_kk, tru_b, v_notT, k_nt, v_andT, v_orT, k_at1, k_at0, k_ot1, k_ot0, v_if, k_if1, k_if0, v_and, v_or, v_not, k_and1, k_and0, k_or1, k_or0, k_not, v_chain, k_ch1, k_ch2, v_b', k_ch3t, k_ch3f, v_pn, v_ps, k_p, v_sl, k_s1, k_s2, k_s3, v_s, v_seq, k_snx, k_srt, k_sbk, k_sct, v_ifS, k_ifS1, k_ifS0, v_skip, v_brk, v_cnt, v_exp, v_ret, k_exp, k_ret, v_set, k_set, v_n, v_asg, k_asg, a_nm, a_nil, a_cons, k_as, a_tup, v_par, v_par3, k_par, k_par3, v_setIx, k_x1, v_x1, k_mu, k_x2, v_x2, v_augIx, v_g1, k_g1, v_b2, k_g2, k_g3, v_g3, v_g4, v_aug, v_au, k_au, v_au1, v_au2, v_mut, v_m0, v_m1, k_m, v_m2, v_m3, v_callF, k_cf, v_c2, v_callI, v_i1, k_ci, v_i2, v_i3, v_it, k_it, v_itS, it_l, it_t, it_s, v_R1, k_R1, v_for, k_for, v_lc, k_lc, v_lcT, cl_1s, cl_1z, v_yes, v_fgt, v_frt, v_fnx, f_ff, f_fo, f_tf, f_to, f_fs, f_ts, v_ef, v_eo, st_f, st_t, mf_nil, mf_cons, rep_s, rep_z, f_addI, f_addS, f_addL, f_addT, f_sub, f_mod, f_div, f_mulI, f_mulJ, f_mulM, f_mulS, f_pow, f_neg, f_eqI, f_eqS, f_neI, f_neS, f_ltI, f_leI, f_gtI, f_geI, f_ltS, f_is, f_isnt, f_ixL, f_ixT, a_d, se_0, se_1, se_2, i_add, f_slL, f_slT, f_slS, f_slR, f_lenS, f_lenL, f_lenT, f_intI, f_intB, f_abs, f_tupL, f_tupT, f_isi_s, atI0, atI1, atI2, atI3, List.length_cons, List.length_nil, List.cons_append, List.nil_append, Nat.reduceAdd, Nat.reduceSub, Nat.reduceLeDiff, Nat.reduceEqDiff, Int.reduceAdd, Int.reduceSub, Int.reduceMul, Int.reduceNeg, Int.reduceLT, Int.reduceLE, Int.reduceEq, Int.reduceBEq, Int.reducePow, Int.reduceToNat, Bool.not_true, Bool.not_false, decide_true, decide_false, true_and, and_true, tl_mkS]
  rfl
theorem sp_readM2 {l a : List Nat} {m : List (List Nat)} {z : List Nat} (h : spl [10] 0 [] l = a :: (m ++ [z])) (hl : l.length ≤ 570) : r_read_manifest [.str (mkS l)] = .ok (.fr (readM a m z)) none := by
  have lc : ∀ X : Sl, lcD [5] (aNm 5) cYes (cFz (cCallF 1 r_read_entry (cACons (cFz (cNm 5)) cANil))) (m.map fun w => .str (mkS w)) [.fr (.str (mkS l)), X, .no, .no, .no, .no, .no, .no] = .ok (m.map entV, [.fr (.str (mkS l)), X, .no, .no, .no, .no, .no, .no]) := fun X => by
    rw [lc_fmap (fun w => .str (mkS w)) entV]
    intro d _
    refine ⟨[.fr (.str (mkS l)), X, .no, .no, .no, .fr (.str (mkS d)), .no, .no], rfl, ?_, rfl⟩
    simp only [b_ok, b_no, oo_some, oo_none, g_fr, g_z, g_s, sl_s, sl_fr, sl_ow, sl_io, rv_fr, rv_ow, rv_sl, fz_fr, fz_ow, kCo_, fz_s, fz_zf, fz_zo, om_some, ob_some, om_none, ow_s, ow_ow, ow_io, mu_s, mu_ow, mu_io, st_s, st_so, st_zn, st_zf, st_zo, so_zn, so_zf, so_zo, v_nm, v_nmf, v_nmo, v_nmi, v_k, v_fz, k_fz, v_anil, v_acons, k_a1, k_a2, v_bnil, v_bcons, k_b1, k_b2, v_tup, v_lst, k_tup, k_lst, v_bin, k_o1, k_o2, v_b, v_r, v_un, k_un, v_u, rvs_nil, rvs_cons, v_cons, v_call, k_call, v_l, v_mt, k_mt, v_testOf, k_t, v_truth, k_tr, v_tr, v_kk, tru_b, v_notT, k_nt, v_andT, v_orT, k_at1, k_at0, k_ot1, k_ot0, v_if, k_if1, k_if0, v_and, v_or, v_not, k_and1, k_and0, k_or1, k_or0, k_not, v_chain, k_ch1, k_ch2, v_b', k_ch3t, k_ch3f, v_pn, v_ps, k_p, v_sl, k_s1, k_s2, k_s3, v_s, v_seq, k_snx, k_srt, k_sbk, k_sct, v_ifS, k_ifS1, k_ifS0, v_skip, v_brk, v_cnt, v_exp, v_ret, k_exp, k_ret, v_set, k_set, v_n, v_asg, k_asg, a_nm, a_nil, a_cons, k_as, a_tup, v_par, v_par3, k_par, k_par3, v_setIx, k_x1, v_x1, k_mu, k_x2, v_x2, v_augIx, v_g1, k_g1, v_b2, k_g2, k_g3, v_g3, v_g4, v_aug, v_au, k_au, v_au1, v_au2, v_mut, v_m0, v_m1, k_m, v_m2, v_m3, v_callF, k_cf, v_c2, v_callI, v_i1, k_ci, v_i2, v_i3, v_it, k_it, v_itS, it_l, it_t, it_s, v_R1, k_R1, v_for, k_for, v_lc, k_lc, v_lcT, cl_1s, cl_1z, v_yes, v_fgt, v_frt, v_fnx, f_ff, f_fo, f_tf, f_to, f_fs, f_ts, v_ef, v_eo, st_f, st_t, mf_nil, mf_cons, rep_s, rep_z, f_addI, f_addS, f_addL, f_addT, f_sub, f_mod, f_div, f_mulI, f_mulJ, f_mulM, f_mulS, f_pow, f_neg, f_eqI, f_eqS, f_neI, f_neS, f_ltI, f_leI, f_gtI, f_geI, f_ltS, f_is, f_isnt, f_ixL, f_ixT, a_d, se_0, se_1, se_2, i_add, f_slL, f_slT, f_slS, f_slR, f_lenS, f_lenL, f_lenT, f_intI, f_intB, f_abs, f_tupL, f_tupT, f_isi_s, atI0, atI1, atI2, atI3, List.length_cons, List.length_nil, List.cons_append, List.nil_append, Nat.reduceAdd, Nat.reduceSub, Nat.reduceLeDiff, Nat.reduceEqDiff, Int.reduceAdd, Int.reduceSub, Int.reduceMul, Int.reduceNeg, Int.reduceLT, Int.reduceLE, Int.reduceEq, Int.reduceBEq, Int.reducePow, Int.reduceToNat, Bool.not_true, Bool.not_false, decide_true, decide_false, true_and, and_true, sp_read_entry]
  have hsz : szW (a :: (m ++ [z])) = l.length + 1 := by rw [← h, szW_spl]; simp
  rw [szW_cons, szW_app, szW_cons] at hsz
  have hml := szW_len m
  have hzl : ((m.map entV).zip ((m.drop 1).map entV)).length ≤ 16777216 := by rw [List.length_zip, List.length_map]; omega
  unfold r_read_manifest c_read_manifest
  rw [v_run]
  cases hA : (m.all fun x => entOk (spl [32] 0 [] x)) with
  | false =>
    have hg : readM a m z = .none := by
      unfold readM goodM
      rw [hA, Bool.false_and, Bool.and_false]
    rw [hg]
    simp only [b_ok, b_no, oo_some, oo_none, g_fr, g_z, g_s, sl_s, sl_fr, sl_ow, sl_io, rv_fr, rv_ow, rv_sl, fz_fr, fz_ow, kCo_, fz_s, fz_zf, fz_zo, om_some, ob_some, om_none, ow_s, ow_ow, ow_io, mu_s, mu_ow, mu_io, st_s, st_so, st_zn, st_zf, st_zo, so_zn, so_zf, so_zo, v_nm, v_nmf, v_nmo, v_nmi, v_k, v_fz, k_fz, v_anil, v_acons, k_a1, k_a2, v_bnil, v_bcons, k_b1, k_b2, v_tup, v_lst, k_tup, k_lst, v_bin, k_o1, k_o2, v_b, v_r, v_un, k_un, v_u, rvs_nil, rvs_cons, v_cons, v_call, k_call, v_l, v_mt, k_mt, v_testOf, k_t, v_truth, k_tr, v_tr, v_kk, tru_b, v_notT, k_nt, v_andT, v_orT, k_at1, k_at0, k_ot1, k_ot0, v_if, k_if1, k_if0, v_and, v_or, v_not, k_and1, k_and0, k_or1, k_or0, k_not, v_chain, k_ch1, k_ch2, v_b', k_ch3t, k_ch3f, v_pn, v_ps, k_p, v_sl, k_s1, k_s2, k_s3, v_s, v_seq, k_snx, k_srt, k_sbk, k_sct, v_ifS, k_ifS1, k_ifS0, v_skip, v_brk, v_cnt, v_exp, v_ret, k_exp, k_ret, v_set, k_set, v_n, v_asg, k_asg, a_nm, a_nil, a_cons, k_as, a_tup, v_par, v_par3, k_par, k_par3, v_setIx, k_x1, v_x1, k_mu, k_x2, v_x2, v_augIx, v_g1, k_g1, v_b2, k_g2, k_g3, v_g3, v_g4, v_aug, v_au, k_au, v_au1, v_au2, v_mut, v_m0, v_m1, k_m, v_m2, v_m3, v_callF, k_cf, v_c2, v_callI, v_i1, k_ci, v_i2, v_i3, v_it, k_it, v_itS, it_l, it_t, it_s, v_R1, k_R1, v_for, k_for, v_lc, k_lc, v_lcT, cl_1s, cl_1z, v_yes, v_fgt, v_frt, v_fnx, f_ff, f_fo, f_tf, f_to, f_fs, f_ts, v_ef, v_eo, st_f, st_t, mf_nil, mf_cons, rep_s, rep_z, f_addI, f_addS, f_addL, f_addT, f_sub, f_mod, f_div, f_mulI, f_mulJ, f_mulM, f_mulS, f_pow, f_neg, f_eqI, f_eqS, f_neI, f_neS, f_ltI, f_leI, f_gtI, f_geI, f_ltS, f_is, f_isnt, f_ixL, f_ixT, a_d, se_0, se_1, se_2, i_add, f_slL, f_slT, f_slS, f_slR, f_lenS, f_lenL, f_lenT, f_intI, f_intB, f_abs, f_tupL, f_tupT, f_isi_s, atI0, atI1, atI2, atI3, List.length_cons, List.length_nil, List.cons_append, List.nil_append, Nat.reduceAdd, Nat.reduceSub, Nat.reduceLeDiff, Nat.reduceEqDiff, Int.reduceAdd, Int.reduceSub, Int.reduceMul, Int.reduceNeg, Int.reduceLT, Int.reduceLE, Int.reduceEq, Int.reduceBEq, Int.reducePow, Int.reduceToNat, Bool.not_true, Bool.not_false, decide_true, decide_false, true_and, and_true, sp_lf, h, cut_mid, at_last, lc, noEx, sp_blank, f_noneInE, hA]
  | true =>
    have lz := lc_zip hA
    generalize hw : spl [32] 0 [] z = ws
    have bad : (∀ u k, ws ≠ [u, k]) → readM a m z = .none := fun hn => by
      unfold readM goodM
      rw [hw, decide_eq_false (hn _ _), Bool.false_and, Bool.and_false, Bool.and_false, Bool.and_false]
    match ws, hw, bad with
    | [], hw, bad => exact absurd hw (spl_ne 32 z [])
    | [u], hw, bad =>
      rw [bad (by intro u k e; cases e)]
      simp only [b_ok, b_no, oo_some, oo_none, g_fr, g_z, g_s, sl_s, sl_fr, sl_ow, sl_io, rv_fr, rv_ow, rv_sl, fz_fr, fz_ow, kCo_, fz_s, fz_zf, fz_zo, om_some, ob_some, om_none, ow_s, ow_ow, ow_io, mu_s, mu_ow, mu_io, st_s, st_so, st_zn, st_zf, st_zo, so_zn, so_zf, so_zo, v_nm, v_nmf, v_nmo, v_nmi, v_k, v_fz, k_fz, v_anil, v_acons, k_a1, k_a2, v_bnil, v_bcons, k_b1, k_b2, v_tup, v_lst, k_tup, k_lst, v_bin, k_o1, k_o2, v_b, v_r, v_un, k_un, v_u, rvs_nil, rvs_cons, v_cons, v_call, k_call, v_l, v_mt, k_mt, v_testOf, k_t, v_truth, k_tr, v_tr, v_kk, tru_b, v_notT, k_nt, v_andT, v_orT, k_at1, k_at0, k_ot1, k_ot0, v_if, k_if1, k_if0, v_and, v_or, v_not, k_and1, k_and0, k_or1, k_or0, k_not, v_chain, k_ch1, k_ch2, v_b', k_ch3t, k_ch3f, v_pn, v_ps, k_p, v_sl, k_s1, k_s2, k_s3, v_s, v_seq, k_snx, k_srt, k_sbk, k_sct, v_ifS, k_ifS1, k_ifS0, v_skip, v_brk, v_cnt, v_exp, v_ret, k_exp, k_ret, v_set, k_set, v_n, v_asg, k_asg, a_nm, a_nil, a_cons, k_as, a_tup, v_par, v_par3, k_par, k_par3, v_setIx, k_x1, v_x1, k_mu, k_x2, v_x2, v_augIx, v_g1, k_g1, v_b2, k_g2, k_g3, v_g3, v_g4, v_aug, v_au, k_au, v_au1, v_au2, v_mut, v_m0, v_m1, k_m, v_m2, v_m3, v_callF, k_cf, v_c2, v_callI, v_i1, k_ci, v_i2, v_i3, v_it, k_it, v_itS, it_l, it_t, it_s, v_R1, k_R1, v_for, k_for, v_lc, k_lc, v_lcT, cl_1s, cl_1z, v_yes, v_fgt, v_frt, v_fnx, f_ff, f_fo, f_tf, f_to, f_fs, f_ts, v_ef, v_eo, st_f, st_t, mf_nil, mf_cons, rep_s, rep_z, f_addI, f_addS, f_addL, f_addT, f_sub, f_mod, f_div, f_mulI, f_mulJ, f_mulM, f_mulS, f_pow, f_neg, f_eqI, f_eqS, f_neI, f_neS, f_ltI, f_leI, f_gtI, f_geI, f_ltS, f_is, f_isnt, f_ixL, f_ixT, a_d, se_0, se_1, se_2, i_add, f_slL, f_slT, f_slS, f_slR, f_lenS, f_lenL, f_lenT, f_intI, f_intB, f_abs, f_tupL, f_tupT, f_isi_s, atI0, atI1, atI2, atI3, List.length_cons, List.length_nil, List.cons_append, List.nil_append, Nat.reduceAdd, Nat.reduceSub, Nat.reduceLeDiff, Nat.reduceEqDiff, Int.reduceAdd, Int.reduceSub, Int.reduceMul, Int.reduceNeg, Int.reduceLT, Int.reduceLE, Int.reduceEq, Int.reduceBEq, Int.reducePow, Int.reduceToNat, Bool.not_true, Bool.not_false, decide_true, decide_false, true_and, and_true, sp_lf, h, cut_mid, at_last, lc, noEx, sp_blank, f_noneInE, hA, hw, List.length_map, nc1]
    | u :: k :: c :: r, hw, bad =>
      rw [bad (by intro u k e; cases e)]
      have g : (((r.length + 1 + 1 + 1 : Nat) : Int) == 2) = false := by rw [← Bool.not_eq_true, beq_iff_eq]; omega
      simp only [b_ok, b_no, oo_some, oo_none, g_fr, g_z, g_s, sl_s, sl_fr, sl_ow, sl_io, rv_fr, rv_ow, rv_sl, fz_fr, fz_ow, kCo_, fz_s, fz_zf, fz_zo, om_some, ob_some, om_none, ow_s, ow_ow, ow_io, mu_s, mu_ow, mu_io, st_s, st_so, st_zn, st_zf, st_zo, so_zn, so_zf, so_zo, v_nm, v_nmf, v_nmo, v_nmi, v_k, v_fz, k_fz, v_anil, v_acons, k_a1, k_a2, v_bnil, v_bcons, k_b1, k_b2, v_tup, v_lst, k_tup, k_lst, v_bin, k_o1, k_o2, v_b, v_r, v_un, k_un, v_u, rvs_nil, rvs_cons, v_cons, v_call, k_call, v_l, v_mt, k_mt, v_testOf, k_t, v_truth, k_tr, v_tr, v_kk, tru_b, v_notT, k_nt, v_andT, v_orT, k_at1, k_at0, k_ot1, k_ot0, v_if, k_if1, k_if0, v_and, v_or, v_not, k_and1, k_and0, k_or1, k_or0, k_not, v_chain, k_ch1, k_ch2, v_b', k_ch3t, k_ch3f, v_pn, v_ps, k_p, v_sl, k_s1, k_s2, k_s3, v_s, v_seq, k_snx, k_srt, k_sbk, k_sct, v_ifS, k_ifS1, k_ifS0, v_skip, v_brk, v_cnt, v_exp, v_ret, k_exp, k_ret, v_set, k_set, v_n, v_asg, k_asg, a_nm, a_nil, a_cons, k_as, a_tup, v_par, v_par3, k_par, k_par3, v_setIx, k_x1, v_x1, k_mu, k_x2, v_x2, v_augIx, v_g1, k_g1, v_b2, k_g2, k_g3, v_g3, v_g4, v_aug, v_au, k_au, v_au1, v_au2, v_mut, v_m0, v_m1, k_m, v_m2, v_m3, v_callF, k_cf, v_c2, v_callI, v_i1, k_ci, v_i2, v_i3, v_it, k_it, v_itS, it_l, it_t, it_s, v_R1, k_R1, v_for, k_for, v_lc, k_lc, v_lcT, cl_1s, cl_1z, v_yes, v_fgt, v_frt, v_fnx, f_ff, f_fo, f_tf, f_to, f_fs, f_ts, v_ef, v_eo, st_f, st_t, mf_nil, mf_cons, rep_s, rep_z, f_addI, f_addS, f_addL, f_addT, f_sub, f_mod, f_div, f_mulI, f_mulJ, f_mulM, f_mulS, f_pow, f_neg, f_eqI, f_eqS, f_neI, f_neS, f_ltI, f_leI, f_gtI, f_geI, f_ltS, f_is, f_isnt, f_ixL, f_ixT, a_d, se_0, se_1, se_2, i_add, f_slL, f_slT, f_slS, f_slR, f_lenS, f_lenL, f_lenT, f_intI, f_intB, f_abs, f_tupL, f_tupT, f_isi_s, atI0, atI1, atI2, atI3, List.length_cons, List.length_nil, List.cons_append, List.nil_append, Nat.reduceAdd, Nat.reduceSub, Nat.reduceLeDiff, Nat.reduceEqDiff, Int.reduceAdd, Int.reduceSub, Int.reduceMul, Int.reduceNeg, Int.reduceLT, Int.reduceLE, Int.reduceEq, Int.reduceBEq, Int.reducePow, Int.reduceToNat, Bool.not_true, Bool.not_false, decide_true, decide_false, true_and, and_true, sp_lf, h, cut_mid, at_last, lc, noEx, sp_blank, f_noneInE, hA, hw, List.length_map, g]
    | [u, k], hw, _ =>
      have hk : keyW z = k := by unfold keyW; rw [hw]; rfl
      have hd : (mkS k == Str.ofString "-") = decide (k = [45]) := by rw [mk_dash, mkS_inj]
      have hgood : goodM a m z = (decide (a = lnEnt m.length) && (incr (m.map hdW) && (decide (u = wLock) && (decide (k = [45]) || shB k)))) := by
        unfold goodM
        rw [hA, hk, hw, Bool.true_and, show decide ([u, k] = [wLock, k]) = decide (u = wLock) from decide_eq_decide.mpr (by simp)]
      have hkl : k.length ≤ 1000000 := by
        have := szW_spl 32 z []
        rw [hw, szW_cons, szW_cons] at this
        simp at this
        omega
      have ht := sp_manifest_text (S := m.map (spl [32] 0 [])) (k := keyO k) (fun ws hws => by
        obtain ⟨x, hx, rfl⟩ := List.mem_map.mp hws
        exact entOk_pair (List.all_eq_true.mp hA x hx)) (by rw [map_sz]; omega) (by rw [List.length_map]; omega) (by rw [keyO_w]; exact hkl)
      have hq : (mkS (textM (m.map (spl [32] 0 [])) (keyO k)) == mkS l) = decide (a = lnEnt m.length ∧ u = wLock) := by
        rw [mkS_inj]
        exact decide_eq_decide.mpr (text_iffM h hw)
      have both : decide (a = lnEnt m.length ∧ u = wLock) = (decide (a = lnEnt m.length) && decide (u = wLock)) := Bool.decide_and ..
      rw [both] at hq
      have hman : ∀ q, lockD (keyO k) = q → PyData.tuple [PyData.tuple (m.map entV), q] = manD (m.map (spl [32] 0 [])) (keyO k) := fun q e => by rw [ents_all hA, ← e]; rfl
      cases hdk : decide (k = [45]) with
      | true =>
        have hman := hman .none (by unfold keyO; rw [hdk]; rfl)
        cases hi : incr (m.map hdW) with
        | false =>
          have hg : readM a m z = .none := by unfold readM; rw [hgood, hi, Bool.false_and, Bool.and_false]
          rw [hg]
          simp only [b_ok, b_no, oo_some, oo_none, g_fr, g_z, g_s, sl_s, sl_fr, sl_ow, sl_io, rv_fr, rv_ow, rv_sl, fz_fr, fz_ow, kCo_, fz_s, fz_zf, fz_zo, om_some, ob_some, om_none, ow_s, ow_ow, ow_io, mu_s, mu_ow, mu_io, st_s, st_so, st_zn, st_zf, st_zo, so_zn, so_zf, so_zo, v_nm, v_nmf, v_nmo, v_nmi, v_k, v_fz, k_fz, v_anil, v_acons, k_a1, k_a2, v_bnil, v_bcons, k_b1, k_b2, v_tup, v_lst, k_tup, k_lst, v_bin, k_o1, k_o2, v_b, v_r, v_un, k_un, v_u, rvs_nil, rvs_cons, v_cons, v_call, k_call, v_l, v_mt, k_mt, v_testOf, k_t, v_truth, k_tr, v_tr, v_kk, tru_b, v_notT, k_nt, v_andT, v_orT, k_at1, k_at0, k_ot1, k_ot0, v_if, k_if1, k_if0, v_and, v_or, v_not, k_and1, k_and0, k_or1, k_or0, k_not, v_chain, k_ch1, k_ch2, v_b', k_ch3t, k_ch3f, v_pn, v_ps, k_p, v_sl, k_s1, k_s2, k_s3, v_s, v_seq, k_snx, k_srt, k_sbk, k_sct, v_ifS, k_ifS1, k_ifS0, v_skip, v_brk, v_cnt, v_exp, v_ret, k_exp, k_ret, v_set, k_set, v_n, v_asg, k_asg, a_nm, a_nil, a_cons, k_as, a_tup, v_par, v_par3, k_par, k_par3, v_setIx, k_x1, v_x1, k_mu, k_x2, v_x2, v_augIx, v_g1, k_g1, v_b2, k_g2, k_g3, v_g3, v_g4, v_aug, v_au, k_au, v_au1, v_au2, v_mut, v_m0, v_m1, k_m, v_m2, v_m3, v_callF, k_cf, v_c2, v_callI, v_i1, k_ci, v_i2, v_i3, v_it, k_it, v_itS, it_l, it_t, it_s, v_R1, k_R1, v_for, k_for, v_lc, k_lc, v_lcT, cl_1s, cl_1z, v_yes, v_fgt, v_frt, v_fnx, f_ff, f_fo, f_tf, f_to, f_fs, f_ts, v_ef, v_eo, st_f, st_t, mf_nil, mf_cons, rep_s, rep_z, f_addI, f_addS, f_addL, f_addT, f_sub, f_mod, f_div, f_mulI, f_mulJ, f_mulM, f_mulS, f_pow, f_neg, f_eqI, f_eqS, f_neI, f_neS, f_ltI, f_leI, f_gtI, f_geI, f_ltS, f_is, f_isnt, f_ixL, f_ixT, a_d, se_0, se_1, se_2, i_add, f_slL, f_slT, f_slS, f_slR, f_lenS, f_lenL, f_lenT, f_intI, f_intB, f_abs, f_tupL, f_tupT, f_isi_s, atI0, atI1, atI2, atI3, List.length_cons, List.length_nil, List.cons_append, List.nil_append, Nat.reduceAdd, Nat.reduceSub, Nat.reduceLeDiff, Nat.reduceEqDiff, Int.reduceAdd, Int.reduceSub, Int.reduceMul, Int.reduceNeg, Int.reduceLT, Int.reduceLE, Int.reduceEq, Int.reduceBEq, Int.reducePow, Int.reduceToNat, Bool.not_true, Bool.not_false, decide_true, decide_false, true_and, and_true, cl_2s, cl_2z, v_zip, k_zipT _ _ _ hzl, sp_lf, h, cut_mid, at_last, lc, noEx, sp_blank, f_noneInE, hA, hw, List.length_map, nc2, at_21, hd, hdk, cutD_1, lz, f_allB, zip_all, hi]
        | true =>
          have hg : readM a m z = match decide (a = lnEnt m.length) && decide (u = wLock) with | true => manD (m.map (spl [32] 0 [])) (keyO k) | false => .none := by
            unfold readM
            rw [hgood, hi, hdk, Bool.true_and, Bool.true_or, Bool.and_true, hk]
          rw [hg]
          cases hqq : (decide (a = lnEnt m.length) && decide (u = wLock)) <;> rw [hqq] at hq <;> simp only [b_ok, b_no, oo_some, oo_none, g_fr, g_z, g_s, sl_s, sl_fr, sl_ow, sl_io, rv_fr, rv_ow, rv_sl, fz_fr, fz_ow, kCo_, fz_s, fz_zf, fz_zo, om_some, ob_some, om_none, ow_s, ow_ow, ow_io, mu_s, mu_ow, mu_io, st_s, st_so, st_zn, st_zf, st_zo, so_zn, so_zf, so_zo, v_nm, v_nmf, v_nmo, v_nmi, v_k, v_fz, k_fz, v_anil, v_acons, k_a1, k_a2, v_bnil, v_bcons, k_b1, k_b2, v_tup, v_lst, k_tup, k_lst, v_bin, k_o1, k_o2, v_b, v_r, v_un, k_un, v_u, rvs_nil, rvs_cons, v_cons, v_call, k_call, v_l, v_mt, k_mt, v_testOf, k_t, v_truth, k_tr, v_tr, v_kk, tru_b, v_notT, k_nt, v_andT, v_orT, k_at1, k_at0, k_ot1, k_ot0, v_if, k_if1, k_if0, v_and, v_or, v_not, k_and1, k_and0, k_or1, k_or0, k_not, v_chain, k_ch1, k_ch2, v_b', k_ch3t, k_ch3f, v_pn, v_ps, k_p, v_sl, k_s1, k_s2, k_s3, v_s, v_seq, k_snx, k_srt, k_sbk, k_sct, v_ifS, k_ifS1, k_ifS0, v_skip, v_brk, v_cnt, v_exp, v_ret, k_exp, k_ret, v_set, k_set, v_n, v_asg, k_asg, a_nm, a_nil, a_cons, k_as, a_tup, v_par, v_par3, k_par, k_par3, v_setIx, k_x1, v_x1, k_mu, k_x2, v_x2, v_augIx, v_g1, k_g1, v_b2, k_g2, k_g3, v_g3, v_g4, v_aug, v_au, k_au, v_au1, v_au2, v_mut, v_m0, v_m1, k_m, v_m2, v_m3, v_callF, k_cf, v_c2, v_callI, v_i1, k_ci, v_i2, v_i3, v_it, k_it, v_itS, it_l, it_t, it_s, v_R1, k_R1, v_for, k_for, v_lc, k_lc, v_lcT, cl_1s, cl_1z, v_yes, v_fgt, v_frt, v_fnx, f_ff, f_fo, f_tf, f_to, f_fs, f_ts, v_ef, v_eo, st_f, st_t, mf_nil, mf_cons, rep_s, rep_z, f_addI, f_addS, f_addL, f_addT, f_sub, f_mod, f_div, f_mulI, f_mulJ, f_mulM, f_mulS, f_pow, f_neg, f_eqI, f_eqS, f_neI, f_neS, f_ltI, f_leI, f_gtI, f_geI, f_ltS, f_is, f_isnt, f_ixL, f_ixT, a_d, se_0, se_1, se_2, i_add, f_slL, f_slT, f_slS, f_slR, f_lenS, f_lenL, f_lenT, f_intI, f_intB, f_abs, f_tupL, f_tupT, f_isi_s, atI0, atI1, atI2, atI3, List.length_cons, List.length_nil, List.cons_append, List.nil_append, Nat.reduceAdd, Nat.reduceSub, Nat.reduceLeDiff, Nat.reduceEqDiff, Int.reduceAdd, Int.reduceSub, Int.reduceMul, Int.reduceNeg, Int.reduceLT, Int.reduceLE, Int.reduceEq, Int.reduceBEq, Int.reducePow, Int.reduceToNat, Bool.not_true, Bool.not_false, decide_true, decide_false, true_and, and_true, cl_2s, cl_2z, v_zip, k_zipT _ _ _ hzl, sp_lf, h, cut_mid, at_last, lc, noEx, sp_blank, f_noneInE, hA, hw, List.length_map, nc2, at_21, hd, hdk, cutD_1, lz, f_allB, zip_all, hi, hman, ht, hq]
      | false =>
        have hman := hman (.str (mkS k)) (by unfold keyO; rw [hdk]; rfl)
        cases hs : shB k with
        | false =>
          have hg : readM a m z = .none := by unfold readM; rw [hgood, hdk, hs, Bool.false_or, Bool.and_false, Bool.and_false, Bool.and_false]
          rw [hg]
          simp only [b_ok, b_no, oo_some, oo_none, g_fr, g_z, g_s, sl_s, sl_fr, sl_ow, sl_io, rv_fr, rv_ow, rv_sl, fz_fr, fz_ow, kCo_, fz_s, fz_zf, fz_zo, om_some, ob_some, om_none, ow_s, ow_ow, ow_io, mu_s, mu_ow, mu_io, st_s, st_so, st_zn, st_zf, st_zo, so_zn, so_zf, so_zo, v_nm, v_nmf, v_nmo, v_nmi, v_k, v_fz, k_fz, v_anil, v_acons, k_a1, k_a2, v_bnil, v_bcons, k_b1, k_b2, v_tup, v_lst, k_tup, k_lst, v_bin, k_o1, k_o2, v_b, v_r, v_un, k_un, v_u, rvs_nil, rvs_cons, v_cons, v_call, k_call, v_l, v_mt, k_mt, v_testOf, k_t, v_truth, k_tr, v_tr, v_kk, tru_b, v_notT, k_nt, v_andT, v_orT, k_at1, k_at0, k_ot1, k_ot0, v_if, k_if1, k_if0, v_and, v_or, v_not, k_and1, k_and0, k_or1, k_or0, k_not, v_chain, k_ch1, k_ch2, v_b', k_ch3t, k_ch3f, v_pn, v_ps, k_p, v_sl, k_s1, k_s2, k_s3, v_s, v_seq, k_snx, k_srt, k_sbk, k_sct, v_ifS, k_ifS1, k_ifS0, v_skip, v_brk, v_cnt, v_exp, v_ret, k_exp, k_ret, v_set, k_set, v_n, v_asg, k_asg, a_nm, a_nil, a_cons, k_as, a_tup, v_par, v_par3, k_par, k_par3, v_setIx, k_x1, v_x1, k_mu, k_x2, v_x2, v_augIx, v_g1, k_g1, v_b2, k_g2, k_g3, v_g3, v_g4, v_aug, v_au, k_au, v_au1, v_au2, v_mut, v_m0, v_m1, k_m, v_m2, v_m3, v_callF, k_cf, v_c2, v_callI, v_i1, k_ci, v_i2, v_i3, v_it, k_it, v_itS, it_l, it_t, it_s, v_R1, k_R1, v_for, k_for, v_lc, k_lc, v_lcT, cl_1s, cl_1z, v_yes, v_fgt, v_frt, v_fnx, f_ff, f_fo, f_tf, f_to, f_fs, f_ts, v_ef, v_eo, st_f, st_t, mf_nil, mf_cons, rep_s, rep_z, f_addI, f_addS, f_addL, f_addT, f_sub, f_mod, f_div, f_mulI, f_mulJ, f_mulM, f_mulS, f_pow, f_neg, f_eqI, f_eqS, f_neI, f_neS, f_ltI, f_leI, f_gtI, f_geI, f_ltS, f_is, f_isnt, f_ixL, f_ixT, a_d, se_0, se_1, se_2, i_add, f_slL, f_slT, f_slS, f_slR, f_lenS, f_lenL, f_lenT, f_intI, f_intB, f_abs, f_tupL, f_tupT, f_isi_s, atI0, atI1, atI2, atI3, List.length_cons, List.length_nil, List.cons_append, List.nil_append, Nat.reduceAdd, Nat.reduceSub, Nat.reduceLeDiff, Nat.reduceEqDiff, Int.reduceAdd, Int.reduceSub, Int.reduceMul, Int.reduceNeg, Int.reduceLT, Int.reduceLE, Int.reduceEq, Int.reduceBEq, Int.reducePow, Int.reduceToNat, Bool.not_true, Bool.not_false, decide_true, decide_false, true_and, and_true, sp_lf, h, cut_mid, at_last, lc, noEx, sp_blank, f_noneInE, hA, hw, List.length_map, nc2, at_21, hd, hdk, q_is, sp_is_shelf, hs]
        | true =>
          cases hi : incr (m.map hdW) with
          | false =>
            have hg : readM a m z = .none := by unfold readM; rw [hgood, hi, Bool.false_and, Bool.and_false]
            rw [hg]
            simp only [b_ok, b_no, oo_some, oo_none, g_fr, g_z, g_s, sl_s, sl_fr, sl_ow, sl_io, rv_fr, rv_ow, rv_sl, fz_fr, fz_ow, kCo_, fz_s, fz_zf, fz_zo, om_some, ob_some, om_none, ow_s, ow_ow, ow_io, mu_s, mu_ow, mu_io, st_s, st_so, st_zn, st_zf, st_zo, so_zn, so_zf, so_zo, v_nm, v_nmf, v_nmo, v_nmi, v_k, v_fz, k_fz, v_anil, v_acons, k_a1, k_a2, v_bnil, v_bcons, k_b1, k_b2, v_tup, v_lst, k_tup, k_lst, v_bin, k_o1, k_o2, v_b, v_r, v_un, k_un, v_u, rvs_nil, rvs_cons, v_cons, v_call, k_call, v_l, v_mt, k_mt, v_testOf, k_t, v_truth, k_tr, v_tr, v_kk, tru_b, v_notT, k_nt, v_andT, v_orT, k_at1, k_at0, k_ot1, k_ot0, v_if, k_if1, k_if0, v_and, v_or, v_not, k_and1, k_and0, k_or1, k_or0, k_not, v_chain, k_ch1, k_ch2, v_b', k_ch3t, k_ch3f, v_pn, v_ps, k_p, v_sl, k_s1, k_s2, k_s3, v_s, v_seq, k_snx, k_srt, k_sbk, k_sct, v_ifS, k_ifS1, k_ifS0, v_skip, v_brk, v_cnt, v_exp, v_ret, k_exp, k_ret, v_set, k_set, v_n, v_asg, k_asg, a_nm, a_nil, a_cons, k_as, a_tup, v_par, v_par3, k_par, k_par3, v_setIx, k_x1, v_x1, k_mu, k_x2, v_x2, v_augIx, v_g1, k_g1, v_b2, k_g2, k_g3, v_g3, v_g4, v_aug, v_au, k_au, v_au1, v_au2, v_mut, v_m0, v_m1, k_m, v_m2, v_m3, v_callF, k_cf, v_c2, v_callI, v_i1, k_ci, v_i2, v_i3, v_it, k_it, v_itS, it_l, it_t, it_s, v_R1, k_R1, v_for, k_for, v_lc, k_lc, v_lcT, cl_1s, cl_1z, v_yes, v_fgt, v_frt, v_fnx, f_ff, f_fo, f_tf, f_to, f_fs, f_ts, v_ef, v_eo, st_f, st_t, mf_nil, mf_cons, rep_s, rep_z, f_addI, f_addS, f_addL, f_addT, f_sub, f_mod, f_div, f_mulI, f_mulJ, f_mulM, f_mulS, f_pow, f_neg, f_eqI, f_eqS, f_neI, f_neS, f_ltI, f_leI, f_gtI, f_geI, f_ltS, f_is, f_isnt, f_ixL, f_ixT, a_d, se_0, se_1, se_2, i_add, f_slL, f_slT, f_slS, f_slR, f_lenS, f_lenL, f_lenT, f_intI, f_intB, f_abs, f_tupL, f_tupT, f_isi_s, atI0, atI1, atI2, atI3, List.length_cons, List.length_nil, List.cons_append, List.nil_append, Nat.reduceAdd, Nat.reduceSub, Nat.reduceLeDiff, Nat.reduceEqDiff, Int.reduceAdd, Int.reduceSub, Int.reduceMul, Int.reduceNeg, Int.reduceLT, Int.reduceLE, Int.reduceEq, Int.reduceBEq, Int.reducePow, Int.reduceToNat, Bool.not_true, Bool.not_false, decide_true, decide_false, true_and, and_true, cl_2s, cl_2z, v_zip, k_zipT _ _ _ hzl, sp_lf, h, cut_mid, at_last, lc, noEx, sp_blank, f_noneInE, hA, hw, List.length_map, nc2, at_21, hd, hdk, q_is, sp_is_shelf, hs, cutD_1, lz, f_allB, zip_all, hi]
          | true =>
            have hg : readM a m z = match decide (a = lnEnt m.length) && decide (u = wLock) with | true => manD (m.map (spl [32] 0 [])) (keyO k) | false => .none := by
              unfold readM
              rw [hgood, hi, hdk, hs, Bool.true_and, Bool.or_true, Bool.and_true, hk]
            rw [hg]
            cases hqq : (decide (a = lnEnt m.length) && decide (u = wLock)) <;> rw [hqq] at hq <;> simp only [b_ok, b_no, oo_some, oo_none, g_fr, g_z, g_s, sl_s, sl_fr, sl_ow, sl_io, rv_fr, rv_ow, rv_sl, fz_fr, fz_ow, kCo_, fz_s, fz_zf, fz_zo, om_some, ob_some, om_none, ow_s, ow_ow, ow_io, mu_s, mu_ow, mu_io, st_s, st_so, st_zn, st_zf, st_zo, so_zn, so_zf, so_zo, v_nm, v_nmf, v_nmo, v_nmi, v_k, v_fz, k_fz, v_anil, v_acons, k_a1, k_a2, v_bnil, v_bcons, k_b1, k_b2, v_tup, v_lst, k_tup, k_lst, v_bin, k_o1, k_o2, v_b, v_r, v_un, k_un, v_u, rvs_nil, rvs_cons, v_cons, v_call, k_call, v_l, v_mt, k_mt, v_testOf, k_t, v_truth, k_tr, v_tr, v_kk, tru_b, v_notT, k_nt, v_andT, v_orT, k_at1, k_at0, k_ot1, k_ot0, v_if, k_if1, k_if0, v_and, v_or, v_not, k_and1, k_and0, k_or1, k_or0, k_not, v_chain, k_ch1, k_ch2, v_b', k_ch3t, k_ch3f, v_pn, v_ps, k_p, v_sl, k_s1, k_s2, k_s3, v_s, v_seq, k_snx, k_srt, k_sbk, k_sct, v_ifS, k_ifS1, k_ifS0, v_skip, v_brk, v_cnt, v_exp, v_ret, k_exp, k_ret, v_set, k_set, v_n, v_asg, k_asg, a_nm, a_nil, a_cons, k_as, a_tup, v_par, v_par3, k_par, k_par3, v_setIx, k_x1, v_x1, k_mu, k_x2, v_x2, v_augIx, v_g1, k_g1, v_b2, k_g2, k_g3, v_g3, v_g4, v_aug, v_au, k_au, v_au1, v_au2, v_mut, v_m0, v_m1, k_m, v_m2, v_m3, v_callF, k_cf, v_c2, v_callI, v_i1, k_ci, v_i2, v_i3, v_it, k_it, v_itS, it_l, it_t, it_s, v_R1, k_R1, v_for, k_for, v_lc, k_lc, v_lcT, cl_1s, cl_1z, v_yes, v_fgt, v_frt, v_fnx, f_ff, f_fo, f_tf, f_to, f_fs, f_ts, v_ef, v_eo, st_f, st_t, mf_nil, mf_cons, rep_s, rep_z, f_addI, f_addS, f_addL, f_addT, f_sub, f_mod, f_div, f_mulI, f_mulJ, f_mulM, f_mulS, f_pow, f_neg, f_eqI, f_eqS, f_neI, f_neS, f_ltI, f_leI, f_gtI, f_geI, f_ltS, f_is, f_isnt, f_ixL, f_ixT, a_d, se_0, se_1, se_2, i_add, f_slL, f_slT, f_slS, f_slR, f_lenS, f_lenL, f_lenT, f_intI, f_intB, f_abs, f_tupL, f_tupT, f_isi_s, atI0, atI1, atI2, atI3, List.length_cons, List.length_nil, List.cons_append, List.nil_append, Nat.reduceAdd, Nat.reduceSub, Nat.reduceLeDiff, Nat.reduceEqDiff, Int.reduceAdd, Int.reduceSub, Int.reduceMul, Int.reduceNeg, Int.reduceLT, Int.reduceLE, Int.reduceEq, Int.reduceBEq, Int.reducePow, Int.reduceToNat, Bool.not_true, Bool.not_false, decide_true, decide_false, true_and, and_true, cl_2s, cl_2z, v_zip, k_zipT _ _ _ hzl, sp_lf, h, cut_mid, at_last, lc, noEx, sp_blank, f_noneInE, hA, hw, List.length_map, nc2, at_21, hd, hdk, q_is, sp_is_shelf, hs, cutD_1, lz, f_allB, zip_all, hi, hman, ht, hq]
end Wk73
end
section
namespace Wk73
open PySem PySem.Spec L2 TL Ed
theorem sp_readM1 {l x : List Nat} (h : spl [10] 0 [] l = [x]) (hl : l.length ≤ 570) : r_read_manifest [.str (mkS l)] = .ok (.fr .none) none := by
  have hx : joinL [10] [x] = l := by rw [← h, join_spl]; rfl
  have hx : x = l := hx
  subst hx
  have free := spl_free 10 x [] (by simp)
  rw [h] at free
  have fx : 10 ∉ x := free x (by simp)
  have zz : ∀ r : DE, kZip ([.tuple [], .tuple (cutD [] (some 1) none)], r) = .ok ([], r) := fun r => rfl
  have al : fAll [.list []] = some (.fr (.bool true)) := rfl
  unfold r_read_manifest c_read_manifest
  rw [v_run]
  generalize hw : spl [32] 0 [] x = ws
  match ws, hw with
  | [], hw => exact absurd hw (spl_ne 32 x [])
  | [u], hw =>
    simp only [b_ok, b_no, oo_some, oo_none, g_fr, g_z, g_s, sl_s, sl_fr, sl_ow, sl_io, rv_fr, rv_ow, rv_sl, fz_fr, fz_ow, kCo_, fz_s, fz_zf, fz_zo, om_some, ob_some, om_none, ow_s, ow_ow, ow_io, mu_s, mu_ow, mu_io, st_s, st_so, st_zn, st_zf, st_zo, so_zn, so_zf, so_zo, v_nm, v_nmf, v_nmo, v_nmi, v_k, v_fz, k_fz, v_anil, v_acons, k_a1, k_a2, v_bnil, v_bcons, k_b1, k_b2, v_tup, v_lst, k_tup, k_lst, v_bin, k_o1, k_o2, v_b, v_r, v_un, k_un, v_u, rvs_nil, rvs_cons, v_cons, v_call, k_call, v_l, v_mt, k_mt, v_testOf, k_t, v_truth, k_tr, v_tr, v_kk, tru_b, v_notT, k_nt, v_andT, v_orT, k_at1, k_at0, k_ot1, k_ot0, v_if, k_if1, k_if0, v_and, v_or, v_not, k_and1, k_and0, k_or1, k_or0, k_not, v_chain, k_ch1, k_ch2, v_b', k_ch3t, k_ch3f, v_pn, v_ps, k_p, v_sl, k_s1, k_s2, k_s3, v_s, v_seq, k_snx, k_srt, k_sbk, k_sct, v_ifS, k_ifS1, k_ifS0, v_skip, v_brk, v_cnt, v_exp, v_ret, k_exp, k_ret, v_set, k_set, v_n, v_asg, k_asg, a_nm, a_nil, a_cons, k_as, a_tup, v_par, v_par3, k_par, k_par3, v_setIx, k_x1, v_x1, k_mu, k_x2, v_x2, v_augIx, v_g1, k_g1, v_b2, k_g2, k_g3, v_g3, v_g4, v_aug, v_au, k_au, v_au1, v_au2, v_mut, v_m0, v_m1, k_m, v_m2, v_m3, v_callF, k_cf, v_c2, v_callI, v_i1, k_ci, v_i2, v_i3, v_it, k_it, v_itS, it_l, it_t, it_s, v_R1, k_R1, v_for, k_for, v_lc, k_lc, v_lcT, cl_1s, cl_1z, v_yes, v_fgt, v_frt, v_fnx, f_ff, f_fo, f_tf, f_to, f_fs, f_ts, v_ef, v_eo, st_f, st_t, mf_nil, mf_cons, rep_s, rep_z, f_addI, f_addS, f_addL, f_addT, f_sub, f_mod, f_div, f_mulI, f_mulJ, f_mulM, f_mulS, f_pow, f_neg, f_eqI, f_eqS, f_neI, f_neS, f_ltI, f_leI, f_gtI, f_geI, f_ltS, f_is, f_isnt, f_ixL, f_ixT, a_d, se_0, se_1, se_2, i_add, f_slL, f_slT, f_slS, f_slR, f_lenS, f_lenL, f_lenT, f_intI, f_intB, f_abs, f_tupL, f_tupT, f_isi_s, atI0, atI1, atI2, atI3, List.length_cons, List.length_nil, List.cons_append, List.nil_append, Nat.reduceAdd, Nat.reduceSub, Nat.reduceLeDiff, Nat.reduceEqDiff, Int.reduceAdd, Int.reduceSub, Int.reduceMul, Int.reduceNeg, Int.reduceLT, Int.reduceLE, Int.reduceEq, Int.reduceBEq, Int.reducePow, Int.reduceToNat, Bool.not_true, Bool.not_false, decide_true, decide_false, true_and, and_true, sp_lf, h, cut_one, at_lone, lcD_nil, noEx, sp_blank, f_noneInE0, hw, List.length_map, nc1]
  | u :: k :: c :: r, hw =>
    have g : (((r.length + 1 + 1 + 1 : Nat) : Int) == 2) = false := by rw [← Bool.not_eq_true, beq_iff_eq]; omega
    simp only [b_ok, b_no, oo_some, oo_none, g_fr, g_z, g_s, sl_s, sl_fr, sl_ow, sl_io, rv_fr, rv_ow, rv_sl, fz_fr, fz_ow, kCo_, fz_s, fz_zf, fz_zo, om_some, ob_some, om_none, ow_s, ow_ow, ow_io, mu_s, mu_ow, mu_io, st_s, st_so, st_zn, st_zf, st_zo, so_zn, so_zf, so_zo, v_nm, v_nmf, v_nmo, v_nmi, v_k, v_fz, k_fz, v_anil, v_acons, k_a1, k_a2, v_bnil, v_bcons, k_b1, k_b2, v_tup, v_lst, k_tup, k_lst, v_bin, k_o1, k_o2, v_b, v_r, v_un, k_un, v_u, rvs_nil, rvs_cons, v_cons, v_call, k_call, v_l, v_mt, k_mt, v_testOf, k_t, v_truth, k_tr, v_tr, v_kk, tru_b, v_notT, k_nt, v_andT, v_orT, k_at1, k_at0, k_ot1, k_ot0, v_if, k_if1, k_if0, v_and, v_or, v_not, k_and1, k_and0, k_or1, k_or0, k_not, v_chain, k_ch1, k_ch2, v_b', k_ch3t, k_ch3f, v_pn, v_ps, k_p, v_sl, k_s1, k_s2, k_s3, v_s, v_seq, k_snx, k_srt, k_sbk, k_sct, v_ifS, k_ifS1, k_ifS0, v_skip, v_brk, v_cnt, v_exp, v_ret, k_exp, k_ret, v_set, k_set, v_n, v_asg, k_asg, a_nm, a_nil, a_cons, k_as, a_tup, v_par, v_par3, k_par, k_par3, v_setIx, k_x1, v_x1, k_mu, k_x2, v_x2, v_augIx, v_g1, k_g1, v_b2, k_g2, k_g3, v_g3, v_g4, v_aug, v_au, k_au, v_au1, v_au2, v_mut, v_m0, v_m1, k_m, v_m2, v_m3, v_callF, k_cf, v_c2, v_callI, v_i1, k_ci, v_i2, v_i3, v_it, k_it, v_itS, it_l, it_t, it_s, v_R1, k_R1, v_for, k_for, v_lc, k_lc, v_lcT, cl_1s, cl_1z, v_yes, v_fgt, v_frt, v_fnx, f_ff, f_fo, f_tf, f_to, f_fs, f_ts, v_ef, v_eo, st_f, st_t, mf_nil, mf_cons, rep_s, rep_z, f_addI, f_addS, f_addL, f_addT, f_sub, f_mod, f_div, f_mulI, f_mulJ, f_mulM, f_mulS, f_pow, f_neg, f_eqI, f_eqS, f_neI, f_neS, f_ltI, f_leI, f_gtI, f_geI, f_ltS, f_is, f_isnt, f_ixL, f_ixT, a_d, se_0, se_1, se_2, i_add, f_slL, f_slT, f_slS, f_slR, f_lenS, f_lenL, f_lenT, f_intI, f_intB, f_abs, f_tupL, f_tupT, f_isi_s, atI0, atI1, atI2, atI3, List.length_cons, List.length_nil, List.cons_append, List.nil_append, Nat.reduceAdd, Nat.reduceSub, Nat.reduceLeDiff, Nat.reduceEqDiff, Int.reduceAdd, Int.reduceSub, Int.reduceMul, Int.reduceNeg, Int.reduceLT, Int.reduceLE, Int.reduceEq, Int.reduceBEq, Int.reducePow, Int.reduceToNat, Bool.not_true, Bool.not_false, decide_true, decide_false, true_and, and_true, sp_lf, h, cut_one, at_lone, lcD_nil, noEx, sp_blank, f_noneInE0, hw, List.length_map, g]
  | [u, k], hw =>
    have hd : (mkS k == Str.ofString "-") = decide (k = [45]) := by rw [mk_dash, mkS_inj]
    have hkl : k.length ≤ 1000000 := by
      have := szW_spl 32 x []
      rw [hw, szW_cons, szW_cons] at this
      simp at this
      omega
    have ht := sp_manifest_text (S := []) (k := keyO k) (fun ws h => by cases h) (by decide) (by decide) (by rw [keyO_w]; exact hkl)
    have hman : ∀ q, lockD (keyO k) = q → PyData.tuple [PyData.tuple [], q] = manD [] (keyO k) := fun q e => by rw [← e]; rfl
    have hq : (mkS (textM [] (keyO k)) == mkS x) = false := by
      rw [mkS_inj]
      refine decide_eq_false fun e => fx ?_
      rw [← e]
      show 10 ∈ lnEnt 0 ++ ([10] ++ lnLock (lockW (keyO k)))
      exact List.mem_append_right _ (List.mem_append_left _ (by simp))
    cases hdk : decide (k = [45]) with
    | true =>
      have hman := hman .none (by unfold keyO; rw [hdk]; rfl)
      simp only [b_ok, b_no, oo_some, oo_none, g_fr, g_z, g_s, sl_s, sl_fr, sl_ow, sl_io, rv_fr, rv_ow, rv_sl, fz_fr, fz_ow, kCo_, fz_s, fz_zf, fz_zo, om_some, ob_some, om_none, ow_s, ow_ow, ow_io, mu_s, mu_ow, mu_io, st_s, st_so, st_zn, st_zf, st_zo, so_zn, so_zf, so_zo, v_nm, v_nmf, v_nmo, v_nmi, v_k, v_fz, k_fz, v_anil, v_acons, k_a1, k_a2, v_bnil, v_bcons, k_b1, k_b2, v_tup, v_lst, k_tup, k_lst, v_bin, k_o1, k_o2, v_b, v_r, v_un, k_un, v_u, rvs_nil, rvs_cons, v_cons, v_call, k_call, v_l, v_mt, k_mt, v_testOf, k_t, v_truth, k_tr, v_tr, v_kk, tru_b, v_notT, k_nt, v_andT, v_orT, k_at1, k_at0, k_ot1, k_ot0, v_if, k_if1, k_if0, v_and, v_or, v_not, k_and1, k_and0, k_or1, k_or0, k_not, v_chain, k_ch1, k_ch2, v_b', k_ch3t, k_ch3f, v_pn, v_ps, k_p, v_sl, k_s1, k_s2, k_s3, v_s, v_seq, k_snx, k_srt, k_sbk, k_sct, v_ifS, k_ifS1, k_ifS0, v_skip, v_brk, v_cnt, v_exp, v_ret, k_exp, k_ret, v_set, k_set, v_n, v_asg, k_asg, a_nm, a_nil, a_cons, k_as, a_tup, v_par, v_par3, k_par, k_par3, v_setIx, k_x1, v_x1, k_mu, k_x2, v_x2, v_augIx, v_g1, k_g1, v_b2, k_g2, k_g3, v_g3, v_g4, v_aug, v_au, k_au, v_au1, v_au2, v_mut, v_m0, v_m1, k_m, v_m2, v_m3, v_callF, k_cf, v_c2, v_callI, v_i1, k_ci, v_i2, v_i3, v_it, k_it, v_itS, it_l, it_t, it_s, v_R1, k_R1, v_for, k_for, v_lc, k_lc, v_lcT, cl_1s, cl_1z, v_yes, v_fgt, v_frt, v_fnx, f_ff, f_fo, f_tf, f_to, f_fs, f_ts, v_ef, v_eo, st_f, st_t, mf_nil, mf_cons, rep_s, rep_z, f_addI, f_addS, f_addL, f_addT, f_sub, f_mod, f_div, f_mulI, f_mulJ, f_mulM, f_mulS, f_pow, f_neg, f_eqI, f_eqS, f_neI, f_neS, f_ltI, f_leI, f_gtI, f_geI, f_ltS, f_is, f_isnt, f_ixL, f_ixT, a_d, se_0, se_1, se_2, i_add, f_slL, f_slT, f_slS, f_slR, f_lenS, f_lenL, f_lenT, f_intI, f_intB, f_abs, f_tupL, f_tupT, f_isi_s, atI0, atI1, atI2, atI3, List.length_cons, List.length_nil, List.cons_append, List.nil_append, Nat.reduceAdd, Nat.reduceSub, Nat.reduceLeDiff, Nat.reduceEqDiff, Int.reduceAdd, Int.reduceSub, Int.reduceMul, Int.reduceNeg, Int.reduceLT, Int.reduceLE, Int.reduceEq, Int.reduceBEq, Int.reducePow, Int.reduceToNat, Bool.not_true, Bool.not_false, decide_true, decide_false, true_and, and_true, cl_2s, cl_2z, v_zip, zz, al, sp_lf, h, cut_one, at_lone, lcD_nil, noEx, sp_blank, f_noneInE0, hw, List.length_map, nc2, at_21, hd, hdk, hman, ht, hq]
    | false =>
      have hman := hman (.str (mkS k)) (by unfold keyO; rw [hdk]; rfl)
      cases hs : shB k with
      | false => simp only [b_ok, b_no, oo_some, oo_none, g_fr, g_z, g_s, sl_s, sl_fr, sl_ow, sl_io, rv_fr, rv_ow, rv_sl, fz_fr, fz_ow, kCo_, fz_s, fz_zf, fz_zo, om_some, ob_some, om_none, ow_s, ow_ow, ow_io, mu_s, mu_ow, mu_io, st_s, st_so, st_zn, st_zf, st_zo, so_zn, so_zf, so_zo, v_nm, v_nmf, v_nmo, v_nmi, v_k, v_fz, k_fz, v_anil, v_acons, k_a1, k_a2, v_bnil, v_bcons, k_b1, k_b2, v_tup, v_lst, k_tup, k_lst, v_bin, k_o1, k_o2, v_b, v_r, v_un, k_un, v_u, rvs_nil, rvs_cons, v_cons, v_call, k_call, v_l, v_mt, k_mt, v_testOf, k_t, v_truth, k_tr, v_tr, v_kk, tru_b, v_notT, k_nt, v_andT, v_orT, k_at1, k_at0, k_ot1, k_ot0, v_if, k_if1, k_if0, v_and, v_or, v_not, k_and1, k_and0, k_or1, k_or0, k_not, v_chain, k_ch1, k_ch2, v_b', k_ch3t, k_ch3f, v_pn, v_ps, k_p, v_sl, k_s1, k_s2, k_s3, v_s, v_seq, k_snx, k_srt, k_sbk, k_sct, v_ifS, k_ifS1, k_ifS0, v_skip, v_brk, v_cnt, v_exp, v_ret, k_exp, k_ret, v_set, k_set, v_n, v_asg, k_asg, a_nm, a_nil, a_cons, k_as, a_tup, v_par, v_par3, k_par, k_par3, v_setIx, k_x1, v_x1, k_mu, k_x2, v_x2, v_augIx, v_g1, k_g1, v_b2, k_g2, k_g3, v_g3, v_g4, v_aug, v_au, k_au, v_au1, v_au2, v_mut, v_m0, v_m1, k_m, v_m2, v_m3, v_callF, k_cf, v_c2, v_callI, v_i1, k_ci, v_i2, v_i3, v_it, k_it, v_itS, it_l, it_t, it_s, v_R1, k_R1, v_for, k_for, v_lc, k_lc, v_lcT, cl_1s, cl_1z, v_yes, v_fgt, v_frt, v_fnx, f_ff, f_fo, f_tf, f_to, f_fs, f_ts, v_ef, v_eo, st_f, st_t, mf_nil, mf_cons, rep_s, rep_z, f_addI, f_addS, f_addL, f_addT, f_sub, f_mod, f_div, f_mulI, f_mulJ, f_mulM, f_mulS, f_pow, f_neg, f_eqI, f_eqS, f_neI, f_neS, f_ltI, f_leI, f_gtI, f_geI, f_ltS, f_is, f_isnt, f_ixL, f_ixT, a_d, se_0, se_1, se_2, i_add, f_slL, f_slT, f_slS, f_slR, f_lenS, f_lenL, f_lenT, f_intI, f_intB, f_abs, f_tupL, f_tupT, f_isi_s, atI0, atI1, atI2, atI3, List.length_cons, List.length_nil, List.cons_append, List.nil_append, Nat.reduceAdd, Nat.reduceSub, Nat.reduceLeDiff, Nat.reduceEqDiff, Int.reduceAdd, Int.reduceSub, Int.reduceMul, Int.reduceNeg, Int.reduceLT, Int.reduceLE, Int.reduceEq, Int.reduceBEq, Int.reducePow, Int.reduceToNat, Bool.not_true, Bool.not_false, decide_true, decide_false, true_and, and_true, sp_lf, h, cut_one, at_lone, lcD_nil, noEx, sp_blank, f_noneInE0, hw, List.length_map, nc2, at_21, hd, hdk, q_is, sp_is_shelf, hs]
      | true => simp only [b_ok, b_no, oo_some, oo_none, g_fr, g_z, g_s, sl_s, sl_fr, sl_ow, sl_io, rv_fr, rv_ow, rv_sl, fz_fr, fz_ow, kCo_, fz_s, fz_zf, fz_zo, om_some, ob_some, om_none, ow_s, ow_ow, ow_io, mu_s, mu_ow, mu_io, st_s, st_so, st_zn, st_zf, st_zo, so_zn, so_zf, so_zo, v_nm, v_nmf, v_nmo, v_nmi, v_k, v_fz, k_fz, v_anil, v_acons, k_a1, k_a2, v_bnil, v_bcons, k_b1, k_b2, v_tup, v_lst, k_tup, k_lst, v_bin, k_o1, k_o2, v_b, v_r, v_un, k_un, v_u, rvs_nil, rvs_cons, v_cons, v_call, k_call, v_l, v_mt, k_mt, v_testOf, k_t, v_truth, k_tr, v_tr, v_kk, tru_b, v_notT, k_nt, v_andT, v_orT, k_at1, k_at0, k_ot1, k_ot0, v_if, k_if1, k_if0, v_and, v_or, v_not, k_and1, k_and0, k_or1, k_or0, k_not, v_chain, k_ch1, k_ch2, v_b', k_ch3t, k_ch3f, v_pn, v_ps, k_p, v_sl, k_s1, k_s2, k_s3, v_s, v_seq, k_snx, k_srt, k_sbk, k_sct, v_ifS, k_ifS1, k_ifS0, v_skip, v_brk, v_cnt, v_exp, v_ret, k_exp, k_ret, v_set, k_set, v_n, v_asg, k_asg, a_nm, a_nil, a_cons, k_as, a_tup, v_par, v_par3, k_par, k_par3, v_setIx, k_x1, v_x1, k_mu, k_x2, v_x2, v_augIx, v_g1, k_g1, v_b2, k_g2, k_g3, v_g3, v_g4, v_aug, v_au, k_au, v_au1, v_au2, v_mut, v_m0, v_m1, k_m, v_m2, v_m3, v_callF, k_cf, v_c2, v_callI, v_i1, k_ci, v_i2, v_i3, v_it, k_it, v_itS, it_l, it_t, it_s, v_R1, k_R1, v_for, k_for, v_lc, k_lc, v_lcT, cl_1s, cl_1z, v_yes, v_fgt, v_frt, v_fnx, f_ff, f_fo, f_tf, f_to, f_fs, f_ts, v_ef, v_eo, st_f, st_t, mf_nil, mf_cons, rep_s, rep_z, f_addI, f_addS, f_addL, f_addT, f_sub, f_mod, f_div, f_mulI, f_mulJ, f_mulM, f_mulS, f_pow, f_neg, f_eqI, f_eqS, f_neI, f_neS, f_ltI, f_leI, f_gtI, f_geI, f_ltS, f_is, f_isnt, f_ixL, f_ixT, a_d, se_0, se_1, se_2, i_add, f_slL, f_slT, f_slS, f_slR, f_lenS, f_lenL, f_lenT, f_intI, f_intB, f_abs, f_tupL, f_tupT, f_isi_s, atI0, atI1, atI2, atI3, List.length_cons, List.length_nil, List.cons_append, List.nil_append, Nat.reduceAdd, Nat.reduceSub, Nat.reduceLeDiff, Nat.reduceEqDiff, Int.reduceAdd, Int.reduceSub, Int.reduceMul, Int.reduceNeg, Int.reduceLT, Int.reduceLE, Int.reduceEq, Int.reduceBEq, Int.reducePow, Int.reduceToNat, Bool.not_true, Bool.not_false, decide_true, decide_false, true_and, and_true, cl_2s, cl_2z, v_zip, zz, al, sp_lf, h, cut_one, at_lone, lcD_nil, noEx, sp_blank, f_noneInE0, hw, List.length_map, nc2, at_21, hd, hdk, q_is, sp_is_shelf, hs, hman, ht, hq]
theorem sp_lawreadM1 {l x : List Nat} (h : spl [10] 0 [] l = [x]) : r_law_read_manifest [.str (mkS l)] = .ok (.fr .none) none := by
  unfold r_law_read_manifest c_law_read_manifest
  rw [v_run]
  simp only [b_ok, b_no, oo_some, oo_none, g_fr, g_z, g_s, sl_s, sl_fr, sl_ow, sl_io, rv_fr, rv_ow, rv_sl, fz_fr, fz_ow, kCo_, fz_s, fz_zf, fz_zo, om_some, ob_some, om_none, ow_s, ow_ow, ow_io, mu_s, mu_ow, mu_io, st_s, st_so, st_zn, st_zf, st_zo, so_zn, so_zf, so_zo, v_nm, v_nmf, v_nmo, v_nmi, v_k, v_fz, k_fz, v_anil, v_acons, k_a1, k_a2, v_bnil, v_bcons, k_b1, k_b2, v_tup, v_lst, k_tup, k_lst, v_bin, k_o1, k_o2, v_b, v_r, v_un, k_un, v_u, rvs_nil, rvs_cons, v_cons, v_call, k_call, v_l, v_mt, k_mt, v_testOf, k_t, v_truth, k_tr, v_tr, v_kk, tru_b, v_notT, k_nt, v_andT, v_orT, k_at1, k_at0, k_ot1, k_ot0, v_if, k_if1, k_if0, v_and, v_or, v_not, k_and1, k_and0, k_or1, k_or0, k_not, v_chain, k_ch1, k_ch2, v_b', k_ch3t, k_ch3f, v_pn, v_ps, k_p, v_sl, k_s1, k_s2, k_s3, v_s, v_seq, k_snx, k_srt, k_sbk, k_sct, v_ifS, k_ifS1, k_ifS0, v_skip, v_brk, v_cnt, v_exp, v_ret, k_exp, k_ret, v_set, k_set, v_n, v_asg, k_asg, a_nm, a_nil, a_cons, k_as, a_tup, v_par, v_par3, k_par, k_par3, v_setIx, k_x1, v_x1, k_mu, k_x2, v_x2, v_augIx, v_g1, k_g1, v_b2, k_g2, k_g3, v_g3, v_g4, v_aug, v_au, k_au, v_au1, v_au2, v_mut, v_m0, v_m1, k_m, v_m2, v_m3, v_callF, k_cf, v_c2, v_callI, v_i1, k_ci, v_i2, v_i3, v_it, k_it, v_itS, it_l, it_t, it_s, v_R1, k_R1, v_for, k_for, v_lc, k_lc, v_lcT, cl_1s, cl_1z, v_yes, v_fgt, v_frt, v_fnx, f_ff, f_fo, f_tf, f_to, f_fs, f_ts, v_ef, v_eo, st_f, st_t, mf_nil, mf_cons, rep_s, rep_z, f_addI, f_addS, f_addL, f_addT, f_sub, f_mod, f_div, f_mulI, f_mulJ, f_mulM, f_mulS, f_pow, f_neg, f_eqI, f_eqS, f_neI, f_neS, f_ltI, f_leI, f_gtI, f_geI, f_ltS, f_is, f_isnt, f_ixL, f_ixT, a_d, se_0, se_1, se_2, i_add, f_slL, f_slT, f_slS, f_slR, f_lenS, f_lenL, f_lenT, f_intI, f_intB, f_abs, f_tupL, f_tupT, f_isi_s, atI0, atI1, atI2, atI3, List.length_cons, List.length_nil, List.cons_append, List.nil_append, Nat.reduceAdd, Nat.reduceSub, Nat.reduceLeDiff, Nat.reduceEqDiff, Int.reduceAdd, Int.reduceSub, Int.reduceMul, Int.reduceNeg, Int.reduceLT, Int.reduceLE, Int.reduceEq, Int.reduceBEq, Int.reducePow, Int.reduceToNat, Bool.not_true, Bool.not_false, decide_true, decide_false, true_and, and_true, sp_lf, h]
  rw [lc_fmap (fun w => .str (mkS w)) (fun w => rowD (spl [32] 0 [] w))]
  · simp only [noEx, b_ok, b_no, oo_some, oo_none, g_fr, g_z, g_s, sl_s, sl_fr, sl_ow, sl_io, rv_fr, rv_ow, rv_sl, fz_fr, fz_ow, kCo_, fz_s, fz_zf, fz_zo, om_some, ob_some, om_none, ow_s, ow_ow, ow_io, mu_s, mu_ow, mu_io, st_s, st_so, st_zn, st_zf, st_zo, so_zn, so_zf, so_zo, v_nm, v_nmf, v_nmo, v_nmi, v_k, v_fz, k_fz, v_anil, v_acons, k_a1, k_a2, v_bnil, v_bcons, k_b1, k_b2, v_tup, v_lst, k_tup, k_lst, v_bin, k_o1, k_o2, v_b, v_r, v_un, k_un, v_u, rvs_nil, rvs_cons, v_cons, v_call, k_call, v_l, v_mt, k_mt, v_testOf, k_t, v_truth, k_tr, v_tr, v_kk, tru_b, v_notT, k_nt, v_andT, v_orT, k_at1, k_at0, k_ot1, k_ot0, v_if, k_if1, k_if0, v_and, v_or, v_not, k_and1, k_and0, k_or1, k_or0, k_not, v_chain, k_ch1, k_ch2, v_b', k_ch3t, k_ch3f, v_pn, v_ps, k_p, v_sl, k_s1, k_s2, k_s3, v_s, v_seq, k_snx, k_srt, k_sbk, k_sct, v_ifS, k_ifS1, k_ifS0, v_skip, v_brk, v_cnt, v_exp, v_ret, k_exp, k_ret, v_set, k_set, v_n, v_asg, k_asg, a_nm, a_nil, a_cons, k_as, a_tup, v_par, v_par3, k_par, k_par3, v_setIx, k_x1, v_x1, k_mu, k_x2, v_x2, v_augIx, v_g1, k_g1, v_b2, k_g2, k_g3, v_g3, v_g4, v_aug, v_au, k_au, v_au1, v_au2, v_mut, v_m0, v_m1, k_m, v_m2, v_m3, v_callF, k_cf, v_c2, v_callI, v_i1, k_ci, v_i2, v_i3, v_it, k_it, v_itS, it_l, it_t, it_s, v_R1, k_R1, v_for, k_for, v_lc, k_lc, v_lcT, cl_1s, cl_1z, v_yes, v_fgt, v_frt, v_fnx, f_ff, f_fo, f_tf, f_to, f_fs, f_ts, v_ef, v_eo, st_f, st_t, mf_nil, mf_cons, rep_s, rep_z, f_addI, f_addS, f_addL, f_addT, f_sub, f_mod, f_div, f_mulI, f_mulJ, f_mulM, f_mulS, f_pow, f_neg, f_eqI, f_eqS, f_neI, f_neS, f_ltI, f_leI, f_gtI, f_geI, f_ltS, f_is, f_isnt, f_ixL, f_ixT, a_d, se_0, se_1, se_2, i_add, f_slL, f_slT, f_slS, f_slR, f_lenS, f_lenL, f_lenT, f_intI, f_intB, f_abs, f_tupL, f_tupT, f_isi_s, atI0, atI1, atI2, atI3, List.length_cons, List.length_nil, List.cons_append, List.nil_append, Nat.reduceAdd, Nat.reduceSub, Nat.reduceLeDiff, Nat.reduceEqDiff, Int.reduceAdd, Int.reduceSub, Int.reduceMul, Int.reduceNeg, Int.reduceLT, Int.reduceLE, Int.reduceEq, Int.reduceBEq, Int.reducePow, Int.reduceToNat, Bool.not_true, Bool.not_false, decide_true, decide_false, true_and, and_true, List.length_map, nc1]
  · intro d _
    refine ⟨[.fr (.str (mkS l)), .no, .no, .no, .no, .fr (.str (mkS d))], rfl, ?_, rfl⟩
    simp only [b_ok, b_no, oo_some, oo_none, g_fr, g_z, g_s, sl_s, sl_fr, sl_ow, sl_io, rv_fr, rv_ow, rv_sl, fz_fr, fz_ow, kCo_, fz_s, fz_zf, fz_zo, om_some, ob_some, om_none, ow_s, ow_ow, ow_io, mu_s, mu_ow, mu_io, st_s, st_so, st_zn, st_zf, st_zo, so_zn, so_zf, so_zo, v_nm, v_nmf, v_nmo, v_nmi, v_k, v_fz, k_fz, v_anil, v_acons, k_a1, k_a2, v_bnil, v_bcons, k_b1, k_b2, v_tup, v_lst, k_tup, k_lst, v_bin, k_o1, k_o2, v_b, v_r, v_un, k_un, v_u, rvs_nil, rvs_cons, v_cons, v_call, k_call, v_l, v_mt, k_mt, v_testOf, k_t, v_truth, k_tr, v_tr, v_kk, tru_b, v_notT, k_nt, v_andT, v_orT, k_at1, k_at0, k_ot1, k_ot0, v_if, k_if1, k_if0, v_and, v_or, v_not, k_and1, k_and0, k_or1, k_or0, k_not, v_chain, k_ch1, k_ch2, v_b', k_ch3t, k_ch3f, v_pn, v_ps, k_p, v_sl, k_s1, k_s2, k_s3, v_s, v_seq, k_snx, k_srt, k_sbk, k_sct, v_ifS, k_ifS1, k_ifS0, v_skip, v_brk, v_cnt, v_exp, v_ret, k_exp, k_ret, v_set, k_set, v_n, v_asg, k_asg, a_nm, a_nil, a_cons, k_as, a_tup, v_par, v_par3, k_par, k_par3, v_setIx, k_x1, v_x1, k_mu, k_x2, v_x2, v_augIx, v_g1, k_g1, v_b2, k_g2, k_g3, v_g3, v_g4, v_aug, v_au, k_au, v_au1, v_au2, v_mut, v_m0, v_m1, k_m, v_m2, v_m3, v_callF, k_cf, v_c2, v_callI, v_i1, k_ci, v_i2, v_i3, v_it, k_it, v_itS, it_l, it_t, it_s, v_R1, k_R1, v_for, k_for, v_lc, k_lc, v_lcT, cl_1s, cl_1z, v_yes, v_fgt, v_frt, v_fnx, f_ff, f_fo, f_tf, f_to, f_fs, f_ts, v_ef, v_eo, st_f, st_t, mf_nil, mf_cons, rep_s, rep_z, f_addI, f_addS, f_addL, f_addT, f_sub, f_mod, f_div, f_mulI, f_mulJ, f_mulM, f_mulS, f_pow, f_neg, f_eqI, f_eqS, f_neI, f_neS, f_ltI, f_leI, f_gtI, f_geI, f_ltS, f_is, f_isnt, f_ixL, f_ixT, a_d, se_0, se_1, se_2, i_add, f_slL, f_slT, f_slS, f_slR, f_lenS, f_lenL, f_lenT, f_intI, f_intB, f_abs, f_tupL, f_tupT, f_isi_s, atI0, atI1, atI2, atI3, List.length_cons, List.length_nil, List.cons_append, List.nil_append, Nat.reduceAdd, Nat.reduceSub, Nat.reduceLeDiff, Nat.reduceEqDiff, Int.reduceAdd, Int.reduceSub, Int.reduceMul, Int.reduceNeg, Int.reduceLT, Int.reduceLE, Int.reduceEq, Int.reduceBEq, Int.reducePow, Int.reduceToNat, Bool.not_true, Bool.not_false, decide_true, decide_false, true_and, and_true, sp_blank, rowD]
def bodyRM : SC := (cIfS (cOrT (cTestOf (cBin fNe (cCall fLen (cBCons (cNm 2) (cBNil))) (cK (.int 2)))) (cOrT (cNotT (cTruth (cCallF 1 r_law_is_path (cACons (cFz (cBin fIx (cNm 2) (cK (.int 0)))) (cANil))))) (cNotT (cTruth (cCallF 1 r_law_is_shelf (cACons (cFz (cBin fIx (cNm 2) (cK (.int 1)))) (cANil))))))) (cRet (cK .none)) (cSkip))
theorem bodyRM_ok {ws : List (List Nat)} (hne : ws ≠ []) (hw : ∀ w ∈ ws, w.length ≤ 570) (t L : D) (X3 X4 X5 : Sl) : (entOk ws = true ∧ (bodyRM [.fr t, .ow L, .fr (rowD ws), X3, X4, X5] = .ok (.nx [.fr t, .ow L, .fr (rowD ws), X3, X4, X5]) ∨ bodyRM [.fr t, .ow L, .fr (rowD ws), X3, X4, X5] = .ok (.ct [.fr t, .ow L, .fr (rowD ws), X3, X4, X5]))) ∨
    (entOk ws = false ∧ bodyRM [.fr t, .ow L, .fr (rowD ws), X3, X4, X5] = .ok (.rt (.fr .none) [.fr t, .ow L, .fr (rowD ws), X3, X4, X5])) := by
  unfold bodyRM
  match ws, hne with
  | [u], _ =>
    refine .inr ⟨rfl, ?_⟩
    simp only [b_ok, b_no, oo_some, oo_none, g_fr, g_z, g_s, sl_s, sl_fr, sl_ow, sl_io, rv_fr, rv_ow, rv_sl, fz_fr, fz_ow, kCo_, fz_s, fz_zf, fz_zo, om_some, ob_some, om_none, ow_s, ow_ow, ow_io, mu_s, mu_ow, mu_io, st_s, st_so, st_zn, st_zf, st_zo, so_zn, so_zf, so_zo, v_nm, v_nmf, v_nmo, v_nmi, v_k, v_fz, k_fz, v_anil, v_acons, k_a1, k_a2, v_bnil, v_bcons, k_b1, k_b2, v_tup, v_lst, k_tup, k_lst, v_bin, k_o1, k_o2, v_b, v_r, v_un, k_un, v_u, rvs_nil, rvs_cons, v_cons, v_call, k_call, v_l, v_mt, k_mt, v_testOf, k_t, v_truth, k_tr, v_tr, v_kk, tru_b, v_notT, k_nt, v_andT, v_orT, k_at1, k_at0, k_ot1, k_ot0, v_if, k_if1, k_if0, v_and, v_or, v_not, k_and1, k_and0, k_or1, k_or0, k_not, v_chain, k_ch1, k_ch2, v_b', k_ch3t, k_ch3f, v_pn, v_ps, k_p, v_sl, k_s1, k_s2, k_s3, v_s, v_seq, k_snx, k_srt, k_sbk, k_sct, v_ifS, k_ifS1, k_ifS0, v_skip, v_brk, v_cnt, v_exp, v_ret, k_exp, k_ret, v_set, k_set, v_n, v_asg, k_asg, a_nm, a_nil, a_cons, k_as, a_tup, v_par, v_par3, k_par, k_par3, v_setIx, k_x1, v_x1, k_mu, k_x2, v_x2, v_augIx, v_g1, k_g1, v_b2, k_g2, k_g3, v_g3, v_g4, v_aug, v_au, k_au, v_au1, v_au2, v_mut, v_m0, v_m1, k_m, v_m2, v_m3, v_callF, k_cf, v_c2, v_callI, v_i1, k_ci, v_i2, v_i3, v_it, k_it, v_itS, it_l, it_t, it_s, v_R1, k_R1, v_for, k_for, v_lc, k_lc, v_lcT, cl_1s, cl_1z, v_yes, v_fgt, v_frt, v_fnx, f_ff, f_fo, f_tf, f_to, f_fs, f_ts, v_ef, v_eo, st_f, st_t, mf_nil, mf_cons, rep_s, rep_z, f_addI, f_addS, f_addL, f_addT, f_sub, f_mod, f_div, f_mulI, f_mulJ, f_mulM, f_mulS, f_pow, f_neg, f_eqI, f_eqS, f_neI, f_neS, f_ltI, f_leI, f_gtI, f_geI, f_ltS, f_is, f_isnt, f_ixL, f_ixT, a_d, se_0, se_1, se_2, i_add, f_slL, f_slT, f_slS, f_slR, f_lenS, f_lenL, f_lenT, f_intI, f_intB, f_abs, f_tupL, f_tupT, f_isi_s, atI0, atI1, atI2, atI3, List.length_cons, List.length_nil, List.cons_append, List.nil_append, Nat.reduceAdd, Nat.reduceSub, Nat.reduceLeDiff, Nat.reduceEqDiff, Int.reduceAdd, Int.reduceSub, Int.reduceMul, Int.reduceNeg, Int.reduceLT, Int.reduceLE, Int.reduceEq, Int.reduceBEq, Int.reducePow, Int.reduceToNat, Bool.not_true, Bool.not_false, decide_true, decide_false, true_and, and_true, f_lenR, f_ixR, nc1]
  | [p, s], _ =>
    have ho : entOk [p, s] = (pathB p && shB s) := rfl
    have hsh := sp_law_is_shelf s (hw s (by simp))
    rw [ho]
    cases h1 : pathB p <;> cases h2 : shB s <;> rw [h2] at hsh <;> simp only [b_ok, b_no, oo_some, oo_none, g_fr, g_z, g_s, sl_s, sl_fr, sl_ow, sl_io, rv_fr, rv_ow, rv_sl, fz_fr, fz_ow, kCo_, fz_s, fz_zf, fz_zo, om_some, ob_some, om_none, ow_s, ow_ow, ow_io, mu_s, mu_ow, mu_io, st_s, st_so, st_zn, st_zf, st_zo, so_zn, so_zf, so_zo, v_nm, v_nmf, v_nmo, v_nmi, v_k, v_fz, k_fz, v_anil, v_acons, k_a1, k_a2, v_bnil, v_bcons, k_b1, k_b2, v_tup, v_lst, k_tup, k_lst, v_bin, k_o1, k_o2, v_b, v_r, v_un, k_un, v_u, rvs_nil, rvs_cons, v_cons, v_call, k_call, v_l, v_mt, k_mt, v_testOf, k_t, v_truth, k_tr, v_tr, v_kk, tru_b, v_notT, k_nt, v_andT, v_orT, k_at1, k_at0, k_ot1, k_ot0, v_if, k_if1, k_if0, v_and, v_or, v_not, k_and1, k_and0, k_or1, k_or0, k_not, v_chain, k_ch1, k_ch2, v_b', k_ch3t, k_ch3f, v_pn, v_ps, k_p, v_sl, k_s1, k_s2, k_s3, v_s, v_seq, k_snx, k_srt, k_sbk, k_sct, v_ifS, k_ifS1, k_ifS0, v_skip, v_brk, v_cnt, v_exp, v_ret, k_exp, k_ret, v_set, k_set, v_n, v_asg, k_asg, a_nm, a_nil, a_cons, k_as, a_tup, v_par, v_par3, k_par, k_par3, v_setIx, k_x1, v_x1, k_mu, k_x2, v_x2, v_augIx, v_g1, k_g1, v_b2, k_g2, k_g3, v_g3, v_g4, v_aug, v_au, k_au, v_au1, v_au2, v_mut, v_m0, v_m1, k_m, v_m2, v_m3, v_callF, k_cf, v_c2, v_callI, v_i1, k_ci, v_i2, v_i3, v_it, k_it, v_itS, it_l, it_t, it_s, v_R1, k_R1, v_for, k_for, v_lc, k_lc, v_lcT, cl_1s, cl_1z, v_yes, v_fgt, v_frt, v_fnx, f_ff, f_fo, f_tf, f_to, f_fs, f_ts, v_ef, v_eo, st_f, st_t, mf_nil, mf_cons, rep_s, rep_z, f_addI, f_addS, f_addL, f_addT, f_sub, f_mod, f_div, f_mulI, f_mulJ, f_mulM, f_mulS, f_pow, f_neg, f_eqI, f_eqS, f_neI, f_neS, f_ltI, f_leI, f_gtI, f_geI, f_ltS, f_is, f_isnt, f_ixL, f_ixT, a_d, se_0, se_1, se_2, i_add, f_slL, f_slT, f_slS, f_slR, f_lenS, f_lenL, f_lenT, f_intI, f_intB, f_abs, f_tupL, f_tupT, f_isi_s, atI0, atI1, atI2, atI3, List.length_cons, List.length_nil, List.cons_append, List.nil_append, Nat.reduceAdd, Nat.reduceSub, Nat.reduceLeDiff, Nat.reduceEqDiff, Int.reduceAdd, Int.reduceSub, Int.reduceMul, Int.reduceNeg, Int.reduceLT, Int.reduceLE, Int.reduceEq, Int.reduceBEq, Int.reducePow, Int.reduceToNat, Bool.not_true, Bool.not_false, decide_true, decide_false, true_and, and_true, f_lenR, f_ixR, nc2, at_20, at_21, q_lip, q_lis, sp_law_is_path, hsh, h1, h2, Bool.and_false, Bool.false_and, Bool.and_true, reduceCtorEq, false_and, and_false, true_and, or_false, or_true, false_or, true_or]
  | u :: p :: s :: r, _ =>
    have g2 : (((r.length + 1 + 1 + 1 : Nat) : Int) == 2) = false := by rw [← Bool.not_eq_true, beq_iff_eq]; omega
    refine .inr ⟨rfl, ?_⟩
    simp only [b_ok, b_no, oo_some, oo_none, g_fr, g_z, g_s, sl_s, sl_fr, sl_ow, sl_io, rv_fr, rv_ow, rv_sl, fz_fr, fz_ow, kCo_, fz_s, fz_zf, fz_zo, om_some, ob_some, om_none, ow_s, ow_ow, ow_io, mu_s, mu_ow, mu_io, st_s, st_so, st_zn, st_zf, st_zo, so_zn, so_zf, so_zo, v_nm, v_nmf, v_nmo, v_nmi, v_k, v_fz, k_fz, v_anil, v_acons, k_a1, k_a2, v_bnil, v_bcons, k_b1, k_b2, v_tup, v_lst, k_tup, k_lst, v_bin, k_o1, k_o2, v_b, v_r, v_un, k_un, v_u, rvs_nil, rvs_cons, v_cons, v_call, k_call, v_l, v_mt, k_mt, v_testOf, k_t, v_truth, k_tr, v_tr, v_kk, tru_b, v_notT, k_nt, v_andT, v_orT, k_at1, k_at0, k_ot1, k_ot0, v_if, k_if1, k_if0, v_and, v_or, v_not, k_and1, k_and0, k_or1, k_or0, k_not, v_chain, k_ch1, k_ch2, v_b', k_ch3t, k_ch3f, v_pn, v_ps, k_p, v_sl, k_s1, k_s2, k_s3, v_s, v_seq, k_snx, k_srt, k_sbk, k_sct, v_ifS, k_ifS1, k_ifS0, v_skip, v_brk, v_cnt, v_exp, v_ret, k_exp, k_ret, v_set, k_set, v_n, v_asg, k_asg, a_nm, a_nil, a_cons, k_as, a_tup, v_par, v_par3, k_par, k_par3, v_setIx, k_x1, v_x1, k_mu, k_x2, v_x2, v_augIx, v_g1, k_g1, v_b2, k_g2, k_g3, v_g3, v_g4, v_aug, v_au, k_au, v_au1, v_au2, v_mut, v_m0, v_m1, k_m, v_m2, v_m3, v_callF, k_cf, v_c2, v_callI, v_i1, k_ci, v_i2, v_i3, v_it, k_it, v_itS, it_l, it_t, it_s, v_R1, k_R1, v_for, k_for, v_lc, k_lc, v_lcT, cl_1s, cl_1z, v_yes, v_fgt, v_frt, v_fnx, f_ff, f_fo, f_tf, f_to, f_fs, f_ts, v_ef, v_eo, st_f, st_t, mf_nil, mf_cons, rep_s, rep_z, f_addI, f_addS, f_addL, f_addT, f_sub, f_mod, f_div, f_mulI, f_mulJ, f_mulM, f_mulS, f_pow, f_neg, f_eqI, f_eqS, f_neI, f_neS, f_ltI, f_leI, f_gtI, f_geI, f_ltS, f_is, f_isnt, f_ixL, f_ixT, a_d, se_0, se_1, se_2, i_add, f_slL, f_slT, f_slS, f_slR, f_lenS, f_lenL, f_lenT, f_intI, f_intB, f_abs, f_tupL, f_tupT, f_isi_s, atI0, atI1, atI2, atI3, List.length_cons, List.length_nil, List.cons_append, List.nil_append, Nat.reduceAdd, Nat.reduceSub, Nat.reduceLeDiff, Nat.reduceEqDiff, Int.reduceAdd, Int.reduceSub, Int.reduceMul, Int.reduceNeg, Int.reduceLT, Int.reduceLE, Int.reduceEq, Int.reduceBEq, Int.reducePow, Int.reduceToNat, Bool.not_true, Bool.not_false, decide_true, decide_false, true_and, and_true, f_lenR, f_ixR, g2]
theorem strsOf_paths (m : List (List Nat)) : strsOf (m.map fun w => PyData.str (mkS (hdW w))) = some (m.map fun w => mkS (hdW w)) := by
  have e : (m.map fun w => PyData.str (mkS (hdW w))) = (m.map fun w => mkS (hdW w)).map .str := by rw [List.map_map]; rfl
  rw [e, strsOf_strs]
theorem f_sortPaths {m : List (List Nat)} (h : m.length < 64) : fSortD (.list (m.map fun w => .str (mkS (hdW w)))) = some (.ow (.list ((srt (dd (m.map fun w => mkS (hdW w)))).map .str))) := by
  show (strsOf _).bind _ = _
  rw [strsOf_paths, ob_some, if_pos (by rw [List.length_map]; exact h)]
theorem f_nePaths (m : List (List Nat)) : fNe (.list (m.map fun w => .str (mkS (hdW w)))) (.list ((srt (dd (m.map fun w => mkS (hdW w)))).map .str)) = some (.fr (.bool (!incr (m.map hdW)))) := by
  have e1 : (m.map fun w => PyData.str (mkS (hdW w))) = (m.map hdW).map fun w => .str (mkS w) := by rw [List.map_map]; rfl
  have e2 : ∀ l : List Str, l.map PyData.str = (l.map tl).map fun w => .str (mkS w) := fun l => by rw [List.map_map]; rfl
  have e3 : (m.map fun w => mkS (hdW w)) = (m.map hdW).map mkS := by rw [List.map_map]; rfl
  rw [e1, e2, f_neRow, e3, ← incr_srt]
  congr 4
  refine decide_eq_decide.mpr ⟨fun h => ?_, fun h => ?_⟩
  · have := congrArg (List.map mkS) h
    rw [List.map_map (f := tl)] at this
    exact this.trans ((List.map_congr_left fun x _ => mkS_tl x).trans (List.map_id' _))
  · have := congrArg (List.map tl) h
    rw [List.map_map (f := mkS)] at this
    exact ((List.map_congr_left fun x _ => tl_mkS x).trans (List.map_id' _)).symm.trans this
theorem ent_size {ws : List (List Nat)} (h : entOk ws = true) : 11 ≤ szW ws := by
  obtain ⟨p, s, rfl⟩ := entOk_pair h
  have h : (pathB p && shB s) = true := h
  rw [Bool.and_eq_true] at h
  have h1 : 1 ≤ p.length := by
    cases p with
    | nil => exact absurd h.1 (by decide)
    | cons c p => rw [List.length_cons]; omega
  have h2 : 8 ≤ s.length := by
    have := h.2
    unfold shB at this
    rw [Bool.and_eq_true, Bool.and_eq_true, decide_eq_true_iff, decide_eq_true_iff, List.length_drop] at this
    omega
  rw [szW_cons, szW_cons]
  omega
theorem ents_few : ∀ {m : List (List Nat)}, (m.all fun x => entOk (spl [32] 0 [] x)) = true → 11 * m.length ≤ szW m
  | [], _ => Nat.le_refl _
  | x :: m, h => by
    rw [List.all_cons, Bool.and_eq_true] at h
    have h1 := ent_size h.1
    have h2 := szW_spl 32 x []
    have h3 := ents_few h.2
    rw [List.length_nil] at h2
    rw [szW_cons, List.length_cons]
    omega
end Wk73
end
section
namespace Wk73
open PySem PySem.Spec L2 TL Ed
theorem sp_lawreadM2 {l a : List Nat} {m : List (List Nat)} {z : List Nat} (h : spl [10] 0 [] l = a :: (m ++ [z])) (hl : l.length ≤ 570) : r_law_read_manifest [.str (mkS l)] = .ok (.fr (readM a m z)) none := by
  have hmem : ∀ p ∈ a :: (m ++ [z]), p.length ≤ 570 := fun p hp => by
    rw [← h] at hp
    have := spl_len _ _ _ p hp
    rw [List.length_nil] at this
    omega
  have hword : ∀ p ∈ a :: (m ++ [z]), ∀ w ∈ spl [32] 0 [] p, w.length ≤ 570 := fun p hp w hw => by
    have h1 := spl_len _ _ _ w hw
    have h2 := hmem p hp
    rw [List.length_nil] at h1
    omega
  have hsz : szW (a :: (m ++ [z])) = l.length + 1 := by rw [← h, szW_spl]; simp
  rw [szW_cons, szW_app] at hsz
  have hml := szW_len m
  unfold r_law_read_manifest c_law_read_manifest
  rw [v_run]
  simp only [b_ok, b_no, oo_some, oo_none, g_fr, g_z, g_s, sl_s, sl_fr, sl_ow, sl_io, rv_fr, rv_ow, rv_sl, fz_fr, fz_ow, kCo_, fz_s, fz_zf, fz_zo, om_some, ob_some, om_none, ow_s, ow_ow, ow_io, mu_s, mu_ow, mu_io, st_s, st_so, st_zn, st_zf, st_zo, so_zn, so_zf, so_zo, v_nm, v_nmf, v_nmo, v_nmi, v_k, v_fz, k_fz, v_anil, v_acons, k_a1, k_a2, v_bnil, v_bcons, k_b1, k_b2, v_tup, v_lst, k_tup, k_lst, v_bin, k_o1, k_o2, v_b, v_r, v_un, k_un, v_u, rvs_nil, rvs_cons, v_cons, v_call, k_call, v_l, v_mt, k_mt, v_testOf, k_t, v_truth, k_tr, v_tr, v_kk, tru_b, v_notT, k_nt, v_andT, v_orT, k_at1, k_at0, k_ot1, k_ot0, v_if, k_if1, k_if0, v_and, v_or, v_not, k_and1, k_and0, k_or1, k_or0, k_not, v_chain, k_ch1, k_ch2, v_b', k_ch3t, k_ch3f, v_pn, v_ps, k_p, v_sl, k_s1, k_s2, k_s3, v_s, v_seq, k_snx, k_srt, k_sbk, k_sct, v_ifS, k_ifS1, k_ifS0, v_skip, v_brk, v_cnt, v_exp, v_ret, k_exp, k_ret, v_set, k_set, v_n, v_asg, k_asg, a_nm, a_nil, a_cons, k_as, a_tup, v_par, v_par3, k_par, k_par3, v_setIx, k_x1, v_x1, k_mu, k_x2, v_x2, v_augIx, v_g1, k_g1, v_b2, k_g2, k_g3, v_g3, v_g4, v_aug, v_au, k_au, v_au1, v_au2, v_mut, v_m0, v_m1, k_m, v_m2, v_m3, v_callF, k_cf, v_c2, v_callI, v_i1, k_ci, v_i2, v_i3, v_it, k_it, v_itS, it_l, it_t, it_s, v_R1, k_R1, v_for, k_for, v_lc, k_lc, v_lcT, cl_1s, cl_1z, v_yes, v_fgt, v_frt, v_fnx, f_ff, f_fo, f_tf, f_to, f_fs, f_ts, v_ef, v_eo, st_f, st_t, mf_nil, mf_cons, rep_s, rep_z, f_addI, f_addS, f_addL, f_addT, f_sub, f_mod, f_div, f_mulI, f_mulJ, f_mulM, f_mulS, f_pow, f_neg, f_eqI, f_eqS, f_neI, f_neS, f_ltI, f_leI, f_gtI, f_geI, f_ltS, f_is, f_isnt, f_ixL, f_ixT, a_d, se_0, se_1, se_2, i_add, f_slL, f_slT, f_slS, f_slR, f_lenS, f_lenL, f_lenT, f_intI, f_intB, f_abs, f_tupL, f_tupT, f_isi_s, atI0, atI1, atI2, atI3, List.length_cons, List.length_nil, List.cons_append, List.nil_append, Nat.reduceAdd, Nat.reduceSub, Nat.reduceLeDiff, Nat.reduceEqDiff, Int.reduceAdd, Int.reduceSub, Int.reduceMul, Int.reduceNeg, Int.reduceLT, Int.reduceLE, Int.reduceEq, Int.reduceBEq, Int.reducePow, Int.reduceToNat, Bool.not_true, Bool.not_false, decide_true, decide_false, true_and, and_true, sp_lf, h]
  rw [lc_fmap (fun w => .str (mkS w)) (fun w => rowD (spl [32] 0 [] w))]
  rotate_left
  · intro d _
    refine ⟨[.fr (.str (mkS l)), .no, .no, .no, .no, .fr (.str (mkS d))], rfl, ?_, rfl⟩
    simp only [b_ok, b_no, oo_some, oo_none, g_fr, g_z, g_s, sl_s, sl_fr, sl_ow, sl_io, rv_fr, rv_ow, rv_sl, fz_fr, fz_ow, kCo_, fz_s, fz_zf, fz_zo, om_some, ob_some, om_none, ow_s, ow_ow, ow_io, mu_s, mu_ow, mu_io, st_s, st_so, st_zn, st_zf, st_zo, so_zn, so_zf, so_zo, v_nm, v_nmf, v_nmo, v_nmi, v_k, v_fz, k_fz, v_anil, v_acons, k_a1, k_a2, v_bnil, v_bcons, k_b1, k_b2, v_tup, v_lst, k_tup, k_lst, v_bin, k_o1, k_o2, v_b, v_r, v_un, k_un, v_u, rvs_nil, rvs_cons, v_cons, v_call, k_call, v_l, v_mt, k_mt, v_testOf, k_t, v_truth, k_tr, v_tr, v_kk, tru_b, v_notT, k_nt, v_andT, v_orT, k_at1, k_at0, k_ot1, k_ot0, v_if, k_if1, k_if0, v_and, v_or, v_not, k_and1, k_and0, k_or1, k_or0, k_not, v_chain, k_ch1, k_ch2, v_b', k_ch3t, k_ch3f, v_pn, v_ps, k_p, v_sl, k_s1, k_s2, k_s3, v_s, v_seq, k_snx, k_srt, k_sbk, k_sct, v_ifS, k_ifS1, k_ifS0, v_skip, v_brk, v_cnt, v_exp, v_ret, k_exp, k_ret, v_set, k_set, v_n, v_asg, k_asg, a_nm, a_nil, a_cons, k_as, a_tup, v_par, v_par3, k_par, k_par3, v_setIx, k_x1, v_x1, k_mu, k_x2, v_x2, v_augIx, v_g1, k_g1, v_b2, k_g2, k_g3, v_g3, v_g4, v_aug, v_au, k_au, v_au1, v_au2, v_mut, v_m0, v_m1, k_m, v_m2, v_m3, v_callF, k_cf, v_c2, v_callI, v_i1, k_ci, v_i2, v_i3, v_it, k_it, v_itS, it_l, it_t, it_s, v_R1, k_R1, v_for, k_for, v_lc, k_lc, v_lcT, cl_1s, cl_1z, v_yes, v_fgt, v_frt, v_fnx, f_ff, f_fo, f_tf, f_to, f_fs, f_ts, v_ef, v_eo, st_f, st_t, mf_nil, mf_cons, rep_s, rep_z, f_addI, f_addS, f_addL, f_addT, f_sub, f_mod, f_div, f_mulI, f_mulJ, f_mulM, f_mulS, f_pow, f_neg, f_eqI, f_eqS, f_neI, f_neS, f_ltI, f_leI, f_gtI, f_geI, f_ltS, f_is, f_isnt, f_ixL, f_ixT, a_d, se_0, se_1, se_2, i_add, f_slL, f_slT, f_slS, f_slR, f_lenS, f_lenL, f_lenT, f_intI, f_intB, f_abs, f_tupL, f_tupT, f_isi_s, atI0, atI1, atI2, atI3, List.length_cons, List.length_nil, List.cons_append, List.nil_append, Nat.reduceAdd, Nat.reduceSub, Nat.reduceLeDiff, Nat.reduceEqDiff, Int.reduceAdd, Int.reduceSub, Int.reduceMul, Int.reduceNeg, Int.reduceLT, Int.reduceLE, Int.reduceEq, Int.reduceBEq, Int.reducePow, Int.reduceToNat, Bool.not_true, Bool.not_false, decide_true, decide_false, true_and, and_true, sp_blank, rowD]
  have g1 : ¬ (((m.length + 1 + 1 : Nat) : Int) < 2) := by omega
  have g2 : ((m.length + 1 + 1 : Nat) : Int) - 2 = (m.length : Nat) := by omega
  have g3 := f_strN (n := m.length) (by omega)
  have g4 : fNe (rowD (spl [32] 0 [] a)) (.list [.str "entries", .str (mkS (numT m.length))]) = some (.fr (.bool (!decide (a = lnEnt m.length)))) := by
    rw [show Str.ofString "entries" = mkS wEnt from mk_ent]
    show fNe (.list _) _ = _
    rw [f_neRow2]
    have : decide (spl [32] 0 [] a = [wEnt, numT m.length]) = decide (a = lnEnt m.length) := decide_eq_decide.mpr ⟨fun e => by
      have := join_spl 32 a []
      rw [e] at this
      exact this.symm, fun e => by
      rw [e]
      exact spl_join (s := 32) (S := []) (parts := [wEnt, numT m.length]) (by simp) fun p hp => by
        rcases List.mem_cons.mp hp with rfl | hp
        · decide
        · rw [List.mem_singleton.mp hp]
          exact numT_free ⟨by decide, .inl (by decide)⟩⟩
    rw [this]
  simp only [noEx, b_ok, b_no, oo_some, oo_none, g_fr, g_z, g_s, sl_s, sl_fr, sl_ow, sl_io, rv_fr, rv_ow, rv_sl, fz_fr, fz_ow, kCo_, fz_s, fz_zf, fz_zo, om_some, ob_some, om_none, ow_s, ow_ow, ow_io, mu_s, mu_ow, mu_io, st_s, st_so, st_zn, st_zf, st_zo, so_zn, so_zf, so_zo, v_nm, v_nmf, v_nmo, v_nmi, v_k, v_fz, k_fz, v_anil, v_acons, k_a1, k_a2, v_bnil, v_bcons, k_b1, k_b2, v_tup, v_lst, k_tup, k_lst, v_bin, k_o1, k_o2, v_b, v_r, v_un, k_un, v_u, rvs_nil, rvs_cons, v_cons, v_call, k_call, v_l, v_mt, k_mt, v_testOf, k_t, v_truth, k_tr, v_tr, v_kk, tru_b, v_notT, k_nt, v_andT, v_orT, k_at1, k_at0, k_ot1, k_ot0, v_if, k_if1, k_if0, v_and, v_or, v_not, k_and1, k_and0, k_or1, k_or0, k_not, v_chain, k_ch1, k_ch2, v_b', k_ch3t, k_ch3f, v_pn, v_ps, k_p, v_sl, k_s1, k_s2, k_s3, v_s, v_seq, k_snx, k_srt, k_sbk, k_sct, v_ifS, k_ifS1, k_ifS0, v_skip, v_brk, v_cnt, v_exp, v_ret, k_exp, k_ret, v_set, k_set, v_n, v_asg, k_asg, a_nm, a_nil, a_cons, k_as, a_tup, v_par, v_par3, k_par, k_par3, v_setIx, k_x1, v_x1, k_mu, k_x2, v_x2, v_augIx, v_g1, k_g1, v_b2, k_g2, k_g3, v_g3, v_g4, v_aug, v_au, k_au, v_au1, v_au2, v_mut, v_m0, v_m1, k_m, v_m2, v_m3, v_callF, k_cf, v_c2, v_callI, v_i1, k_ci, v_i2, v_i3, v_it, k_it, v_itS, it_l, it_t, it_s, v_R1, k_R1, v_for, k_for, v_lc, k_lc, v_lcT, cl_1s, cl_1z, v_yes, v_fgt, v_frt, v_fnx, f_ff, f_fo, f_tf, f_to, f_fs, f_ts, v_ef, v_eo, st_f, st_t, mf_nil, mf_cons, rep_s, rep_z, f_addI, f_addS, f_addL, f_addT, f_sub, f_mod, f_div, f_mulI, f_mulJ, f_mulM, f_mulS, f_pow, f_neg, f_eqI, f_eqS, f_neI, f_neS, f_ltI, f_leI, f_gtI, f_geI, f_ltS, f_is, f_isnt, f_ixL, f_ixT, a_d, se_0, se_1, se_2, i_add, f_slL, f_slT, f_slS, f_slR, f_lenS, f_lenL, f_lenT, f_intI, f_intB, f_abs, f_tupL, f_tupT, f_isi_s, atI0, atI1, atI2, atI3, List.length_cons, List.length_nil, List.cons_append, List.nil_append, Nat.reduceAdd, Nat.reduceSub, Nat.reduceLeDiff, Nat.reduceEqDiff, Int.reduceAdd, Int.reduceSub, Int.reduceMul, Int.reduceNeg, Int.reduceLT, Int.reduceLE, Int.reduceEq, Int.reduceBEq, Int.reducePow, Int.reduceToNat, Bool.not_true, Bool.not_false, decide_true, decide_false, true_and, and_true, List.length_map, List.length_append, g1, g2, g3, at_fst, g4]
  cases hA : decide (a = lnEnt m.length) with
  | false =>
    have hg : readM a m z = .none := by
      unfold readM goodM
      rw [hA, Bool.false_and]
    rw [hg]
    simp only [b_ok, b_no, oo_some, oo_none, g_fr, g_z, g_s, sl_s, sl_fr, sl_ow, sl_io, rv_fr, rv_ow, rv_sl, fz_fr, fz_ow, kCo_, fz_s, fz_zf, fz_zo, om_some, ob_some, om_none, ow_s, ow_ow, ow_io, mu_s, mu_ow, mu_io, st_s, st_so, st_zn, st_zf, st_zo, so_zn, so_zf, so_zo, v_nm, v_nmf, v_nmo, v_nmi, v_k, v_fz, k_fz, v_anil, v_acons, k_a1, k_a2, v_bnil, v_bcons, k_b1, k_b2, v_tup, v_lst, k_tup, k_lst, v_bin, k_o1, k_o2, v_b, v_r, v_un, k_un, v_u, rvs_nil, rvs_cons, v_cons, v_call, k_call, v_l, v_mt, k_mt, v_testOf, k_t, v_truth, k_tr, v_tr, v_kk, tru_b, v_notT, k_nt, v_andT, v_orT, k_at1, k_at0, k_ot1, k_ot0, v_if, k_if1, k_if0, v_and, v_or, v_not, k_and1, k_and0, k_or1, k_or0, k_not, v_chain, k_ch1, k_ch2, v_b', k_ch3t, k_ch3f, v_pn, v_ps, k_p, v_sl, k_s1, k_s2, k_s3, v_s, v_seq, k_snx, k_srt, k_sbk, k_sct, v_ifS, k_ifS1, k_ifS0, v_skip, v_brk, v_cnt, v_exp, v_ret, k_exp, k_ret, v_set, k_set, v_n, v_asg, k_asg, a_nm, a_nil, a_cons, k_as, a_tup, v_par, v_par3, k_par, k_par3, v_setIx, k_x1, v_x1, k_mu, k_x2, v_x2, v_augIx, v_g1, k_g1, v_b2, k_g2, k_g3, v_g3, v_g4, v_aug, v_au, k_au, v_au1, v_au2, v_mut, v_m0, v_m1, k_m, v_m2, v_m3, v_callF, k_cf, v_c2, v_callI, v_i1, k_ci, v_i2, v_i3, v_it, k_it, v_itS, it_l, it_t, it_s, v_R1, k_R1, v_for, k_for, v_lc, k_lc, v_lcT, cl_1s, cl_1z, v_yes, v_fgt, v_frt, v_fnx, f_ff, f_fo, f_tf, f_to, f_fs, f_ts, v_ef, v_eo, st_f, st_t, mf_nil, mf_cons, rep_s, rep_z, f_addI, f_addS, f_addL, f_addT, f_sub, f_mod, f_div, f_mulI, f_mulJ, f_mulM, f_mulS, f_pow, f_neg, f_eqI, f_eqS, f_neI, f_neS, f_ltI, f_leI, f_gtI, f_geI, f_ltS, f_is, f_isnt, f_ixL, f_ixT, a_d, se_0, se_1, se_2, i_add, f_slL, f_slT, f_slS, f_slR, f_lenS, f_lenL, f_lenT, f_intI, f_intB, f_abs, f_tupL, f_tupT, f_isi_s, atI0, atI1, atI2, atI3, List.length_cons, List.length_nil, List.cons_append, List.nil_append, Nat.reduceAdd, Nat.reduceSub, Nat.reduceLeDiff, Nat.reduceEqDiff, Int.reduceAdd, Int.reduceSub, Int.reduceMul, Int.reduceNeg, Int.reduceLT, Int.reduceLE, Int.reduceEq, Int.reduceBEq, Int.reducePow, Int.reduceToNat, Bool.not_true, Bool.not_false, decide_true, decide_false, true_and, and_true]
  | true =>
    obtain ⟨r', hr⟩ := for_fret (a := aNm 2) (body := bodyRM) (fun w => rowD (spl [32] 0 [] w)) (fun r => ∃ X, r = [.fr (.str (mkS l)), .ow (.list (List.map (fun w => rowD (spl [32] 0 [] w)) (a :: (m ++ [z])))), X, .no, .no, .no] ∧ (X = .no ∨ ∃ d, X = .fr d)) (fun w => entOk (spl [32] 0 [] w)) (.fr .none) m
      [.fr (.str (mkS l)), .ow (.list (List.map (fun w => rowD (spl [32] 0 [] w)) (a :: (m ++ [z])))), .no, .no, .no, .no] (fun d hd r hr => by
        obtain ⟨X, rfl, hX⟩ := hr
        refine ⟨[.fr (.str (mkS l)), .ow (.list (List.map (fun w => rowD (spl [32] 0 [] w)) (a :: (m ++ [z])))), .fr (rowD (spl [32] 0 [] d)), .no, .no, .no], [.fr (.str (mkS l)), .ow (.list (List.map (fun w => rowD (spl [32] 0 [] w)) (a :: (m ++ [z])))), .fr (rowD (spl [32] 0 [] d)), .no, .no, .no], ?_, ?_⟩
        · rcases hX with rfl | ⟨d', rfl⟩ <;> rfl
        · rcases bodyRM_ok (spl_ne 32 d []) (hword d (List.mem_cons_of_mem _ (List.mem_append_left _ hd))) (.str (mkS l)) (.list (List.map (fun w => rowD (spl [32] 0 [] w)) (a :: (m ++ [z])))) .no .no .no with ⟨h1, h2⟩ | ⟨h1, h2⟩
          · exact .inl ⟨h1, h2, _, rfl, .inr ⟨_, rfl⟩⟩
          · exact .inr ⟨h1, h2⟩) ⟨_, rfl, .inl rfl⟩
    unfold bodyRM at hr
    rcases hr with ⟨hm, hf, X, rfl, hX⟩ | ⟨hm, hf⟩
    · have fin : ∀ Y : DE, fgt [0] (X :: Y) = .no :: Y := fun Y => by rcases hX with rfl | ⟨d, rfl⟩ <;> rfl
      have few : m.length < 64 := by
        have := ents_few hm
        omega
      have lcp : lcD [2] (aNm 2) cYes (cFz (cBin fIx (cNm 2) (cK (.int 0)))) (m.map fun w => rowD (spl [32] 0 [] w)) [.fr (.str (mkS l)), .ow (.list (List.map (fun w => rowD (spl [32] 0 [] w)) (a :: (m ++ [z])))), .no, .no, .no, .no] = .ok (m.map fun w => .str (mkS (hdW w)), [.fr (.str (mkS l)), .ow (.list (List.map (fun w => rowD (spl [32] 0 [] w)) (a :: (m ++ [z])))), .no, .no, .no, .no]) := by
        rw [lc_fmap (fun w => rowD (spl [32] 0 [] w)) (fun w => .str (mkS (hdW w)))]
        intro d hd
        obtain ⟨p, s, e⟩ := entOk_pair (List.all_eq_true.mp hm d hd)
        have e2 : hdW d = p := by unfold hdW; rw [e]; rfl
        refine ⟨[.fr (.str (mkS l)), .ow (.list (List.map (fun w => rowD (spl [32] 0 [] w)) (a :: (m ++ [z])))), .fr (rowD (spl [32] 0 [] d)), .no, .no, .no], rfl, ?_, rfl⟩
        rw [e2]
        simp only [b_ok, b_no, oo_some, oo_none, g_fr, g_z, g_s, sl_s, sl_fr, sl_ow, sl_io, rv_fr, rv_ow, rv_sl, fz_fr, fz_ow, kCo_, fz_s, fz_zf, fz_zo, om_some, ob_some, om_none, ow_s, ow_ow, ow_io, mu_s, mu_ow, mu_io, st_s, st_so, st_zn, st_zf, st_zo, so_zn, so_zf, so_zo, v_nm, v_nmf, v_nmo, v_nmi, v_k, v_fz, k_fz, v_anil, v_acons, k_a1, k_a2, v_bnil, v_bcons, k_b1, k_b2, v_tup, v_lst, k_tup, k_lst, v_bin, k_o1, k_o2, v_b, v_r, v_un, k_un, v_u, rvs_nil, rvs_cons, v_cons, v_call, k_call, v_l, v_mt, k_mt, v_testOf, k_t, v_truth, k_tr, v_tr, v_kk, tru_b, v_notT, k_nt, v_andT, v_orT, k_at1, k_at0, k_ot1, k_ot0, v_if, k_if1, k_if0, v_and, v_or, v_not, k_and1, k_and0, k_or1, k_or0, k_not, v_chain, k_ch1, k_ch2, v_b', k_ch3t, k_ch3f, v_pn, v_ps, k_p, v_sl, k_s1, k_s2, k_s3, v_s, v_seq, k_snx, k_srt, k_sbk, k_sct, v_ifS, k_ifS1, k_ifS0, v_skip, v_brk, v_cnt, v_exp, v_ret, k_exp, k_ret, v_set, k_set, v_n, v_asg, k_asg, a_nm, a_nil, a_cons, k_as, a_tup, v_par, v_par3, k_par, k_par3, v_setIx, k_x1, v_x1, k_mu, k_x2, v_x2, v_augIx, v_g1, k_g1, v_b2, k_g2, k_g3, v_g3, v_g4, v_aug, v_au, k_au, v_au1, v_au2, v_mut, v_m0, v_m1, k_m, v_m2, v_m3, v_callF, k_cf, v_c2, v_callI, v_i1, k_ci, v_i2, v_i3, v_it, k_it, v_itS, it_l, it_t, it_s, v_R1, k_R1, v_for, k_for, v_lc, k_lc, v_lcT, cl_1s, cl_1z, v_yes, v_fgt, v_frt, v_fnx, f_ff, f_fo, f_tf, f_to, f_fs, f_ts, v_ef, v_eo, st_f, st_t, mf_nil, mf_cons, rep_s, rep_z, f_addI, f_addS, f_addL, f_addT, f_sub, f_mod, f_div, f_mulI, f_mulJ, f_mulM, f_mulS, f_pow, f_neg, f_eqI, f_eqS, f_neI, f_neS, f_ltI, f_leI, f_gtI, f_geI, f_ltS, f_is, f_isnt, f_ixL, f_ixT, a_d, se_0, se_1, se_2, i_add, f_slL, f_slT, f_slS, f_slR, f_lenS, f_lenL, f_lenT, f_intI, f_intB, f_abs, f_tupL, f_tupT, f_isi_s, atI0, atI1, atI2, atI3, List.length_cons, List.length_nil, List.cons_append, List.nil_append, Nat.reduceAdd, Nat.reduceSub, Nat.reduceLeDiff, Nat.reduceEqDiff, Int.reduceAdd, Int.reduceSub, Int.reduceMul, Int.reduceNeg, Int.reduceLT, Int.reduceLE, Int.reduceEq, Int.reduceBEq, Int.reducePow, Int.reduceToNat, Bool.not_true, Bool.not_false, decide_true, decide_false, true_and, and_true, f_ixR, e, at_20]
      cases hi : incr (m.map hdW) with
      | false =>
        have hg : readM a m z = .none := by
          unfold readM goodM
          rw [hi, Bool.false_and, Bool.and_false, Bool.and_false]
        rw [hg]
        simp only [b_ok, b_no, oo_some, oo_none, g_fr, g_z, g_s, sl_s, sl_fr, sl_ow, sl_io, rv_fr, rv_ow, rv_sl, fz_fr, fz_ow, kCo_, fz_s, fz_zf, fz_zo, om_some, ob_some, om_none, ow_s, ow_ow, ow_io, mu_s, mu_ow, mu_io, st_s, st_so, st_zn, st_zf, st_zo, so_zn, so_zf, so_zo, v_nm, v_nmf, v_nmo, v_nmi, v_k, v_fz, k_fz, v_anil, v_acons, k_a1, k_a2, v_bnil, v_bcons, k_b1, k_b2, v_tup, v_lst, k_tup, k_lst, v_bin, k_o1, k_o2, v_b, v_r, v_un, k_un, v_u, rvs_nil, rvs_cons, v_cons, v_call, k_call, v_l, v_mt, k_mt, v_testOf, k_t, v_truth, k_tr, v_tr, v_kk, tru_b, v_notT, k_nt, v_andT, v_orT, k_at1, k_at0, k_ot1, k_ot0, v_if, k_if1, k_if0, v_and, v_or, v_not, k_and1, k_and0, k_or1, k_or0, k_not, v_chain, k_ch1, k_ch2, v_b', k_ch3t, k_ch3f, v_pn, v_ps, k_p, v_sl, k_s1, k_s2, k_s3, v_s, v_seq, k_snx, k_srt, k_sbk, k_sct, v_ifS, k_ifS1, k_ifS0, v_skip, v_brk, v_cnt, v_exp, v_ret, k_exp, k_ret, v_set, k_set, v_n, v_asg, k_asg, a_nm, a_nil, a_cons, k_as, a_tup, v_par, v_par3, k_par, k_par3, v_setIx, k_x1, v_x1, k_mu, k_x2, v_x2, v_augIx, v_g1, k_g1, v_b2, k_g2, k_g3, v_g3, v_g4, v_aug, v_au, k_au, v_au1, v_au2, v_mut, v_m0, v_m1, k_m, v_m2, v_m3, v_callF, k_cf, v_c2, v_callI, v_i1, k_ci, v_i2, v_i3, v_it, k_it, v_itS, it_l, it_t, it_s, v_R1, k_R1, v_for, k_for, v_lc, k_lc, v_lcT, cl_1s, cl_1z, v_yes, v_fgt, v_frt, v_fnx, f_ff, f_fo, f_tf, f_to, f_fs, f_ts, v_ef, v_eo, st_f, st_t, mf_nil, mf_cons, rep_s, rep_z, f_addI, f_addS, f_addL, f_addT, f_sub, f_mod, f_div, f_mulI, f_mulJ, f_mulM, f_mulS, f_pow, f_neg, f_eqI, f_eqS, f_neI, f_neS, f_ltI, f_leI, f_gtI, f_geI, f_ltS, f_is, f_isnt, f_ixL, f_ixT, a_d, se_0, se_1, se_2, i_add, f_slL, f_slT, f_slS, f_slR, f_lenS, f_lenL, f_lenT, f_intI, f_intB, f_abs, f_tupL, f_tupT, f_isi_s, atI0, atI1, atI2, atI3, List.length_cons, List.length_nil, List.cons_append, List.nil_append, Nat.reduceAdd, Nat.reduceSub, Nat.reduceLeDiff, Nat.reduceEqDiff, Int.reduceAdd, Int.reduceSub, Int.reduceMul, Int.reduceNeg, Int.reduceLT, Int.reduceLE, Int.reduceEq, Int.reduceBEq, Int.reducePow, Int.reduceToNat, Bool.not_true, Bool.not_false, decide_true, decide_false, true_and, and_true, cut_mid, hf, v_fgt, fg_s, fin, lcp, noEx, f_sortPaths few, f_nePaths, hi]
      | true =>
        generalize hw : spl [32] 0 [] z = ws
        have bad : (∀ k, ws = [wLock, k] → (decide (k = [45]) || shB k) = false) → readM a m z = .none := fun hn => by
          unfold readM goodM
          rw [hw]
          by_cases e : ws = [wLock, keyW z]
          · rw [hn _ e, Bool.and_false, Bool.and_false, Bool.and_false, Bool.and_false]
          · rw [decide_eq_false e, Bool.false_and, Bool.and_false, Bool.and_false, Bool.and_false]
        match ws, hw, bad with
        | [], hw, bad => exact absurd hw (spl_ne 32 z [])
        | [u], hw, bad =>
          rw [bad (by intro k e; cases e)]
          simp only [b_ok, b_no, oo_some, oo_none, g_fr, g_z, g_s, sl_s, sl_fr, sl_ow, sl_io, rv_fr, rv_ow, rv_sl, fz_fr, fz_ow, kCo_, fz_s, fz_zf, fz_zo, om_some, ob_some, om_none, ow_s, ow_ow, ow_io, mu_s, mu_ow, mu_io, st_s, st_so, st_zn, st_zf, st_zo, so_zn, so_zf, so_zo, v_nm, v_nmf, v_nmo, v_nmi, v_k, v_fz, k_fz, v_anil, v_acons, k_a1, k_a2, v_bnil, v_bcons, k_b1, k_b2, v_tup, v_lst, k_tup, k_lst, v_bin, k_o1, k_o2, v_b, v_r, v_un, k_un, v_u, rvs_nil, rvs_cons, v_cons, v_call, k_call, v_l, v_mt, k_mt, v_testOf, k_t, v_truth, k_tr, v_tr, v_kk, tru_b, v_notT, k_nt, v_andT, v_orT, k_at1, k_at0, k_ot1, k_ot0, v_if, k_if1, k_if0, v_and, v_or, v_not, k_and1, k_and0, k_or1, k_or0, k_not, v_chain, k_ch1, k_ch2, v_b', k_ch3t, k_ch3f, v_pn, v_ps, k_p, v_sl, k_s1, k_s2, k_s3, v_s, v_seq, k_snx, k_srt, k_sbk, k_sct, v_ifS, k_ifS1, k_ifS0, v_skip, v_brk, v_cnt, v_exp, v_ret, k_exp, k_ret, v_set, k_set, v_n, v_asg, k_asg, a_nm, a_nil, a_cons, k_as, a_tup, v_par, v_par3, k_par, k_par3, v_setIx, k_x1, v_x1, k_mu, k_x2, v_x2, v_augIx, v_g1, k_g1, v_b2, k_g2, k_g3, v_g3, v_g4, v_aug, v_au, k_au, v_au1, v_au2, v_mut, v_m0, v_m1, k_m, v_m2, v_m3, v_callF, k_cf, v_c2, v_callI, v_i1, k_ci, v_i2, v_i3, v_it, k_it, v_itS, it_l, it_t, it_s, v_R1, k_R1, v_for, k_for, v_lc, k_lc, v_lcT, cl_1s, cl_1z, v_yes, v_fgt, v_frt, v_fnx, f_ff, f_fo, f_tf, f_to, f_fs, f_ts, v_ef, v_eo, st_f, st_t, mf_nil, mf_cons, rep_s, rep_z, f_addI, f_addS, f_addL, f_addT, f_sub, f_mod, f_div, f_mulI, f_mulJ, f_mulM, f_mulS, f_pow, f_neg, f_eqI, f_eqS, f_neI, f_neS, f_ltI, f_leI, f_gtI, f_geI, f_ltS, f_is, f_isnt, f_ixL, f_ixT, a_d, se_0, se_1, se_2, i_add, f_slL, f_slT, f_slS, f_slR, f_lenS, f_lenL, f_lenT, f_intI, f_intB, f_abs, f_tupL, f_tupT, f_isi_s, atI0, atI1, atI2, atI3, List.length_cons, List.length_nil, List.cons_append, List.nil_append, Nat.reduceAdd, Nat.reduceSub, Nat.reduceLeDiff, Nat.reduceEqDiff, Int.reduceAdd, Int.reduceSub, Int.reduceMul, Int.reduceNeg, Int.reduceLT, Int.reduceLE, Int.reduceEq, Int.reduceBEq, Int.reducePow, Int.reduceToNat, Bool.not_true, Bool.not_false, decide_true, decide_false, true_and, and_true, cut_mid, hf, v_fgt, fg_s, fin, lcp, noEx, f_sortPaths few, f_nePaths, hi, at_last, hw, f_lenR, f_ixR, nc1]
        | u :: k :: c :: r, hw, bad =>
          rw [bad (by intro k e; cases e)]
          have g : (((r.length + 1 + 1 + 1 : Nat) : Int) == 2) = false := by rw [← Bool.not_eq_true, beq_iff_eq]; omega
          simp only [b_ok, b_no, oo_some, oo_none, g_fr, g_z, g_s, sl_s, sl_fr, sl_ow, sl_io, rv_fr, rv_ow, rv_sl, fz_fr, fz_ow, kCo_, fz_s, fz_zf, fz_zo, om_some, ob_some, om_none, ow_s, ow_ow, ow_io, mu_s, mu_ow, mu_io, st_s, st_so, st_zn, st_zf, st_zo, so_zn, so_zf, so_zo, v_nm, v_nmf, v_nmo, v_nmi, v_k, v_fz, k_fz, v_anil, v_acons, k_a1, k_a2, v_bnil, v_bcons, k_b1, k_b2, v_tup, v_lst, k_tup, k_lst, v_bin, k_o1, k_o2, v_b, v_r, v_un, k_un, v_u, rvs_nil, rvs_cons, v_cons, v_call, k_call, v_l, v_mt, k_mt, v_testOf, k_t, v_truth, k_tr, v_tr, v_kk, tru_b, v_notT, k_nt, v_andT, v_orT, k_at1, k_at0, k_ot1, k_ot0, v_if, k_if1, k_if0, v_and, v_or, v_not, k_and1, k_and0, k_or1, k_or0, k_not, v_chain, k_ch1, k_ch2, v_b', k_ch3t, k_ch3f, v_pn, v_ps, k_p, v_sl, k_s1, k_s2, k_s3, v_s, v_seq, k_snx, k_srt, k_sbk, k_sct, v_ifS, k_ifS1, k_ifS0, v_skip, v_brk, v_cnt, v_exp, v_ret, k_exp, k_ret, v_set, k_set, v_n, v_asg, k_asg, a_nm, a_nil, a_cons, k_as, a_tup, v_par, v_par3, k_par, k_par3, v_setIx, k_x1, v_x1, k_mu, k_x2, v_x2, v_augIx, v_g1, k_g1, v_b2, k_g2, k_g3, v_g3, v_g4, v_aug, v_au, k_au, v_au1, v_au2, v_mut, v_m0, v_m1, k_m, v_m2, v_m3, v_callF, k_cf, v_c2, v_callI, v_i1, k_ci, v_i2, v_i3, v_it, k_it, v_itS, it_l, it_t, it_s, v_R1, k_R1, v_for, k_for, v_lc, k_lc, v_lcT, cl_1s, cl_1z, v_yes, v_fgt, v_frt, v_fnx, f_ff, f_fo, f_tf, f_to, f_fs, f_ts, v_ef, v_eo, st_f, st_t, mf_nil, mf_cons, rep_s, rep_z, f_addI, f_addS, f_addL, f_addT, f_sub, f_mod, f_div, f_mulI, f_mulJ, f_mulM, f_mulS, f_pow, f_neg, f_eqI, f_eqS, f_neI, f_neS, f_ltI, f_leI, f_gtI, f_geI, f_ltS, f_is, f_isnt, f_ixL, f_ixT, a_d, se_0, se_1, se_2, i_add, f_slL, f_slT, f_slS, f_slR, f_lenS, f_lenL, f_lenT, f_intI, f_intB, f_abs, f_tupL, f_tupT, f_isi_s, atI0, atI1, atI2, atI3, List.length_cons, List.length_nil, List.cons_append, List.nil_append, Nat.reduceAdd, Nat.reduceSub, Nat.reduceLeDiff, Nat.reduceEqDiff, Int.reduceAdd, Int.reduceSub, Int.reduceMul, Int.reduceNeg, Int.reduceLT, Int.reduceLE, Int.reduceEq, Int.reduceBEq, Int.reducePow, Int.reduceToNat, Bool.not_true, Bool.not_false, decide_true, decide_false, true_and, and_true, cut_mid, hf, v_fgt, fg_s, fin, lcp, noEx, f_sortPaths few, f_nePaths, hi, at_last, hw, f_lenR, f_ixR, g]
        | [u, k], hw, bad =>
          have hq : (mkS u == Str.ofString "lock") = decide (u = wLock) := by rw [mk_lock, mkS_inj]
          have hd : (mkS k == Str.ofString "-") = decide (k = [45]) := by rw [mk_dash, mkS_inj]
          have hsh := sp_law_is_shelf k (hword z (by simp) k (by rw [hw]; simp))
          have hk : keyW z = k := by unfold keyW; rw [hw]; rfl
          have lct : lcD [2] (aNm 2) cYes (cFz (cCall fTuple (cBCons (cNm 2) (cBNil)))) (m.map fun w => rowD (spl [32] 0 [] w)) [.fr (.str (mkS l)), .ow (.list (List.map (fun w => rowD (spl [32] 0 [] w)) (a :: (m ++ [z])))), .no, .ow (.list (m.map fun w => .str (mkS (hdW w)))), .fr (.str (mkS k)), .no] = .ok (m.map fun w => stepD (spl [32] 0 [] w), [.fr (.str (mkS l)), .ow (.list (List.map (fun w => rowD (spl [32] 0 [] w)) (a :: (m ++ [z])))), .no, .ow (.list (m.map fun w => .str (mkS (hdW w)))), .fr (.str (mkS k)), .no]) := by
            rw [lc_fmap (fun w => rowD (spl [32] 0 [] w)) (fun w => stepD (spl [32] 0 [] w))]
            intro d _
            refine ⟨[.fr (.str (mkS l)), .ow (.list (List.map (fun w => rowD (spl [32] 0 [] w)) (a :: (m ++ [z])))), .fr (rowD (spl [32] 0 [] d)), .ow (.list (m.map fun w => .str (mkS (hdW w)))), .fr (.str (mkS k)), .no], rfl, ?_, rfl⟩
            simp only [b_ok, b_no, oo_some, oo_none, g_fr, g_z, g_s, sl_s, sl_fr, sl_ow, sl_io, rv_fr, rv_ow, rv_sl, fz_fr, fz_ow, kCo_, fz_s, fz_zf, fz_zo, om_some, ob_some, om_none, ow_s, ow_ow, ow_io, mu_s, mu_ow, mu_io, st_s, st_so, st_zn, st_zf, st_zo, so_zn, so_zf, so_zo, v_nm, v_nmf, v_nmo, v_nmi, v_k, v_fz, k_fz, v_anil, v_acons, k_a1, k_a2, v_bnil, v_bcons, k_b1, k_b2, v_tup, v_lst, k_tup, k_lst, v_bin, k_o1, k_o2, v_b, v_r, v_un, k_un, v_u, rvs_nil, rvs_cons, v_cons, v_call, k_call, v_l, v_mt, k_mt, v_testOf, k_t, v_truth, k_tr, v_tr, v_kk, tru_b, v_notT, k_nt, v_andT, v_orT, k_at1, k_at0, k_ot1, k_ot0, v_if, k_if1, k_if0, v_and, v_or, v_not, k_and1, k_and0, k_or1, k_or0, k_not, v_chain, k_ch1, k_ch2, v_b', k_ch3t, k_ch3f, v_pn, v_ps, k_p, v_sl, k_s1, k_s2, k_s3, v_s, v_seq, k_snx, k_srt, k_sbk, k_sct, v_ifS, k_ifS1, k_ifS0, v_skip, v_brk, v_cnt, v_exp, v_ret, k_exp, k_ret, v_set, k_set, v_n, v_asg, k_asg, a_nm, a_nil, a_cons, k_as, a_tup, v_par, v_par3, k_par, k_par3, v_setIx, k_x1, v_x1, k_mu, k_x2, v_x2, v_augIx, v_g1, k_g1, v_b2, k_g2, k_g3, v_g3, v_g4, v_aug, v_au, k_au, v_au1, v_au2, v_mut, v_m0, v_m1, k_m, v_m2, v_m3, v_callF, k_cf, v_c2, v_callI, v_i1, k_ci, v_i2, v_i3, v_it, k_it, v_itS, it_l, it_t, it_s, v_R1, k_R1, v_for, k_for, v_lc, k_lc, v_lcT, cl_1s, cl_1z, v_yes, v_fgt, v_frt, v_fnx, f_ff, f_fo, f_tf, f_to, f_fs, f_ts, v_ef, v_eo, st_f, st_t, mf_nil, mf_cons, rep_s, rep_z, f_addI, f_addS, f_addL, f_addT, f_sub, f_mod, f_div, f_mulI, f_mulJ, f_mulM, f_mulS, f_pow, f_neg, f_eqI, f_eqS, f_neI, f_neS, f_ltI, f_leI, f_gtI, f_geI, f_ltS, f_is, f_isnt, f_ixL, f_ixT, a_d, se_0, se_1, se_2, i_add, f_slL, f_slT, f_slS, f_slR, f_lenS, f_lenL, f_lenT, f_intI, f_intB, f_abs, f_tupL, f_tupT, f_isi_s, atI0, atI1, atI2, atI3, List.length_cons, List.length_nil, List.cons_append, List.nil_append, Nat.reduceAdd, Nat.reduceSub, Nat.reduceLeDiff, Nat.reduceEqDiff, Int.reduceAdd, Int.reduceSub, Int.reduceMul, Int.reduceNeg, Int.reduceLT, Int.reduceLE, Int.reduceEq, Int.reduceBEq, Int.reducePow, Int.reduceToNat, Bool.not_true, Bool.not_false, decide_true, decide_false, true_and, and_true, f_tupR]
          have hman : ∀ q, lockD (keyO k) = q → PyData.tuple [PyData.tuple (m.map fun w => stepD (spl [32] 0 [] w)), q] = manD (m.map (spl [32] 0 [])) (keyO k) := fun q e => by
            unfold manD
            rw [List.map_map, ← e]
            rfl
          cases hu : decide (u = wLock) with
          | false =>
            rw [hu] at hq
            rw [bad (by intro k e; injection e with e _; exact absurd e (of_decide_eq_false hu))]
            simp only [b_ok, b_no, oo_some, oo_none, g_fr, g_z, g_s, sl_s, sl_fr, sl_ow, sl_io, rv_fr, rv_ow, rv_sl, fz_fr, fz_ow, kCo_, fz_s, fz_zf, fz_zo, om_some, ob_some, om_none, ow_s, ow_ow, ow_io, mu_s, mu_ow, mu_io, st_s, st_so, st_zn, st_zf, st_zo, so_zn, so_zf, so_zo, v_nm, v_nmf, v_nmo, v_nmi, v_k, v_fz, k_fz, v_anil, v_acons, k_a1, k_a2, v_bnil, v_bcons, k_b1, k_b2, v_tup, v_lst, k_tup, k_lst, v_bin, k_o1, k_o2, v_b, v_r, v_un, k_un, v_u, rvs_nil, rvs_cons, v_cons, v_call, k_call, v_l, v_mt, k_mt, v_testOf, k_t, v_truth, k_tr, v_tr, v_kk, tru_b, v_notT, k_nt, v_andT, v_orT, k_at1, k_at0, k_ot1, k_ot0, v_if, k_if1, k_if0, v_and, v_or, v_not, k_and1, k_and0, k_or1, k_or0, k_not, v_chain, k_ch1, k_ch2, v_b', k_ch3t, k_ch3f, v_pn, v_ps, k_p, v_sl, k_s1, k_s2, k_s3, v_s, v_seq, k_snx, k_srt, k_sbk, k_sct, v_ifS, k_ifS1, k_ifS0, v_skip, v_brk, v_cnt, v_exp, v_ret, k_exp, k_ret, v_set, k_set, v_n, v_asg, k_asg, a_nm, a_nil, a_cons, k_as, a_tup, v_par, v_par3, k_par, k_par3, v_setIx, k_x1, v_x1, k_mu, k_x2, v_x2, v_augIx, v_g1, k_g1, v_b2, k_g2, k_g3, v_g3, v_g4, v_aug, v_au, k_au, v_au1, v_au2, v_mut, v_m0, v_m1, k_m, v_m2, v_m3, v_callF, k_cf, v_c2, v_callI, v_i1, k_ci, v_i2, v_i3, v_it, k_it, v_itS, it_l, it_t, it_s, v_R1, k_R1, v_for, k_for, v_lc, k_lc, v_lcT, cl_1s, cl_1z, v_yes, v_fgt, v_frt, v_fnx, f_ff, f_fo, f_tf, f_to, f_fs, f_ts, v_ef, v_eo, st_f, st_t, mf_nil, mf_cons, rep_s, rep_z, f_addI, f_addS, f_addL, f_addT, f_sub, f_mod, f_div, f_mulI, f_mulJ, f_mulM, f_mulS, f_pow, f_neg, f_eqI, f_eqS, f_neI, f_neS, f_ltI, f_leI, f_gtI, f_geI, f_ltS, f_is, f_isnt, f_ixL, f_ixT, a_d, se_0, se_1, se_2, i_add, f_slL, f_slT, f_slS, f_slR, f_lenS, f_lenL, f_lenT, f_intI, f_intB, f_abs, f_tupL, f_tupT, f_isi_s, atI0, atI1, atI2, atI3, List.length_cons, List.length_nil, List.cons_append, List.nil_append, Nat.reduceAdd, Nat.reduceSub, Nat.reduceLeDiff, Nat.reduceEqDiff, Int.reduceAdd, Int.reduceSub, Int.reduceMul, Int.reduceNeg, Int.reduceLT, Int.reduceLE, Int.reduceEq, Int.reduceBEq, Int.reducePow, Int.reduceToNat, Bool.not_true, Bool.not_false, decide_true, decide_false, true_and, and_true, cut_mid, hf, v_fgt, fg_s, fin, lcp, noEx, f_sortPaths few, f_nePaths, hi, at_last, hw, f_lenR, f_ixR, nc2, at_20, at_21, hq]
          | true =>
            rw [hu] at hq
            have hgood : readM a m z = match (decide (k = [45]) || shB k) with | true => manD (m.map (spl [32] 0 [])) (keyO k) | false => .none := by
              unfold readM goodM
              rw [hA, hm, hi, hk, hw, decide_eq_true (show [u, k] = [wLock, k] by rw [of_decide_eq_true hu])]
              rfl
            rw [hgood]
            cases hdk : decide (k = [45]) with
            | true =>
              have hman := hman .none (by unfold keyO; rw [hdk]; rfl)
              rw [hdk] at hd
              simp only [b_ok, b_no, oo_some, oo_none, g_fr, g_z, g_s, sl_s, sl_fr, sl_ow, sl_io, rv_fr, rv_ow, rv_sl, fz_fr, fz_ow, kCo_, fz_s, fz_zf, fz_zo, om_some, ob_some, om_none, ow_s, ow_ow, ow_io, mu_s, mu_ow, mu_io, st_s, st_so, st_zn, st_zf, st_zo, so_zn, so_zf, so_zo, v_nm, v_nmf, v_nmo, v_nmi, v_k, v_fz, k_fz, v_anil, v_acons, k_a1, k_a2, v_bnil, v_bcons, k_b1, k_b2, v_tup, v_lst, k_tup, k_lst, v_bin, k_o1, k_o2, v_b, v_r, v_un, k_un, v_u, rvs_nil, rvs_cons, v_cons, v_call, k_call, v_l, v_mt, k_mt, v_testOf, k_t, v_truth, k_tr, v_tr, v_kk, tru_b, v_notT, k_nt, v_andT, v_orT, k_at1, k_at0, k_ot1, k_ot0, v_if, k_if1, k_if0, v_and, v_or, v_not, k_and1, k_and0, k_or1, k_or0, k_not, v_chain, k_ch1, k_ch2, v_b', k_ch3t, k_ch3f, v_pn, v_ps, k_p, v_sl, k_s1, k_s2, k_s3, v_s, v_seq, k_snx, k_srt, k_sbk, k_sct, v_ifS, k_ifS1, k_ifS0, v_skip, v_brk, v_cnt, v_exp, v_ret, k_exp, k_ret, v_set, k_set, v_n, v_asg, k_asg, a_nm, a_nil, a_cons, k_as, a_tup, v_par, v_par3, k_par, k_par3, v_setIx, k_x1, v_x1, k_mu, k_x2, v_x2, v_augIx, v_g1, k_g1, v_b2, k_g2, k_g3, v_g3, v_g4, v_aug, v_au, k_au, v_au1, v_au2, v_mut, v_m0, v_m1, k_m, v_m2, v_m3, v_callF, k_cf, v_c2, v_callI, v_i1, k_ci, v_i2, v_i3, v_it, k_it, v_itS, it_l, it_t, it_s, v_R1, k_R1, v_for, k_for, v_lc, k_lc, v_lcT, cl_1s, cl_1z, v_yes, v_fgt, v_frt, v_fnx, f_ff, f_fo, f_tf, f_to, f_fs, f_ts, v_ef, v_eo, st_f, st_t, mf_nil, mf_cons, rep_s, rep_z, f_addI, f_addS, f_addL, f_addT, f_sub, f_mod, f_div, f_mulI, f_mulJ, f_mulM, f_mulS, f_pow, f_neg, f_eqI, f_eqS, f_neI, f_neS, f_ltI, f_leI, f_gtI, f_geI, f_ltS, f_is, f_isnt, f_ixL, f_ixT, a_d, se_0, se_1, se_2, i_add, f_slL, f_slT, f_slS, f_slR, f_lenS, f_lenL, f_lenT, f_intI, f_intB, f_abs, f_tupL, f_tupT, f_isi_s, atI0, atI1, atI2, atI3, List.length_cons, List.length_nil, List.cons_append, List.nil_append, Nat.reduceAdd, Nat.reduceSub, Nat.reduceLeDiff, Nat.reduceEqDiff, Int.reduceAdd, Int.reduceSub, Int.reduceMul, Int.reduceNeg, Int.reduceLT, Int.reduceLE, Int.reduceEq, Int.reduceBEq, Int.reducePow, Int.reduceToNat, Bool.not_true, Bool.not_false, decide_true, decide_false, true_and, and_true, cut_mid, hf, v_fgt, fg_s, fin, fg_n, lcp, noEx, f_sortPaths few, f_nePaths, hi, at_last, hw, f_lenR, f_ixR, nc2, at_20, at_21, hq, hd, lct, hman, Bool.true_or]
            | false =>
              have hman := hman (.str (mkS k)) (by unfold keyO; rw [hdk]; rfl)
              rw [hdk] at hd
              rw [q_lip, q_lis] at hf
              cases hs : shB k <;> rw [hs] at hsh <;> simp only [b_ok, b_no, oo_some, oo_none, g_fr, g_z, g_s, sl_s, sl_fr, sl_ow, sl_io, rv_fr, rv_ow, rv_sl, fz_fr, fz_ow, kCo_, fz_s, fz_zf, fz_zo, om_some, ob_some, om_none, ow_s, ow_ow, ow_io, mu_s, mu_ow, mu_io, st_s, st_so, st_zn, st_zf, st_zo, so_zn, so_zf, so_zo, v_nm, v_nmf, v_nmo, v_nmi, v_k, v_fz, k_fz, v_anil, v_acons, k_a1, k_a2, v_bnil, v_bcons, k_b1, k_b2, v_tup, v_lst, k_tup, k_lst, v_bin, k_o1, k_o2, v_b, v_r, v_un, k_un, v_u, rvs_nil, rvs_cons, v_cons, v_call, k_call, v_l, v_mt, k_mt, v_testOf, k_t, v_truth, k_tr, v_tr, v_kk, tru_b, v_notT, k_nt, v_andT, v_orT, k_at1, k_at0, k_ot1, k_ot0, v_if, k_if1, k_if0, v_and, v_or, v_not, k_and1, k_and0, k_or1, k_or0, k_not, v_chain, k_ch1, k_ch2, v_b', k_ch3t, k_ch3f, v_pn, v_ps, k_p, v_sl, k_s1, k_s2, k_s3, v_s, v_seq, k_snx, k_srt, k_sbk, k_sct, v_ifS, k_ifS1, k_ifS0, v_skip, v_brk, v_cnt, v_exp, v_ret, k_exp, k_ret, v_set, k_set, v_n, v_asg, k_asg, a_nm, a_nil, a_cons, k_as, a_tup, v_par, v_par3, k_par, k_par3, v_setIx, k_x1, v_x1, k_mu, k_x2, v_x2, v_augIx, v_g1, k_g1, v_b2, k_g2, k_g3, v_g3, v_g4, v_aug, v_au, k_au, v_au1, v_au2, v_mut, v_m0, v_m1, k_m, v_m2, v_m3, v_callF, k_cf, v_c2, v_callI, v_i1, k_ci, v_i2, v_i3, v_it, k_it, v_itS, it_l, it_t, it_s, v_R1, k_R1, v_for, k_for, v_lc, k_lc, v_lcT, cl_1s, cl_1z, v_yes, v_fgt, v_frt, v_fnx, f_ff, f_fo, f_tf, f_to, f_fs, f_ts, v_ef, v_eo, st_f, st_t, mf_nil, mf_cons, rep_s, rep_z, f_addI, f_addS, f_addL, f_addT, f_sub, f_mod, f_div, f_mulI, f_mulJ, f_mulM, f_mulS, f_pow, f_neg, f_eqI, f_eqS, f_neI, f_neS, f_ltI, f_leI, f_gtI, f_geI, f_ltS, f_is, f_isnt, f_ixL, f_ixT, a_d, se_0, se_1, se_2, i_add, f_slL, f_slT, f_slS, f_slR, f_lenS, f_lenL, f_lenT, f_intI, f_intB, f_abs, f_tupL, f_tupT, f_isi_s, atI0, atI1, atI2, atI3, List.length_cons, List.length_nil, List.cons_append, List.nil_append, Nat.reduceAdd, Nat.reduceSub, Nat.reduceLeDiff, Nat.reduceEqDiff, Int.reduceAdd, Int.reduceSub, Int.reduceMul, Int.reduceNeg, Int.reduceLT, Int.reduceLE, Int.reduceEq, Int.reduceBEq, Int.reducePow, Int.reduceToNat, Bool.not_true, Bool.not_false, decide_true, decide_false, true_and, and_true, q_lip, cut_mid, hf, v_fgt, fg_s, fin, fg_n, lcp, noEx, f_sortPaths few, f_nePaths, hi, at_last, hw, f_lenR, f_ixR, nc2, at_20, at_21, hq, hd, q_lis, hsh, lct, hman, Bool.false_or]
    · have hg : readM a m z = .none := by
        unfold readM goodM
        rw [hm, Bool.false_and, Bool.and_false]
      rw [hg]
      simp only [b_ok, b_no, oo_some, oo_none, g_fr, g_z, g_s, sl_s, sl_fr, sl_ow, sl_io, rv_fr, rv_ow, rv_sl, fz_fr, fz_ow, kCo_, fz_s, fz_zf, fz_zo, om_some, ob_some, om_none, ow_s, ow_ow, ow_io, mu_s, mu_ow, mu_io, st_s, st_so, st_zn, st_zf, st_zo, so_zn, so_zf, so_zo, v_nm, v_nmf, v_nmo, v_nmi, v_k, v_fz, k_fz, v_anil, v_acons, k_a1, k_a2, v_bnil, v_bcons, k_b1, k_b2, v_tup, v_lst, k_tup, k_lst, v_bin, k_o1, k_o2, v_b, v_r, v_un, k_un, v_u, rvs_nil, rvs_cons, v_cons, v_call, k_call, v_l, v_mt, k_mt, v_testOf, k_t, v_truth, k_tr, v_tr, v_kk, tru_b, v_notT, k_nt, v_andT, v_orT, k_at1, k_at0, k_ot1, k_ot0, v_if, k_if1, k_if0, v_and, v_or, v_not, k_and1, k_and0, k_or1, k_or0, k_not, v_chain, k_ch1, k_ch2, v_b', k_ch3t, k_ch3f, v_pn, v_ps, k_p, v_sl, k_s1, k_s2, k_s3, v_s, v_seq, k_snx, k_srt, k_sbk, k_sct, v_ifS, k_ifS1, k_ifS0, v_skip, v_brk, v_cnt, v_exp, v_ret, k_exp, k_ret, v_set, k_set, v_n, v_asg, k_asg, a_nm, a_nil, a_cons, k_as, a_tup, v_par, v_par3, k_par, k_par3, v_setIx, k_x1, v_x1, k_mu, k_x2, v_x2, v_augIx, v_g1, k_g1, v_b2, k_g2, k_g3, v_g3, v_g4, v_aug, v_au, k_au, v_au1, v_au2, v_mut, v_m0, v_m1, k_m, v_m2, v_m3, v_callF, k_cf, v_c2, v_callI, v_i1, k_ci, v_i2, v_i3, v_it, k_it, v_itS, it_l, it_t, it_s, v_R1, k_R1, v_for, k_for, v_lc, k_lc, v_lcT, cl_1s, cl_1z, v_yes, v_fgt, v_frt, v_fnx, f_ff, f_fo, f_tf, f_to, f_fs, f_ts, v_ef, v_eo, st_f, st_t, mf_nil, mf_cons, rep_s, rep_z, f_addI, f_addS, f_addL, f_addT, f_sub, f_mod, f_div, f_mulI, f_mulJ, f_mulM, f_mulS, f_pow, f_neg, f_eqI, f_eqS, f_neI, f_neS, f_ltI, f_leI, f_gtI, f_geI, f_ltS, f_is, f_isnt, f_ixL, f_ixT, a_d, se_0, se_1, se_2, i_add, f_slL, f_slT, f_slS, f_slR, f_lenS, f_lenL, f_lenT, f_intI, f_intB, f_abs, f_tupL, f_tupT, f_isi_s, atI0, atI1, atI2, atI3, List.length_cons, List.length_nil, List.cons_append, List.nil_append, Nat.reduceAdd, Nat.reduceSub, Nat.reduceLeDiff, Nat.reduceEqDiff, Int.reduceAdd, Int.reduceSub, Int.reduceMul, Int.reduceNeg, Int.reduceLT, Int.reduceLE, Int.reduceEq, Int.reduceBEq, Int.reducePow, Int.reduceToNat, Bool.not_true, Bool.not_false, decide_true, decide_false, true_and, and_true, cut_mid, hf]
end Wk73
end
section
namespace Wk73
open PySem PySem.Spec L2 TL Ed
theorem icast (i : Nat) : ((i : Nat) : Int) + 1 = ((i + 1 : Nat) : Int) := rfl
theorem cutD_to {α : Type} (f : α → D) (l : List α) (i : Nat) : cutD (l.map f) none (some ((i : Nat) : Int)) = (l.take i).map f := by
  unfold cutD
  rw [show HT.sIx (l.map f).length 0 none = 0 from rfl, List.drop_zero, Nat.sub_zero, HT.sIx_nat, List.map_take]
  rcases Nat.le_total i (l.map f).length with h | h
  · rw [Nat.min_eq_left h]
  · rw [Nat.min_eq_right h, List.take_length, List.take_of_length_le h]
theorem cutD_from {α : Type} (f : α → D) (l : List α) (i : Nat) : cutD (l.map f) (some ((i : Nat) : Int)) none = (l.drop i).map f := by
  unfold cutD
  rw [HT.sIx_nat, HT.sIx_none, List.map_drop]
  rcases Nat.le_total i (l.map f).length with h | h
  · rw [Nat.min_eq_left h]
    exact List.take_of_length_le (by rw [List.length_drop]; omega)
  · rw [Nat.min_eq_right h, List.drop_length, List.drop_eq_nil_of_le h, List.take_nil]
def oddOk : D → Bool
  | .str x => decide (x.length ≤ 15) && (tl x).all fun c => decide (c ≠ 10) && decide (c < 0x110000)
  | _ => false
theorem oddOk_ex {d : D} (h : oddOk d = true) : ∃ o, d = .str (mkS o) ∧ o.length ≤ 15 ∧ 10 ∉ o ∧ ∀ c ∈ o, c < 0x110000 := by
  cases d with
  | str x =>
    have h : (decide (x.length ≤ 15) && (tl x).all fun c => decide (c ≠ 10) && decide (c < 0x110000)) = true := h
    rw [Bool.and_eq_true, decide_eq_true_iff, List.all_eq_true] at h
    have k : ∀ c ∈ tl x, c ≠ 10 ∧ c < 0x110000 := fun c hc => by
      have := h.2 c hc
      rw [Bool.and_eq_true, decide_eq_true_iff, decide_eq_true_iff] at this
      exact this
    exact ⟨tl x, rfl, by rw [← len_tl]; exact h.1, fun z => (k 10 z).1 rfl, fun c hc => (k c hc).2⟩
  | _ => cases h
def signOk : D → Bool
  | .str x => match tl x with
    | [c] => decide (c < 0x110000)
    | _ => false
  | _ => false
theorem signOk_ex {d : D} (h : signOk d = true) : ∃ c, d = .str (mkS [c]) ∧ c < 0x110000 := by
  cases d with
  | str x =>
    have h : (match tl x with | [c] => decide (c < 0x110000) | _ => false) = true := h
    split at h
    · rename_i c e
      exact ⟨c, by rw [← e]; rfl, of_decide_eq_true h⟩
    · cases h
  | _ => cases h
theorem joinA {A B : List (List Nat)} (h : szW (A ++ B) ≤ big) : fJoin "\n" [.list (A.map (fun w => PyData.str (mkS w)) ++ B.map fun w => PyData.str (mkS w))] = some (.fr (.str (mkS (joinL [10] (A ++ B))))) := by
  rw [← List.map_append]
  exact f_joinW _ 10 tl_lf h
theorem joinB {A B : List (List Nat)} {o : List Nat} (h : szW (A ++ [o] ++ B) ≤ big) : fJoin "\n" [.list ((A.map (fun w => PyData.str (mkS w)) ++ [.str (mkS o)]) ++ B.map fun w => PyData.str (mkS w))] = some (.fr (.str (mkS (joinL [10] (A ++ [o] ++ B))))) := by
  have e : (A.map (fun w => PyData.str (mkS w)) ++ [.str (mkS o)]) ++ (B.map fun w => PyData.str (mkS w)) = (A ++ [o] ++ B).map fun w => PyData.str (mkS w) := by
    rw [List.map_append, List.map_append]
    rfl
  rw [e]
  exact f_joinW _ 10 tl_lf h
def goodW (n : Nat) (p : List Nat) : Prop := p.length ≤ n ∧ 10 ∉ p ∧ 32 ∉ p ∧ ∀ c ∈ p, c < 0x110000
def wordB (n : Nat) (x : Str) : Bool := decide (x.length ≤ n) && (tl x).all fun c => decide (c ≠ 10) && (decide (c ≠ 32) && decide (c < 0x110000))
theorem wordB_ok {n : Nat} {x : Str} (h : wordB n x = true) : goodW n (tl x) := by
  unfold wordB at h
  rw [Bool.and_eq_true, decide_eq_true_iff, List.all_eq_true] at h
  have k : ∀ c ∈ tl x, c ≠ 10 ∧ c ≠ 32 ∧ c < 0x110000 := fun c hc => by
    have := h.2 c hc
    rw [Bool.and_eq_true, Bool.and_eq_true, decide_eq_true_iff, decide_eq_true_iff, decide_eq_true_iff] at this
    exact this
  exact ⟨by rw [← len_tl]; exact h.1, fun z => (k 10 z).1 rfl, fun z => (k 32 z).2.1 rfl, fun c hc => (k c hc).2.2⟩
def goodP (p : List Nat) : Prop := pathB p = true ∧ goodW 22 p
def goodS (p : List Nat) : Prop := shB p = true ∧ goodW 26 p
def pathOk : D → Bool
  | .str x => pathB (tl x) && wordB 22 x
  | _ => false
def shelfOk : D → Bool
  | .str x => shB (tl x) && wordB 26 x
  | _ => false
theorem pathOk_ex {d : D} (h : pathOk d = true) : ∃ p, d = .str (mkS p) ∧ goodP p := by
  cases d with
  | str x =>
    have h : (pathB (tl x) && wordB 22 x) = true := h
    rw [Bool.and_eq_true] at h
    exact ⟨tl x, rfl, h.1, wordB_ok h.2⟩
  | _ => cases h
theorem shelfOk_ex {d : D} (h : shelfOk d = true) : ∃ p, d = .str (mkS p) ∧ goodS p := by
  cases d with
  | str x =>
    have h : (shB (tl x) && wordB 26 x) = true := h
    rw [Bool.and_eq_true] at h
    exact ⟨tl x, rfl, h.1, wordB_ok h.2⟩
  | _ => cases h
def gSh : D → D
  | .int n => .str ("store/c" ++ (toString n : String))
  | d => d
def Ql : List D := List.map gSh [.int 0, .int 1, .int 7, .int 10, .int 123456789, .int 1000000000000000000]
theorem Ql_ok : Ql.all shelfOk = true := by decide +kernel
theorem f_strI (n : Int) (h : n.natAbs.log2 < 1920) : fStr [.int n] = some (.fr (.str (toString n : String))) := if_pos h
theorem mem_sum_le {n : Nat} : ∀ {l : List Nat}, n ∈ l → n ≤ l.sum
  | [], h => by cases h
  | a :: l, h => by
    rw [List.sum_cons]
    rcases List.mem_cons.mp h with rfl | h
    · omega
    · have := mem_sum_le h
      omega
theorem ok_tupB {n : Nat} {xs : List D} (h : ∀ x ∈ xs, okD n x.bulk x) : okD (n + 1) (PyData.bulkAll xs) (.tuple xs) := by
  have h2 := ok_all (n := n) (w := (xs.map PyData.bulk).sum) (xs := xs) fun x hx => (h x hx).up (Nat.le_refl _) (mem_sum_le (List.mem_map_of_mem hx))
  obtain ⟨b1, b2, b3, b4, _, b6⟩ := h2
  exact ⟨b1, by simp only [PyData.depth]; omega, b3, b4, Nat.le_refl _, b6⟩
theorem bulk_words : ∀ ws : List (List Nat), PyData.bulkAll (ws.map fun w => PyData.str (mkS w)) = szW ws
  | [] => rfl
  | w :: ws => by
    show (mkS w).cps.size + 1 + PyData.bulkAll (ws.map fun w => PyData.str (mkS w)) = _
    rw [bulk_words ws, szW_cons, show (mkS w).cps.size = w.length from len_mkS w]
theorem bulk_steps : ∀ S : List (List (List Nat)), PyData.bulkAll (S.map stepD) = (S.map szW).sum + S.length
  | [] => rfl
  | ws :: S => by
    show PyData.bulkAll (ws.map fun w => PyData.str (mkS w)) + 1 + PyData.bulkAll (S.map stepD) = _
    rw [bulk_words, bulk_steps S, List.map_cons, List.sum_cons, List.length_cons]
    omega
theorem st_any (X : Sl) (d : D) (r : DE) (h : isIo X = false) : sto 0 (.fr d) (X :: r) = some (.fr d :: r) := by cases X <;> first | rfl | cases h
theorem so_any (X : Sl) (d : D) (r : DE) (h : isIo X = false) : sto 0 (.ow d) (X :: r) = some (.ow d :: r) := by cases X <;> first | rfl | cases h
def El (d : D) : Prop := ∃ l, d = .str (mkS l) ∧ TX 570 570 l
theorem lb_len {l : List Nat} {n : Nat} (h : l.length ≤ n) : LB n l := fun p hp => by
  have := spl_len _ _ _ p hp
  rw [List.length_nil] at this
  omega
def strOk : D → Bool
  | .str x => decide (x.length ≤ 570) && (tl x).all fun c => decide (c < 0x110000)
  | _ => false
theorem strOk_ex {d : D} (h : strOk d = true) : El d := by
  cases d with
  | str x =>
    have h : (decide (x.length ≤ 570) && (tl x).all fun c => decide (c < 0x110000)) = true := h
    rw [Bool.and_eq_true, decide_eq_true_iff, List.all_eq_true, len_tl] at h
    exact ⟨tl x, rfl, h.1, lb_len h.1, fun c hc => of_decide_eq_true (h.2 c hc)⟩
  | _ => cases h
/- range with a step -/
def kR3c (x y : Rv) (u : Rv × DE) : Out (List D × DE) := match x, y, u.1 with
  | .fr (.int 0), .fr (.int j), .fr (.int k) => if 1 ≤ k ∧ k < 1000000 ∧ 0 ≤ j ∧ j ≤ 1000000 then .ok (rng3 0 k ((j + k - 1) / k).toNat, u.2) else .no
  | _, _, _ => .no
def kR3b (c : C) (x : Rv) (q : Rv × DE) : Out (List D × DE) := (c q.2).bind (kR3c x q.1)
def kR3a (b c : C) (p : Rv × DE) : Out (List D × DE) := (b p.2).bind (kR3b c p.1)
theorem v_R3 (a b c : C) (r : DE) : cR3 a b c r = (a r).bind (kR3a b c) := rfl
theorem k_R3a (b c : C) (x : Rv) (r : DE) : kR3a b c (x, r) = (b r).bind (kR3b c x) := rfl
theorem k_R3b (c : C) (x y : Rv) (r : DE) : kR3b c x (y, r) = (c r).bind (kR3c x y) := rfl
theorem k_R3c (j k : Int) (r : DE) (h1 : 1 ≤ k) (h2 : k < 1000000) (h3 : 0 ≤ j) (h4 : j ≤ 1000000) : kR3c (.fr (.int 0)) (.fr (.int j)) (.fr (.int k), r) = .ok (rng3 0 k ((j + k - 1) / k).toNat, r) := if_pos ⟨h1, h2, h3, h4⟩
def bodyMx : SC := (cExp (cMut isL fInsert 2 (cACons (cFz (cCallI 2 r_law_take 0 (cACons (cFz (cBin fAdd (cCall fLen (cBCons (cNm 2) (cBNil))) (cK (.int 1)))) (cANil)))) (cACons (cFz (cNm 3)) (cANil)))))
theorem ins_perm {α : Type} (us : List α) (i : Nat) (x : α) : (us.take i ++ [x] ++ us.drop i).Perm (x :: us) := by
  have h : (us.take i ++ [x] ++ us.drop i).Perm ([x] ++ (us.take i ++ us.drop i)) := by
    rw [← List.append_assoc]
    exact List.Perm.append_right _ List.perm_append_comm
  rw [List.take_append_drop] at h
  exact h
theorem loopMx (T : Sl) : ∀ (ds us : List D) (b : D) (X : Sl), isBag b → isIo X = false → us.length + ds.length ≤ 1000 →
    ∃ us' b' X', forD (aNm 3) bodyMx ds [.io b, T, .ow (.list us), X] = .ok (.nx [.io b', T, .ow (.list us'), X']) ∧ isBag b' ∧ isIo X' = false ∧ us'.Perm (ds ++ us)
  | [], us, b, X, hb, hX, _ => ⟨us, b, X, rfl, hb, hX, .refl _⟩
  | d :: ds, us, b, X, hb, hX, hl => by
    rw [List.length_cons] at hl
    obtain ⟨v, b1, t1, hb1, v0, v1⟩ := take_ok (m := ((us.length + 1 : Nat) : Int)) hb (by omega) (by omega)
    have c1 : us.length < 16777216 := by omega
    have c2 : v < 2 ^ 63 := by omega
    have hi : fInsert (.list us) [.int v, d] = some (.list (us.take v.toNat ++ [d] ++ us.drop v.toNat), .none) := if_pos ⟨c1, v0, c2⟩
    have hb' : bodyMx [.io b, T, .ow (.list us), .fr d] = .ok (.nx [.io b1, T, .ow (.list (us.take v.toNat ++ [d] ++ us.drop v.toNat)), .fr d]) := by
      unfold bodyMx
      simp only [b_ok, b_no, oo_some, oo_none, g_fr, g_z, g_s, sl_s, sl_fr, sl_ow, sl_io, rv_fr, rv_ow, rv_sl, fz_fr, fz_ow, kCo_, fz_s, fz_zf, fz_zo, om_some, ob_some, om_none, ow_s, ow_ow, ow_io, mu_s, mu_ow, mu_io, st_s, st_so, st_zn, st_zf, st_zo, so_zn, so_zf, so_zo, v_nm, v_nmf, v_nmo, v_nmi, v_k, v_fz, k_fz, v_anil, v_acons, k_a1, k_a2, v_bnil, v_bcons, k_b1, k_b2, v_tup, v_lst, k_tup, k_lst, v_bin, k_o1, k_o2, v_b, v_r, v_un, k_un, v_u, rvs_nil, rvs_cons, v_cons, v_call, k_call, v_l, v_mt, k_mt, v_testOf, k_t, v_truth, k_tr, v_tr, v_kk, tru_b, v_notT, k_nt, v_andT, v_orT, k_at1, k_at0, k_ot1, k_ot0, v_if, k_if1, k_if0, v_and, v_or, v_not, k_and1, k_and0, k_or1, k_or0, k_not, v_chain, k_ch1, k_ch2, v_b', k_ch3t, k_ch3f, v_pn, v_ps, k_p, v_sl, k_s1, k_s2, k_s3, v_s, v_seq, k_snx, k_srt, k_sbk, k_sct, v_ifS, k_ifS1, k_ifS0, v_skip, v_brk, v_cnt, v_exp, v_ret, k_exp, k_ret, v_set, k_set, v_n, v_asg, k_asg, a_nm, a_nil, a_cons, k_as, a_tup, v_par, v_par3, k_par, k_par3, v_setIx, k_x1, v_x1, k_mu, k_x2, v_x2, v_augIx, v_g1, k_g1, v_b2, k_g2, k_g3, v_g3, v_g4, v_aug, v_au, k_au, v_au1, v_au2, v_mut, v_m0, v_m1, k_m, v_m2, v_m3, v_callF, k_cf, v_c2, v_callI, v_i1, k_ci, v_i2, v_i3, v_it, k_it, v_itS, it_l, it_t, it_s, v_R1, k_R1, v_for, k_for, v_lc, k_lc, v_lcT, cl_1s, cl_1z, v_yes, v_fgt, v_frt, v_fnx, f_ff, f_fo, f_tf, f_to, f_fs, f_ts, v_ef, v_eo, st_f, st_t, mf_nil, mf_cons, rep_s, rep_z, f_addI, f_addS, f_addL, f_addT, f_sub, f_mod, f_div, f_mulI, f_mulJ, f_mulM, f_mulS, f_pow, f_neg, f_eqI, f_eqS, f_neI, f_neS, f_ltI, f_leI, f_gtI, f_geI, f_ltS, f_is, f_isnt, f_ixL, f_ixT, a_d, se_0, se_1, se_2, i_add, f_slL, f_slT, f_slS, f_slR, f_lenS, f_lenL, f_lenT, f_intI, f_intB, f_abs, f_tupL, f_tupT, f_isi_s, atI0, atI1, atI2, atI3, List.length_cons, List.length_nil, List.cons_append, List.nil_append, Nat.reduceAdd, Nat.reduceSub, Nat.reduceLeDiff, Nat.reduceEqDiff, Int.reduceAdd, Int.reduceSub, Int.reduceMul, Int.reduceNeg, Int.reduceLT, Int.reduceLE, Int.reduceEq, Int.reduceBEq, Int.reducePow, Int.reduceToNat, Bool.not_true, Bool.not_false, decide_true, decide_false, true_and, and_true, q_take, icast, t1, isL, hi]
    have ip := ins_perm us v.toNat d
    obtain ⟨us', b', X', h1, h2, h3, h4⟩ := loopMx T ds (us.take v.toNat ++ [d] ++ us.drop v.toNat) b1 (.fr d) hb1 rfl (by rw [ip.length_eq, List.length_cons]; omega)
    refine ⟨us', b', X', ?_, h2, h3, h4.trans (((List.perm_append_left_iff ds).mpr ip).trans List.perm_middle)⟩
    have ha : aNm 3 d [.io b, T, .ow (.list us), X] = some [.io b, T, .ow (.list us), .fr d] := by
      simp only [a_nm, st_s, st_any _ _ _ hX, om_some]
    show (ofO (aNm 3 d [.io b, T, .ow (.list us), X])).bind _ = _
    rw [ha]
    show (bodyMx [.io b, T, .ow (.list us), .fr d]).bind _ = _
    rw [hb']
    exact h1
theorem mixed_ok {b : D} {ts : List D} (hb : isBag b) (hl : ts.length ≤ 1000) : ∃ us b', r_law_mixed [b, .list ts] = .ok (.ow (.list us)) (some b') ∧ isBag b' ∧ us.Perm ts := by
  obtain ⟨us, b', X', h1, h2, _, h4⟩ := loopMx (.fr (.list ts)) ts [] b .no hb rfl (by rw [List.length_nil]; omega)
  rw [List.append_nil] at h4
  refine ⟨us, b', ?_, h2, h4⟩
  unfold bodyMx at h1
  unfold r_law_mixed c_law_mixed
  rw [v_run]
  simp only [b_ok, b_no, oo_some, oo_none, g_fr, g_z, g_s, sl_s, sl_fr, sl_ow, sl_io, rv_fr, rv_ow, rv_sl, fz_fr, fz_ow, kCo_, fz_s, fz_zf, fz_zo, om_some, ob_some, om_none, ow_s, ow_ow, ow_io, mu_s, mu_ow, mu_io, st_s, st_so, st_zn, st_zf, st_zo, so_zn, so_zf, so_zo, v_nm, v_nmf, v_nmo, v_nmi, v_k, v_fz, k_fz, v_anil, v_acons, k_a1, k_a2, v_bnil, v_bcons, k_b1, k_b2, v_tup, v_lst, k_tup, k_lst, v_bin, k_o1, k_o2, v_b, v_r, v_un, k_un, v_u, rvs_nil, rvs_cons, v_cons, v_call, k_call, v_l, v_mt, k_mt, v_testOf, k_t, v_truth, k_tr, v_tr, v_kk, tru_b, v_notT, k_nt, v_andT, v_orT, k_at1, k_at0, k_ot1, k_ot0, v_if, k_if1, k_if0, v_and, v_or, v_not, k_and1, k_and0, k_or1, k_or0, k_not, v_chain, k_ch1, k_ch2, v_b', k_ch3t, k_ch3f, v_pn, v_ps, k_p, v_sl, k_s1, k_s2, k_s3, v_s, v_seq, k_snx, k_srt, k_sbk, k_sct, v_ifS, k_ifS1, k_ifS0, v_skip, v_brk, v_cnt, v_exp, v_ret, k_exp, k_ret, v_set, k_set, v_n, v_asg, k_asg, a_nm, a_nil, a_cons, k_as, a_tup, v_par, v_par3, k_par, k_par3, v_setIx, k_x1, v_x1, k_mu, k_x2, v_x2, v_augIx, v_g1, k_g1, v_b2, k_g2, k_g3, v_g3, v_g4, v_aug, v_au, k_au, v_au1, v_au2, v_mut, v_m0, v_m1, k_m, v_m2, v_m3, v_callF, k_cf, v_c2, v_callI, v_i1, k_ci, v_i2, v_i3, v_it, k_it, v_itS, it_l, it_t, it_s, v_R1, k_R1, v_for, k_for, v_lc, k_lc, v_lcT, cl_1s, cl_1z, v_yes, v_fgt, v_frt, v_fnx, f_ff, f_fo, f_tf, f_to, f_fs, f_ts, v_ef, v_eo, st_f, st_t, mf_nil, mf_cons, rep_s, rep_z, f_addI, f_addS, f_addL, f_addT, f_sub, f_mod, f_div, f_mulI, f_mulJ, f_mulM, f_mulS, f_pow, f_neg, f_eqI, f_eqS, f_neI, f_neS, f_ltI, f_leI, f_gtI, f_geI, f_ltS, f_is, f_isnt, f_ixL, f_ixT, a_d, se_0, se_1, se_2, i_add, f_slL, f_slT, f_slS, f_slR, f_lenS, f_lenL, f_lenT, f_intI, f_intB, f_abs, f_tupL, f_tupT, f_isi_s, atI0, atI1, atI2, atI3, List.length_cons, List.length_nil, List.cons_append, List.nil_append, Nat.reduceAdd, Nat.reduceSub, Nat.reduceLeDiff, Nat.reduceEqDiff, Int.reduceAdd, Int.reduceSub, Int.reduceMul, Int.reduceNeg, Int.reduceLT, Int.reduceLE, Int.reduceEq, Int.reduceBEq, Int.reducePow, Int.reduceToNat, Bool.not_true, Bool.not_false, decide_true, decide_false, true_and, and_true, h1]
end Wk73
end
section
namespace Wk73
open PySem PySem.Spec L2 TL Ed
theorem lc_sub {vs : List Nat} {as : As} {t : CT} {c : CF} (Inv : DE → Prop) : ∀ (ds : List D) (r : DE), (∀ d ∈ ds, ∀ r, Inv r → ∃ r1 k r2, as d r = some r1 ∧ t r1 = .ok (k, r2) ∧ c r2 = .ok (d, r2) ∧ Inv (clr vs r2)) → Inv r →
    ∃ ys r', lcD vs as t c ds r = .ok (ys, r') ∧ Inv r' ∧ ys.Sublist ds
  | [], r, _, hr => ⟨[], r, rfl, hr, .slnil⟩
  | d :: ds, r, h, hr => by
    obtain ⟨r1, k, r2, h1, h2, h3, h4⟩ := h d (List.mem_cons_self ..) r hr
    obtain ⟨ys, r', g1, g2, g3⟩ := lc_sub Inv ds (clr vs r2) (fun x hx => h x (List.mem_cons_of_mem _ hx)) h4
    cases k with
    | true =>
      refine ⟨d :: ys, r', ?_, g2, g3.cons₂ d⟩
      unfold lcD
      rw [h1]
      show (t r1).bind _ = _
      rw [h2]
      show (c r2).bind _ = _
      rw [h3]
      show (lcD vs as t c ds (clr vs r2)).bind _ = _
      rw [g1]
    | false =>
      refine ⟨ys, r', ?_, g2, g3.cons d⟩
      unfold lcD
      rw [h1]
      show (t r1).bind _ = _
      rw [h2]
      exact g1
def Ps : List Str := ["a", "a-b", "a/b", "app/doc", "b", repS "x" 20, "z9"]
theorem Ps_ok : (Ps.map PyData.str).all pathOk = true := by decide +kernel
theorem Ps_nd : Ps.Nodup := by decide +kernel
def goodE (ws : List (List Nat)) : Prop := ∃ p s, ws = [p, s] ∧ goodP p ∧ goodS s
def lockOk : D → Bool
  | .none => true
  | d => shelfOk d
theorem lockOk_ex {d : D} (h : lockOk d = true) : ∃ k, d = lockD k ∧ keyO (lockW k) = k ∧ ((k = none) ∨ ∃ s, k = some s ∧ goodS s) := by
  cases d with
  | none => exact ⟨none, rfl, rfl, .inl rfl⟩
  | str x =>
    obtain ⟨s, e, hs⟩ := shelfOk_ex (d := .str x) h
    refine ⟨some s, e, ?_, .inr ⟨s, rfl, hs⟩⟩
    show keyO s = some s
    unfold keyO
    rw [decide_eq_false]
    intro z
    subst z
    exact absurd hs.1 (by decide)
  | _ => cases h
theorem drawn_ok {b : D} (hb : isBag b) : ∃ S k b', r_law_drawn_manifest [b] = .ok (.fr (manD S k)) (some b') ∧ isBag b' ∧ S.length ≤ 7 ∧ (∀ ws ∈ S, goodE ws) ∧ incr (S.map fun ws => ws.headD []) = true ∧ keyO (lockW k) = k ∧ (k = none ∨ ∃ s, k = some s ∧ goodS s) := by
  have lcq : ∀ (b Y : D), lcD [5] (aNm 5) cYes (cFz (cBin fAdd (cK (.str "store/c")) (cCall fStr (cBCons (cNm 5) (cBNil))))) [.int 0, .int 1, .int 7, .int 10, .int 123456789, .int 1000000000000000000] [.io b, .ow Y, .no, .no, .no, .no] = .ok (Ql, [.io b, .ow Y, .no, .no, .no, .no]) := fun b Y => by
    rw [lc_map gSh]
    · rfl
    · intro d hd
      have key : ∀ n : Int, n.natAbs.log2 < 1920 → (Str.ofString "store/c").length + (Str.ofString (toString n)).length ≤ big → ∃ r1, aNm 5 (.int n) [.io b, .ow Y, .no, .no, .no, .no] = some r1 ∧ cFz (cBin fAdd (cK (.str "store/c")) (cCall fStr (cBCons (cNm 5) (cBNil)))) r1 = .ok (gSh (.int n), r1) ∧ clr [5] r1 = [.io b, .ow Y, .no, .no, .no, .no] := fun n h1 h2 => by
        refine ⟨[.io b, .ow Y, .no, .no, .no, .fr (.int n)], rfl, ?_, rfl⟩
        simp only [b_ok, b_no, oo_some, oo_none, g_fr, g_z, g_s, sl_s, sl_fr, sl_ow, sl_io, rv_fr, rv_ow, rv_sl, fz_fr, fz_ow, kCo_, fz_s, fz_zf, fz_zo, om_some, ob_some, om_none, ow_s, ow_ow, ow_io, mu_s, mu_ow, mu_io, st_s, st_so, st_zn, st_zf, st_zo, so_zn, so_zf, so_zo, v_nm, v_nmf, v_nmo, v_nmi, v_k, v_fz, k_fz, v_anil, v_acons, k_a1, k_a2, v_bnil, v_bcons, k_b1, k_b2, v_tup, v_lst, k_tup, k_lst, v_bin, k_o1, k_o2, v_b, v_r, v_un, k_un, v_u, rvs_nil, rvs_cons, v_cons, v_call, k_call, v_l, v_mt, k_mt, v_testOf, k_t, v_truth, k_tr, v_tr, v_kk, tru_b, v_notT, k_nt, v_andT, v_orT, k_at1, k_at0, k_ot1, k_ot0, v_if, k_if1, k_if0, v_and, v_or, v_not, k_and1, k_and0, k_or1, k_or0, k_not, v_chain, k_ch1, k_ch2, v_b', k_ch3t, k_ch3f, v_pn, v_ps, k_p, v_sl, k_s1, k_s2, k_s3, v_s, v_seq, k_snx, k_srt, k_sbk, k_sct, v_ifS, k_ifS1, k_ifS0, v_skip, v_brk, v_cnt, v_exp, v_ret, k_exp, k_ret, v_set, k_set, v_n, v_asg, k_asg, a_nm, a_nil, a_cons, k_as, a_tup, v_par, v_par3, k_par, k_par3, v_setIx, k_x1, v_x1, k_mu, k_x2, v_x2, v_augIx, v_g1, k_g1, v_b2, k_g2, k_g3, v_g3, v_g4, v_aug, v_au, k_au, v_au1, v_au2, v_mut, v_m0, v_m1, k_m, v_m2, v_m3, v_callF, k_cf, v_c2, v_callI, v_i1, k_ci, v_i2, v_i3, v_it, k_it, v_itS, it_l, it_t, it_s, v_R1, k_R1, v_for, k_for, v_lc, k_lc, v_lcT, cl_1s, cl_1z, v_yes, v_fgt, v_frt, v_fnx, f_ff, f_fo, f_tf, f_to, f_fs, f_ts, v_ef, v_eo, st_f, st_t, mf_nil, mf_cons, rep_s, rep_z, f_addI, f_addS, f_addL, f_addT, f_sub, f_mod, f_div, f_mulI, f_mulJ, f_mulM, f_mulS, f_pow, f_neg, f_eqI, f_eqS, f_neI, f_neS, f_ltI, f_leI, f_gtI, f_geI, f_ltS, f_is, f_isnt, f_ixL, f_ixT, a_d, se_0, se_1, se_2, i_add, f_slL, f_slT, f_slS, f_slR, f_lenS, f_lenL, f_lenT, f_intI, f_intB, f_abs, f_tupL, f_tupT, f_isi_s, atI0, atI1, atI2, atI3, List.length_cons, List.length_nil, List.cons_append, List.nil_append, Nat.reduceAdd, Nat.reduceSub, Nat.reduceLeDiff, Nat.reduceEqDiff, Int.reduceAdd, Int.reduceSub, Int.reduceMul, Int.reduceNeg, Int.reduceLT, Int.reduceLE, Int.reduceEq, Int.reduceBEq, Int.reducePow, Int.reduceToNat, Bool.not_true, Bool.not_false, decide_true, decide_false, true_and, and_true, f_strI n h1, h2, gSh]
      simp only [List.mem_cons, List.not_mem_nil, or_false] at hd
      rcases hd with rfl | rfl | rfl | rfl | rfl | rfl <;> exact key _ (by decide +kernel) (by decide +kernel)
  obtain ⟨ys, r1, f1, ⟨b1, rfl, hb1⟩, sub⟩ := lc_sub (vs := [4]) (as := aNm 4) (t := cTestOf (cBin fEq (cCallI 2 r_law_take 0 (cACons (cFz (cK (.int 2))) (cANil))) (cK (.int 0)))) (c := cFz (cNm 4)) (fun r => ∃ b, r = [.io b, .no, .no, .no, .no, .no] ∧ isBag b) (Ps.map .str) [.io b, .no, .no, .no, .no, .no] (fun d _ r hr => by
    obtain ⟨b, rfl, hb⟩ := hr
    obtain ⟨v, b1, t1, hb1, _⟩ := take_ok (m := 2) hb (by decide) (by decide)
    refine ⟨[.io b, .no, .no, .no, .fr d, .no], (v == 0), [.io b1, .no, .no, .no, .fr d, .no], rfl, ?_, ?_, b1, rfl, hb1⟩
    · simp only [b_ok, b_no, oo_some, oo_none, g_fr, g_z, g_s, sl_s, sl_fr, sl_ow, sl_io, rv_fr, rv_ow, rv_sl, fz_fr, fz_ow, kCo_, fz_s, fz_zf, fz_zo, om_some, ob_some, om_none, ow_s, ow_ow, ow_io, mu_s, mu_ow, mu_io, st_s, st_so, st_zn, st_zf, st_zo, so_zn, so_zf, so_zo, v_nm, v_nmf, v_nmo, v_nmi, v_k, v_fz, k_fz, v_anil, v_acons, k_a1, k_a2, v_bnil, v_bcons, k_b1, k_b2, v_tup, v_lst, k_tup, k_lst, v_bin, k_o1, k_o2, v_b, v_r, v_un, k_un, v_u, rvs_nil, rvs_cons, v_cons, v_call, k_call, v_l, v_mt, k_mt, v_testOf, k_t, v_truth, k_tr, v_tr, v_kk, tru_b, v_notT, k_nt, v_andT, v_orT, k_at1, k_at0, k_ot1, k_ot0, v_if, k_if1, k_if0, v_and, v_or, v_not, k_and1, k_and0, k_or1, k_or0, k_not, v_chain, k_ch1, k_ch2, v_b', k_ch3t, k_ch3f, v_pn, v_ps, k_p, v_sl, k_s1, k_s2, k_s3, v_s, v_seq, k_snx, k_srt, k_sbk, k_sct, v_ifS, k_ifS1, k_ifS0, v_skip, v_brk, v_cnt, v_exp, v_ret, k_exp, k_ret, v_set, k_set, v_n, v_asg, k_asg, a_nm, a_nil, a_cons, k_as, a_tup, v_par, v_par3, k_par, k_par3, v_setIx, k_x1, v_x1, k_mu, k_x2, v_x2, v_augIx, v_g1, k_g1, v_b2, k_g2, k_g3, v_g3, v_g4, v_aug, v_au, k_au, v_au1, v_au2, v_mut, v_m0, v_m1, k_m, v_m2, v_m3, v_callF, k_cf, v_c2, v_callI, v_i1, k_ci, v_i2, v_i3, v_it, k_it, v_itS, it_l, it_t, it_s, v_R1, k_R1, v_for, k_for, v_lc, k_lc, v_lcT, cl_1s, cl_1z, v_yes, v_fgt, v_frt, v_fnx, f_ff, f_fo, f_tf, f_to, f_fs, f_ts, v_ef, v_eo, st_f, st_t, mf_nil, mf_cons, rep_s, rep_z, f_addI, f_addS, f_addL, f_addT, f_sub, f_mod, f_div, f_mulI, f_mulJ, f_mulM, f_mulS, f_pow, f_neg, f_eqI, f_eqS, f_neI, f_neS, f_ltI, f_leI, f_gtI, f_geI, f_ltS, f_is, f_isnt, f_ixL, f_ixT, a_d, se_0, se_1, se_2, i_add, f_slL, f_slT, f_slS, f_slR, f_lenS, f_lenL, f_lenT, f_intI, f_intB, f_abs, f_tupL, f_tupT, f_isi_s, atI0, atI1, atI2, atI3, List.length_cons, List.length_nil, List.cons_append, List.nil_append, Nat.reduceAdd, Nat.reduceSub, Nat.reduceLeDiff, Nat.reduceEqDiff, Int.reduceAdd, Int.reduceSub, Int.reduceMul, Int.reduceNeg, Int.reduceLT, Int.reduceLE, Int.reduceEq, Int.reduceBEq, Int.reducePow, Int.reduceToNat, Bool.not_true, Bool.not_false, decide_true, decide_false, true_and, and_true, q_take, t1]
    · simp only [b_ok, b_no, oo_some, oo_none, g_fr, g_z, g_s, sl_s, sl_fr, sl_ow, sl_io, rv_fr, rv_ow, rv_sl, fz_fr, fz_ow, kCo_, fz_s, fz_zf, fz_zo, om_some, ob_some, om_none, ow_s, ow_ow, ow_io, mu_s, mu_ow, mu_io, st_s, st_so, st_zn, st_zf, st_zo, so_zn, so_zf, so_zo, v_nm, v_nmf, v_nmo, v_nmi, v_k, v_fz, k_fz, v_anil, v_acons, k_a1, k_a2, v_bnil, v_bcons, k_b1, k_b2, v_tup, v_lst, k_tup, k_lst, v_bin, k_o1, k_o2, v_b, v_r, v_un, k_un, v_u, rvs_nil, rvs_cons, v_cons, v_call, k_call, v_l, v_mt, k_mt, v_testOf, k_t, v_truth, k_tr, v_tr, v_kk, tru_b, v_notT, k_nt, v_andT, v_orT, k_at1, k_at0, k_ot1, k_ot0, v_if, k_if1, k_if0, v_and, v_or, v_not, k_and1, k_and0, k_or1, k_or0, k_not, v_chain, k_ch1, k_ch2, v_b', k_ch3t, k_ch3f, v_pn, v_ps, k_p, v_sl, k_s1, k_s2, k_s3, v_s, v_seq, k_snx, k_srt, k_sbk, k_sct, v_ifS, k_ifS1, k_ifS0, v_skip, v_brk, v_cnt, v_exp, v_ret, k_exp, k_ret, v_set, k_set, v_n, v_asg, k_asg, a_nm, a_nil, a_cons, k_as, a_tup, v_par, v_par3, k_par, k_par3, v_setIx, k_x1, v_x1, k_mu, k_x2, v_x2, v_augIx, v_g1, k_g1, v_b2, k_g2, k_g3, v_g3, v_g4, v_aug, v_au, k_au, v_au1, v_au2, v_mut, v_m0, v_m1, k_m, v_m2, v_m3, v_callF, k_cf, v_c2, v_callI, v_i1, k_ci, v_i2, v_i3, v_it, k_it, v_itS, it_l, it_t, it_s, v_R1, k_R1, v_for, k_for, v_lc, k_lc, v_lcT, cl_1s, cl_1z, v_yes, v_fgt, v_frt, v_fnx, f_ff, f_fo, f_tf, f_to, f_fs, f_ts, v_ef, v_eo, st_f, st_t, mf_nil, mf_cons, rep_s, rep_z, f_addI, f_addS, f_addL, f_addT, f_sub, f_mod, f_div, f_mulI, f_mulJ, f_mulM, f_mulS, f_pow, f_neg, f_eqI, f_eqS, f_neI, f_neS, f_ltI, f_leI, f_gtI, f_geI, f_ltS, f_is, f_isnt, f_ixL, f_ixT, a_d, se_0, se_1, se_2, i_add, f_slL, f_slT, f_slS, f_slR, f_lenS, f_lenL, f_lenT, f_intI, f_intB, f_abs, f_tupL, f_tupT, f_isi_s, atI0, atI1, atI2, atI3, List.length_cons, List.length_nil, List.cons_append, List.nil_append, Nat.reduceAdd, Nat.reduceSub, Nat.reduceLeDiff, Nat.reduceEqDiff, Int.reduceAdd, Int.reduceSub, Int.reduceMul, Int.reduceNeg, Int.reduceLT, Int.reduceLE, Int.reduceEq, Int.reduceBEq, Int.reducePow, Int.reduceToNat, Bool.not_true, Bool.not_false, decide_true, decide_false, true_and, and_true]) ⟨b, rfl, hb⟩
  obtain ⟨P, hP, rfl⟩ := List.sublist_map_iff.mp sub
  have hPl : P.length ≤ 7 := hP.length_le
  have hPn : P.Nodup := Ps_nd.sublist hP
  have hsrt : fSortS [.list (P.map PyData.str)] = some (.ow (.list ((srt P).map .str))) := by
    show (strsOf (P.map PyData.str)).bind _ = _
    rw [strsOf_strs, ob_some, if_pos (by omega)]
  have hSl : (srt P).length ≤ 7 := by rw [(srt_perm P).length_eq]; exact hPl
  -- entries
  have ent : ∀ (Q : List Str) (b : D) (X2 : Sl), isBag b → (X2 = .ow (.list Ql) ∨ X2 = .fr (.list Ql)) → (∀ x ∈ Q, pathOk (.str x) = true) →
      ∃ (S : List (List (List Nat))) (b' : D) (X2' : Sl), lcD [4] (aNm 4) cYes (cFz (cTup (cACons (cFz (cNm 4)) (cACons (cFz (cCallI 2 r_law_one 0 (cACons (cFz (cNm 2)) (cANil)))) (cANil))))) (Q.map PyData.str) [.io b, .ow (.list (P.map PyData.str)), X2, .no, .no, .no] = .ok (S.map stepD, [.io b', .ow (.list (P.map PyData.str)), X2', .no, .no, .no]) ∧ isBag b' ∧ (X2' = .ow (.list Ql) ∨ X2' = .fr (.list Ql)) ∧ (∀ ws ∈ S, goodE ws) ∧ S.map (fun ws => ws.headD []) = Q.map tl := by
    intro Q
    induction Q with
    | nil => exact fun b X2 hb hX _ => ⟨[], b, X2, rfl, hb, hX, (fun ws h => by cases h), rfl⟩
    | cons x Q ih =>
      intro b X2 hb hX hQ
      obtain ⟨y, b1, t1, hb1, hy⟩ := one_ok hb (ts := Ql) (by unfold Ql; simp) (by decide)
      obtain ⟨s, rfl, hs⟩ := shelfOk_ex (List.all_eq_true.mp Ql_ok _ hy)
      obtain ⟨p, e, hp⟩ := pathOk_ex (hQ x (List.mem_cons_self ..))
      obtain ⟨S, b2, X3, h1, h2, h3, h4, h5⟩ := ih b1 (.fr (.list Ql)) hb1 (.inr rfl) fun z hz => hQ z (List.mem_cons_of_mem _ hz)
      have ex : x = mkS p := by injection e
      subst ex
      refine ⟨[p, s] :: S, b2, X3, ?_, h2, h3, fun ws hws => ?_, by rw [List.map_cons, List.map_cons, h5]; rfl⟩
      · have hc : cFz (cTup (cACons (cFz (cNm 4)) (cACons (cFz (cCallI 2 r_law_one 0 (cACons (cFz (cNm 2)) (cANil)))) (cANil)))) [.io b, .ow (.list (P.map PyData.str)), X2, .no, .fr (.str (mkS p)), .no] = .ok (stepD [p, s], [.io b1, .ow (.list (P.map PyData.str)), .fr (.list Ql), .no, .fr (.str (mkS p)), .no]) := by
          rcases hX with rfl | rfl <;> simp only [b_ok, b_no, oo_some, oo_none, g_fr, g_z, g_s, sl_s, sl_fr, sl_ow, sl_io, rv_fr, rv_ow, rv_sl, fz_fr, fz_ow, kCo_, fz_s, fz_zf, fz_zo, om_some, ob_some, om_none, ow_s, ow_ow, ow_io, mu_s, mu_ow, mu_io, st_s, st_so, st_zn, st_zf, st_zo, so_zn, so_zf, so_zo, v_nm, v_nmf, v_nmo, v_nmi, v_k, v_fz, k_fz, v_anil, v_acons, k_a1, k_a2, v_bnil, v_bcons, k_b1, k_b2, v_tup, v_lst, k_tup, k_lst, v_bin, k_o1, k_o2, v_b, v_r, v_un, k_un, v_u, rvs_nil, rvs_cons, v_cons, v_call, k_call, v_l, v_mt, k_mt, v_testOf, k_t, v_truth, k_tr, v_tr, v_kk, tru_b, v_notT, k_nt, v_andT, v_orT, k_at1, k_at0, k_ot1, k_ot0, v_if, k_if1, k_if0, v_and, v_or, v_not, k_and1, k_and0, k_or1, k_or0, k_not, v_chain, k_ch1, k_ch2, v_b', k_ch3t, k_ch3f, v_pn, v_ps, k_p, v_sl, k_s1, k_s2, k_s3, v_s, v_seq, k_snx, k_srt, k_sbk, k_sct, v_ifS, k_ifS1, k_ifS0, v_skip, v_brk, v_cnt, v_exp, v_ret, k_exp, k_ret, v_set, k_set, v_n, v_asg, k_asg, a_nm, a_nil, a_cons, k_as, a_tup, v_par, v_par3, k_par, k_par3, v_setIx, k_x1, v_x1, k_mu, k_x2, v_x2, v_augIx, v_g1, k_g1, v_b2, k_g2, k_g3, v_g3, v_g4, v_aug, v_au, k_au, v_au1, v_au2, v_mut, v_m0, v_m1, k_m, v_m2, v_m3, v_callF, k_cf, v_c2, v_callI, v_i1, k_ci, v_i2, v_i3, v_it, k_it, v_itS, it_l, it_t, it_s, v_R1, k_R1, v_for, k_for, v_lc, k_lc, v_lcT, cl_1s, cl_1z, v_yes, v_fgt, v_frt, v_fnx, f_ff, f_fo, f_tf, f_to, f_fs, f_ts, v_ef, v_eo, st_f, st_t, mf_nil, mf_cons, rep_s, rep_z, f_addI, f_addS, f_addL, f_addT, f_sub, f_mod, f_div, f_mulI, f_mulJ, f_mulM, f_mulS, f_pow, f_neg, f_eqI, f_eqS, f_neI, f_neS, f_ltI, f_leI, f_gtI, f_geI, f_ltS, f_is, f_isnt, f_ixL, f_ixT, a_d, se_0, se_1, se_2, i_add, f_slL, f_slT, f_slS, f_slR, f_lenS, f_lenL, f_lenT, f_intI, f_intB, f_abs, f_tupL, f_tupT, f_isi_s, atI0, atI1, atI2, atI3, List.length_cons, List.length_nil, List.cons_append, List.nil_append, Nat.reduceAdd, Nat.reduceSub, Nat.reduceLeDiff, Nat.reduceEqDiff, Int.reduceAdd, Int.reduceSub, Int.reduceMul, Int.reduceNeg, Int.reduceLT, Int.reduceLE, Int.reduceEq, Int.reduceBEq, Int.reducePow, Int.reduceToNat, Bool.not_true, Bool.not_false, decide_true, decide_false, true_and, and_true, q_one, t1] <;> rfl
        rw [List.map_cons]
        unfold lcD
        show (cFz (cTup _) [.io b, .ow (.list (P.map PyData.str)), X2, .no, .fr (.str (mkS p)), .no]).bind _ = _
        rw [hc]
        show (lcD _ _ _ _ _ [.io b1, .ow (.list (P.map PyData.str)), .fr (.list Ql), .no, .no, .no]).bind _ = _
        rw [h1]
        rfl
      · rcases List.mem_cons.mp hws with rfl | hws
        · exact ⟨p, s, rfl, hp, hs⟩
        · exact h4 ws hws
  obtain ⟨S, b2, X2, h1, hb2, hX2, hg, hh⟩ := ent (srt P) b1 (.ow (.list Ql)) hb1 (.inl rfl) fun x hx => List.all_eq_true.mp Ps_ok _ (List.mem_map_of_mem (hP.subset ((srt_perm P).mem_iff.mp hx)))
  have hSlen : S.length ≤ 7 := by
    have := congrArg List.length hh
    rw [List.length_map, List.length_map] at this
    omega
  have hinc : incr (S.map fun ws => ws.headD []) = true := by
    rw [hh, ← incr_srt]
    refine decide_eq_true ?_
    have e : ((srt P).map tl).map mkS = srt P := by
      rw [List.map_map]
      exact (List.map_congr_left fun x _ => mkS_tl x).trans (List.map_id' _)
    rw [e]
    exact uniqS ((List.perm_ext_iff_of_nodup ((srt_perm P).nodup_iff.mpr hPn) ((srt_perm _).nodup_iff.mpr (nodup_dd _))).mpr fun k => by rw [(srt_perm (dd _)).mem_iff, mem_dd]) (srt_pw P) (srt_pw _)
  obtain ⟨y, b3, t3, hb3, hy⟩ := one_ok hb2 (ts := Ql ++ [PyData.none, .none, .none]) (by simp) (by decide)
  have hk : (Ql ++ [PyData.none, .none, .none]).all lockOk = true := by decide +kernel
  obtain ⟨k, rfl, hk1, hk2⟩ := lockOk_ex (List.all_eq_true.mp hk y hy)
  refine ⟨S, k, b3, ?_, hb3, hSlen, hg, hinc, hk1, hk2⟩
  have p1 : (Str.ofString "x").length * 20 ≤ big := by decide +kernel
  have p2 : (20 : Int) ≤ ((big : Nat) : Int) := by decide
  have p4 : [PyData.str "a", .str "a-b", .str "a/b", .str "app/doc", .str "b", .str (repS "x" 20), .str "z9"] = Ps.map PyData.str := rfl
  have p5 : (Ps.map PyData.str).length ≤ 16777216 := by decide
  have p6 : Ql.length + 3 ≤ 16777216 := by decide
  have p7 : PyData.tuple [.tuple (S.map stepD), lockD k] = manD S k := rfl
  rw [q_take] at f1
  rw [q_one] at h1
  have lq := lcq b1 (.list (P.map PyData.str))
  unfold r_law_drawn_manifest c_law_drawn_manifest
  rw [v_run]
  rcases hX2 with rfl | rfl <;> simp only [b_ok, b_no, oo_some, oo_none, g_fr, g_z, g_s, sl_s, sl_fr, sl_ow, sl_io, rv_fr, rv_ow, rv_sl, fz_fr, fz_ow, kCo_, fz_s, fz_zf, fz_zo, om_some, ob_some, om_none, ow_s, ow_ow, ow_io, mu_s, mu_ow, mu_io, st_s, st_so, st_zn, st_zf, st_zo, so_zn, so_zf, so_zo, v_nm, v_nmf, v_nmo, v_nmi, v_k, v_fz, k_fz, v_anil, v_acons, k_a1, k_a2, v_bnil, v_bcons, k_b1, k_b2, v_tup, v_lst, k_tup, k_lst, v_bin, k_o1, k_o2, v_b, v_r, v_un, k_un, v_u, rvs_nil, rvs_cons, v_cons, v_call, k_call, v_l, v_mt, k_mt, v_testOf, k_t, v_truth, k_tr, v_tr, v_kk, tru_b, v_notT, k_nt, v_andT, v_orT, k_at1, k_at0, k_ot1, k_ot0, v_if, k_if1, k_if0, v_and, v_or, v_not, k_and1, k_and0, k_or1, k_or0, k_not, v_chain, k_ch1, k_ch2, v_b', k_ch3t, k_ch3f, v_pn, v_ps, k_p, v_sl, k_s1, k_s2, k_s3, v_s, v_seq, k_snx, k_srt, k_sbk, k_sct, v_ifS, k_ifS1, k_ifS0, v_skip, v_brk, v_cnt, v_exp, v_ret, k_exp, k_ret, v_set, k_set, v_n, v_asg, k_asg, a_nm, a_nil, a_cons, k_as, a_tup, v_par, v_par3, k_par, k_par3, v_setIx, k_x1, v_x1, k_mu, k_x2, v_x2, v_augIx, v_g1, k_g1, v_b2, k_g2, k_g3, v_g3, v_g4, v_aug, v_au, k_au, v_au1, v_au2, v_mut, v_m0, v_m1, k_m, v_m2, v_m3, v_callF, k_cf, v_c2, v_callI, v_i1, k_ci, v_i2, v_i3, v_it, k_it, v_itS, it_l, it_t, it_s, v_R1, k_R1, v_for, k_for, v_lc, k_lc, v_lcT, cl_1s, cl_1z, v_yes, v_fgt, v_frt, v_fnx, f_ff, f_fo, f_tf, f_to, f_fs, f_ts, v_ef, v_eo, st_f, st_t, mf_nil, mf_cons, rep_s, rep_z, f_addI, f_addS, f_addL, f_addT, f_sub, f_mod, f_div, f_mulI, f_mulJ, f_mulM, f_mulS, f_pow, f_neg, f_eqI, f_eqS, f_neI, f_neS, f_ltI, f_leI, f_gtI, f_geI, f_ltS, f_is, f_isnt, f_ixL, f_ixT, a_d, se_0, se_1, se_2, i_add, f_slL, f_slT, f_slS, f_slR, f_lenS, f_lenL, f_lenT, f_intI, f_intB, f_abs, f_tupL, f_tupT, f_isi_s, atI0, atI1, atI2, atI3, List.length_cons, List.length_nil, List.cons_append, List.nil_append, Nat.reduceAdd, Nat.reduceSub, Nat.reduceLeDiff, Nat.reduceEqDiff, Int.reduceAdd, Int.reduceSub, Int.reduceMul, Int.reduceNeg, Int.reduceLT, Int.reduceLE, Int.reduceEq, Int.reduceBEq, Int.reducePow, Int.reduceToNat, Bool.not_true, Bool.not_false, decide_true, decide_false, true_and, and_true, q_take, q_one, p1, p2, p4, p5, f1, noEx, lq, hsrt, h1, p6, t3, p7]
end Wk73
end
section
namespace Wk73
open PySem PySem.Spec L2 TL Ed
theorem cut_z {α : Type} (f : α → D) (m : List α) (z : α) : cutD ((m ++ [z]).map f) (some (-1)) none = [z].map f := by
  unfold cutD
  have hl : ((m ++ [z]).map f).length = m.length + 1 := by rw [List.length_map, List.length_append, List.length_singleton]
  have e1 : HT.sIx ((m ++ [z]).map f).length 0 (some (-1)) = m.length := by
    rw [hl]
    unfold HT.sIx
    show (if (-1 : Int) < 0 then _ else _) = _
    rw [if_pos (by decide)]
    omega
  rw [e1, HT.sIx_none, hl, List.map_append, ← List.length_map (f := f) (as := m), List.drop_left]
  exact List.take_of_length_le (by rw [List.length_map, List.length_singleton]; omega)
def unS : D → List Nat
  | .str x => tl x
  | _ => []
theorem perm_back {us : List D} {B : List (List Nat)} (h : us.Perm (B.map fun w => PyData.str (mkS w))) : ∃ B' : List (List Nat), B'.Perm B ∧ B'.map (fun w => PyData.str (mkS w)) = us := by
  refine ⟨us.map unS, ?_, ?_⟩
  · have := h.map unS
    rw [List.map_map] at this
    exact this.trans (by rw [show (unS ∘ fun w : List Nat => PyData.str (mkS w)) = id from funext fun w => tl_mkS w, List.map_id])
  · rw [List.map_map]
    refine (List.map_congr_left fun x hx => ?_).trans (List.map_id us)
    obtain ⟨w, _, rfl⟩ := List.mem_map.mp (h.mem_iff.mp hx)
    show PyData.str (mkS (tl (mkS w))) = _
    rw [tl_mkS]
    rfl
theorem szW_perm {A B : List (List Nat)} (h : A.Perm B) : szW A = szW B := by
  induction h with
  | nil => rfl
  | cons x _ ih => rw [szW_cons, szW_cons, ih]
  | swap x y l =>
    rw [szW_cons, szW_cons, szW_cons, szW_cons]
    omega
  | trans _ _ h1 h2 => exact h1.trans h2
theorem mid3 {ls : List (List Nat)} {M : Nat} (hs : ls ≠ []) (hM : ∀ p ∈ ls, p.length ≤ M) : ∃ A B C : List (List Nat), cutD (ls.map fun w => PyData.str (mkS w)) none (some 1) = A.map (fun w => PyData.str (mkS w)) ∧ cutD (ls.map fun w => PyData.str (mkS w)) (some 1) (some (-1)) = B.map (fun w => PyData.str (mkS w)) ∧ cutD (ls.map fun w => PyData.str (mkS w)) (some (-1)) none = C.map (fun w => PyData.str (mkS w)) ∧ B.length + 1 ≤ ls.length ∧ szW A + szW B + szW C ≤ szW ls + M + 1 ∧ ∀ p ∈ A ++ B ++ C, p ∈ ls := by
  cases ls with
  | nil => exact absurd rfl hs
  | cons a r =>
    rcases List.eq_nil_or_concat r with rfl | ⟨m, z, rfl⟩
    · refine ⟨[a], [], [a], cut_fst _ _, cut_one _ _, cut_z _ [] a, Nat.le_refl _, ?_, fun p hp => ?_⟩
      · have := hM a (List.mem_cons_self ..)
        rw [szW_cons]
        have : szW [] = 0 := rfl
        omega
      · simpa using hp
    · rw [List.concat_eq_append]
      refine ⟨[a], m, [z], cut_fst _ _, cut_mid _ _ _ _, cut_z _ (a :: m) z, ?_, ?_, fun p hp => ?_⟩
      · rw [List.length_cons, List.length_append, List.length_singleton]
        omega
      · rw [szW_cons, szW_cons, szW_cons, szW_app, szW_cons]
        have : szW [] = 0 := rfl
        omega
      · simpa using hp
theorem joinC {A B C : List (List Nat)} (h : szW (A ++ B ++ C) ≤ big) : fJoin "\n" [.list ((A.map (fun w => PyData.str (mkS w)) ++ B.map fun w => PyData.str (mkS w)) ++ C.map fun w => PyData.str (mkS w))] = some (.fr (.str (mkS (joinL [10] (A ++ B ++ C))))) := by
  rw [← List.map_append, ← List.map_append]
  exact f_joinW _ 10 tl_lf h
theorem near_ok {b : D} {l : List Nat} {L M : Nat} (hb : isBag b) (h : TX L M l) (hL : L ≤ 1000) (hM : 15 ≤ M) (hM2 : M ≤ 1000) :
    ∃ l' b', r_law_near_text [b, .str (mkS l)] = .ok (.fr (.str (mkS l'))) (some b') ∧ isBag b' ∧ TX (L + M + 1) (2 * M + 1) l' := by
  have hlen := h.len
  have hz1 := szW_spl 10 l []
  rw [List.length_nil] at hz1
  have hn1 := szW_len (spl [10] 0 [] l)
  have hn0 : 0 < (spl [10] 0 [] l).length := List.length_pos_iff.mpr (spl_ne 10 l [])
  obtain ⟨way, b1, t1, hb1, w0, w1⟩ := take_ok (m := 9) hb (by decide) (by decide)
  obtain ⟨at', b2, t2, hb2, a0, a1⟩ := take_ok (m := ((l.length + 1 : Nat) : Int)) hb1 (by omega) (by omega)
  obtain ⟨ln, b3, t3, hb3, n0, n1⟩ := take_ok (m := (((spl [10] 0 [] l).length : Nat) : Int)) hb2 (by omega) (by omega)
  obtain ⟨n, rfl⟩ := Int.eq_ofNat_of_zero_le a0
  obtain ⟨i, rfl⟩ := Int.eq_ofNat_of_zero_le n0
  have hi : i < (spl [10] 0 [] l).length := by omega
  have s1 : ((spl [10] 0 [] l).take i).length + ((spl [10] 0 [] l).drop (i + 1)).length ≤ 16777216 := by rw [List.length_take, List.length_drop]; omega
  have s2 : ((spl [10] 0 [] l).take i).length + 1 ≤ 16777216 := by rw [List.length_take]; omega
  have s3 : ((spl [10] 0 [] l).take i).length + 1 + ((spl [10] 0 [] l).drop (i + 1)).length ≤ 16777216 := by rw [List.length_take, List.length_drop]; omega
  have s4 : ((spl [10] 0 [] l).take (i + 1)).length + ((spl [10] 0 [] l).drop i).length ≤ 16777216 := by rw [List.length_take, List.length_drop]; omega
  have hcase : way = 0 ∨ way = 1 ∨ way = 2 ∨ way = 3 ∨ way = 4 ∨ way = 5 ∨ way = 6 ∨ way = 7 ∨ way = 8 := by omega
  unfold r_law_near_text c_law_near_text
  rw [v_run]
  have tt := tl_mkS l
  have sign : ∀ (k : Nat), ∃ (x : D) (b4 : D) (c : Nat), r_one [b3, .list [.str " ", .str "\n", .str "0", .str "a", .str "/", .str "-", .str "A", .str "9"]] = .ok (.fr x) (some b4) ∧ isBag b4 ∧ x = .str (mkS [c]) ∧ c < 0x110000 ∧ (l.take n).length + 1 ≤ big ∧ (mkS (l.take n) ++ mkS [c]).length + (l.drop (n + k)).length ≤ big ∧ mkS (l.take n) ++ mkS [c] ++ mkS (l.drop (n + k)) = mkS (l.take n ++ [c] ++ l.drop (n + k)) := fun k => by
    obtain ⟨x, b4, t4, hb4, hx⟩ := one_ok (ts := [.str " ", .str "\n", .str "0", .str "a", .str "/", .str "-", .str "A", .str "9"]) hb3 (by simp) (by decide)
    have hk : ([.str " ", .str "\n", .str "0", .str "a", .str "/", .str "-", .str "A", .str "9"] : List D).all signOk = true := by decide +kernel
    obtain ⟨c, rfl, hc⟩ := signOk_ex (List.all_eq_true.mp hk x hx)
    refine ⟨_, b4, c, t4, hb4, rfl, hc, ?_, ?_, by rw [app_mk, app_mk]⟩
    · rw [List.length_take]
      show _ ≤ 8000000
      omega
    · rw [app_mk, len_mkS, List.length_append, List.length_take, List.length_singleton, List.length_drop]
      show _ ≤ 8000000
      omega
  rcases hcase with rfl | rfl | rfl | rfl | rfl | rfl | rfl | rfl | rfl
  · have hx := tx_out h i
    have hj := joinA (A := (spl [10] 0 [] l).take i) (B := (spl [10] 0 [] l).drop (i + 1)) (by
      have h1 := szW_take (spl [10] 0 [] l) i
      have h2 := szW_take ((spl [10] 0 [] l).drop i) 1
      rw [List.drop_drop] at h2
      rw [szW_app]
      show _ ≤ 8000000
      omega)
    refine ⟨_, b3, ?_, hb3, hx.up (Nat.le_refl _) (by omega)⟩
    simp only [b_ok, b_no, oo_some, oo_none, g_fr, g_z, g_s, sl_s, sl_fr, sl_ow, sl_io, rv_fr, rv_ow, rv_sl, fz_fr, fz_ow, kCo_, fz_s, fz_zf, fz_zo, om_some, ob_some, om_none, ow_s, ow_ow, ow_io, mu_s, mu_ow, mu_io, st_s, st_so, st_zn, st_zf, st_zo, so_zn, so_zf, so_zo, v_nm, v_nmf, v_nmo, v_nmi, v_k, v_fz, k_fz, v_anil, v_acons, k_a1, k_a2, v_bnil, v_bcons, k_b1, k_b2, v_tup, v_lst, k_tup, k_lst, v_bin, k_o1, k_o2, v_b, v_r, v_un, k_un, v_u, rvs_nil, rvs_cons, v_cons, v_call, k_call, v_l, v_mt, k_mt, v_testOf, k_t, v_truth, k_tr, v_tr, v_kk, tru_b, v_notT, k_nt, v_andT, v_orT, k_at1, k_at0, k_ot1, k_ot0, v_if, k_if1, k_if0, v_and, v_or, v_not, k_and1, k_and0, k_or1, k_or0, k_not, v_chain, k_ch1, k_ch2, v_b', k_ch3t, k_ch3f, v_pn, v_ps, k_p, v_sl, k_s1, k_s2, k_s3, v_s, v_seq, k_snx, k_srt, k_sbk, k_sct, v_ifS, k_ifS1, k_ifS0, v_skip, v_brk, v_cnt, v_exp, v_ret, k_exp, k_ret, v_set, k_set, v_n, v_asg, k_asg, a_nm, a_nil, a_cons, k_as, a_tup, v_par, v_par3, k_par, k_par3, v_setIx, k_x1, v_x1, k_mu, k_x2, v_x2, v_augIx, v_g1, k_g1, v_b2, k_g2, k_g3, v_g3, v_g4, v_aug, v_au, k_au, v_au1, v_au2, v_mut, v_m0, v_m1, k_m, v_m2, v_m3, v_callF, k_cf, v_c2, v_callI, v_i1, k_ci, v_i2, v_i3, v_it, k_it, v_itS, it_l, it_t, it_s, v_R1, k_R1, v_for, k_for, v_lc, k_lc, v_lcT, cl_1s, cl_1z, v_yes, v_fgt, v_frt, v_fnx, f_ff, f_fo, f_tf, f_to, f_fs, f_ts, v_ef, v_eo, st_f, st_t, mf_nil, mf_cons, rep_s, rep_z, f_addI, f_addS, f_addL, f_addT, f_sub, f_mod, f_div, f_mulI, f_mulJ, f_mulM, f_mulS, f_pow, f_neg, f_eqI, f_eqS, f_neI, f_neS, f_ltI, f_leI, f_gtI, f_geI, f_ltS, f_is, f_isnt, f_ixL, f_ixT, a_d, se_0, se_1, se_2, i_add, f_slL, f_slT, f_slS, f_slR, f_lenS, f_lenL, f_lenT, f_intI, f_intB, f_abs, f_tupL, f_tupT, f_isi_s, atI0, atI1, atI2, atI3, List.length_cons, List.length_nil, List.cons_append, List.nil_append, Nat.reduceAdd, Nat.reduceSub, Nat.reduceLeDiff, Nat.reduceEqDiff, Int.reduceAdd, Int.reduceSub, Int.reduceMul, Int.reduceNeg, Int.reduceLT, Int.reduceLE, Int.reduceEq, Int.reduceBEq, Int.reducePow, Int.reduceToNat, Bool.not_true, Bool.not_false, decide_true, decide_false, true_and, and_true, q_take, q_one, sp_lf, len_mkS, icast, t1, t2, t3, List.length_map, cutD_to, cutD_from, s1, hj]
  · obtain ⟨x, b4, t4, hb4, hx⟩ := one_ok (ts := [.str "entries 1", .str "entries 01", .str "a store/c0", .str "a store/c01", .str "A store/c0", .str "a store/c", .str "a b c", .str "lock store/c0", .str "lock -", .str ""]) hb3 (by simp) (by decide)
    have hk : ([.str "entries 1", .str "entries 01", .str "a store/c0", .str "a store/c01", .str "A store/c0", .str "a store/c", .str "a b c", .str "lock store/c0", .str "lock -", .str ""] : List D).all oddOk = true := by decide +kernel
    obtain ⟨o, rfl, ho⟩ := oddOk_ex (List.all_eq_true.mp hk x hx)
    have hx := tx_lines h (i := i) (j := 0) (o := o) ⟨by omega, ho.2⟩
    have hj := joinB (A := (spl [10] 0 [] l).take i) (o := o) (B := (spl [10] 0 [] l).drop (i + 1)) (by
      have h1 := szW_take (spl [10] 0 [] l) i
      have h2 := szW_take ((spl [10] 0 [] l).drop i) 1
      rw [List.drop_drop] at h2
      rw [szW_app, szW_app, szW_cons]
      have : szW [] = 0 := rfl
      show _ ≤ 8000000
      omega)
    refine ⟨_, b4, ?_, hb4, hx.up (Nat.le_refl _) (by omega)⟩
    simp only [b_ok, b_no, oo_some, oo_none, g_fr, g_z, g_s, sl_s, sl_fr, sl_ow, sl_io, rv_fr, rv_ow, rv_sl, fz_fr, fz_ow, kCo_, fz_s, fz_zf, fz_zo, om_some, ob_some, om_none, ow_s, ow_ow, ow_io, mu_s, mu_ow, mu_io, st_s, st_so, st_zn, st_zf, st_zo, so_zn, so_zf, so_zo, v_nm, v_nmf, v_nmo, v_nmi, v_k, v_fz, k_fz, v_anil, v_acons, k_a1, k_a2, v_bnil, v_bcons, k_b1, k_b2, v_tup, v_lst, k_tup, k_lst, v_bin, k_o1, k_o2, v_b, v_r, v_un, k_un, v_u, rvs_nil, rvs_cons, v_cons, v_call, k_call, v_l, v_mt, k_mt, v_testOf, k_t, v_truth, k_tr, v_tr, v_kk, tru_b, v_notT, k_nt, v_andT, v_orT, k_at1, k_at0, k_ot1, k_ot0, v_if, k_if1, k_if0, v_and, v_or, v_not, k_and1, k_and0, k_or1, k_or0, k_not, v_chain, k_ch1, k_ch2, v_b', k_ch3t, k_ch3f, v_pn, v_ps, k_p, v_sl, k_s1, k_s2, k_s3, v_s, v_seq, k_snx, k_srt, k_sbk, k_sct, v_ifS, k_ifS1, k_ifS0, v_skip, v_brk, v_cnt, v_exp, v_ret, k_exp, k_ret, v_set, k_set, v_n, v_asg, k_asg, a_nm, a_nil, a_cons, k_as, a_tup, v_par, v_par3, k_par, k_par3, v_setIx, k_x1, v_x1, k_mu, k_x2, v_x2, v_augIx, v_g1, k_g1, v_b2, k_g2, k_g3, v_g3, v_g4, v_aug, v_au, k_au, v_au1, v_au2, v_mut, v_m0, v_m1, k_m, v_m2, v_m3, v_callF, k_cf, v_c2, v_callI, v_i1, k_ci, v_i2, v_i3, v_it, k_it, v_itS, it_l, it_t, it_s, v_R1, k_R1, v_for, k_for, v_lc, k_lc, v_lcT, cl_1s, cl_1z, v_yes, v_fgt, v_frt, v_fnx, f_ff, f_fo, f_tf, f_to, f_fs, f_ts, v_ef, v_eo, st_f, st_t, mf_nil, mf_cons, rep_s, rep_z, f_addI, f_addS, f_addL, f_addT, f_sub, f_mod, f_div, f_mulI, f_mulJ, f_mulM, f_mulS, f_pow, f_neg, f_eqI, f_eqS, f_neI, f_neS, f_ltI, f_leI, f_gtI, f_geI, f_ltS, f_is, f_isnt, f_ixL, f_ixT, a_d, se_0, se_1, se_2, i_add, f_slL, f_slT, f_slS, f_slR, f_lenS, f_lenL, f_lenT, f_intI, f_intB, f_abs, f_tupL, f_tupT, f_isi_s, atI0, atI1, atI2, atI3, List.length_cons, List.length_nil, List.cons_append, List.nil_append, Nat.reduceAdd, Nat.reduceSub, Nat.reduceLeDiff, Nat.reduceEqDiff, Int.reduceAdd, Int.reduceSub, Int.reduceMul, Int.reduceNeg, Int.reduceLT, Int.reduceLE, Int.reduceEq, Int.reduceBEq, Int.reducePow, Int.reduceToNat, Bool.not_true, Bool.not_false, decide_true, decide_false, true_and, and_true, q_take, q_one, sp_lf, len_mkS, icast, t1, t2, t3, t4, List.length_map, List.length_append, cutD_to, cutD_from, s2, s3, hj]
  · have hx := tx_twice h hi
    have hj := joinA (A := (spl [10] 0 [] l).take (i + 1)) (B := (spl [10] 0 [] l).drop i) (by
      have h1 := szW_take (spl [10] 0 [] l) (i + 1)
      have h2 := szW_take ((spl [10] 0 [] l).drop i) 1
      rw [List.drop_drop] at h2
      have h3 := szW_take (spl [10] 0 [] l) i
      rw [szW_app]
      show _ ≤ 8000000
      omega)
    refine ⟨_, b3, ?_, hb3, hx.up (Nat.le_refl _) (by omega)⟩
    simp only [b_ok, b_no, oo_some, oo_none, g_fr, g_z, g_s, sl_s, sl_fr, sl_ow, sl_io, rv_fr, rv_ow, rv_sl, fz_fr, fz_ow, kCo_, fz_s, fz_zf, fz_zo, om_some, ob_some, om_none, ow_s, ow_ow, ow_io, mu_s, mu_ow, mu_io, st_s, st_so, st_zn, st_zf, st_zo, so_zn, so_zf, so_zo, v_nm, v_nmf, v_nmo, v_nmi, v_k, v_fz, k_fz, v_anil, v_acons, k_a1, k_a2, v_bnil, v_bcons, k_b1, k_b2, v_tup, v_lst, k_tup, k_lst, v_bin, k_o1, k_o2, v_b, v_r, v_un, k_un, v_u, rvs_nil, rvs_cons, v_cons, v_call, k_call, v_l, v_mt, k_mt, v_testOf, k_t, v_truth, k_tr, v_tr, v_kk, tru_b, v_notT, k_nt, v_andT, v_orT, k_at1, k_at0, k_ot1, k_ot0, v_if, k_if1, k_if0, v_and, v_or, v_not, k_and1, k_and0, k_or1, k_or0, k_not, v_chain, k_ch1, k_ch2, v_b', k_ch3t, k_ch3f, v_pn, v_ps, k_p, v_sl, k_s1, k_s2, k_s3, v_s, v_seq, k_snx, k_srt, k_sbk, k_sct, v_ifS, k_ifS1, k_ifS0, v_skip, v_brk, v_cnt, v_exp, v_ret, k_exp, k_ret, v_set, k_set, v_n, v_asg, k_asg, a_nm, a_nil, a_cons, k_as, a_tup, v_par, v_par3, k_par, k_par3, v_setIx, k_x1, v_x1, k_mu, k_x2, v_x2, v_augIx, v_g1, k_g1, v_b2, k_g2, k_g3, v_g3, v_g4, v_aug, v_au, k_au, v_au1, v_au2, v_mut, v_m0, v_m1, k_m, v_m2, v_m3, v_callF, k_cf, v_c2, v_callI, v_i1, k_ci, v_i2, v_i3, v_it, k_it, v_itS, it_l, it_t, it_s, v_R1, k_R1, v_for, k_for, v_lc, k_lc, v_lcT, cl_1s, cl_1z, v_yes, v_fgt, v_frt, v_fnx, f_ff, f_fo, f_tf, f_to, f_fs, f_ts, v_ef, v_eo, st_f, st_t, mf_nil, mf_cons, rep_s, rep_z, f_addI, f_addS, f_addL, f_addT, f_sub, f_mod, f_div, f_mulI, f_mulJ, f_mulM, f_mulS, f_pow, f_neg, f_eqI, f_eqS, f_neI, f_neS, f_ltI, f_leI, f_gtI, f_geI, f_ltS, f_is, f_isnt, f_ixL, f_ixT, a_d, se_0, se_1, se_2, i_add, f_slL, f_slT, f_slS, f_slR, f_lenS, f_lenL, f_lenT, f_intI, f_intB, f_abs, f_tupL, f_tupT, f_isi_s, atI0, atI1, atI2, atI3, List.length_cons, List.length_nil, List.cons_append, List.nil_append, Nat.reduceAdd, Nat.reduceSub, Nat.reduceLeDiff, Nat.reduceEqDiff, Int.reduceAdd, Int.reduceSub, Int.reduceMul, Int.reduceNeg, Int.reduceLT, Int.reduceLE, Int.reduceEq, Int.reduceBEq, Int.reducePow, Int.reduceToNat, Bool.not_true, Bool.not_false, decide_true, decide_false, true_and, and_true, q_take, q_one, sp_lf, len_mkS, icast, t1, t2, t3, List.length_map, cutD_to, cutD_from, s4, hj]
  · obtain ⟨A, B, C, cA, cB, cC, hlB, hz, hm⟩ := mid3 (hs := spl_ne 10 l []) h.ln
    obtain ⟨us, b4, m1, hb4, hp⟩ := mixed_ok (ts := B.map fun w => PyData.str (mkS w)) hb3 (by rw [List.length_map]; omega)
    obtain ⟨B', hB, rfl⟩ := perm_back hp
    have hzB := szW_perm hB
    have hlB' := hB.length_eq
    have hlA := szW_len A
    have hlC := szW_len C
    have hlBz := szW_len B
    have hz2 : szW (A ++ B' ++ C) ≤ l.length + M + 2 := by
      rw [szW_app, szW_app]
      omega
    have hx : TX (L + M + 1) M (joinL [10] (A ++ B' ++ C)) := tx_join (by omega) fun p hp => h.lines p (by
      rcases List.mem_append.mp hp with hp | hp
      · rcases List.mem_append.mp hp with hp | hp
        · exact hm p (List.mem_append_left _ (List.mem_append_left _ hp))
        · exact hm p (List.mem_append_left _ (List.mem_append_right _ (hB.mem_iff.mp hp)))
      · exact hm p (List.mem_append_right _ hp))
    have hj := joinC (A := A) (B := B') (C := C) (by show _ ≤ 8000000; omega)
    have u1 : A.length + B'.length ≤ 16777216 := by omega
    have u2 : A.length + B'.length + C.length ≤ 16777216 := by omega
    refine ⟨_, b4, ?_, hb4, hx.up (Nat.le_refl _) (by omega)⟩
    simp only [b_ok, b_no, oo_some, oo_none, g_fr, g_z, g_s, sl_s, sl_fr, sl_ow, sl_io, rv_fr, rv_ow, rv_sl, fz_fr, fz_ow, kCo_, fz_s, fz_zf, fz_zo, om_some, ob_some, om_none, ow_s, ow_ow, ow_io, mu_s, mu_ow, mu_io, st_s, st_so, st_zn, st_zf, st_zo, so_zn, so_zf, so_zo, v_nm, v_nmf, v_nmo, v_nmi, v_k, v_fz, k_fz, v_anil, v_acons, k_a1, k_a2, v_bnil, v_bcons, k_b1, k_b2, v_tup, v_lst, k_tup, k_lst, v_bin, k_o1, k_o2, v_b, v_r, v_un, k_un, v_u, rvs_nil, rvs_cons, v_cons, v_call, k_call, v_l, v_mt, k_mt, v_testOf, k_t, v_truth, k_tr, v_tr, v_kk, tru_b, v_notT, k_nt, v_andT, v_orT, k_at1, k_at0, k_ot1, k_ot0, v_if, k_if1, k_if0, v_and, v_or, v_not, k_and1, k_and0, k_or1, k_or0, k_not, v_chain, k_ch1, k_ch2, v_b', k_ch3t, k_ch3f, v_pn, v_ps, k_p, v_sl, k_s1, k_s2, k_s3, v_s, v_seq, k_snx, k_srt, k_sbk, k_sct, v_ifS, k_ifS1, k_ifS0, v_skip, v_brk, v_cnt, v_exp, v_ret, k_exp, k_ret, v_set, k_set, v_n, v_asg, k_asg, a_nm, a_nil, a_cons, k_as, a_tup, v_par, v_par3, k_par, k_par3, v_setIx, k_x1, v_x1, k_mu, k_x2, v_x2, v_augIx, v_g1, k_g1, v_b2, k_g2, k_g3, v_g3, v_g4, v_aug, v_au, k_au, v_au1, v_au2, v_mut, v_m0, v_m1, k_m, v_m2, v_m3, v_callF, k_cf, v_c2, v_callI, v_i1, k_ci, v_i2, v_i3, v_it, k_it, v_itS, it_l, it_t, it_s, v_R1, k_R1, v_for, k_for, v_lc, k_lc, v_lcT, cl_1s, cl_1z, v_yes, v_fgt, v_frt, v_fnx, f_ff, f_fo, f_tf, f_to, f_fs, f_ts, v_ef, v_eo, st_f, st_t, mf_nil, mf_cons, rep_s, rep_z, f_addI, f_addS, f_addL, f_addT, f_sub, f_mod, f_div, f_mulI, f_mulJ, f_mulM, f_mulS, f_pow, f_neg, f_eqI, f_eqS, f_neI, f_neS, f_ltI, f_leI, f_gtI, f_geI, f_ltS, f_is, f_isnt, f_ixL, f_ixT, a_d, se_0, se_1, se_2, i_add, f_slL, f_slT, f_slS, f_slR, f_lenS, f_lenL, f_lenT, f_intI, f_intB, f_abs, f_tupL, f_tupT, f_isi_s, atI0, atI1, atI2, atI3, List.length_cons, List.length_nil, List.cons_append, List.nil_append, Nat.reduceAdd, Nat.reduceSub, Nat.reduceLeDiff, Nat.reduceEqDiff, Int.reduceAdd, Int.reduceSub, Int.reduceMul, Int.reduceNeg, Int.reduceLT, Int.reduceLE, Int.reduceEq, Int.reduceBEq, Int.reducePow, Int.reduceToNat, Bool.not_true, Bool.not_false, decide_true, decide_false, true_and, and_true, q_take, q_one, sp_lf, len_mkS, icast, t1, t2, t3, List.length_map, List.length_append, cA, cB, cC, m1, u1, u2, hj]
  · refine ⟨l.take n, b3, ?_, hb3, (h.take n).up (by omega) (by omega)⟩
    simp only [b_ok, b_no, oo_some, oo_none, g_fr, g_z, g_s, sl_s, sl_fr, sl_ow, sl_io, rv_fr, rv_ow, rv_sl, fz_fr, fz_ow, kCo_, fz_s, fz_zf, fz_zo, om_some, ob_some, om_none, ow_s, ow_ow, ow_io, mu_s, mu_ow, mu_io, st_s, st_so, st_zn, st_zf, st_zo, so_zn, so_zf, so_zo, v_nm, v_nmf, v_nmo, v_nmi, v_k, v_fz, k_fz, v_anil, v_acons, k_a1, k_a2, v_bnil, v_bcons, k_b1, k_b2, v_tup, v_lst, k_tup, k_lst, v_bin, k_o1, k_o2, v_b, v_r, v_un, k_un, v_u, rvs_nil, rvs_cons, v_cons, v_call, k_call, v_l, v_mt, k_mt, v_testOf, k_t, v_truth, k_tr, v_tr, v_kk, tru_b, v_notT, k_nt, v_andT, v_orT, k_at1, k_at0, k_ot1, k_ot0, v_if, k_if1, k_if0, v_and, v_or, v_not, k_and1, k_and0, k_or1, k_or0, k_not, v_chain, k_ch1, k_ch2, v_b', k_ch3t, k_ch3f, v_pn, v_ps, k_p, v_sl, k_s1, k_s2, k_s3, v_s, v_seq, k_snx, k_srt, k_sbk, k_sct, v_ifS, k_ifS1, k_ifS0, v_skip, v_brk, v_cnt, v_exp, v_ret, k_exp, k_ret, v_set, k_set, v_n, v_asg, k_asg, a_nm, a_nil, a_cons, k_as, a_tup, v_par, v_par3, k_par, k_par3, v_setIx, k_x1, v_x1, k_mu, k_x2, v_x2, v_augIx, v_g1, k_g1, v_b2, k_g2, k_g3, v_g3, v_g4, v_aug, v_au, k_au, v_au1, v_au2, v_mut, v_m0, v_m1, k_m, v_m2, v_m3, v_callF, k_cf, v_c2, v_callI, v_i1, k_ci, v_i2, v_i3, v_it, k_it, v_itS, it_l, it_t, it_s, v_R1, k_R1, v_for, k_for, v_lc, k_lc, v_lcT, cl_1s, cl_1z, v_yes, v_fgt, v_frt, v_fnx, f_ff, f_fo, f_tf, f_to, f_fs, f_ts, v_ef, v_eo, st_f, st_t, mf_nil, mf_cons, rep_s, rep_z, f_addI, f_addS, f_addL, f_addT, f_sub, f_mod, f_div, f_mulI, f_mulJ, f_mulM, f_mulS, f_pow, f_neg, f_eqI, f_eqS, f_neI, f_neS, f_ltI, f_leI, f_gtI, f_geI, f_ltS, f_is, f_isnt, f_ixL, f_ixT, a_d, se_0, se_1, se_2, i_add, f_slL, f_slT, f_slS, f_slR, f_lenS, f_lenL, f_lenT, f_intI, f_intB, f_abs, f_tupL, f_tupT, f_isi_s, atI0, atI1, atI2, atI3, List.length_cons, List.length_nil, List.cons_append, List.nil_append, Nat.reduceAdd, Nat.reduceSub, Nat.reduceLeDiff, Nat.reduceEqDiff, Int.reduceAdd, Int.reduceSub, Int.reduceMul, Int.reduceNeg, Int.reduceLT, Int.reduceLE, Int.reduceEq, Int.reduceBEq, Int.reducePow, Int.reduceToNat, Bool.not_true, Bool.not_false, decide_true, decide_false, true_and, and_true, q_take, q_one, sp_lf, len_mkS, icast, t1, t2, t3, List.length_map, cut_to, tt]
  · obtain ⟨x, b4, c, t4, hb4, rfl, hc, e1, e2, e3⟩ := sign 1
    refine ⟨_, b4, ?_, hb4, (tx_sign h hc n 1).up (by omega) (Nat.le_refl _)⟩
    simp only [b_ok, b_no, oo_some, oo_none, g_fr, g_z, g_s, sl_s, sl_fr, sl_ow, sl_io, rv_fr, rv_ow, rv_sl, fz_fr, fz_ow, kCo_, fz_s, fz_zf, fz_zo, om_some, ob_some, om_none, ow_s, ow_ow, ow_io, mu_s, mu_ow, mu_io, st_s, st_so, st_zn, st_zf, st_zo, so_zn, so_zf, so_zo, v_nm, v_nmf, v_nmo, v_nmi, v_k, v_fz, k_fz, v_anil, v_acons, k_a1, k_a2, v_bnil, v_bcons, k_b1, k_b2, v_tup, v_lst, k_tup, k_lst, v_bin, k_o1, k_o2, v_b, v_r, v_un, k_un, v_u, rvs_nil, rvs_cons, v_cons, v_call, k_call, v_l, v_mt, k_mt, v_testOf, k_t, v_truth, k_tr, v_tr, v_kk, tru_b, v_notT, k_nt, v_andT, v_orT, k_at1, k_at0, k_ot1, k_ot0, v_if, k_if1, k_if0, v_and, v_or, v_not, k_and1, k_and0, k_or1, k_or0, k_not, v_chain, k_ch1, k_ch2, v_b', k_ch3t, k_ch3f, v_pn, v_ps, k_p, v_sl, k_s1, k_s2, k_s3, v_s, v_seq, k_snx, k_srt, k_sbk, k_sct, v_ifS, k_ifS1, k_ifS0, v_skip, v_brk, v_cnt, v_exp, v_ret, k_exp, k_ret, v_set, k_set, v_n, v_asg, k_asg, a_nm, a_nil, a_cons, k_as, a_tup, v_par, v_par3, k_par, k_par3, v_setIx, k_x1, v_x1, k_mu, k_x2, v_x2, v_augIx, v_g1, k_g1, v_b2, k_g2, k_g3, v_g3, v_g4, v_aug, v_au, k_au, v_au1, v_au2, v_mut, v_m0, v_m1, k_m, v_m2, v_m3, v_callF, k_cf, v_c2, v_callI, v_i1, k_ci, v_i2, v_i3, v_it, k_it, v_itS, it_l, it_t, it_s, v_R1, k_R1, v_for, k_for, v_lc, k_lc, v_lcT, cl_1s, cl_1z, v_yes, v_fgt, v_frt, v_fnx, f_ff, f_fo, f_tf, f_to, f_fs, f_ts, v_ef, v_eo, st_f, st_t, mf_nil, mf_cons, rep_s, rep_z, f_addI, f_addS, f_addL, f_addT, f_sub, f_mod, f_div, f_mulI, f_mulJ, f_mulM, f_mulS, f_pow, f_neg, f_eqI, f_eqS, f_neI, f_neS, f_ltI, f_leI, f_gtI, f_geI, f_ltS, f_is, f_isnt, f_ixL, f_ixT, a_d, se_0, se_1, se_2, i_add, f_slL, f_slT, f_slS, f_slR, f_lenS, f_lenL, f_lenT, f_intI, f_intB, f_abs, f_tupL, f_tupT, f_isi_s, atI0, atI1, atI2, atI3, List.length_cons, List.length_nil, List.cons_append, List.nil_append, Nat.reduceAdd, Nat.reduceSub, Nat.reduceLeDiff, Nat.reduceEqDiff, Int.reduceAdd, Int.reduceSub, Int.reduceMul, Int.reduceNeg, Int.reduceLT, Int.reduceLE, Int.reduceEq, Int.reduceBEq, Int.reducePow, Int.reduceToNat, Bool.not_true, Bool.not_false, decide_true, decide_false, true_and, and_true, q_take, q_one, sp_lf, len_mkS, icast, t1, t2, t3, t4, List.length_map, cut_to, cut_from, tt, reduceIte, e1, e2, e3]
  · obtain ⟨x, b4, c, t4, hb4, rfl, hc, e1, e2, e3⟩ := sign 1
    refine ⟨_, b4, ?_, hb4, (tx_sign h hc n 1).up (by omega) (Nat.le_refl _)⟩
    simp only [b_ok, b_no, oo_some, oo_none, g_fr, g_z, g_s, sl_s, sl_fr, sl_ow, sl_io, rv_fr, rv_ow, rv_sl, fz_fr, fz_ow, kCo_, fz_s, fz_zf, fz_zo, om_some, ob_some, om_none, ow_s, ow_ow, ow_io, mu_s, mu_ow, mu_io, st_s, st_so, st_zn, st_zf, st_zo, so_zn, so_zf, so_zo, v_nm, v_nmf, v_nmo, v_nmi, v_k, v_fz, k_fz, v_anil, v_acons, k_a1, k_a2, v_bnil, v_bcons, k_b1, k_b2, v_tup, v_lst, k_tup, k_lst, v_bin, k_o1, k_o2, v_b, v_r, v_un, k_un, v_u, rvs_nil, rvs_cons, v_cons, v_call, k_call, v_l, v_mt, k_mt, v_testOf, k_t, v_truth, k_tr, v_tr, v_kk, tru_b, v_notT, k_nt, v_andT, v_orT, k_at1, k_at0, k_ot1, k_ot0, v_if, k_if1, k_if0, v_and, v_or, v_not, k_and1, k_and0, k_or1, k_or0, k_not, v_chain, k_ch1, k_ch2, v_b', k_ch3t, k_ch3f, v_pn, v_ps, k_p, v_sl, k_s1, k_s2, k_s3, v_s, v_seq, k_snx, k_srt, k_sbk, k_sct, v_ifS, k_ifS1, k_ifS0, v_skip, v_brk, v_cnt, v_exp, v_ret, k_exp, k_ret, v_set, k_set, v_n, v_asg, k_asg, a_nm, a_nil, a_cons, k_as, a_tup, v_par, v_par3, k_par, k_par3, v_setIx, k_x1, v_x1, k_mu, k_x2, v_x2, v_augIx, v_g1, k_g1, v_b2, k_g2, k_g3, v_g3, v_g4, v_aug, v_au, k_au, v_au1, v_au2, v_mut, v_m0, v_m1, k_m, v_m2, v_m3, v_callF, k_cf, v_c2, v_callI, v_i1, k_ci, v_i2, v_i3, v_it, k_it, v_itS, it_l, it_t, it_s, v_R1, k_R1, v_for, k_for, v_lc, k_lc, v_lcT, cl_1s, cl_1z, v_yes, v_fgt, v_frt, v_fnx, f_ff, f_fo, f_tf, f_to, f_fs, f_ts, v_ef, v_eo, st_f, st_t, mf_nil, mf_cons, rep_s, rep_z, f_addI, f_addS, f_addL, f_addT, f_sub, f_mod, f_div, f_mulI, f_mulJ, f_mulM, f_mulS, f_pow, f_neg, f_eqI, f_eqS, f_neI, f_neS, f_ltI, f_leI, f_gtI, f_geI, f_ltS, f_is, f_isnt, f_ixL, f_ixT, a_d, se_0, se_1, se_2, i_add, f_slL, f_slT, f_slS, f_slR, f_lenS, f_lenL, f_lenT, f_intI, f_intB, f_abs, f_tupL, f_tupT, f_isi_s, atI0, atI1, atI2, atI3, List.length_cons, List.length_nil, List.cons_append, List.nil_append, Nat.reduceAdd, Nat.reduceSub, Nat.reduceLeDiff, Nat.reduceEqDiff, Int.reduceAdd, Int.reduceSub, Int.reduceMul, Int.reduceNeg, Int.reduceLT, Int.reduceLE, Int.reduceEq, Int.reduceBEq, Int.reducePow, Int.reduceToNat, Bool.not_true, Bool.not_false, decide_true, decide_false, true_and, and_true, q_take, q_one, sp_lf, len_mkS, icast, t1, t2, t3, t4, List.length_map, cut_to, cut_from, tt, reduceIte, e1, e2, e3]
  · obtain ⟨x, b4, c, t4, hb4, rfl, hc, e1, e2, e3⟩ := sign 0
    rw [Nat.add_zero] at e2 e3
    refine ⟨_, b4, ?_, hb4, (tx_sign h hc n 0).up (by omega) (Nat.le_refl _)⟩
    simp only [b_ok, b_no, oo_some, oo_none, g_fr, g_z, g_s, sl_s, sl_fr, sl_ow, sl_io, rv_fr, rv_ow, rv_sl, fz_fr, fz_ow, kCo_, fz_s, fz_zf, fz_zo, om_some, ob_some, om_none, ow_s, ow_ow, ow_io, mu_s, mu_ow, mu_io, st_s, st_so, st_zn, st_zf, st_zo, so_zn, so_zf, so_zo, v_nm, v_nmf, v_nmo, v_nmi, v_k, v_fz, k_fz, v_anil, v_acons, k_a1, k_a2, v_bnil, v_bcons, k_b1, k_b2, v_tup, v_lst, k_tup, k_lst, v_bin, k_o1, k_o2, v_b, v_r, v_un, k_un, v_u, rvs_nil, rvs_cons, v_cons, v_call, k_call, v_l, v_mt, k_mt, v_testOf, k_t, v_truth, k_tr, v_tr, v_kk, tru_b, v_notT, k_nt, v_andT, v_orT, k_at1, k_at0, k_ot1, k_ot0, v_if, k_if1, k_if0, v_and, v_or, v_not, k_and1, k_and0, k_or1, k_or0, k_not, v_chain, k_ch1, k_ch2, v_b', k_ch3t, k_ch3f, v_pn, v_ps, k_p, v_sl, k_s1, k_s2, k_s3, v_s, v_seq, k_snx, k_srt, k_sbk, k_sct, v_ifS, k_ifS1, k_ifS0, v_skip, v_brk, v_cnt, v_exp, v_ret, k_exp, k_ret, v_set, k_set, v_n, v_asg, k_asg, a_nm, a_nil, a_cons, k_as, a_tup, v_par, v_par3, k_par, k_par3, v_setIx, k_x1, v_x1, k_mu, k_x2, v_x2, v_augIx, v_g1, k_g1, v_b2, k_g2, k_g3, v_g3, v_g4, v_aug, v_au, k_au, v_au1, v_au2, v_mut, v_m0, v_m1, k_m, v_m2, v_m3, v_callF, k_cf, v_c2, v_callI, v_i1, k_ci, v_i2, v_i3, v_it, k_it, v_itS, it_l, it_t, it_s, v_R1, k_R1, v_for, k_for, v_lc, k_lc, v_lcT, cl_1s, cl_1z, v_yes, v_fgt, v_frt, v_fnx, f_ff, f_fo, f_tf, f_to, f_fs, f_ts, v_ef, v_eo, st_f, st_t, mf_nil, mf_cons, rep_s, rep_z, f_addI, f_addS, f_addL, f_addT, f_sub, f_mod, f_div, f_mulI, f_mulJ, f_mulM, f_mulS, f_pow, f_neg, f_eqI, f_eqS, f_neI, f_neS, f_ltI, f_leI, f_gtI, f_geI, f_ltS, f_is, f_isnt, f_ixL, f_ixT, a_d, se_0, se_1, se_2, i_add, f_slL, f_slT, f_slS, f_slR, f_lenS, f_lenL, f_lenT, f_intI, f_intB, f_abs, f_tupL, f_tupT, f_isi_s, atI0, atI1, atI2, atI3, List.length_cons, List.length_nil, List.cons_append, List.nil_append, Nat.reduceAdd, Nat.reduceSub, Nat.reduceLeDiff, Nat.reduceEqDiff, Int.reduceAdd, Int.reduceSub, Int.reduceMul, Int.reduceNeg, Int.reduceLT, Int.reduceLE, Int.reduceEq, Int.reduceBEq, Int.reducePow, Int.reduceToNat, Bool.not_true, Bool.not_false, decide_true, decide_false, true_and, and_true, q_take, q_one, sp_lf, len_mkS, icast, t1, t2, t3, t4, List.length_map, cut_to, cut_from, tt, reduceIte, Bool.false_eq_true, Int.add_zero, Nat.add_zero, e1, e2, e3]
  · obtain ⟨x, b4, c, t4, hb4, rfl, hc, e1, e2, e3⟩ := sign 0
    rw [Nat.add_zero] at e2 e3
    refine ⟨_, b4, ?_, hb4, (tx_sign h hc n 0).up (by omega) (Nat.le_refl _)⟩
    simp only [b_ok, b_no, oo_some, oo_none, g_fr, g_z, g_s, sl_s, sl_fr, sl_ow, sl_io, rv_fr, rv_ow, rv_sl, fz_fr, fz_ow, kCo_, fz_s, fz_zf, fz_zo, om_some, ob_some, om_none, ow_s, ow_ow, ow_io, mu_s, mu_ow, mu_io, st_s, st_so, st_zn, st_zf, st_zo, so_zn, so_zf, so_zo, v_nm, v_nmf, v_nmo, v_nmi, v_k, v_fz, k_fz, v_anil, v_acons, k_a1, k_a2, v_bnil, v_bcons, k_b1, k_b2, v_tup, v_lst, k_tup, k_lst, v_bin, k_o1, k_o2, v_b, v_r, v_un, k_un, v_u, rvs_nil, rvs_cons, v_cons, v_call, k_call, v_l, v_mt, k_mt, v_testOf, k_t, v_truth, k_tr, v_tr, v_kk, tru_b, v_notT, k_nt, v_andT, v_orT, k_at1, k_at0, k_ot1, k_ot0, v_if, k_if1, k_if0, v_and, v_or, v_not, k_and1, k_and0, k_or1, k_or0, k_not, v_chain, k_ch1, k_ch2, v_b', k_ch3t, k_ch3f, v_pn, v_ps, k_p, v_sl, k_s1, k_s2, k_s3, v_s, v_seq, k_snx, k_srt, k_sbk, k_sct, v_ifS, k_ifS1, k_ifS0, v_skip, v_brk, v_cnt, v_exp, v_ret, k_exp, k_ret, v_set, k_set, v_n, v_asg, k_asg, a_nm, a_nil, a_cons, k_as, a_tup, v_par, v_par3, k_par, k_par3, v_setIx, k_x1, v_x1, k_mu, k_x2, v_x2, v_augIx, v_g1, k_g1, v_b2, k_g2, k_g3, v_g3, v_g4, v_aug, v_au, k_au, v_au1, v_au2, v_mut, v_m0, v_m1, k_m, v_m2, v_m3, v_callF, k_cf, v_c2, v_callI, v_i1, k_ci, v_i2, v_i3, v_it, k_it, v_itS, it_l, it_t, it_s, v_R1, k_R1, v_for, k_for, v_lc, k_lc, v_lcT, cl_1s, cl_1z, v_yes, v_fgt, v_frt, v_fnx, f_ff, f_fo, f_tf, f_to, f_fs, f_ts, v_ef, v_eo, st_f, st_t, mf_nil, mf_cons, rep_s, rep_z, f_addI, f_addS, f_addL, f_addT, f_sub, f_mod, f_div, f_mulI, f_mulJ, f_mulM, f_mulS, f_pow, f_neg, f_eqI, f_eqS, f_neI, f_neS, f_ltI, f_leI, f_gtI, f_geI, f_ltS, f_is, f_isnt, f_ixL, f_ixT, a_d, se_0, se_1, se_2, i_add, f_slL, f_slT, f_slS, f_slR, f_lenS, f_lenL, f_lenT, f_intI, f_intB, f_abs, f_tupL, f_tupT, f_isi_s, atI0, atI1, atI2, atI3, List.length_cons, List.length_nil, List.cons_append, List.nil_append, Nat.reduceAdd, Nat.reduceSub, Nat.reduceLeDiff, Nat.reduceEqDiff, Int.reduceAdd, Int.reduceSub, Int.reduceMul, Int.reduceNeg, Int.reduceLT, Int.reduceLE, Int.reduceEq, Int.reduceBEq, Int.reducePow, Int.reduceToNat, Bool.not_true, Bool.not_false, decide_true, decide_false, true_and, and_true, q_take, q_one, sp_lf, len_mkS, icast, t1, t2, t3, t4, List.length_map, cut_to, cut_from, tt, reduceIte, Bool.false_eq_true, Int.add_zero, Nat.add_zero, e1, e2, e3]
end Wk73
end
section
namespace Wk73
open PySem PySem.Spec L2 TL Ed
theorem free_ent {ws : List (List Nat)} (h : goodE ws) : ws ≠ [] ∧ szW ws ≤ 50 ∧ (∀ w ∈ ws, 10 ∉ w ∧ 32 ∉ w ∧ ∀ c ∈ w, c < 0x110000) ∧ entOk ws = true := by
  obtain ⟨p, s, rfl, ⟨hp1, hp2⟩, hs1, hs2⟩ := h
  refine ⟨by simp, ?_, fun w hw => ?_, ?_⟩
  · have := hp2.1
    have := hs2.1
    rw [szW_cons, szW_cons]
    show _ + 1 + (_ + 1 + 0) ≤ 50
    omega
  · rcases List.mem_cons.mp hw with rfl | hw
    · exact hp2.2
    · rw [List.mem_singleton.mp hw]
      exact hs2.2
  · show (pathB p && shB s) = true
    rw [hp1, hs1]
    rfl
theorem sum_le : ∀ {S : List (List (List Nat))}, (∀ ws ∈ S, goodE ws) → (S.map szW).sum ≤ S.length * 50
  | [], _ => Nat.le_refl _
  | ws :: S, h => by
    have h1 := (free_ent (h ws (List.mem_cons_self ..))).2.1
    have h2 := sum_le fun x hx => h x (List.mem_cons_of_mem _ hx)
    rw [List.map_cons, List.sum_cons, List.length_cons, Nat.add_mul]
    omega
theorem szJ : ∀ {S : List (List (List Nat))}, (∀ ws ∈ S, goodE ws) → szW (S.map (joinL [32])) ≤ S.length * 50
  | [], _ => Nat.le_refl _
  | ws :: S, h => by
    have h1 := free_ent (h ws (List.mem_cons_self ..))
    have h2 := szJ fun x hx => h x (List.mem_cons_of_mem _ hx)
    have h3 := szW_join 32 h1.1
    rw [List.map_cons, szW_cons, List.length_cons, Nat.add_mul]
    omega
def goodK (k : Option (List Nat)) : Prop := k = none ∨ ∃ s, k = some s ∧ goodS s
theorem lock_word {k : Option (List Nat)} (h : goodK k) : goodW 26 (lockW k) ∧ (decide (lockW k = [45]) || shB (lockW k)) = true := by
  rcases h with rfl | ⟨s, rfl, hs⟩
  · exact ⟨⟨by decide, by decide, by decide, by decide⟩, rfl⟩
  · refine ⟨hs.2, ?_⟩
    show (_ || shB s) = true
    rw [hs.1, Bool.or_true]
section
variable {S : List (List (List Nat))} {k : Option (List Nat)} (hl : S.length ≤ 7) (hg : ∀ ws ∈ S, goodE ws) (hk : goodK k)
include hl hg hk
theorem lines_ok : szW (linesM S k) ≤ 399 ∧ ∀ p ∈ linesM S k, p.length ≤ 49 ∧ 10 ∉ p ∧ ∀ c ∈ p, c < 0x110000 := by
  have hn := numT_len (n := S.length) (by omega)
  have hj := szJ hg
  have hkw := (lock_word hk).1
  have hkl := hkw.1
  refine ⟨?_, fun p hp => ?_⟩
  · unfold linesM
    rw [szW_cons, szW_app, szW_cons, lnEnt_len, lnLock_len]
    have : szW [] = 0 := rfl
    omega
  · unfold linesM at hp
    rcases List.mem_cons.mp hp with rfl | hp
    · refine ⟨by rw [lnEnt_len]; omega, fun w => ?_, fun c hc => ?_⟩
      · unfold lnEnt at w
        rcases List.mem_append.mp w with w | w
        · revert w; decide
        · rcases List.mem_cons.mp w with w | w
          · cases w
          · exact numT_free ⟨by decide, .inl (by decide)⟩ w
      · unfold lnEnt at hc
        rcases List.mem_append.mp hc with w | w
        · exact (by decide : ∀ c ∈ wEnt, c < 0x110000) c w
        · rcases List.mem_cons.mp w with rfl | w
          · decide
          · by_cases z : c < 0x110000
            · exact z
            · exact absurd w (numT_free ⟨by omega, .inr (by omega)⟩)
    · rcases List.mem_append.mp hp with hp | hp
      · obtain ⟨ws, hws, rfl⟩ := List.mem_map.mp hp
        obtain ⟨f1, f2, f3, _⟩ := free_ent (hg ws hws)
        have h3 := szW_join 32 f1
        refine ⟨by omega, fun w => ?_, fun c hc => ?_⟩
        · rcases joinL_mem _ _ w with z | ⟨v, z1, z2⟩
          · revert z; decide
          · exact (f3 v z1).1 z2
        · rcases joinL_mem _ _ hc with z | ⟨v, z1, z2⟩
          · rw [List.mem_singleton.mp z]; decide
          · exact (f3 v z1).2.2 c z2
      · rw [List.mem_singleton.mp hp]
        refine ⟨by rw [lnLock_len]; omega, fun w => ?_, fun c hc => ?_⟩
        · unfold lnLock at w
          rcases List.mem_append.mp w with w | w
          · revert w; decide
          · rcases List.mem_cons.mp w with w | w
            · cases w
            · exact hkw.2.1 w
        · unfold lnLock at hc
          rcases List.mem_append.mp hc with w | w
          · exact (by decide : ∀ c ∈ wLock, c < 0x110000) c w
          · rcases List.mem_cons.mp w with rfl | w
            · decide
            · exact hkw.2.2.2 c w
theorem text_tx : TX 398 49 (textM S k) := tx_join (lines_ok hl hg hk).1 (lines_ok hl hg hk).2
theorem text_back (hi : incr (S.map fun ws => ws.headD []) = true) (hkk : keyO (lockW k) = k) : r_read_manifest [.str (mkS (textM S k))] = .ok (.fr (manD S k)) none := by
  have hkw := lock_word hk
  have hs : spl [10] 0 [] (textM S k) = lnEnt S.length :: (S.map (joinL [32]) ++ [lnLock (lockW k)]) :=
    spl_join (by unfold linesM; simp) fun p hp => ((lines_ok hl hg hk).2 p hp).2.1
  have hws : ∀ ws ∈ S, spl [32] 0 [] (joinL [32] ws) = ws := fun ws h => spl_join (free_ent (hg ws h)).1 fun w hw => ((free_ent (hg ws h)).2.2.1 w hw).2.1
  have hm : (S.map (joinL [32])).map (spl [32] 0 []) = S := by
    rw [List.map_map]
    exact (List.map_congr_left hws).trans (List.map_id' S)
  have hh : (S.map (joinL [32])).map hdW = S.map fun ws => ws.headD [] := by
    rw [List.map_map]
    refine List.map_congr_left fun ws h => ?_
    show (spl [32] 0 [] (joinL [32] ws)).headD [] = _
    rw [hws ws h]
  have hz : spl [32] 0 [] (lnLock (lockW k)) = [wLock, lockW k] := spl_join (s := 32) (S := []) (parts := [wLock, lockW k]) (by simp) fun p hp => by
    rcases List.mem_cons.mp hp with rfl | hp
    · decide
    · rw [List.mem_singleton.mp hp]
      exact hkw.1.2.2.1
  have hkey : keyW (lnLock (lockW k)) = lockW k := by unfold keyW; rw [hz]; rfl
  have hgood : goodM (lnEnt S.length) (S.map (joinL [32])) (lnLock (lockW k)) = true := by
    have ha : ((S.map (joinL [32])).all fun x => entOk (spl [32] 0 [] x)) = true := by
      rw [List.all_map, List.all_eq_true]
      intro ws h
      show entOk (spl [32] 0 [] (joinL [32] ws)) = true
      rw [hws ws h]
      exact (free_ent (hg ws h)).2.2.2
    unfold goodM
    rw [ha, hh, hi, hkey, hz, hkw.2, List.length_map, decide_eq_true rfl, decide_eq_true rfl]
    rfl
  have := sp_readM2 hs (Nat.le_trans (text_tx hl hg hk).len (by decide))
  rw [this]
  unfold readM
  rw [hgood, hm, hkey, hkk]
theorem text_sz : (∀ ws ∈ S, isPair ws) ∧ (S.map szW).sum ≤ 1000000 ∧ S.length ≤ 1000000 ∧ (lockW k).length ≤ 1000000 := by
  have h1 := sum_le hg
  have h2 := (lock_word hk).1.1
  exact ⟨fun ws h => entOk_pair (free_ent (hg ws h)).2.2.2, by omega, by omega, by omega⟩
end
theorem ok_man {S : List (List (List Nat))} {k : Option (List Nat)} (h : ∀ ws ∈ S, ∀ w ∈ ws, sOk (mkS w)) (hk : sOk (mkS (lockW k))) (hz : (S.map szW).sum + S.length + (lockW k).length ≤ 9000) : okD 3 10000 (manD S k) := by
  have h1 : ∀ ws ∈ S, okD 1 (stepD ws).bulk (stepD ws) := fun ws hws => ok_tupB fun x hx => by
    obtain ⟨w, hw, rfl⟩ := List.mem_map.mp hx
    exact ok_str (h ws hws w hw)
  have h2 : okD 2 (PyData.bulkAll (S.map stepD)) (.tuple (S.map stepD)) := ok_tupB fun x hx => by
    obtain ⟨w, hw, rfl⟩ := List.mem_map.mp hx
    exact h1 w hw
  have h4 : okD 2 (lockD k).bulk (lockD k) ∧ (lockD k).bulk ≤ (lockW k).length := by
    cases k with
    | none => exact ⟨ok_none.up (by omega) (Nat.zero_le _), Nat.zero_le _⟩
    | some s => exact ⟨(ok_str hk).up (by omega) (Nat.le_refl _), Nat.le_of_eq (len_mkS s)⟩
  have h3 := ok_tupB (n := 2) (xs := [.tuple (S.map stepD), lockD k]) fun x hx => by
    rcases List.mem_cons.mp hx with rfl | hx
    · exact h2
    · rw [List.mem_singleton.mp hx]
      exact h4.1
  refine h3.up (Nat.le_refl _) ?_
  show PyData.bulkAll (S.map stepD) + 1 + ((lockD k).bulk + 1 + 0) ≤ _
  have := h4.2
  rw [bulk_steps]
  omega
theorem read_same {l : List Nat} (h : TX 570 570 l) : ∃ d, r_read_manifest [.str (mkS l)] = .ok (.fr d) none ∧ r_law_read_manifest [.str (mkS l)] = .ok (.fr d) none ∧ okD 3 10000 d := by
  have hlen := h.len
  generalize hs : spl [10] 0 [] l = ls
  rcases List.eq_nil_or_concat ls with e | ⟨i, z, e⟩
  · exact absurd (hs.trans e) (spl_ne 10 l [])
  · rw [List.concat_eq_append] at e
    cases i with
    | nil =>
      have hx := hs.trans e
      exact ⟨.none, sp_readM1 hx hlen, sp_lawreadM1 hx, ok_none.up (by omega) (by omega)⟩
    | cons a m =>
      have hx : spl [10] 0 [] l = a :: (m ++ [z]) := hs.trans e
      refine ⟨_, sp_readM2 hx hlen, sp_lawreadM2 hx hlen, ?_⟩
      unfold readM
      cases goodM a m z with
      | false => exact ok_none.up (by omega) (by omega)
      | true =>
        have hsz : szW (a :: (m ++ [z])) = l.length + 1 := by rw [← hx, szW_spl]; simp
        rw [szW_cons, szW_app, szW_cons] at hsz
        have hlines := h.lines
        rw [hx] at hlines
        have wsok : ∀ x ∈ a :: (m ++ [z]), ∀ w ∈ spl [32] 0 [] x, sOk (mkS w) := fun x hx w hw => by
          have h1 := hlines x hx
          have h2 := spl_len _ _ _ w hw
          rw [List.length_nil] at h2
          refine ⟨?_, fun c hc => ?_⟩
          · rw [len_mkS]
            show _ ≤ 8000000
            omega
          · rcases spl_mem _ _ _ w hw c hc with q | q
            · cases q
            · exact h1.2.2 c q
        have hml := szW_len m
        have hkk : (keyW z) ∈ spl [32] 0 [] z ∨ keyW z = [] := by
          unfold keyW
          cases q : spl [32] 0 [] z with
          | nil => exact .inr rfl
          | cons u r =>
            cases r with
            | nil => exact .inr rfl
            | cons v r => exact .inl (by simp)
        refine ok_man (fun ws hws w hw => ?_) ?_ ?_
        · obtain ⟨x, hxm, rfl⟩ := List.mem_map.mp hws
          exact wsok x (List.mem_cons_of_mem _ (List.mem_append_left _ hxm)) w hw
        · rw [keyO_w]
          rcases hkk with q | q
          · exact wsok z (by simp) _ q
          · rw [q]
            exact sOk.empty
        · rw [keyO_w, map_sz, List.length_map]
          have : (keyW z).length ≤ 570 := by
            rcases hkk with q | q
            · have h1 := spl_len _ _ _ _ q
              have h2 := (hlines z (by simp)).1
              rw [List.length_nil] at h1
              omega
            · rw [q]; exact Nat.zero_le _
          have : szW [] = 0 := rfl
          omega
end Wk73
end
section
namespace Wk73
open PySem PySem.Spec L2 TL Ed
def bodyT : SC := (cIfS (cNotT (cTruth (cCallF 2 r_law_alike (cACons (cFz (cCallF 1 r_read_manifest (cACons (cFz (cNm 7)) (cANil)))) (cACons (cFz (cCallF 1 r_law_read_manifest (cACons (cFz (cNm 7)) (cANil)))) (cANil)))))) (cRet (cK (.bool false))) (cSkip))
theorem bodyT_ok {l : List Nat} (h : TX 570 570 l) (a0 a1 a2 a3 a4 a5 a6 a8 a9 : Sl) : bodyT [a0, a1, a2, a3, a4, a5, a6, .fr (.str (mkS l)), a8, a9] = .ok (.nx [a0, a1, a2, a3, a4, a5, a6, .fr (.str (mkS l)), a8, a9]) := by
  obtain ⟨d, h1, h2, h3⟩ := read_same h
  have h4 := alike_ok h3 (by omega) (by omega)
  unfold bodyT
  simp only [b_ok, b_no, oo_some, oo_none, g_fr, g_z, g_s, sl_s, sl_fr, sl_ow, sl_io, rv_fr, rv_ow, rv_sl, fz_fr, fz_ow, kCo_, fz_s, fz_zf, fz_zo, om_some, ob_some, om_none, ow_s, ow_ow, ow_io, mu_s, mu_ow, mu_io, st_s, st_so, st_zn, st_zf, st_zo, so_zn, so_zf, so_zo, v_nm, v_nmf, v_nmo, v_nmi, v_k, v_fz, k_fz, v_anil, v_acons, k_a1, k_a2, v_bnil, v_bcons, k_b1, k_b2, v_tup, v_lst, k_tup, k_lst, v_bin, k_o1, k_o2, v_b, v_r, v_un, k_un, v_u, rvs_nil, rvs_cons, v_cons, v_call, k_call, v_l, v_mt, k_mt, v_testOf, k_t, v_truth, k_tr, v_tr, v_kk, tru_b, v_notT, k_nt, v_andT, v_orT, k_at1, k_at0, k_ot1, k_ot0, v_if, k_if1, k_if0, v_and, v_or, v_not, k_and1, k_and0, k_or1, k_or0, k_not, v_chain, k_ch1, k_ch2, v_b', k_ch3t, k_ch3f, v_pn, v_ps, k_p, v_sl, k_s1, k_s2, k_s3, v_s, v_seq, k_snx, k_srt, k_sbk, k_sct, v_ifS, k_ifS1, k_ifS0, v_skip, v_brk, v_cnt, v_exp, v_ret, k_exp, k_ret, v_set, k_set, v_n, v_asg, k_asg, a_nm, a_nil, a_cons, k_as, a_tup, v_par, v_par3, k_par, k_par3, v_setIx, k_x1, v_x1, k_mu, k_x2, v_x2, v_augIx, v_g1, k_g1, v_b2, k_g2, k_g3, v_g3, v_g4, v_aug, v_au, k_au, v_au1, v_au2, v_mut, v_m0, v_m1, k_m, v_m2, v_m3, v_callF, k_cf, v_c2, v_callI, v_i1, k_ci, v_i2, v_i3, v_it, k_it, v_itS, it_l, it_t, it_s, v_R1, k_R1, v_for, k_for, v_lc, k_lc, v_lcT, cl_1s, cl_1z, v_yes, v_fgt, v_frt, v_fnx, f_ff, f_fo, f_tf, f_to, f_fs, f_ts, v_ef, v_eo, st_f, st_t, mf_nil, mf_cons, rep_s, rep_z, f_addI, f_addS, f_addL, f_addT, f_sub, f_mod, f_div, f_mulI, f_mulJ, f_mulM, f_mulS, f_pow, f_neg, f_eqI, f_eqS, f_neI, f_neS, f_ltI, f_leI, f_gtI, f_geI, f_ltS, f_is, f_isnt, f_ixL, f_ixT, a_d, se_0, se_1, se_2, i_add, f_slL, f_slT, f_slS, f_slR, f_lenS, f_lenL, f_lenT, f_intI, f_intB, f_abs, f_tupL, f_tupT, f_isi_s, atI0, atI1, atI2, atI3, List.length_cons, List.length_nil, List.cons_append, List.nil_append, Nat.reduceAdd, Nat.reduceSub, Nat.reduceLeDiff, Nat.reduceEqDiff, Int.reduceAdd, Int.reduceSub, Int.reduceMul, Int.reduceNeg, Int.reduceLT, Int.reduceLE, Int.reduceEq, Int.reduceBEq, Int.reducePow, Int.reduceToNat, Bool.not_true, Bool.not_false, decide_true, decide_false, true_and, and_true, q_alike, h1, h2, h4]
theorem near_in {b : D} {l : List Nat} {L M : Nat} (hb : isBag b) (h : TX L M l) (hL : L ≤ 600) (hM : 15 ≤ M) (hM2 : M ≤ 110) : ∃ l' b', r_law_near_text [b, .str (mkS l)] = .ok (.fr (.str (mkS l'))) (some b') ∧ isBag b' ∧ TX (L + M + 1) (2 * M + 1) l' := near_ok hb h (by omega) hM (by omega)
theorem far_ok {x : D} (h : x ∈ ([.int 19, .int 18, .int 20] : List D)) : ∃ Z F A1 A2 A3, fMul2 (.str "0") x = some (.fr (.str Z)) ∧ fAdd (.str "store/c1") (.str Z) = some (.fr (.str F)) ∧ fAdd (.str "entries 0\nlock ") (.str F) = some (.fr (.str A1)) ∧ fAdd (.str "entries 1\na ") (.str F) = some (.fr (.str A2)) ∧ fAdd (.str A2) (.str "\nlock -") = some (.fr (.str A3)) ∧ strOk (.str A1) = true ∧ strOk (.str A3) = true := by
  simp only [List.mem_cons, List.not_mem_nil, or_false] at h
  rcases h with rfl | rfl | rfl
  · exact ⟨_, _, _, _, _, f_mulS _ _ (by decide) (by decide +kernel) (by decide), f_addS _ _ (by decide +kernel), f_addS _ _ (by decide +kernel), f_addS _ _ (by decide +kernel), f_addS _ _ (by decide +kernel), by decide +kernel, by decide +kernel⟩
  · exact ⟨_, _, _, _, _, f_mulS _ _ (by decide) (by decide +kernel) (by decide), f_addS _ _ (by decide +kernel), f_addS _ _ (by decide +kernel), f_addS _ _ (by decide +kernel), f_addS _ _ (by decide +kernel), by decide +kernel, by decide +kernel⟩
  · exact ⟨_, _, _, _, _, f_mulS _ _ (by decide) (by decide +kernel) (by decide), f_addS _ _ (by decide +kernel), f_addS _ _ (by decide +kernel), f_addS _ _ (by decide +kernel), f_addS _ _ (by decide +kernel), by decide +kernel, by decide +kernel⟩
theorem six_ok : ([.str "", .str "entries", .str "entries 0", .str "entries 0\nlock -", .str "entries 0\nlock -\n", .str "entries 1\nlock -"] : List D).all strOk = true := by decide +kernel
structure InvL (s : D) (r : DE) : Prop where
  ex : ∃ (b : D) (X2 X3 X4 X5 X6 X7 : Sl), r = [.fr s, .ow b, X2, X3, X4, X5, X6, X7, .no, .no] ∧ isBag b ∧ isIo X2 = false ∧ isIo X3 = false ∧ isIo X4 = false ∧ isIo X5 = false ∧ isIo X6 = false ∧ isIo X7 = false
def bodyL : SC := (cSeq (cSet 3 (cCallI 1 r_law_drawn_manifest 1 (cANil))) (cSeq (cSet 4 (cCallF 1 r_law_manifest_text (cACons (cFz (cNm 3)) (cANil)))) (cSeq (cIfS (cNotT (cTruth (cCallF 2 r_law_alike (cACons (cFz (cLst (cACons (cFz (cCallF 1 r_manifest_text (cACons (cFz (cNm 3)) (cANil)))) (cACons (cFz (cCallF 1 r_read_manifest (cACons (cFz (cNm 4)) (cANil)))) (cANil))))) (cACons (cFz (cLst (cACons (cFz (cNm 4)) (cACons (cFz (cNm 3)) (cANil))))) (cANil)))))) (cRet (cK (.bool false))) (cSkip)) (cSeq (cSet 5 (cLc [8] (aNm 8) (cR3 (cK (.int 0)) (cCall fLen (cBCons (cNm 4) (cBNil))) (cBin fAdd (cK (.int 1)) (cCallI 2 r_law_take 1 (cACons (cFz (cK (.int 5))) (cANil))))) (cYes) (cFz (cSl fSl (cNm 4) (cPNone) (cPSome (cNm 8)))))) (cSeq (cSet 5 (cBin fAdd (cBin fAdd (cNm 5) (cLc [9] (aNm 9) (cR1 (cK (.int 12))) (cYes) (cFz (cCallI 2 r_law_near_text 1 (cACons (cFz (cNm 4)) (cANil)))))) (cLst (cACons (cFz (cCallI 2 r_law_near_text 1 (cACons (cFz (cCallI 2 r_law_near_text 1 (cACons (cFz (cNm 4)) (cANil)))) (cANil)))) (cANil))))) (cSeq (cSet 6 (cBin fAdd (cK (.str "store/c1")) (cBin fMul2 (cK (.str "0")) (cCallI 2 r_law_one 1 (cACons (cFz (cLst (cACons (cFz (cK (.int 19))) (cACons (cFz (cK (.int 18))) (cACons (cFz (cK (.int 20))) (cANil)))))) (cANil)))))) (cSeq (cSet 5 (cBin fAdd (cNm 5) (cLst (cACons (cFz (cBin fAdd (cK (.str "entries 0\nlock ")) (cNm 6))) (cACons (cFz (cBin fAdd (cBin fAdd (cK (.str "entries 1\na ")) (cNm 6)) (cK (.str "\nlock -")))) (cANil)))))) (cFor (aNm 7) (cIt (cFz (cBin fAdd (cNm 5) (cLst (cACons (cFz (cK (.str ""))) (cACons (cFz (cK (.str "entries"))) (cACons (cFz (cK (.str "entries 0"))) (cACons (cFz (cK (.str "entries 0\nlock -"))) (cACons (cFz (cK (.str "entries 0\nlock -\n"))) (cACons (cFz (cK (.str "entries 1\nlock -"))) (cANil))))))))))) (cIfS (cNotT (cTruth (cCallF 2 r_law_alike (cACons (cFz (cCallF 1 r_read_manifest (cACons (cFz (cNm 7)) (cANil)))) (cACons (cFz (cCallF 1 r_law_read_manifest (cACons (cFz (cNm 7)) (cANil)))) (cANil)))))) (cRet (cK (.bool false))) (cSkip))))))))))
theorem bodyL_ok {s : D} {b t : D} {X3 X4 X5 X6 X7 : Sl} (hb : isBag b) (h3 : isIo X3 = false) (h4 : isIo X4 = false) (h5 : isIo X5 = false) (h6 : isIo X6 = false) (h7 : isIo X7 = false) :
    ∃ r', bodyL [.fr s, .ow b, .fr t, X3, X4, X5, X6, X7, .no, .no] = .ok (.nx r') ∧ InvL s r' := by
  obtain ⟨S, k, b1, t1, hb1, hl, hg, hi, hkk, hk⟩ := drawn_ok hb
  obtain ⟨z0, z1, z2, z3⟩ := text_sz hl hg hk
  have tx := text_tx hl hg hk
  have e1 := sp_manifest_text z0 z1 z2 z3
  have e2 := sp_law_manifest_text z0 z1 z2 z3
  have e3 := text_back hl hg hk hi hkk
  have okT : okD 3 10000 (.str (mkS (textM S k))) := (ok_str (tx.sok (by decide))).up (by omega) (by rw [len_mkS]; have := tx.len; omega)
  have hkw := (lock_word hk).1
  have okG : okD 3 10000 (manD S k) := ok_man (fun ws hws w hw => by
      have f := free_ent (hg ws hws)
      refine ⟨?_, (f.2.2.1 w hw).2.2⟩
      rw [len_mkS]
      have : szW ws ≤ 50 := f.2.1
      have : w.length + 1 ≤ szW ws := mem_sum_le (List.mem_map_of_mem (f := fun w : List Nat => w.length + 1) hw)
      show _ ≤ 8000000
      omega) ⟨by rw [len_mkS]; have := hkw.1; show _ ≤ 8000000; omega, hkw.2.2.2⟩ (by have := sum_le hg; have := hkw.1; omega)
  have al := alike_ok (ok_list (n := 3) (w := 10000) (xs := [.str (mkS (textM S k)), manD S k]) fun x hx => by
    rcases List.mem_cons.mp hx with rfl | hx
    · exact okT
    · rw [List.mem_singleton.mp hx]
      exact okG) (by omega) (by show 2 * 10001 ≤ _; omega)
  obtain ⟨v, b2, t2, hb2, v0, v1⟩ := take_ok (m := 5) hb1 (by decide) (by decide)
  generalize hT : textM S k = T at *
  have hTl := tx.len
  -- the texts that begin it
  have hn : ((((T.length : Nat) : Int) + (1 + v) - 1) / (1 + v)).toNat ≤ 1000 := by
    have : (((T.length : Nat) : Int) + (1 + v) - 1) / (1 + v) ≤ ((T.length : Nat) : Int) + (1 + v) - 1 := Int.ediv_le_self _ (by omega)
    omega
  obtain ⟨ys, r1, f1, i1, i2, i3⟩ := lc_inv (vs := [8]) (as := aNm 8) (c := cFz (cSl fSl (cNm 4) (cPNone) (cPSome (cNm 8)))) (fun r => r = [.fr s, .ow b2, .fr t, .fr (manD S k), .fr (.str (mkS T)), X5, X6, X7, .no, .no]) El (rng3 0 (1 + v) ((((T.length : Nat) : Int) + (1 + v) - 1) / (1 + v)).toNat) [.fr s, .ow b2, .fr t, .fr (manD S k), .fr (.str (mkS T)), X5, X6, X7, .no, .no] (fun d hd r hr => by
    subst hr
    obtain ⟨i, _, rfl⟩ := List.mem_map.mp hd
    obtain ⟨w, hw⟩ := Int.eq_ofNat_of_zero_le (show 0 ≤ 0 + (i : Nat) * (1 + v) by have := Int.mul_nonneg (show (0 : Int) ≤ (i : Nat) by omega) (show 0 ≤ 1 + v by omega); omega)
    rw [hw]
    refine ⟨[.fr s, .ow b2, .fr t, .fr (manD S k), .fr (.str (mkS T)), X5, X6, X7, .fr (.int w), .no], [.fr s, .ow b2, .fr t, .fr (manD S k), .fr (.str (mkS T)), X5, X6, X7, .fr (.int w), .no], .str (mkS (T.take w)), rfl, ?_, ⟨_, rfl, (tx.take w).up (by omega) (by omega)⟩, rfl⟩
    simp only [b_ok, b_no, oo_some, oo_none, g_fr, g_z, g_s, sl_s, sl_fr, sl_ow, sl_io, rv_fr, rv_ow, rv_sl, fz_fr, fz_ow, kCo_, fz_s, fz_zf, fz_zo, om_some, ob_some, om_none, ow_s, ow_ow, ow_io, mu_s, mu_ow, mu_io, st_s, st_so, st_zn, st_zf, st_zo, so_zn, so_zf, so_zo, v_nm, v_nmf, v_nmo, v_nmi, v_k, v_fz, k_fz, v_anil, v_acons, k_a1, k_a2, v_bnil, v_bcons, k_b1, k_b2, v_tup, v_lst, k_tup, k_lst, v_bin, k_o1, k_o2, v_b, v_r, v_un, k_un, v_u, rvs_nil, rvs_cons, v_cons, v_call, k_call, v_l, v_mt, k_mt, v_testOf, k_t, v_truth, k_tr, v_tr, v_kk, tru_b, v_notT, k_nt, v_andT, v_orT, k_at1, k_at0, k_ot1, k_ot0, v_if, k_if1, k_if0, v_and, v_or, v_not, k_and1, k_and0, k_or1, k_or0, k_not, v_chain, k_ch1, k_ch2, v_b', k_ch3t, k_ch3f, v_pn, v_ps, k_p, v_sl, k_s1, k_s2, k_s3, v_s, v_seq, k_snx, k_srt, k_sbk, k_sct, v_ifS, k_ifS1, k_ifS0, v_skip, v_brk, v_cnt, v_exp, v_ret, k_exp, k_ret, v_set, k_set, v_n, v_asg, k_asg, a_nm, a_nil, a_cons, k_as, a_tup, v_par, v_par3, k_par, k_par3, v_setIx, k_x1, v_x1, k_mu, k_x2, v_x2, v_augIx, v_g1, k_g1, v_b2, k_g2, k_g3, v_g3, v_g4, v_aug, v_au, k_au, v_au1, v_au2, v_mut, v_m0, v_m1, k_m, v_m2, v_m3, v_callF, k_cf, v_c2, v_callI, v_i1, k_ci, v_i2, v_i3, v_it, k_it, v_itS, it_l, it_t, it_s, v_R1, k_R1, v_for, k_for, v_lc, k_lc, v_lcT, cl_1s, cl_1z, v_yes, v_fgt, v_frt, v_fnx, f_ff, f_fo, f_tf, f_to, f_fs, f_ts, v_ef, v_eo, st_f, st_t, mf_nil, mf_cons, rep_s, rep_z, f_addI, f_addS, f_addL, f_addT, f_sub, f_mod, f_div, f_mulI, f_mulJ, f_mulM, f_mulS, f_pow, f_neg, f_eqI, f_eqS, f_neI, f_neS, f_ltI, f_leI, f_gtI, f_geI, f_ltS, f_is, f_isnt, f_ixL, f_ixT, a_d, se_0, se_1, se_2, i_add, f_slL, f_slT, f_slS, f_slR, f_lenS, f_lenL, f_lenT, f_intI, f_intB, f_abs, f_tupL, f_tupT, f_isi_s, atI0, atI1, atI2, atI3, List.length_cons, List.length_nil, List.cons_append, List.nil_append, Nat.reduceAdd, Nat.reduceSub, Nat.reduceLeDiff, Nat.reduceEqDiff, Int.reduceAdd, Int.reduceSub, Int.reduceMul, Int.reduceNeg, Int.reduceLT, Int.reduceLE, Int.reduceEq, Int.reduceBEq, Int.reducePow, Int.reduceToNat, Bool.not_true, Bool.not_false, decide_true, decide_false, true_and, and_true, cut_to, tl_mkS]) rfl
  subst i1
  have l1 : ys.length ≤ 1000 := by
    rw [i3]
    unfold rng3
    rw [List.length_map, List.length_range]
    exact hn
  -- twelve near texts
  obtain ⟨zs, r2, f2, j1, j2, j3⟩ := lc_inv (vs := [9]) (as := aNm 9) (c := cFz (cCallI 2 r_law_near_text 1 (cACons (cFz (cNm 4)) (cANil)))) (fun r => ∃ b, r = [.fr s, .ow b, .fr t, .fr (manD S k), .fr (.str (mkS T)), .ow (.list ys), X6, X7, .no, .no] ∧ isBag b) El (rng 0 12) [.fr s, .ow b2, .fr t, .fr (manD S k), .fr (.str (mkS T)), .ow (.list ys), X6, X7, .no, .no] (fun d hd r hr => by
    obtain ⟨b, rfl, hb⟩ := hr
    obtain ⟨l', b', n1, n2, n3⟩ := near_in hb tx (by omega) (by omega) (by omega)
    refine ⟨[.fr s, .ow b, .fr t, .fr (manD S k), .fr (.str (mkS T)), .ow (.list ys), X6, X7, .no, .fr d], [.fr s, .ow b', .fr t, .fr (manD S k), .fr (.str (mkS T)), .ow (.list ys), X6, X7, .no, .fr d], .str (mkS l'), rfl, ?_, ⟨_, rfl, n3.up (by omega) (by omega)⟩, b', rfl, n2⟩
    simp only [b_ok, b_no, oo_some, oo_none, g_fr, g_z, g_s, sl_s, sl_fr, sl_ow, sl_io, rv_fr, rv_ow, rv_sl, fz_fr, fz_ow, kCo_, fz_s, fz_zf, fz_zo, om_some, ob_some, om_none, ow_s, ow_ow, ow_io, mu_s, mu_ow, mu_io, st_s, st_so, st_zn, st_zf, st_zo, so_zn, so_zf, so_zo, v_nm, v_nmf, v_nmo, v_nmi, v_k, v_fz, k_fz, v_anil, v_acons, k_a1, k_a2, v_bnil, v_bcons, k_b1, k_b2, v_tup, v_lst, k_tup, k_lst, v_bin, k_o1, k_o2, v_b, v_r, v_un, k_un, v_u, rvs_nil, rvs_cons, v_cons, v_call, k_call, v_l, v_mt, k_mt, v_testOf, k_t, v_truth, k_tr, v_tr, v_kk, tru_b, v_notT, k_nt, v_andT, v_orT, k_at1, k_at0, k_ot1, k_ot0, v_if, k_if1, k_if0, v_and, v_or, v_not, k_and1, k_and0, k_or1, k_or0, k_not, v_chain, k_ch1, k_ch2, v_b', k_ch3t, k_ch3f, v_pn, v_ps, k_p, v_sl, k_s1, k_s2, k_s3, v_s, v_seq, k_snx, k_srt, k_sbk, k_sct, v_ifS, k_ifS1, k_ifS0, v_skip, v_brk, v_cnt, v_exp, v_ret, k_exp, k_ret, v_set, k_set, v_n, v_asg, k_asg, a_nm, a_nil, a_cons, k_as, a_tup, v_par, v_par3, k_par, k_par3, v_setIx, k_x1, v_x1, k_mu, k_x2, v_x2, v_augIx, v_g1, k_g1, v_b2, k_g2, k_g3, v_g3, v_g4, v_aug, v_au, k_au, v_au1, v_au2, v_mut, v_m0, v_m1, k_m, v_m2, v_m3, v_callF, k_cf, v_c2, v_callI, v_i1, k_ci, v_i2, v_i3, v_it, k_it, v_itS, it_l, it_t, it_s, v_R1, k_R1, v_for, k_for, v_lc, k_lc, v_lcT, cl_1s, cl_1z, v_yes, v_fgt, v_frt, v_fnx, f_ff, f_fo, f_tf, f_to, f_fs, f_ts, v_ef, v_eo, st_f, st_t, mf_nil, mf_cons, rep_s, rep_z, f_addI, f_addS, f_addL, f_addT, f_sub, f_mod, f_div, f_mulI, f_mulJ, f_mulM, f_mulS, f_pow, f_neg, f_eqI, f_eqS, f_neI, f_neS, f_ltI, f_leI, f_gtI, f_geI, f_ltS, f_is, f_isnt, f_ixL, f_ixT, a_d, se_0, se_1, se_2, i_add, f_slL, f_slT, f_slS, f_slR, f_lenS, f_lenL, f_lenT, f_intI, f_intB, f_abs, f_tupL, f_tupT, f_isi_s, atI0, atI1, atI2, atI3, List.length_cons, List.length_nil, List.cons_append, List.nil_append, Nat.reduceAdd, Nat.reduceSub, Nat.reduceLeDiff, Nat.reduceEqDiff, Int.reduceAdd, Int.reduceSub, Int.reduceMul, Int.reduceNeg, Int.reduceLT, Int.reduceLE, Int.reduceEq, Int.reduceBEq, Int.reducePow, Int.reduceToNat, Bool.not_true, Bool.not_false, decide_true, decide_false, true_and, and_true, n1]) ⟨b2, rfl, hb2⟩
  obtain ⟨b3, rfl, hb3⟩ := j1
  have l2 : zs.length = 12 := by rw [j3]; rfl
  obtain ⟨u, b4, n1, hb4, hu⟩ := near_in hb3 tx (by omega) (by omega) (by omega)
  obtain ⟨u2, b5, n2, hb5, hu2⟩ := near_in hb4 hu (by omega) (by omega) (by omega)
  obtain ⟨x, b6, t6, hb6, hx⟩ := one_ok (ts := [.int 19, .int 18, .int 20]) hb5 (by simp) (by decide)
  obtain ⟨Z, F, A1, A2, A3, c1, c2, c3, c4, c5, o1, o3⟩ := far_ok hx
  have g1 : 1 ≤ 1 + v := by omega
  have g2 : 1 + v < 1000000 := by omega
  have g3 : (0 : Int) ≤ ((T.length : Nat) : Int) := by omega
  have g4 : ((T.length : Nat) : Int) ≤ 1000000 := by omega
  have g5 : ys.length + zs.length ≤ 16777216 := by omega
  have g6 : ys.length + zs.length + 1 ≤ 16777216 := by omega
  have g7 : ys.length + zs.length + 1 + 2 ≤ 16777216 := by omega
  have g8 : ys.length + zs.length + 1 + 2 + 6 ≤ 16777216 := by omega
  have hfor : ∀ ds : List D, (∀ d ∈ ds, El d) → ∀ X5 : Sl, ∃ X, isIo X = false ∧ forD (aNm 7) bodyT ds [.fr s, .ow b6, .fr t, .fr (manD S k), .fr (.str (mkS T)), X5, .fr (.str F), X7, .no, .no] = .ok (.nx [.fr s, .ow b6, .fr t, .fr (manD S k), .fr (.str (mkS T)), X5, .fr (.str F), X, .no, .no]) := fun ds hds X5 => by
    obtain ⟨r', e, X, rfl, hX⟩ := for_inv (a := aNm 7) (body := bodyT) (fun r => ∃ X, r = [.fr s, .ow b6, .fr t, .fr (manD S k), .fr (.str (mkS T)), X5, .fr (.str F), X, .no, .no] ∧ isIo X = false) ds _ (fun d hd r hr => by
      obtain ⟨X, rfl, hX⟩ := hr
      obtain ⟨l, rfl, hl⟩ := hds d hd
      refine ⟨_, _, ?_, .inl (bodyT_ok hl _ _ _ _ _ _ _ _ _), _, rfl, rfl⟩
      simp only [a_nm, st_s, st_any _ _ _ hX, om_some]) ⟨X7, rfl, h7⟩
    exact ⟨X, hX, e⟩
  have hEl : ∀ d ∈ ys ++ zs ++ [PyData.str (mkS u2)] ++ [PyData.str A1, .str A3] ++ [PyData.str "", .str "entries", .str "entries 0", .str "entries 0\nlock -", .str "entries 0\nlock -\n", .str "entries 1\nlock -"], El d := fun d hd => by
    rcases List.mem_append.mp hd with hd | hd
    · rcases List.mem_append.mp hd with hd | hd
      · rcases List.mem_append.mp hd with hd | hd
        · rcases List.mem_append.mp hd with hd | hd
          · exact i2 d hd
          · exact j2 d hd
        · rw [List.mem_singleton.mp hd]
          exact ⟨_, rfl, hu2.up (by omega) (by omega)⟩
      · rcases List.mem_cons.mp hd with rfl | hd
        · exact strOk_ex o1
        · rw [List.mem_singleton.mp hd]
          exact strOk_ex o3
    · exact strOk_ex (List.all_eq_true.mp six_ok d hd)
  obtain ⟨X, hX, hf⟩ := hfor _ hEl (.ow (.list (ys ++ zs ++ [PyData.str (mkS u2)] ++ [PyData.str A1, .str A3])))
  refine ⟨[.fr s, .ow b6, .fr t, .fr (manD S k), .fr (.str (mkS T)), .ow (.list (ys ++ zs ++ [PyData.str (mkS u2)] ++ [PyData.str A1, .str A3])), .fr (.str F), X, .no, .no], ?_, ⟨⟨b6, .fr t, .fr (manD S k), .fr (.str (mkS T)), .ow (.list (ys ++ zs ++ [PyData.str (mkS u2)] ++ [PyData.str A1, .str A3])), .fr (.str F), X, rfl, hb6, rfl, rfl, rfl, rfl, rfl, hX⟩⟩⟩
  · unfold bodyT at hf
    unfold bodyL
    simp only [b_ok, b_no, oo_some, oo_none, g_fr, g_z, g_s, sl_s, sl_fr, sl_ow, sl_io, rv_fr, rv_ow, rv_sl, fz_fr, fz_ow, kCo_, fz_s, fz_zf, fz_zo, om_some, ob_some, om_none, ow_s, ow_ow, ow_io, mu_s, mu_ow, mu_io, st_s, st_so, st_zn, st_zf, st_zo, so_zn, so_zf, so_zo, v_nm, v_nmf, v_nmo, v_nmi, v_k, v_fz, k_fz, v_anil, v_acons, k_a1, k_a2, v_bnil, v_bcons, k_b1, k_b2, v_tup, v_lst, k_tup, k_lst, v_bin, k_o1, k_o2, v_b, v_r, v_un, k_un, v_u, rvs_nil, rvs_cons, v_cons, v_call, k_call, v_l, v_mt, k_mt, v_testOf, k_t, v_truth, k_tr, v_tr, v_kk, tru_b, v_notT, k_nt, v_andT, v_orT, k_at1, k_at0, k_ot1, k_ot0, v_if, k_if1, k_if0, v_and, v_or, v_not, k_and1, k_and0, k_or1, k_or0, k_not, v_chain, k_ch1, k_ch2, v_b', k_ch3t, k_ch3f, v_pn, v_ps, k_p, v_sl, k_s1, k_s2, k_s3, v_s, v_seq, k_snx, k_srt, k_sbk, k_sct, v_ifS, k_ifS1, k_ifS0, v_skip, v_brk, v_cnt, v_exp, v_ret, k_exp, k_ret, v_set, k_set, v_n, v_asg, k_asg, a_nm, a_nil, a_cons, k_as, a_tup, v_par, v_par3, k_par, k_par3, v_setIx, k_x1, v_x1, k_mu, k_x2, v_x2, v_augIx, v_g1, k_g1, v_b2, k_g2, k_g3, v_g3, v_g4, v_aug, v_au, k_au, v_au1, v_au2, v_mut, v_m0, v_m1, k_m, v_m2, v_m3, v_callF, k_cf, v_c2, v_callI, v_i1, k_ci, v_i2, v_i3, v_it, k_it, v_itS, it_l, it_t, it_s, v_R1, k_R1, v_for, k_for, v_lc, k_lc, v_lcT, cl_1s, cl_1z, v_yes, v_fgt, v_frt, v_fnx, f_ff, f_fo, f_tf, f_to, f_fs, f_ts, v_ef, v_eo, st_f, st_t, mf_nil, mf_cons, rep_s, rep_z, f_addI, f_addS, f_addL, f_addT, f_sub, f_mod, f_div, f_mulI, f_mulJ, f_mulM, f_mulS, f_pow, f_neg, f_eqI, f_eqS, f_neI, f_neS, f_ltI, f_leI, f_gtI, f_geI, f_ltS, f_is, f_isnt, f_ixL, f_ixT, a_d, se_0, se_1, se_2, i_add, f_slL, f_slT, f_slS, f_slR, f_lenS, f_lenL, f_lenT, f_intI, f_intB, f_abs, f_tupL, f_tupT, f_isi_s, atI0, atI1, atI2, atI3, List.length_cons, List.length_nil, List.cons_append, List.nil_append, Nat.reduceAdd, Nat.reduceSub, Nat.reduceLeDiff, Nat.reduceEqDiff, Int.reduceAdd, Int.reduceSub, Int.reduceMul, Int.reduceNeg, Int.reduceLT, Int.reduceLE, Int.reduceEq, Int.reduceBEq, Int.reducePow, Int.reduceToNat, Bool.not_true, Bool.not_false, decide_true, decide_false, true_and, and_true, q_alike, q_take, q_one, t1, e1, e2, e3, al, t2, v_R3, k_R3a, k_R3b, k_R3c, g1, g2, g3, g4, len_mkS, f1, noEx, f2, List.length_append, g5, g6, g7, g8, n1, n2, t6, c1, c2, c3, c4, c5, st_any, so_any, h3, h4, h5, h6, h7, hf]
    rw [q_alike] at hf
    exact hf
theorem law_is (ns : List Int) (h : ns.length ≤ 63) : r_law [scrD ns] = .ok (.fr (.bool true)) none := by
  obtain ⟨b, tb, hb⟩ := bag_ok h
  obtain ⟨r', hf, hr⟩ := for_inv (a := aNm 2) (body := bodyL) (InvL (scrD ns)) (rng 0 3) [.fr (scrD ns), .ow b, .no, .no, .no, .no, .no, .no, .no, .no] (fun d _ r hr => by
    obtain ⟨b, X2, X3, X4, X5, X6, X7, rfl, hb, h2, h3, h4, h5, h6, h7⟩ := hr.ex
    obtain ⟨r2, e, hr2⟩ := bodyL_ok (s := scrD ns) (t := d) hb h3 h4 h5 h6 h7
    refine ⟨_, r2, ?_, .inl e, hr2⟩
    simp only [a_nm, st_s, st_any _ _ _ h2, om_some]) ⟨⟨b, .no, .no, .no, .no, .no, .no, rfl, hb, rfl, rfl, rfl, rfl, rfl, rfl⟩⟩
  unfold r_law c_law
  rw [v_run]
  unfold bodyL at hf
  have p1 : (-16777216 : Int) ≤ 3 := by decide
  have p2 : (3 : Int) ≤ 16777216 := by decide
  have q3 : (3 : Int).toNat = 3 := rfl
  simp only [b_ok, b_no, oo_some, oo_none, g_fr, g_z, g_s, sl_s, sl_fr, sl_ow, sl_io, rv_fr, rv_ow, rv_sl, fz_fr, fz_ow, kCo_, fz_s, fz_zf, fz_zo, om_some, ob_some, om_none, ow_s, ow_ow, ow_io, mu_s, mu_ow, mu_io, st_s, st_so, st_zn, st_zf, st_zo, so_zn, so_zf, so_zo, v_nm, v_nmf, v_nmo, v_nmi, v_k, v_fz, k_fz, v_anil, v_acons, k_a1, k_a2, v_bnil, v_bcons, k_b1, k_b2, v_tup, v_lst, k_tup, k_lst, v_bin, k_o1, k_o2, v_b, v_r, v_un, k_un, v_u, rvs_nil, rvs_cons, v_cons, v_call, k_call, v_l, v_mt, k_mt, v_testOf, k_t, v_truth, k_tr, v_tr, v_kk, tru_b, v_notT, k_nt, v_andT, v_orT, k_at1, k_at0, k_ot1, k_ot0, v_if, k_if1, k_if0, v_and, v_or, v_not, k_and1, k_and0, k_or1, k_or0, k_not, v_chain, k_ch1, k_ch2, v_b', k_ch3t, k_ch3f, v_pn, v_ps, k_p, v_sl, k_s1, k_s2, k_s3, v_s, v_seq, k_snx, k_srt, k_sbk, k_sct, v_ifS, k_ifS1, k_ifS0, v_skip, v_brk, v_cnt, v_exp, v_ret, k_exp, k_ret, v_set, k_set, v_n, v_asg, k_asg, a_nm, a_nil, a_cons, k_as, a_tup, v_par, v_par3, k_par, k_par3, v_setIx, k_x1, v_x1, k_mu, k_x2, v_x2, v_augIx, v_g1, k_g1, v_b2, k_g2, k_g3, v_g3, v_g4, v_aug, v_au, k_au, v_au1, v_au2, v_mut, v_m0, v_m1, k_m, v_m2, v_m3, v_callF, k_cf, v_c2, v_callI, v_i1, k_ci, v_i2, v_i3, v_it, k_it, v_itS, it_l, it_t, it_s, v_R1, k_R1, v_for, k_for, v_lc, k_lc, v_lcT, cl_1s, cl_1z, v_yes, v_fgt, v_frt, v_fnx, f_ff, f_fo, f_tf, f_to, f_fs, f_ts, v_ef, v_eo, st_f, st_t, mf_nil, mf_cons, rep_s, rep_z, f_addI, f_addS, f_addL, f_addT, f_sub, f_mod, f_div, f_mulI, f_mulJ, f_mulM, f_mulS, f_pow, f_neg, f_eqI, f_eqS, f_neI, f_neS, f_ltI, f_leI, f_gtI, f_geI, f_ltS, f_is, f_isnt, f_ixL, f_ixT, a_d, se_0, se_1, se_2, i_add, f_slL, f_slT, f_slS, f_slR, f_lenS, f_lenL, f_lenT, f_intI, f_intB, f_abs, f_tupL, f_tupT, f_isi_s, atI0, atI1, atI2, atI3, List.length_cons, List.length_nil, List.cons_append, List.nil_append, Nat.reduceAdd, Nat.reduceSub, Nat.reduceLeDiff, Nat.reduceEqDiff, Int.reduceAdd, Int.reduceSub, Int.reduceMul, Int.reduceNeg, Int.reduceLT, Int.reduceLE, Int.reduceEq, Int.reduceBEq, Int.reducePow, Int.reduceToNat, Bool.not_true, Bool.not_false, decide_true, decide_false, true_and, and_true, q_bag, tb, p1, p2, hf]
end Wk73
end
open PySem PySem.W PyProof.Rows
set_option maxHeartbeats 0 in
theorem PySem.Challenge.cw_packsworn_k73_manifests_and_texts_holds : PySem.Challenge.rw_packsworn_k73_manifests_and_texts.Holds := by
  w_on; o_law; k_head; (case hw => w_witness2)
  k_fill
  refine Ed.walk_G (l := PySem.Challenge.rw_packsworn_k73_manifests_and_texts) (n := 63) (k := 5) (x := "_law_script") (sp := fun w => Ed.spF _ false 1 Wk73.r_law) rfl (by decide) rfl ⟨rfl, by decide, by decide⟩ (fun w h Y => PySem.W.kIn_of Y) ?F (fun _ _ G a ns hl hG rp => Ed.law_sp hG rp (Wk73.law_is ns hl))
  case F =>
    intro w mg fa h KX G hmg
    refine' Wk73.all_mk KX G hmg ?a_is_name ?l_is_name ?c_is_name ?k_is_name ?a_is_path ?l_is_path ?c_is_path ?k_is_path ?a_number_behind ?l_number_behind ?c_number_behind ?k_number_behind ?a_is_shelf ?l_is_shelf ?c_is_shelf ?k_is_shelf ?a_manifest_text ?l_manifest_text ?c_manifest_text ?k_manifest_text ?a_read_entry ?l_read_entry ?c_read_entry ?k_read_entry ?a_read_manifest ?l_read_manifest ?c_read_manifest ?k_read_manifest ?a_law_bag ?l_law_bag ?c_law_bag ?k_law_bag ?a_law_take ?l_law_take ?c_law_take ?k_law_take ?a_law_one ?l_law_one ?c_law_one ?k_law_one ?a_law_mixed ?l_law_mixed ?c_law_mixed ?k_law_mixed ?a_law_alike ?l_law_alike ?c_law_alike ?k_law_alike ?a_law_number_of ?l_law_number_of ?c_law_number_of ?k_law_number_of ?a_law_is_name ?l_law_is_name ?c_law_is_name ?k_law_is_name ?a_law_is_path ?l_law_is_path ?c_law_is_path ?k_law_is_path ?a_law_is_shelf ?l_law_is_shelf ?c_law_is_shelf ?k_law_is_shelf ?a_law_manifest_text ?l_law_manifest_text ?c_law_manifest_text ?k_law_manifest_text ?a_law_read_manifest ?l_law_read_manifest ?c_law_read_manifest ?k_law_read_manifest ?a_law_drawn_manifest ?l_law_drawn_manifest ?c_law_drawn_manifest ?k_law_drawn_manifest ?a_law_near_text ?l_law_near_text ?c_law_near_text ?k_law_near_text ?a_law ?l_law ?c_law ?k_law ?z_isinstance ?z_str ?z_len ?z_LETTERS ?z_all ?z_DIGITS ?z_MOST_DIGITS ?z_int ?z_SHELF ?z_tuple ?z_zip ?z_abs ?z_repr ?z_sorted ?z_set ?z_range
    (case a_is_name => k_is); (case l_is_name => k_is); (case c_is_name => k_is); (case k_is_name => k_is); (case a_is_path => k_is); (case l_is_path => k_is); (case c_is_path => k_is); (case k_is_path => k_is); (case a_number_behind => k_is); (case l_number_behind => k_is); (case c_number_behind => k_is); (case k_number_behind => k_is); (case a_is_shelf => k_is); (case l_is_shelf => k_is); (case c_is_shelf => k_is); (case k_is_shelf => k_is); (case a_manifest_text => k_is); (case l_manifest_text => k_is); (case c_manifest_text => k_is); (case k_manifest_text => k_is); (case a_read_entry => k_is); (case l_read_entry => k_is); (case c_read_entry => k_is); (case k_read_entry => k_is); (case a_read_manifest => k_is); (case l_read_manifest => k_is); (case c_read_manifest => k_is); (case k_read_manifest => k_is); (case a_law_bag => k_is); (case l_law_bag => k_is); (case c_law_bag => k_is); (case k_law_bag => k_is); (case a_law_take => k_is); (case l_law_take => k_is); (case c_law_take => k_is); (case k_law_take => k_is); (case a_law_one => k_is); (case l_law_one => k_is); (case c_law_one => k_is); (case k_law_one => k_is); (case a_law_mixed => k_is); (case l_law_mixed => k_is); (case c_law_mixed => k_is); (case k_law_mixed => k_is); (case a_law_alike => k_is); (case l_law_alike => k_is); (case c_law_alike => k_is); (case k_law_alike => k_is); (case a_law_number_of => k_is); (case l_law_number_of => k_is); (case c_law_number_of => k_is); (case k_law_number_of => k_is); (case a_law_is_name => k_is); (case l_law_is_name => k_is); (case c_law_is_name => k_is); (case k_law_is_name => k_is); (case a_law_is_path => k_is); (case l_law_is_path => k_is); (case c_law_is_path => k_is); (case k_law_is_path => k_is); (case a_law_is_shelf => k_is); (case l_law_is_shelf => k_is); (case c_law_is_shelf => k_is); (case k_law_is_shelf => k_is); (case a_law_manifest_text => k_is); (case l_law_manifest_text => k_is); (case c_law_manifest_text => k_is); (case k_law_manifest_text => k_is); (case a_law_read_manifest => k_is); (case l_law_read_manifest => k_is); (case c_law_read_manifest => k_is); (case k_law_read_manifest => k_is); (case a_law_drawn_manifest => k_is); (case l_law_drawn_manifest => k_is); (case c_law_drawn_manifest => k_is); (case k_law_drawn_manifest => k_is); (case a_law_near_text => k_is); (case l_law_near_text => k_is); (case c_law_near_text => k_is); (case k_law_near_text => k_is); (case a_law => k_is); (case l_law => k_is); (case c_law => k_is); (case k_law => k_is); (case z_isinstance => k_is); (case z_str => k_is); (case z_len => k_is); (case z_LETTERS => k_is); (case z_all => k_is); (case z_DIGITS => k_is); (case z_MOST_DIGITS => k_is); (case z_int => k_is); (case z_SHELF => k_is); (case z_tuple => k_is); (case z_zip => k_is); (case z_abs => k_is); (case z_repr => k_is); (case z_sorted => k_is); (case z_set => k_is); (case z_range => k_is)
