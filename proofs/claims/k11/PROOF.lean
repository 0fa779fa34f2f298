import PyProof.Rows.All
import Wide.All
import OpenK.AllK
import Wide.FinOn
import HandS.ForMost
import HandS.Zip
import HandS.TupAny
import HandS.Flow
import KE.DataMinMax
import HandS.TupMul
import HandS.Style
import HandS.SortInts
import HandS.Deep
import HandS.IsInst
import KE.OsSort
import HandS.Exc
import HandS.Defaults
import HandS.Iter
import HandS.Ends
import HandS.Small
import HandS.Words
import HandS.MakeKwOnly
import PySem.Challenge.RW_lagvoices_k11_whole_slow_voices
set_option Elab.async false
section
set_option linter.all false
set_option maxRecDepth 100000
set_option maxHeartbeats 1000000
/-! Pv1: pure data, what denotes it, and the relation between a program's state and an abstract one. -/
namespace Pv
open PySem PySem.Spec PyProof.Rows L2

/-- pure data -/
inductive D where
  | non
  | bl (b : Bool)
  | int (i : Int)
  | str (x : Str)
  | tup (xs : List D)
  | lst (xs : List D)
  | dct (kvs : List (D × D))
  | obj (c : Str) (fs : List (Str × D))
  | hdl (n : Nat)
  | scr (ns : List Int)

/-- the handles' addresses; the region that calls may change; what holds of it -/
structure Reg (S : Type) where
  η : Nat → Option Addr
  M : Addr → Prop
  ok : S → Hp → Prop
  loc : ∀ st H H', ok st H → (∀ a, M a → H' a = H a) → ok st H'
  live : ∀ st H a, ok st H → M a → H a ≠ none

/-- parts of a heap -/
def Sub (F H : Hp) : Prop := ∀ a o, F a = some o → H a = some o
theorem Sub.refl (F : Hp) : Sub F F := fun _ _ h => h
theorem Sub.trans {F G H : Hp} (a : Sub F G) (b : Sub G H) : Sub F H := fun c o h => b c o (a c o h)
theorem Sub.upd {F : Hp} {p : Addr} {o : HO} (h : F p = none) : Sub F (upd F p o) := fun b x e => by
  rw [upd_ne (ne_of_none e h)]; exact e
theorem _root_.L2.Rd.sub {F H : Hp} {a : Addr} {u : HO} (s : Sub F H) (r : Rd F a u) : Rd H a u := r.elim (fun h => .inl (s _ _ h)) fun ⟨o, h⟩ => .inr ⟨o, s _ _ h⟩
theorem sqL_sub {K : PySem.W.Frag} {F H : Hp} {a : Addr} {xs : List V} (s : Sub F H) (h : SqL K F a xs) : SqL K H a xs := h.elim (fun r => .inl (r.sub s)) .inr
theorem sqT_sub {K : PySem.W.Frag} {F H : Hp} {a : Addr} {xs : List V} (s : Sub F H) (h : SqT K F a xs) : SqT K H a xs := h.elim (fun r => .inl (r.sub s)) .inr

/-- what an abstract heap is read in -/
structure Rc where
  K : PySem.W.Frag
  η : Nat → Option Addr

mutual
def Den (c : Rc) (F : Hp) : D → V → Prop
  | .non, v => v = .non
  | .bl b, v => v = .bl b
  | .int i, v => v = .int i
  | .str x, v => v = .str x
  | .tup xs, v => ∃ a vs, v = .ref a ∧ SqT c.K F a vs ∧ DenL c F xs vs
  | .lst xs, v => ∃ a vs, v = .ref a ∧ F a = some (.lst vs) ∧ DenL c F xs vs
  | .dct kvs, v => ∃ a ks, v = .ref a ∧ Rd F a (.dK ks) ∧ DenK c F kvs ks
  | .obj _ _, _ => False
  | .hdl n, v => ∃ a, c.η n = some a ∧ v = .ref a
  | .scr ns, v => ∃ a, v = .ref a ∧ SqL c.K F a (ns.map V.int)
def DenL (c : Rc) (F : Hp) : List D → List V → Prop
  | [], vs => vs = []
  | d :: ds, vs => ∃ v r, vs = v :: r ∧ Den c F d v ∧ DenL c F ds r
def DenK (c : Rc) (F : Hp) : List (D × D) → List (Key × V) → Prop
  | [], ks => ks = []
  | (k, d) :: r, ks => ∃ x v t, ks = (x, v) :: t ∧ Den c F k (kV x) ∧ Den c F d v ∧ DenK c F r t
end

mutual
theorem Den.sub {c : Rc} {F G : Hp} (s : Sub F G) : ∀ {d : D} {v : V}, Den c F d v → Den c G d v
  | .non, _, h => h
  | .bl _, _, h => h
  | .int _, _, h => h
  | .str _, _, h => h
  | .tup _, _, ⟨a, vs, e, q, r⟩ => ⟨a, vs, e, sqT_sub s q, DenL.sub s r⟩
  | .lst _, _, ⟨a, vs, e, q, r⟩ => ⟨a, vs, e, s _ _ q, DenL.sub s r⟩
  | .dct _, _, ⟨a, ks, e, q, r⟩ => ⟨a, ks, e, Rd.sub s q, DenK.sub s r⟩
  | .obj _ _, _, h => h
  | .hdl _, _, h => h
  | .scr _, _, ⟨a, e, q⟩ => ⟨a, e, sqL_sub s q⟩
theorem DenL.sub {c : Rc} {F G : Hp} (s : Sub F G) : ∀ {ds : List D} {vs : List V}, DenL c F ds vs → DenL c G ds vs
  | [], _, h => h
  | _ :: _, _, ⟨v, r, e, h1, h2⟩ => ⟨v, r, e, Den.sub s h1, DenL.sub s h2⟩
theorem DenK.sub {c : Rc} {F G : Hp} (s : Sub F G) : ∀ {ds : List (D × D)} {vs : List (Key × V)}, DenK c F ds vs → DenK c G ds vs
  | [], _, h => h
  | (_, _) :: _, _, ⟨x, v, t, e, h1, h2, h3⟩ => ⟨x, v, t, e, Den.sub s h1, Den.sub s h2, DenK.sub s h3⟩
end

theorem DenL.length {c : Rc} {F : Hp} : ∀ {ds : List D} {vs : List V}, DenL c F ds vs → vs.length = ds.length
  | [], _, h => by cases h; rfl
  | _ :: _, _, ⟨v, r, e, _, h2⟩ => by subst e; simp [DenL.length h2]
theorem DenL.get {c : Rc} {F : Hp} : ∀ {ds : List D} {vs : List V} {i : Nat} {d : D}, DenL c F ds vs → ds[i]? = some d → ∃ v, vs[i]? = some v ∧ Den c F d v
  | [], _, _, _, _, e => by simp at e
  | _ :: _, _, 0, _, ⟨v, r, e, h1, _⟩, e2 => by simp at e2; subst e2; subst e; exact ⟨v, rfl, h1⟩
  | _ :: _, _, i + 1, d, ⟨v, r, e, _, h2⟩, e2 => by
    subst e
    obtain ⟨u, hu, hd⟩ := DenL.get (i := i) (d := d) h2 (by simpa using e2)
    exact ⟨u, by simpa using hu, hd⟩
theorem DenL.getV {c : Rc} {F : Hp} : ∀ {ds : List D} {vs : List V} {i : Nat} {v : V}, DenL c F ds vs → vs[i]? = some v → ∃ d, ds[i]? = some d ∧ Den c F d v
  | [], _, _, _, h, e => by cases h; simp at e
  | d :: _, _, 0, _, ⟨v, r, e, h1, _⟩, e2 => by subst e; simp at e2; subst e2; exact ⟨d, rfl, h1⟩
  | _ :: _, _, i + 1, v, ⟨u, r, e, _, h2⟩, e2 => by
    subst e
    obtain ⟨d, hd, hv⟩ := DenL.getV (i := i) (v := v) h2 (by simpa using e2)
    exact ⟨d, by simpa using hd, hv⟩
theorem DenL.append {c : Rc} {F : Hp} : ∀ {ds es : List D} {vs us : List V}, DenL c F ds vs → DenL c F es us → DenL c F (ds ++ es) (vs ++ us)
  | [], _, _, _, h, k => by cases h; exact k
  | _ :: _, _, _, _, ⟨v, r, e, h1, h2⟩, k => by subst e; exact ⟨v, r ++ _, rfl, h1, DenL.append h2 k⟩
theorem DenL.take {c : Rc} {F : Hp} : ∀ {ds : List D} {vs : List V} (n : Nat), DenL c F ds vs → DenL c F (ds.take n) (vs.take n)
  | _, _, 0, _ => by simp [DenL]
  | [], _, _ + 1, h => by cases h; simp [DenL]
  | _ :: _, _, n + 1, ⟨v, r, e, h1, h2⟩ => by subst e; exact ⟨v, _, rfl, h1, DenL.take n h2⟩
theorem DenL.drop {c : Rc} {F : Hp} : ∀ {ds : List D} {vs : List V} (n : Nat), DenL c F ds vs → DenL c F (ds.drop n) (vs.drop n)
  | _, _, 0, h => by simpa using h
  | [], _, _ + 1, h => by cases h; simp [DenL]
  | _ :: _, _, n + 1, ⟨v, r, e, h1, h2⟩ => by subst e; simpa using DenL.drop n h2
theorem DenL.set {c : Rc} {F : Hp} {d : D} {v : V} (hd : Den c F d v) : ∀ {ds : List D} {vs : List V} (i : Nat), DenL c F ds vs → DenL c F (ds.set i d) (vs.set i v)
  | [], _, _, h => by cases h; simp [DenL]
  | _ :: _, _, 0, ⟨v, r, e, h1, h2⟩ => by subst e; exact ⟨_, _, rfl, hd, h2⟩
  | _ :: _, _, i + 1, ⟨v, r, e, h1, h2⟩ => by subst e; exact ⟨_, _, rfl, h1, DenL.set hd i h2⟩
theorem DenL.replicate {c : Rc} {F : Hp} {d : D} {v : V} (hd : Den c F d v) : ∀ n : Nat, DenL c F (List.replicate n d) (List.replicate n v)
  | 0 => by simp [DenL]
  | n + 1 => ⟨v, _, rfl, hd, DenL.replicate hd n⟩
theorem DenL.reverse {c : Rc} {F : Hp} : ∀ {ds : List D} {vs : List V}, DenL c F ds vs → DenL c F ds.reverse vs.reverse
  | [], _, h => by cases h; simp [DenL]
  | d :: ds, _, ⟨v, r, e, h1, h2⟩ => by
    subst e
    rw [List.reverse_cons, List.reverse_cons]
    exact DenL.append (DenL.reverse h2) ⟨v, [], rfl, h1, rfl⟩
theorem DenL.ints {c : Rc} {F : Hp} : ∀ ns : List Int, DenL c F (ns.map D.int) (ns.map V.int)
  | [] => rfl
  | n :: ns => ⟨_, _, rfl, rfl, DenL.ints ns⟩
theorem DenL.ints_inv {c : Rc} {F : Hp} : ∀ {ns : List Int} {vs : List V}, DenL c F (ns.map D.int) vs → vs = ns.map V.int
  | [], _, h => h
  | _ :: _, _, ⟨v, r, e, h1, h2⟩ => by
    have h1 : v = .int _ := h1
    subst e; rw [h1, DenL.ints_inv h2]; rfl

/-- what a name holds: nothing known, data that stands still, or a list of its own -/
inductive Sl where
  | un
  | val (d : D)
  | own (xs : List D)

abbrev Env := List Sl

/-- the setting of a def's body: what stood at its entry (H0), what of it may be data (F0) -/
structure Set (S : Type) where
  R : Reg S
  K : PySem.W.Frag
  mg : Str → Option Value
  H0 : Hp
  RC : Reg S → Prop
  okR : RC R
abbrev Set.rc {S : Type} (c : Set S) : Rc := ⟨c.K, c.R.η⟩

section
variable {S : Type}
def SlOk (c : Set S) (F H : Hp) : Sl → Option V → Prop
  | .un, _ => True
  | .val d, x => ∃ v, x = some v ∧ Den c.rc F d v
  | .own xs, x => ∃ p vs, x = some (.ref p) ∧ F p = none ∧ c.H0 p = none ∧ ¬ c.R.M p ∧ H p = some (.lst vs) ∧ DenL c.rc F xs vs

/-- the state: F is what stands still, ρ the names, st the region's -/
structure Sim (c : Set S) (F0 F : Hp) (ρ : Env) (st : S) (σ : List (Option V)) (H : Hp) : Prop where
  keep : ∀ a o, c.H0 a = some o → ¬ c.R.M a → H a = some o
  f0 : Sub F0 F
  fh : Sub F H
  fnew : ∀ a o, F a = some o → F0 a = some o ∨ c.H0 a = none
  fM : ∀ a, c.R.M a → F a = none
  reg : c.R.ok st H
  len : ρ.length = σ.length
  slot : ∀ (i : Nat) (s : Sl) (x : Option V), ρ[i]? = some s → σ[i]? = some x → SlOk c F H s x
  inj : ∀ (i j : Nat) (xs ys : List D) (p : Addr), ρ[i]? = some (.own xs) → ρ[j]? = some (.own ys) → σ[i]? = some (some (.ref p)) → σ[j]? = some (some (.ref p)) → i = j

/-- what an expression leaves: H' holds what H held, F' what F held -/
structure Ext (c : Set S) (F H F' H' : Hp) : Prop where
  f : Sub F F'
  h : ∀ a o, H a = some o → ¬ c.R.M a → H' a = some o
theorem Ext.refl (c : Set S) (F H : Hp) : Ext c F H F H := ⟨Sub.refl _, fun _ _ h _ => h⟩
theorem Ext.trans {c : Set S} {F H F1 H1 F2 H2 : Hp} (a : Ext c F H F1 H1) (b : Ext c F1 H1 F2 H2) : Ext c F H F2 H2 :=
  ⟨a.f.trans b.f, fun x o h m => b.h x o (a.h x o h m) m⟩

/-- a value is data, or a list whose items are data -/
def DenT (c : Set S) (F H : Hp) (d : D) (v : V) : Prop := Den c.rc F d v ∨ ∃ p vs xs, v = .ref p ∧ d = .lst xs ∧ H p = some (.lst vs) ∧ ¬ c.R.M p ∧ DenL c.rc F xs vs
def DenTL (c : Set S) (F H : Hp) : List D → List V → Prop
  | [], vs => vs = []
  | d :: ds, vs => ∃ v r, vs = v :: r ∧ DenT c F H d v ∧ DenTL c F H ds r
theorem DenT.ext {c : Set S} {F H F' H' : Hp} {d : D} {v : V} (e : Ext c F H F' H') (h : DenT c F H d v) : DenT c F' H' d v := by
  rcases h with h | ⟨p, vs, xs, rfl, rfl, h1, h2, h3⟩
  · exact .inl (h.sub e.f)
  · exact .inr ⟨p, vs, xs, rfl, rfl, e.h _ _ h1 h2, h2, h3.sub e.f⟩

variable {c : Set S} {F0 F H : Hp} {ρ : Env} {st : S} {σ : List (Option V)}

/-- a name's own list is from now on data -/
theorem Sim.freeze (I : Sim c F0 F ρ st σ H) {i : Nat} {xs : List D} (h : ρ[i]? = some (.own xs)) :
    ∃ p F', σ[i]? = some (some (.ref p)) ∧ Sim c F0 F' (ρ.set i (.val (.lst xs))) st σ H ∧ Ext c F H F' H ∧ Den c.rc F' (.lst xs) (.ref p) := by
  have hi : i < ρ.length := (List.getElem?_eq_some_iff.mp h).1
  obtain ⟨x, hx⟩ : ∃ x, σ[i]? = some x := ⟨σ[i]'(by rw [← I.len]; exact hi), by simp [← I.len, hi]⟩
  obtain ⟨p, vs, e, f, n, m, q, r⟩ := I.slot i _ x h hx
  subst e
  have s1 : Sub F (upd F p (.lst vs)) := Sub.upd f
  have dn : Den c.rc (upd F p (.lst vs)) (.lst xs) (.ref p) := ⟨p, vs, rfl, upd_same, r.sub s1⟩
  refine ⟨p, upd F p (.lst vs), hx, ⟨I.keep, I.f0.trans s1, fun a o e => ?_, fun a o e => ?_, fun a ma => ?_, I.reg, by simpa using I.len, fun j s y h1 h2 => ?_, fun j k ys zs a h1 h2 h3 h4 => ?_⟩, ⟨s1, fun _ _ h _ => h⟩, dn⟩
  · by_cases ha : a = p
    · subst ha; rw [upd_same] at e; cases e; exact q
    · rw [upd_ne ha] at e; exact I.fh a o e
  · by_cases ha : a = p
    · subst ha; exact .inr n
    · rw [upd_ne ha] at e; exact I.fnew a o e
  · rw [upd_ne (fun (z : a = p) => m (by rw [← z]; exact ma))]; exact I.fM a ma
  · by_cases hj : i = j
    · subst hj
      rw [List.getElem?_set_self hi] at h1
      cases h1
      rw [hx] at h2; cases h2
      exact ⟨_, rfl, dn⟩
    · rw [List.getElem?_set_ne hj] at h1
      have z := I.slot j s y h1 h2
      cases s with
      | un => trivial
      | val d => obtain ⟨v, e, w⟩ := z; exact ⟨v, e, w.sub s1⟩
      | own ys =>
        obtain ⟨a, us, e, f', n', m', q', r'⟩ := z
        subst e
        have ne : a ≠ p := fun z => hj (I.inj i j xs ys p h h1 hx (z ▸ h2))
        exact ⟨a, us, rfl, by rw [upd_ne ne]; exact f', n', m', q', r'.sub s1⟩
  · have g : ∀ {j : Nat} {ys : List D}, (ρ.set i (.val (.lst xs)))[j]? = some (.own ys) → ρ[j]? = some (.own ys) := fun {j ys} e => by
      by_cases hj : i = j
      · subst hj; rw [List.getElem?_set_self hi] at e; cases e
      · rwa [List.getElem?_set_ne hj] at e
    exact I.inj j k ys zs a (g h1) (g h2) h3 h4

/-- the heap has grown by a new object -/
theorem Sim.grow (I : Sim c F0 F ρ st σ H) {p : Addr} {o : HO} (hp : H p = none) : Sim c F0 F ρ st σ (upd H p o) := by
  have s : Sub H (upd H p o) := Sub.upd hp
  have nm : ¬ c.R.M p := fun m => c.R.live _ _ _ I.reg m hp
  refine ⟨fun a x h m => s _ _ (I.keep a x h m), I.f0, I.fh.trans s, I.fnew, I.fM, c.R.loc _ _ _ I.reg fun a m => upd_ne (fun e => nm (e ▸ m)), I.len, fun i sl x h1 h2 => ?_, I.inj⟩
  have z := I.slot i sl x h1 h2
  cases sl with
  | un => trivial
  | val d => exact z
  | own ys =>
    obtain ⟨a, us, e, f', n', m', q', r'⟩ := z
    exact ⟨a, us, e, f', n', m', s _ _ q', r'⟩
theorem Sim.new (I : Sim c F0 F ρ st σ H) {p : Addr} (hp : H p = none) : c.H0 p = none ∧ ¬ c.R.M p ∧ F p = none := by
  have nm : ¬ c.R.M p := fun m => c.R.live _ _ _ I.reg m hp
  refine ⟨?_, nm, ?_⟩
  · cases e : c.H0 p with
    | none => rfl
    | some o => rw [I.keep p o e nm] at hp; cases hp
  · cases e : F p with
    | none => rfl
    | some o => rw [I.fh p o e] at hp; cases hp
/-- a new object is data at once -/
theorem Sim.lay (I : Sim c F0 F ρ st σ H) {p : Addr} {o : HO} (hp : H p = none) : Sim c F0 (upd F p o) ρ st σ (upd H p o) ∧ Ext c F H (upd F p o) (upd H p o) := by
  obtain ⟨n, nm, nf⟩ := I.new hp
  have J := I.grow (o := o) hp
  have s1 : Sub F (upd F p o) := Sub.upd nf
  refine ⟨⟨J.keep, I.f0.trans s1, fun a x e => ?_, fun a x e => ?_, fun a m => ?_, J.reg, I.len, fun i sl x h1 h2 => ?_, I.inj⟩, s1, fun a x e _ => Sub.upd hp a x e⟩
  · by_cases ha : a = p
    · subst ha; rw [upd_same] at e ⊢; exact e
    · rw [upd_ne ha] at e ⊢; exact I.fh a x e
  · by_cases ha : a = p
    · subst ha; exact .inr n
    · rw [upd_ne ha] at e; exact I.fnew a x e
  · rw [upd_ne (fun (z : a = p) => nm (by rw [← z]; exact m))]; exact I.fM a m
  · have z := J.slot i sl x h1 h2
    cases sl with
    | un => trivial
    | val d => obtain ⟨v, e, w⟩ := z; exact ⟨v, e, w.sub s1⟩
    | own ys =>
      obtain ⟨a, us, e, f', n', m', q', r'⟩ := z
      have q0 := I.slot i _ x h1 h2
      obtain ⟨a2, us2, e2, _, _, _, q2, _⟩ := q0
      have : a = a2 := by rw [e] at e2; cases e2; rfl
      subst this
      exact ⟨a, us, e, by rw [upd_ne (ne_of_none q2 hp)]; exact f', n', m', q', r'.sub s1⟩
/-- a name gets data -/
theorem Sim.put (I : Sim c F0 F ρ st σ H) {i : Nat} {d : D} {v : V} (hd : Den c.rc F d v) : Sim c F0 F (ρ.set i (.val d)) st (σ.set i (some v)) H := by
  refine ⟨I.keep, I.f0, I.fh, I.fnew, I.fM, I.reg, by simpa using I.len, fun j s x h1 h2 => ?_, fun j k ys zs a h1 h2 h3 h4 => ?_⟩
  · by_cases hj : i = j
    · subst hj
      have hi : i < ρ.length := by
        have := (List.getElem?_eq_some_iff.mp h1).1
        simpa using this
      rw [List.getElem?_set_self hi] at h1
      rw [List.getElem?_set_self (I.len ▸ hi)] at h2
      cases h1; cases h2
      exact ⟨v, rfl, hd⟩
    · rw [List.getElem?_set_ne hj] at h1 h2
      exact I.slot j s x h1 h2
  · have g : ∀ {j : Nat} {ys : List D}, (ρ.set i (.val d))[j]? = some (.own ys) → i ≠ j ∧ ρ[j]? = some (.own ys) := fun {j ys} e => by
      by_cases hj : i = j
      · subst hj
        have hi : i < ρ.length := by
          have := (List.getElem?_eq_some_iff.mp e).1
          simpa using this
        rw [List.getElem?_set_self hi] at e; cases e
      · rw [List.getElem?_set_ne hj] at e; exact ⟨hj, e⟩
    obtain ⟨n1, e1⟩ := g h1
    obtain ⟨n2, e2⟩ := g h2
    rw [List.getElem?_set_ne n1] at h3
    rw [List.getElem?_set_ne n2] at h4
    exact I.inj j k ys zs a e1 e2 h3 h4
/-- a name gets a list of its own, that no name has -/
theorem Sim.putOwn (I : Sim c F0 F ρ st σ H) {i : Nat} {xs : List D} {p : Addr} {vs : List V} (f : F p = none) (n : c.H0 p = none) (m : ¬ c.R.M p) (q : H p = some (.lst vs)) (r : DenL c.rc F xs vs)
    (hne : ∀ (j : Nat) (ys : List D), j ≠ i → ρ[j]? = some (.own ys) → σ[j]? ≠ some (some (.ref p))) : Sim c F0 F (ρ.set i (.own xs)) st (σ.set i (some (.ref p))) H := by
  have lens : ∀ {j : Nat} {s : Sl}, (ρ.set i (.own xs))[j]? = some s → j < ρ.length := fun {j s} e => by
    have := (List.getElem?_eq_some_iff.mp e).1
    simpa using this
  refine ⟨I.keep, I.f0, I.fh, I.fnew, I.fM, I.reg, by simpa using I.len, fun j s x h1 h2 => ?_, fun j k ys zs a h1 h2 h3 h4 => ?_⟩
  · have hl := lens h1
    by_cases hj : i = j
    · subst hj
      rw [List.getElem?_set_self hl] at h1
      rw [List.getElem?_set_self (I.len ▸ hl)] at h2
      cases h1; cases h2
      exact ⟨p, vs, rfl, f, n, m, q, r⟩
    · rw [List.getElem?_set_ne hj] at h1 h2
      exact I.slot j s x h1 h2
  · have hl1 := lens h1
    have hl2 := lens h2
    by_cases hj : i = j
    · by_cases hk : i = k
      · exact hj.symm.trans hk
      · subst hj
        rw [List.getElem?_set_self (I.len ▸ hl1)] at h3
        cases h3
        rw [List.getElem?_set_ne hk] at h2 h4
        exact absurd h4 (hne k zs (Ne.symm hk) h2)
    · rw [List.getElem?_set_ne hj] at h1 h3
      by_cases hk : i = k
      · subst hk
        rw [List.getElem?_set_self (I.len ▸ hl2)] at h4
        cases h4
        exact absurd h3 (hne j ys (Ne.symm hj) h1)
      · rw [List.getElem?_set_ne hk] at h2 h4
        exact I.inj j k ys zs a h1 h2 h3 h4
/-- names are forgotten -/
theorem Sim.forget (I : Sim c F0 F ρ st σ H) (i : Nat) (x : Option V) : Sim c F0 F (ρ.set i .un) st (σ.set i x) H := by
  refine ⟨I.keep, I.f0, I.fh, I.fnew, I.fM, I.reg, by simpa using I.len, fun j s y h1 h2 => ?_, fun j k ys zs a h1 h2 h3 h4 => ?_⟩
  · by_cases hj : i = j
    · subst hj
      have hi : i < ρ.length := by
        have := (List.getElem?_eq_some_iff.mp h1).1
        simpa using this
      rw [List.getElem?_set_self hi] at h1
      cases h1; trivial
    · rw [List.getElem?_set_ne hj] at h1 h2
      exact I.slot j s y h1 h2
  · have g : ∀ {j : Nat} {ys : List D}, (ρ.set i .un)[j]? = some (.own ys) → i ≠ j ∧ ρ[j]? = some (.own ys) := fun {j ys} e => by
      by_cases hj : i = j
      · subst hj
        have hi : i < ρ.length := by
          have := (List.getElem?_eq_some_iff.mp e).1
          simpa using this
        rw [List.getElem?_set_self hi] at e; cases e
      · rw [List.getElem?_set_ne hj] at e; exact ⟨hj, e⟩
    obtain ⟨n1, e1⟩ := g h1
    obtain ⟨n2, e2⟩ := g h2
    rw [List.getElem?_set_ne n1] at h3
    rw [List.getElem?_set_ne n2] at h4
    exact I.inj j k ys zs a e1 e2 h3 h4
/-- a name's own list is changed -/
theorem Sim.write (I : Sim c F0 F ρ st σ H) {i : Nat} {xs ys : List D} {p : Addr} {us : List V} (h : ρ[i]? = some (.own xs)) (hx : σ[i]? = some (some (.ref p))) (r : DenL c.rc F ys us) :
    Sim c F0 F (ρ.set i (.own ys)) st σ (upd H p (.lst us)) := by
  have hi : i < ρ.length := (List.getElem?_eq_some_iff.mp h).1
  obtain ⟨p', vs, e, f, n, m, q, r0⟩ := I.slot i _ _ h hx
  cases e
  have at_ : ∀ a, a ≠ p → upd H p (.lst us) a = H a := fun a e => upd_ne e
  refine ⟨fun a o e nm => ?_, I.f0, fun a o e => ?_, I.fnew, I.fM, c.R.loc _ _ _ I.reg fun a ma => at_ a (fun e => m (e ▸ ma)), by simpa using I.len, fun j s x h1 h2 => ?_, fun j k zs ws a h1 h2 h3 h4 => ?_⟩
  · rw [at_ a (fun z => by subst z; rw [n] at e; cases e)]; exact I.keep a o e nm
  · rw [at_ a (fun z => by subst z; rw [f] at e; cases e)]; exact I.fh a o e
  · by_cases hj : i = j
    · subst hj
      rw [List.getElem?_set_self hi] at h1
      cases h1
      rw [hx] at h2; cases h2
      exact ⟨p, us, rfl, f, n, m, upd_same, r⟩
    · rw [List.getElem?_set_ne hj] at h1
      have z := I.slot j s x h1 h2
      cases s with
      | un => trivial
      | val d => exact z
      | own zs =>
        obtain ⟨a, ws, e, f', n', m', q', r'⟩ := z
        subst e
        have ne : a ≠ p := fun z => hj (I.inj i j xs zs p h h1 hx (z ▸ h2))
        exact ⟨a, ws, rfl, f', n', m', by rw [at_ a ne]; exact q', r'⟩
  · have g : ∀ {j : Nat} {zs : List D}, (ρ.set i (.own ys))[j]? = some (.own zs) → ∃ zs', ρ[j]? = some (.own zs') := fun {j zs} e => by
      by_cases hj : i = j
      · subst hj; exact ⟨_, h⟩
      · rw [List.getElem?_set_ne hj] at e; exact ⟨_, e⟩
    obtain ⟨z1, e1⟩ := g h1
    obtain ⟨z2, e2⟩ := g h2
    exact I.inj j k z1 z2 a e1 e2 h3 h4
end
end Pv

end
section
set_option linter.all false
set_option maxRecDepth 100000
set_option maxHeartbeats 1000000
/-! Pv2: a small language without places, and what is wanted ahead of it (weakest preconditions on pure data). -/
namespace Pv
open PySem PySem.Spec PyProof.Rows L2

/-! ### pure data as the library's data; equality, truth, order -/
mutual
def D.py : D → Option PyData
  | .non => some .none
  | .bl b => some (.bool b)
  | .int i => some (.int i)
  | .str x => some (.str x)
  | .tup xs => (pyL xs).map .tuple
  | .lst xs => (pyL xs).map .list
  | .dct kvs => (pyK kvs).map .dict
  | .obj _ _ => none
  | .hdl _ => none
  | .scr _ => none
def pyL : List D → Option (List PyData)
  | [] => some []
  | x :: xs => match D.py x, pyL xs with
    | some p, some ps => some (p :: ps)
    | _, _ => none
def pyK : List (D × D) → Option (List (PyData × PyData))
  | [] => some []
  | (a, b) :: r => match D.py a, D.py b, pyK r with
    | some p, some q, some ps => some ((p, q) :: ps)
    | _, _, _ => none
end

/-! may be compared by == -/
mutual
def D.eqOk : Nat → D → Bool
  | _, .non => true
  | _, .bl _ => true
  | _, .int _ => true
  | _, .str x => PyData.strOk x
  | n + 1, .tup xs => eqOkL n xs
  | n + 1, .lst xs => eqOkL n xs
  | _, _ => false
def eqOkL : Nat → List D → Bool
  | _, [] => true
  | n, x :: xs => D.eqOk n x && eqOkL n xs
end
mutual
def D.eqv : D → D → Bool
  | .non, .non => true
  | .bl a, .bl b => a == b
  | .bl a, .int j => (if a then 1 else 0) == j
  | .int i, .bl b => i == (if b then 1 else 0)
  | .int i, .int j => i == j
  | .str x, .str y => x == y
  | .tup xs, .tup ys => eqvL xs ys
  | .lst xs, .lst ys => eqvL xs ys
  | _, _ => false
def eqvL : List D → List D → Bool
  | [], [] => true
  | x :: xs, y :: ys => D.eqv x y && eqvL xs ys
  | _, _ => false
end
def D.flat : D → Bool
  | .non => true
  | .bl _ => true
  | .int _ => true
  | .str _ => true
  | _ => false
def D.isNon : D → Bool
  | .non => true
  | _ => false
def D.truth : D → Option Bool
  | .non => some false
  | .bl b => some b
  | .int i => some (i != 0)
  | .str x => if x.length ≤ sizeLine then some (x.length != 0) else none
  | .tup xs => some (!xs.isEmpty)
  | .lst xs => some (!xs.isEmpty)
  | _ => none

/-! tuples of ints and texts: may be compared by <; which is the less -/
def D.cmpOk : D → D → Bool
  | .int _, .int _ => true
  | .str x, .str y => PyData.strOk x && PyData.strOk y
  | _, _ => false
def cmpOkL : List D → List D → Bool
  | x :: xs, y :: ys => x.cmpOk y && cmpOkL xs ys
  | [], _ => true
  | _ :: _, [] => true
def D.same : D → D → Bool
  | .int i, .int j => i == j
  | .str x, .str y => x == y
  | _, _ => false
def D.ltA : D → D → Bool
  | .int i, .int j => decide (i < j)
  | .str x, .str y => itemLt (.inr x.cps.toList) (.inr y.cps.toList)
  | _, _ => false
def ltL : List D → List D → Bool
  | [], [] => false
  | [], _ :: _ => true
  | _ :: _, [] => false
  | x :: xs, y :: ys => if x.same y then ltL xs ys else x.ltA y
/-- a tuple of ints and texts -/
def D.rowOk : D → Bool
  | .int _ => true
  | .str x => PyData.strOk x
  | _ => false
def tupsOk : D → D → Bool
  | .tup xs, .tup ys => cmpOkL xs ys && xs.all D.rowOk && ys.all D.rowOk
  | _, _ => false
def D.ltT : D → D → Bool
  | .tup xs, .tup ys => ltL xs ys
  | _, _ => false
def minT (x : D) (xs : List D) : D := xs.foldl (fun a y => if y.ltT a then y else a) x
/-- the built-in kinds that isinstance is asked for -/
inductive Ty where
  | int | bool | str | tuple | list | dict
  deriving DecidableEq
def Ty.has : Ty → D → Bool
  | .int, .int _ => true
  | .int, .bl _ => true
  | .bool, .bl _ => true
  | .str, .str _ => true
  | .tuple, .tup _ => true
  | .list, .lst _ => true
  | .dict, .dct _ => true
  | _, _ => false

def D.kinded : D → Bool
  | .non => true
  | .bl _ => true
  | .int _ => true
  | .str _ => true
  | .tup _ => true
  | .lst _ => true
  | .dct _ => true
  | _ => false
/-! ### operations -/
inductive Op where
  | add | sub | mul | fdiv | mod | pow | neg
  | eq | ne | lt | le | gt | ge | isN | notN | in_ | notIn
  | ix | slice (lo hi : Bool) | rev
  | len | abs | int | min2 | max2 | minL | maxL | sum | all | any | tuple | list | sorted | repr
  | isi (t : List Ty)
  | tup | lst
  | index
  deriving DecidableEq

def cutL (xs : List D) (lo hi : Option Int) : List D := (xs.drop (HT.sIx xs.length 0 lo)).take (HT.sIx xs.length xs.length hi - HT.sIx xs.length 0 lo)
/-- 2 ^ 64, 2 ^ 30, 2 ^ 62: never unfolded -/
def b64 : Int := 2 ^ 64
def b62 : Int := 2 ^ 62
def b30 : Int := 2 ^ 30
def asInt : D → Option Int
  | .int i => some i
  | _ => none
def asBool : D → Option Bool
  | .bl i => some i
  | _ => none
/-- the ints of a list of ints -/
def intsOf : List D → Option (List Int)
  | [] => some []
  | .int i :: r => (intsOf r).map (i :: ·)
  | _ :: _ => none
def blsOf : List D → Option (List Bool)
  | [] => some []
  | .bl i :: r => (blsOf r).map (i :: ·)
  | _ :: _ => none

/-- what an operation gives: a relation of its operands and its value -/
def Op.sem : Op → List D → D → Prop
  | .add, [.int i, .int j], d => d = .int (i + j)
  | .add, [.str x, .str y], d => x.length + y.length ≤ sizeLine ∧ d = .str (x ++ y)
  | .add, [.lst xs, .lst ys], d => xs.length + ys.length ≤ sizeLine ∧ d = .lst (xs ++ ys)
  | .add, [.tup xs, .tup ys], d => xs.length + ys.length ≤ sizeLine ∧ d = .tup (xs ++ ys)
  | .sub, [.int i, .int j], d => d = .int (i - j)
  | .mul, [.int i, .int j], d => ((-b64 < i ∧ i < b64) ∨ (-b64 < j ∧ j < b64)) ∧ d = .int (i * j)
  | .mul, [.lst xs, .int k], d => (-b62 ≤ k ∧ k < b62) ∧ xs.length * k.toNat ≤ sizeLine ∧ d = .lst (List.replicate k.toNat xs).flatten
  | .mul, [.tup xs, .int k], d => (xs ≠ [] ∧ 2 ≤ k ∧ k ≤ 1000 ∧ xs.length ≤ 1000) ∧ d = .tup (List.replicate k.toNat xs).flatten
  | .fdiv, [.int i, .int j], d => (0 < j ∧ j < b30) ∧ d = .int (i / j)
  | .mod, [.int i, .int j], d => 0 < j ∧ d = .int (i % j)
  | .pow, [.int i, .int j], d => (0 ≤ j ∧ j ≤ 1000 ∧ i.natAbs ≤ 1000) ∧ d = .int (i ^ j.toNat)
  | .neg, [.int i], d => d = .int (-i)
  | .eq, [.int i, .int j], d => d = .bl (decide (i = j))
  | .eq, [.str i, .str j], d => d = .bl (decide (i = j))
  | .eq, [a, b], d => (a.eqOk 60 = true ∧ b.eqOk 60 = true) ∧ d = .bl (a.eqv b)
  | .ne, [.int i, .int j], d => d = .bl (!decide (i = j))
  | .ne, [.str i, .str j], d => d = .bl (!decide (i = j))
  | .ne, [a, b], d => (a.eqOk 60 = true ∧ b.eqOk 60 = true) ∧ d = .bl (!a.eqv b)
  | .lt, [.int i, .int j], d => d = .bl (decide (i < j))
  | .lt, [.tup xs, .tup ys], d => tupsOk (.tup xs) (.tup ys) = true ∧ d = .bl (ltL xs ys)
  | .le, [.int i, .int j], d => d = .bl (decide (i ≤ j))
  | .gt, [.int i, .int j], d => d = .bl (decide (j < i))
  | .ge, [.int i, .int j], d => d = .bl (decide (j ≤ i))
  | .isN, [a], d => d = .bl a.isNon
  | .notN, [a], d => d = .bl (!a.isNon)
  | .in_, [a, .lst xs], d => (a.eqOk 60 = true ∧ eqOkL 60 xs = true) ∧ d = .bl (xs.any fun y => y.eqv a)
  | .in_, [a, .tup xs], d => (a.flat = true ∧ xs.all D.flat = true) ∧ d = .bl (xs.any fun y => y.eqv a)
  | .notIn, [a, .lst xs], d => (a.eqOk 60 = true ∧ eqOkL 60 xs = true) ∧ d = .bl (!xs.any fun y => y.eqv a)
  | .notIn, [a, .tup xs], d => (a.flat = true ∧ xs.all D.flat = true) ∧ d = .bl (!xs.any fun y => y.eqv a)
  | .ix, [.lst xs, .int i], d => atI xs i = some d
  | .ix, [.tup xs, .int i], d => atI xs i = some d
  | .slice false false, [.lst xs], d => d = .lst (cutL xs none none)
  | .slice true false, [.lst xs, .int i], d => d = .lst (cutL xs (some i) none)
  | .slice false true, [.lst xs, .int j], d => d = .lst (cutL xs none (some j))
  | .slice true true, [.lst xs, .int i, .int j], d => d = .lst (cutL xs (some i) (some j))
  | .slice true false, [.tup xs, .int i], d => d = .tup (cutL xs (some i) none)
  | .slice false true, [.tup xs, .int j], d => d = .tup (cutL xs none (some j))
  | .slice true true, [.tup xs, .int i, .int j], d => d = .tup (cutL xs (some i) (some j))
  | .rev, [.lst xs], d => d = .lst xs.reverse
  | .rev, [.tup xs], d => d = .tup xs.reverse
  | .len, [.lst xs], d => d = .int xs.length
  | .len, [.tup xs], d => d = .int xs.length
  | .len, [.scr xs], d => d = .int xs.length
  | .len, [.str x], d => x.length ≤ sizeLine ∧ d = .int x.length
  | .abs, [.int i], d => d = .int (if i < 0 then -i else i)
  | .int, [.int i], d => d = .int i
  | .int, [.bl b], d => d = .int (if b then 1 else 0)
  | .max2, [.int i, .int j], d => d = .int (if j > i then j else i)
  | .min2, [.int i, .int j], d => d = .int (if j < i then j else i)
  | .maxL, [.lst xs], d => ∃ ns m, intsOf xs = some ns ∧ m ∈ ns ∧ (∀ y, y ∈ ns → y ≤ m) ∧ d = .int m
  | .minL, [.lst xs], d => (∃ ns m, intsOf xs = some ns ∧ m ∈ ns ∧ (∀ y, y ∈ ns → m ≤ y) ∧ d = .int m) ∨ (∃ x r, xs = x :: r ∧ (∀ y ∈ xs, ∀ z ∈ xs, tupsOk y z = true) ∧ d = minT x r)
  | .sum, [.lst xs], d => ∃ ns, intsOf xs = some ns ∧ d = .int ns.sum
  | .all, [.lst xs], d => ∃ bs, blsOf xs = some bs ∧ d = .bl (bs.all id)
  | .any, [.lst xs], d => ∃ bs, blsOf xs = some bs ∧ d = .bl (bs.any id)
  | .tuple, [.lst xs], d => d = .tup xs
  | .tuple, [.tup xs], d => d = .tup xs
  | .list, [.lst xs], d => d = .lst xs
  | .list, [.tup xs], d => d = .lst xs
  | .sorted, [.lst xs], d => ∃ (ns : List Int), intsOf xs = some ns ∧ d = .lst ((ns.mergeSort (fun a b => decide (a ≤ b))).map .int)
  | .repr, [a], d => ∃ p, a.py = some p ∧ p.hasDict = false ∧ p.showable = true ∧ p.depth ≤ 60 ∧ p.shown.length ≤ sizeLine ∧ d = .str p.shown
  | .isi ts, [a], d => a.kinded = true ∧ d = .bl (ts.any fun t => t.has a)
  | .index, [.lst xs, a], d => (a.eqOk 60 = true ∧ eqOkL 60 xs = true) ∧ ∃ (j : Nat) (z : D), xs[j]? = some z ∧ z.eqv a = true ∧ (∀ (m : Nat) (z' : D), m < j → xs[m]? = some z' → z'.eqv a = false) ∧ d = .int j
  | .tup, xs, d => xs.length ≤ sizeLine ∧ d = .tup xs
  | .lst, xs, d => xs.length ≤ sizeLine ∧ d = .lst xs
  | _, _, _ => False

/-! ### the language -/
inductive Tg where
  | n (i : Nat)
  | t (l : List Tg)
mutual
inductive X where
  | k (d : D)
  | v (i : Nat)
  | op (o : Op) (l : Os)
  | and (a b : X)
  | or (a b : X)
  | not (a : X)
  | ife (c a b : X)
  | chain (o1 o2 : Op) (a b c : X)
  | call (f : Nat) (l : Os)
  | on (t : Ty) (a : X) (o : Op) (l : Os)
  | comp (fz own : List Nat) (tg : Tg) (it : It) (cs : Os) (e : X)
inductive Os where
  | nil
  | x (e : X) (r : Os)
  | p (i : Nat) (r : Os)
inductive It where
  | seq (l : Os)
  | rng (l : Os)
  | enum (l : Os)
  | zip (l : Os)
end
mutual
inductive Stm where
  | set (i : Nat) (e : X)
  | own (i : Nat) (e : X)
  | par (is : List Nat) (es : Rs)
  | tg (t : Tg) (e : X)
  | expr (e : X)
  | app (i : Nat) (e : X)
  | ext (i : Nat) (e : X)
  | pop (j i : Nat)
  | put (i : Nat) (k e : X)
  | aug (i : Nat) (o : Op) (e : X)
  | ret (e : X)
  | retN
  | ife (c : X) (a b : Stms)
  | for_ (t : Tg) (it : It) (b : Stms)
  | while_ (c : X) (b : Stms)
  | pass
  | brk
  | cont
  | raise
inductive Stms where
  | nil
  | cons (s : Stm) (r : Stms)
inductive Rs where
  | nil
  | val (e : X) (r : Rs)
  | own (e : X) (r : Rs)
end

/-! ### what is wanted -/
section
variable {S : Type}
/-- a def's contract: arguments, the region's state, what is wanted of its value, of its error -/
abbrev Ct (S : Type) := List D → S → (D → S → Prop) → (D → S → Prop) → Prop
abbrev QX (S : Type) := D → Env → S → Prop

mutual
def Tg.bind : Tg → D → Env → Option Env
  | .n i, d, ρ => some (ρ.set i (.val d))
  | .t ts, .tup ds, ρ => Tg.binds ts ds ρ
  | .t _, _, _ => none
def Tg.binds : List Tg → List D → Env → Option Env
  | [], [], ρ => some ρ
  | g :: ts, d :: ds, ρ => match Tg.bind g d ρ with
    | some ρ' => Tg.binds ts ds ρ'
    | none => none
  | _, _, _ => none
end
def freezeL : List Nat → Env → Env
  | [], ρ => ρ
  | i :: is, ρ => freezeL is (match ρ[i]? with | some (.own xs) => ρ.set i (.val (.lst xs)) | _ => ρ)
def wipeE (ρ : Env) : List Nat → Env
  | [] => ρ
  | v :: vs => (wipeE ρ vs).set v .un
def peek (ρ : Env) (i : Nat) : Option D := match ρ[i]? with
  | some (.val d) => some d
  | some (.own xs) => some (.lst xs)
  | _ => none
/-- what a loop goes through -/
def itemsOf : D → Option (List D)
  | .tup xs => some xs
  | .lst xs => some xs
  | .scr ns => some (ns.map .int)
  | _ => none
def enumFrom : Nat → List D → List D
  | _, [] => []
  | n, d :: ds => .tup [.int n, d] :: enumFrom (n + 1) ds
def zipD : List D → List D → List D
  | a :: as, b :: bs => .tup [a, b] :: zipD as bs
  | _, _ => []
def rangeD (lo : Int) : Nat → List D
  | 0 => []
  | n + 1 => .int lo :: rangeD (lo + 1) n
def inB62 (i : Int) : Prop := -b62 ≤ i ∧ i < b62
/-- the turns of a comprehension -/
def compW (turn : Env → S → (Env → S → Prop) → (D → S → Prop) → Prop) (tg : Tg) (ρ : Env) : List D → S → List D → (List D → S → Prop) → Prop
  | [], st, acc, Q => Q acc st
  | d :: ds, st, acc, Q => match tg.bind d ρ with
    | none => False
    | some ρ1 => turn ρ1 st (fun ρ2 st2 => ρ2 = ρ1 ∧ compW turn tg ρ ds st2 acc Q) fun y st2 => acc.length < sizeLine ∧ compW turn tg ρ ds st2 (acc ++ [y]) Q

variable (Γ : Nat → Ct S)
mutual
def wpX : X → Env → S → QX S → QX S → Prop
  | .k d, ρ, st, Q, _ => Q d ρ st
  | .v i, ρ, st, Q, _ => match ρ[i]? with
    | some (.val d) => Q d ρ st
    | some (.own xs) => Q (.lst xs) (ρ.set i (.val (.lst xs))) st
    | _ => False
  | .op o l, ρ, st, Q, E => wpO l ρ st (fun ds ρ' st' => ∃ d, o.sem ds d ∧ Q d ρ' st') E
  | .and a b, ρ, st, Q, E => wpX a ρ st (fun d ρ' st' => match d.truth with
    | some true => wpX b ρ' st' Q E
    | some false => Q d ρ' st'
    | none => False) E
  | .or a b, ρ, st, Q, E => wpX a ρ st (fun d ρ' st' => match d.truth with
    | some true => Q d ρ' st'
    | some false => wpX b ρ' st' Q E
    | none => False) E
  | .not a, ρ, st, Q, E => wpX a ρ st (fun d ρ' st' => ∃ b, d.truth = some b ∧ Q (.bl !b) ρ' st') E
  | .ife c a b, ρ, st, Q, E => wpX c ρ st (fun d ρ' st' => match d.truth with
    | some true => wpX a ρ' st' Q E
    | some false => wpX b ρ' st' Q E
    | none => False) E
  | .chain o1 o2 a b c, ρ, st, Q, E => wpX a ρ st (fun d1 ρ1 st1 => wpX b ρ1 st1 (fun d2 ρ2 st2 => ∃ k, o1.sem [d1, d2] (.bl k) ∧ match k with
    | true => wpX c ρ2 st2 (fun d3 ρ3 st3 => ∃ j, o2.sem [d2, d3] (.bl j) ∧ Q (.bl j) ρ3 st3) E
    | false => Q (.bl false) ρ2 st2) E) E
  | .call f l, ρ, st, Q, E => wpO l ρ st (fun ds ρ' st' => Γ f ds st' (fun d st'' => Q d ρ' st'') fun e st'' => E e ρ' st'') E
  | .on t a o l, ρ, st, Q, E => wpX a ρ st (fun d ρ1 st1 => t.has d = true ∧ wpO l ρ1 st1 (fun ds ρ2 st2 => ∃ r, o.sem (d :: ds) r ∧ Q r ρ2 st2) E) E
  | .comp fz own tg it cs e, ρ, st, Q, E => wpI it ρ st (fun ds ρ' st' =>
      compW (fun ρ1 st1 skip keep => wpO cs ρ1 st1 (fun bs ρ2 st2 => match bs with
          | [] => wpX e ρ2 st2 (fun y ρ3 st3 => ρ3 = ρ1 ∧ keep y st3) fun _ _ _ => False
          | [b] => (match b.truth with
            | some true => wpX e ρ2 st2 (fun y ρ3 st3 => ρ3 = ρ1 ∧ keep y st3) fun _ _ _ => False
            | some false => skip ρ2 st2
            | none => False)
          | _ => False) fun _ _ _ => False)
        tg (wipeE (freezeL (own ++ fz) ρ') own) ds st' [] fun ys st2 => Q (.lst ys) (freezeL (own ++ fz) ρ') st2) E
def wpO : Os → Env → S → (List D → Env → S → Prop) → QX S → Prop
  | .nil, ρ, st, Q, _ => Q [] ρ st
  | .x e r, ρ, st, Q, E => wpX e ρ st (fun d ρ' st' => wpO r ρ' st' (fun ds ρ'' st'' => Q (d :: ds) ρ'' st'') E) E
  | .p i r, ρ, st, Q, E => (peek ρ i).isSome = true ∧ wpO r ρ st (fun ds ρ' st' => match peek ρ' i with
    | some d => Q (d :: ds) ρ' st'
    | none => False) E
def wpI : It → Env → S → (List D → Env → S → Prop) → QX S → Prop
  | .seq l, ρ, st, Q, E => wpO l ρ st (fun ds ρ' st' => ∃ d xs, ds = [d] ∧ itemsOf d = some xs ∧ Q xs ρ' st') E
  | .rng l, ρ, st, Q, E => wpO l ρ st (fun ds ρ' st' => match ds with
    | [.int j] => inB62 j ∧ Q (rangeD 0 j.toNat) ρ' st'
    | [.int i, .int j] => (inB62 i ∧ inB62 j) ∧ Q (rangeD i (j - i).toNat) ρ' st'
    | _ => False) E
  | .enum l, ρ, st, Q, E => wpO l ρ st (fun ds ρ' st' => ∃ d xs, ds = [d] ∧ itemsOf d = some xs ∧ Q (enumFrom 0 xs) ρ' st') E
  | .zip l, ρ, st, Q, E => wpO l ρ st (fun ds ρ' st' => match ds with
    | [.tup xs, .tup ys] => Q (zipD xs ys) ρ' st'
    | [.lst xs, .lst ys] => Q (zipD xs ys) ρ' st'
    | _ => False) E
end

/-- what is wanted behind a statement -/
structure Kn (S : Type) where
  nx : Env → S → Prop
  rt : D → S → Prop
  bk : Env → S → Prop
  ct : Env → S → Prop
def forW (tg : Tg) (body : Env → S → (Env → S → Prop) → Prop) : List D → Env → S → (Env → S → Prop) → Prop
  | [], ρ, st, Q => Q ρ st
  | d :: ds, ρ, st, Q => match tg.bind d ρ with
    | none => False
    | some ρ1 => body ρ1 st fun ρ2 st2 => forW tg body ds ρ2 st2 Q
def whileW (turn : Env → S → (Env → S → Prop) → Prop) : Nat → Env → S → Prop
  | 0, _, _ => False
  | n + 1, ρ, st => turn ρ st (whileW turn n)
def setAll : List Nat → List Sl → Env → Env
  | i :: is, s :: ss, ρ => setAll is ss (ρ.set i s)
  | _, _, ρ => ρ
def wpR : Rs → Env → S → (List Sl → Env → S → Prop) → QX S → Prop
  | .nil, ρ, st, Q, _ => Q [] ρ st
  | .val e r, ρ, st, Q, E => wpX Γ e ρ st (fun d ρ' st' => wpR r ρ' st' (fun ss ρ'' st'' => Q (.val d :: ss) ρ'' st'') E) E
  | .own e r, ρ, st, Q, E => wpX Γ e ρ st (fun d ρ' st' => ∃ xs, d = .lst xs ∧ wpR r ρ' st' (fun ss ρ'' st'' => Q (.own xs :: ss) ρ'' st'') E) E
mutual
def wpS : Stm → Env → S → Kn S → QX S → Prop
  | .set i e, ρ, st, K, E => wpX Γ e ρ st (fun d ρ' st' => K.nx (ρ'.set i (.val d)) st') E
  | .own i e, ρ, st, K, E => wpX Γ e ρ st (fun d ρ' st' => ∃ xs, d = .lst xs ∧ K.nx (ρ'.set i (.own xs)) st') E
  | .par is es, ρ, st, K, E => wpR Γ es ρ st (fun ss ρ' st' => K.nx (setAll is ss ρ') st') E
  | .tg t e, ρ, st, K, E => wpX Γ e ρ st (fun d ρ' st' => match t.bind d ρ' with
    | some ρ'' => K.nx ρ'' st'
    | none => False) E
  | .expr e, ρ, st, K, E => wpX Γ e ρ st (fun _ ρ' st' => K.nx ρ' st') E
  | .app i e, ρ, st, K, E => (∃ xs, ρ[i]? = some (.own xs)) ∧ wpX Γ e ρ st (fun d ρ' st' => ∃ xs, ρ'[i]? = some (.own xs) ∧ xs.length < sizeLine ∧ K.nx (ρ'.set i (.own (xs ++ [d]))) st') E
  | .ext i e, ρ, st, K, E => (∃ xs, ρ[i]? = some (.own xs)) ∧ wpX Γ e ρ st (fun d ρ' st' => ∃ xs ys, ρ'[i]? = some (.own xs) ∧ d = .lst ys ∧ xs.length + ys.length ≤ sizeLine ∧ K.nx (ρ'.set i (.own (xs ++ ys))) st') E
  | .pop j i, ρ, st, K, _ => ∃ xs d, ρ[i]? = some (.own xs) ∧ xs[xs.length - 1]? = some d ∧ K.nx ((ρ.set i (.own xs.dropLast)).set j (.val d)) st
  | .put i k e, ρ, st, K, E => wpX Γ e ρ st (fun d ρ1 st1 => wpX Γ k ρ1 st1 (fun kd ρ2 st2 => ∃ xs z j, ρ2[i]? = some (.own xs) ∧ kd = .int z ∧ ixN xs.length z = some j ∧ K.nx (ρ2.set i (.own (xs.set j d))) st2) E) E
  | .aug i o e, ρ, st, K, E => wpX Γ e ρ st (fun d ρ' st' => ∃ x r, ρ'[i]? = some (.val x) ∧ o.sem [x, d] r ∧ K.nx (ρ'.set i (.val r)) st') E
  | .ret e, ρ, st, K, E => wpX Γ e ρ st (fun d _ st' => K.rt d st') E
  | .retN, _, st, K, _ => K.rt .non st
  | .ife c a b, ρ, st, K, E => wpX Γ c ρ st (fun d ρ' st' => match d.truth with
    | some true => wpSs a ρ' st' K E
    | some false => wpSs b ρ' st' K E
    | none => False) E
  | .for_ t it b, ρ, st, K, E => wpI Γ it ρ st (fun ds ρ' st' => forW t (fun ρ1 st1 nx => wpSs b ρ1 st1 { K with nx := nx, ct := nx, bk := K.nx } E) ds ρ' st' K.nx) E
  | .while_ c b, ρ, st, K, E => ∃ n, whileW (fun ρ1 st1 nx => wpX Γ c ρ1 st1 (fun d ρ2 st2 => match d.truth with
    | some true => wpSs b ρ2 st2 { K with nx := nx, ct := nx, bk := K.nx } E
    | some false => K.nx ρ2 st2
    | none => False) E) n ρ st
  | .pass, ρ, st, K, _ => K.nx ρ st
  | .brk, ρ, st, K, _ => K.bk ρ st
  | .cont, ρ, st, K, _ => K.ct ρ st
  | .raise, _, _, _, _ => False
def wpSs : Stms → Env → S → Kn S → QX S → Prop
  | .nil, ρ, st, K, _ => K.nx ρ st
  | .cons s r, ρ, st, K, E => wpS s ρ st { K with nx := fun ρ' st' => wpSs r ρ' st' K E } E
end
end
end Pv

end
section
set_option linter.all false
set_option maxRecDepth 100000
set_option maxHeartbeats 1000000
/-! Pv3: the operations are sound. -/
namespace Pv
open PySem PySem.Spec PyProof.Rows L2
section
variable {S : Type}
/-- the state with what is held aside (te, τ) -/
structure Cur (c : Set S) (F0 F : Hp) (ρ : Env) (st : S) (te : Env) (σ τ : List (Option V)) (H : Hp) : Prop where
  len : ρ.length = σ.length
  sim : Sim c F0 F (ρ ++ te) st (σ ++ τ) H
def Done (c : Set S) (F0 F : Hp) (ρ : Env) (st : S) (te : Env) (σ τ : List (Option V)) (H : Hp) (d : D) (Q : VK) : Prop :=
  ∀ v F' H', Cur c F0 F' ρ st te σ τ H' → Ext c F H F' H' → Den c.rc F' d v → Q v H'
/-- an operation's reading -/
def rUL (c : Set S) (o : Op) : List V → Hp → VK → Prop := fun vs H Q => ∃ F0 F ρ st te σ τ ds d, Cur c F0 F ρ st te σ τ H ∧ DenTL c F H ds vs ∧ o.sem ds d ∧ Done c F0 F ρ st te σ τ H d Q
def rU2 (c : Set S) (o : Op) : R2 := fun x y H Q => rUL c o [x, y] H Q

variable {c : Set S} {F0 F H : Hp} {ρ te : Env} {st : S} {σ τ : List (Option V)} {d : D} {v : V} {Q : VK}
theorem Done.now (C : Cur c F0 F ρ st te σ τ H) (q : Done c F0 F ρ st te σ τ H d Q) (h : Den c.rc F d v) : Q v H := q v F H C (Ext.refl _ _ _) h
theorem Done.lay (C : Cur c F0 F ρ st te σ τ H) (q : Done c F0 F ρ st te σ τ H d Q) {p : Addr} {o : HO} (hp : H p = none) (h : Sub F (upd F p o) → Den c.rc (upd F p o) d (.ref p)) : Q (.ref p) (upd H p o) := by
  obtain ⟨J, e⟩ := C.sim.lay (o := o) hp
  exact q _ _ _ ⟨C.len, J⟩ e (h e.f)

theorem DenT.non (h : DenT c F H .non v) : v = .non := by
  rcases h with h | ⟨_, _, _, _, e, _⟩
  · exact h
  · cases e
theorem DenT.bl {b : Bool} (h : DenT c F H (.bl b) v) : v = .bl b := by
  rcases h with h | ⟨_, _, _, _, e, _⟩
  · exact h
  · cases e
theorem DenT.int {b : Int} (h : DenT c F H (.int b) v) : v = .int b := by
  rcases h with h | ⟨_, _, _, _, e, _⟩
  · exact h
  · cases e
theorem DenT.str {b : Str} (h : DenT c F H (.str b) v) : v = .str b := by
  rcases h with h | ⟨_, _, _, _, e, _⟩
  · exact h
  · cases e
theorem DenT.tup {xs : List D} (s : Sub F H) (h : DenT c F H (.tup xs) v) : ∃ a vs, v = .ref a ∧ SqT c.K H a vs ∧ DenL c.rc F xs vs := by
  rcases h with ⟨a, vs, e, q, r⟩ | ⟨_, _, _, _, e, _⟩
  · exact ⟨a, vs, e, sqT_sub s q, r⟩
  · cases e
theorem DenT.lst {xs : List D} (s : Sub F H) (h : DenT c F H (.lst xs) v) : ∃ a vs, v = .ref a ∧ H a = some (.lst vs) ∧ DenL c.rc F xs vs := by
  rcases h with ⟨a, vs, e, q, r⟩ | ⟨a, vs, ys, e, e2, q, _, r⟩
  · exact ⟨a, vs, e, s _ _ q, r⟩
  · cases e2; exact ⟨a, vs, e, q, r⟩
theorem DenT.scr {xs : List Int} (s : Sub F H) (h : DenT c F H (.scr xs) v) : ∃ a, v = .ref a ∧ SqL c.K H a (xs.map V.int) := by
  rcases h with ⟨a, e, q⟩ | ⟨_, _, _, _, e, _⟩
  · exact ⟨a, e, sqL_sub s q⟩
  · cases e
theorem Cur.sub (C : Cur c F0 F ρ st te σ τ H) : Sub F H := C.sim.fh

/-! ### the library's data -/
mutual
theorem den_dp {K : PySem.W.Frag} {η : Nat → Option Addr} {F H : Hp} (s : Sub F H) : ∀ (d : D) (v : V) (p : PyData), Den ⟨K, η⟩ F d v → d.py = some p → p.hasDict = false → Dp K H v p
  | .non, v, p, h, e, _ => by cases e; cases h; exact .non
  | .bl b, v, p, h, e, _ => by cases e; cases h; exact .bl b
  | .int b, v, p, h, e, _ => by cases e; cases h; exact .int b
  | .str b, v, p, h, e, _ => by cases e; cases h; exact .str b
  | .tup xs, v, p, h, e, n => by
    obtain ⟨a, vs, rfl, q, r⟩ := h
    rw [D.py] at e
    cases z : pyL xs with
    | none => rw [z] at e; cases e
    | some ps =>
      rw [z] at e; cases e
      exact .tup (sqT_sub s q) (den_dps s xs vs ps r z n)
  | .lst xs, v, p, h, e, n => by
    obtain ⟨a, vs, rfl, q, r⟩ := h
    rw [D.py] at e
    cases z : pyL xs with
    | none => rw [z] at e; cases e
    | some ps =>
      rw [z] at e; cases e
      exact .lst (SqL.of (s _ _ q)) (den_dps s xs vs ps r z n)
  | .dct xs, v, p, h, e, n => by
    rw [D.py] at e
    cases z : pyK xs with
    | none => rw [z] at e; cases e
    | some ps => rw [z] at e; cases e; cases n
  | .obj _ _, _, _, h, _, _ => h.elim
  | .hdl _, _, _, _, e, _ => by cases e
  | .scr _, _, _, _, e, _ => by cases e
theorem den_dps {K : PySem.W.Frag} {η : Nat → Option Addr} {F H : Hp} (s : Sub F H) : ∀ (ds : List D) (vs : List V) (ps : List PyData), DenL ⟨K, η⟩ F ds vs → pyL ds = some ps → PyData.hasDictAll ps = false → DpAll K H vs ps
  | [], vs, ps, h, e, _ => by cases e; cases h; exact .nil
  | d :: ds, vs, ps, h, e, n => by
    obtain ⟨v, r, rfl, h1, h2⟩ := h
    rw [pyL] at e
    split at e
    · rename_i p qs e1 e2
      cases e
      have n' : (p.hasDict || PyData.hasDictAll qs) = false := n
      rw [Bool.or_eq_false_iff] at n'
      exact .cons (den_dp s d v p h1 e1 n'.1) (den_dps s ds r qs h2 e2 n'.2)
    · cases e
end
theorem denT_dp {p : PyData} (s : Sub F H) (h : DenT c F H d v) (e : d.py = some p) (n : p.hasDict = false) : Dp c.K H v p := by
  rcases h with h | ⟨a, vs, xs, rfl, rfl, q, _, r⟩
  · exact den_dp s d v p h e n
  · rw [D.py] at e
    cases z : pyL xs with
    | none => rw [z] at e; cases e
    | some ps => rw [z] at e; cases e; exact .lst (SqL.of q) (den_dps s xs vs ps r z n)
mutual
theorem eqOk_py : ∀ (n : Nat) (d : D), d.eqOk n = true → ∃ p, d.py = some p ∧ p.canLay0 = true ∧ p.depth ≤ n ∧ p.hasDict = false
  | _, .non, _ => ⟨_, rfl, rfl, Nat.zero_le _, rfl⟩
  | _, .bl _, _ => ⟨_, rfl, rfl, Nat.zero_le _, rfl⟩
  | _, .int _, _ => ⟨_, rfl, rfl, Nat.zero_le _, rfl⟩
  | n, .str x, h => ⟨.str x, rfl, by cases n <;> exact h, Nat.zero_le _, rfl⟩
  | n + 1, .tup xs, h => by
    obtain ⟨ps, e, a, b, g⟩ := eqOkL_py n xs h
    exact ⟨.tuple ps, by rw [D.py, e]; rfl, a, Nat.succ_le_succ b, g⟩
  | n + 1, .lst xs, h => by
    obtain ⟨ps, e, a, b, g⟩ := eqOkL_py n xs h
    exact ⟨.list ps, by rw [D.py, e]; rfl, a, Nat.succ_le_succ b, g⟩
  | 0, .tup _, h => by cases h
  | 0, .lst _, h => by cases h
  | n, .dct _, h => by cases n <;> cases h
  | n, .obj _ _, h => by cases n <;> cases h
  | n, .hdl _, h => by cases n <;> cases h
  | n, .scr _, h => by cases n <;> cases h
theorem eqOkL_py : ∀ (n : Nat) (ds : List D), eqOkL n ds = true → ∃ ps, pyL ds = some ps ∧ PyData.canLayAll0 ps = true ∧ PyData.depthAll ps ≤ n ∧ PyData.hasDictAll ps = false
  | _, [], _ => ⟨[], rfl, rfl, Nat.zero_le _, rfl⟩
  | n, d :: ds, h => by
    rw [eqOkL, Bool.and_eq_true] at h
    obtain ⟨p, e1, a1, b1, g1⟩ := eqOk_py n d h.1
    obtain ⟨ps, e2, a2, b2, g2⟩ := eqOkL_py n ds h.2
    refine ⟨p :: ps, by rw [pyL, e1, e2], ?_, ?_, ?_⟩
    · show (p.canLay0 && PyData.canLayAll0 ps) = true
      rw [a1, a2]; rfl
    · show max p.depth (PyData.depthAll ps) ≤ n
      omega
    · show (p.hasDict || PyData.hasDictAll ps) = false
      rw [g1, g2]; rfl
end
mutual
theorem eqv_py : ∀ (d e : D) (p q : PyData), d.py = some p → e.py = some q → p.hasDict = false → q.hasDict = false → d.eqv e = PyData.eqv p q
  | .tup xs, .tup ys, p, q, h1, h2, n1, n2 => by
    rw [D.py] at h1 h2
    cases z : pyL xs with
    | none => rw [z] at h1; cases h1
    | some ps =>
      cases w : pyL ys with
      | none => rw [w] at h2; cases h2
      | some qs => rw [z] at h1; rw [w] at h2; cases h1; cases h2; exact eqvL_py xs ys ps qs z w n1 n2
  | .lst xs, .lst ys, p, q, h1, h2, n1, n2 => by
    rw [D.py] at h1 h2
    cases z : pyL xs with
    | none => rw [z] at h1; cases h1
    | some ps =>
      cases w : pyL ys with
      | none => rw [w] at h2; cases h2
      | some qs => rw [z] at h1; rw [w] at h2; cases h1; cases h2; exact eqvL_py xs ys ps qs z w n1 n2
  | .tup xs, .non, p, q, h1, h2, _, _ | .tup xs, .bl _, p, q, h1, h2, _, _ | .tup xs, .int _, p, q, h1, h2, _, _ | .tup xs, .str _, p, q, h1, h2, _, _
  | .lst xs, .non, p, q, h1, h2, _, _ | .lst xs, .bl _, p, q, h1, h2, _, _ | .lst xs, .int _, p, q, h1, h2, _, _ | .lst xs, .str _, p, q, h1, h2, _, _ => by
    rw [D.py] at h1
    cases z : pyL xs with
    | none => rw [z] at h1; cases h1
    | some ps => rw [z] at h1; cases h1; cases h2; rfl
  | .non, .tup xs, p, q, h1, h2, _, _ | .bl _, .tup xs, p, q, h1, h2, _, _ | .int _, .tup xs, p, q, h1, h2, _, _ | .str _, .tup xs, p, q, h1, h2, _, _
  | .non, .lst xs, p, q, h1, h2, _, _ | .bl _, .lst xs, p, q, h1, h2, _, _ | .int _, .lst xs, p, q, h1, h2, _, _ | .str _, .lst xs, p, q, h1, h2, _, _ => by
    rw [D.py] at h2
    cases z : pyL xs with
    | none => rw [z] at h2; cases h2
    | some ps => rw [z] at h2; cases h2; cases h1; rfl
  | .tup xs, .lst ys, p, q, h1, h2, _, _ | .lst xs, .tup ys, p, q, h1, h2, _, _ => by
    unfold D.py at h1 h2
    cases z : pyL xs with
    | none => rw [z] at h1; cases h1
    | some ps =>
      cases w : pyL ys with
      | none => rw [w] at h2; cases h2
      | some qs => rw [z] at h1; rw [w] at h2; cases h1; cases h2; rfl
  | .dct xs, _, p, q, h1, _, n1, _ => by
    rw [D.py] at h1
    cases z : pyK xs with
    | none => rw [z] at h1; cases h1
    | some ps => rw [z] at h1; cases h1; cases n1
  | .obj _ _, _, _, _, h1, _, _, _ => by cases h1
  | .hdl _, _, _, _, h1, _, _, _ => by cases h1
  | .scr _, _, _, _, h1, _, _, _ => by cases h1
  | _, .dct xs, p, q, _, h1, _, n1 => by
    rw [D.py] at h1
    cases z : pyK xs with
    | none => rw [z] at h1; cases h1
    | some ps => rw [z] at h1; cases h1; cases n1
  | _, .obj _ _, _, _, _, h1, _, _ => by cases h1
  | _, .hdl _, _, _, _, h1, _, _ => by cases h1
  | _, .scr _, _, _, _, h1, _, _ => by cases h1
  | .non, .non, _, _, h1, h2, _, _ | .non, .bl _, _, _, h1, h2, _, _ | .non, .int _, _, _, h1, h2, _, _ | .non, .str _, _, _, h1, h2, _, _
  | .bl _, .non, _, _, h1, h2, _, _ | .bl _, .bl _, _, _, h1, h2, _, _ | .bl _, .int _, _, _, h1, h2, _, _ | .bl _, .str _, _, _, h1, h2, _, _
  | .int _, .non, _, _, h1, h2, _, _ | .int _, .bl _, _, _, h1, h2, _, _ | .int _, .int _, _, _, h1, h2, _, _ | .int _, .str _, _, _, h1, h2, _, _
  | .str _, .non, _, _, h1, h2, _, _ | .str _, .bl _, _, _, h1, h2, _, _ | .str _, .int _, _, _, h1, h2, _, _ | .str _, .str _, _, _, h1, h2, _, _ => by cases h1; cases h2; rfl
theorem eqvL_py : ∀ (ds es : List D) (ps qs : List PyData), pyL ds = some ps → pyL es = some qs → PyData.hasDictAll ps = false → PyData.hasDictAll qs = false → eqvL ds es = PyData.eqvAll ps qs
  | [], [], _, _, h1, h2, _, _ => by cases h1; cases h2; rfl
  | [], e :: es, _, _, h1, h2, _, _ => by
    rw [pyL] at h2
    split at h2
    · cases h1; cases h2; rfl
    · cases h2
  | d :: ds, [], _, _, h1, h2, _, _ => by
    rw [pyL] at h1
    split at h1
    · cases h1; cases h2; rfl
    · cases h1
  | d :: ds, e :: es, ps, qs, h1, h2, n1, n2 => by
    rw [pyL] at h1 h2
    split at h1
    · rename_i p ps' a1 a2
      split at h2
      · rename_i q qs' b1 b2
        cases h1; cases h2
        have n1' : (p.hasDict || PyData.hasDictAll ps') = false := n1
        have n2' : (q.hasDict || PyData.hasDictAll qs') = false := n2
        rw [Bool.or_eq_false_iff] at n1' n2'
        show (d.eqv e && eqvL ds es) = (PyData.eqv p q && PyData.eqvAll ps' qs')
        rw [eqv_py d e p q a1 b1 n1'.1 n2'.1, eqvL_py ds es ps' qs' a2 b2 n1'.2 n2'.2]
      · cases h2
    · cases h1
end
end
end Pv

end
section
set_option linter.all false
set_option maxRecDepth 100000
set_option maxHeartbeats 2000000
/-! Pv4: the operations are sound, one by one. -/
namespace Pv
open PySem PySem.Spec PyProof.Rows L2
section
variable {S : Type}
/-- a list that nobody else has -/
structure Fresh (c : Set S) (F : Hp) (ρt : Env) (σt : List (Option V)) (H : Hp) (xs : List D) (p : Addr) : Prop where
  f : F p = none
  n : c.H0 p = none
  m : ¬ c.R.M p
  q : ∃ vs, H p = some (.lst vs) ∧ DenL c.rc F xs vs
  a : ∀ (j : Nat) (ys : List D), ρt[j]? = some (.own ys) → σt[j]? ≠ some (some (.ref p))
def DoneF (c : Set S) (F0 F : Hp) (ρ : Env) (st : S) (te : Env) (σ τ : List (Option V)) (H : Hp) (xs : List D) (Q : VK) : Prop :=
  ∀ p F' H', Cur c F0 F' ρ st te σ τ H' → Ext c F H F' H' → Fresh c F' (ρ ++ te) (σ ++ τ) H' xs p → Q (.ref p) H'
def rUF (c : Set S) (o : Op) : List V → Hp → VK → Prop := fun vs H Q => ∃ F0 F ρ st te σ τ ds xs, Cur c F0 F ρ st te σ τ H ∧ DenTL c F H ds vs ∧ o.sem ds (.lst xs) ∧ DoneF c F0 F ρ st te σ τ H xs Q

variable {c : Set S} {F0 F H : Hp} {ρ te : Env} {st : S} {σ τ : List (Option V)} {d : D} {v : V} {Q : VK}
/-- a list that nobody else has is from now on data -/
theorem Sim.adopt {F0 F H : Hp} {ρ : Env} {st : S} {σ : List (Option V)} (I : Sim c F0 F ρ st σ H) {xs : List D} {p : Addr} (h : Fresh c F ρ σ H xs p) :
    ∃ F', Sim c F0 F' ρ st σ H ∧ Ext c F H F' H ∧ Den c.rc F' (.lst xs) (.ref p) := by
  obtain ⟨f, n, m, ⟨vs, q, r⟩, a⟩ := h
  have s1 : Sub F (upd F p (.lst vs)) := Sub.upd f
  refine ⟨upd F p (.lst vs), ⟨I.keep, I.f0.trans s1, fun b o e => ?_, fun b o e => ?_, fun b ma => ?_, I.reg, I.len, fun j s y h1 h2 => ?_, I.inj⟩, ⟨s1, fun _ _ h _ => h⟩, ⟨p, vs, rfl, upd_same, r.sub s1⟩⟩
  · by_cases hb : b = p
    · subst hb; rw [upd_same] at e; cases e; exact q
    · rw [upd_ne hb] at e; exact I.fh b o e
  · by_cases hb : b = p
    · subst hb; exact .inr n
    · rw [upd_ne hb] at e; exact I.fnew b o e
  · rw [upd_ne (fun (z : b = p) => m (by rw [← z]; exact ma))]; exact I.fM b ma
  · have z := I.slot j s y h1 h2
    cases s with
    | un => trivial
    | val d => obtain ⟨v, e, w⟩ := z; exact ⟨v, e, w.sub s1⟩
    | own ys =>
      obtain ⟨b, us, e, f', n', m', q', r'⟩ := z
      have ne : b ≠ p := fun z => a j ys h1 (by rw [h2, e, z])
      exact ⟨b, us, e, by rw [upd_ne ne]; exact f', n', m', q', r'.sub s1⟩
theorem Done.fresh {xs : List D} (q : Done c F0 F ρ st te σ τ H (.lst xs) Q) : DoneF c F0 F ρ st te σ τ H xs Q := fun p F' H' C e f => by
  obtain ⟨F2, J, e2, dn⟩ := C.sim.adopt f
  exact q _ _ _ ⟨C.len, J⟩ (e.trans e2) dn
/-- a new list object is such a list -/
theorem DoneF.lay {xs : List D} (C : Cur c F0 F ρ st te σ τ H) (q : DoneF c F0 F ρ st te σ τ H xs Q) {p : Addr} {vs : List V} (hp : H p = none) (r : DenL c.rc F xs vs) : Q (.ref p) (upd H p (.lst vs)) := by
  obtain ⟨n, m, f⟩ := C.sim.new hp
  refine q p F _ ⟨C.len, C.sim.grow hp⟩ ⟨Sub.refl _, fun a o h _ => Sub.upd hp a o h⟩ ⟨f, n, m, ⟨vs, upd_same, r⟩, fun j ys h1 h2 => ?_⟩
  obtain ⟨b, us, e, _, _, _, q', _⟩ := C.sim.slot j _ _ h1 h2
  cases e
  rw [hp] at q'; cases q'

theorem DenTL.one {ds : List D} {x : V} (h : DenTL c F H ds [x]) : ∃ d, ds = [d] ∧ DenT c F H d x := by
  cases ds with
  | nil => exact absurd (show [x] = [] from h) (by simp)
  | cons d r =>
    obtain ⟨v, vs, e, h1, h2⟩ := h
    cases e
    cases r with
    | nil => exact ⟨d, rfl, h1⟩
    | cons d2 r => obtain ⟨v, vs, e, _, _⟩ := h2; cases e
theorem DenTL.two {ds : List D} {x y : V} (h : DenTL c F H ds [x, y]) : ∃ d e, ds = [d, e] ∧ DenT c F H d x ∧ DenT c F H e y := by
  cases ds with
  | nil => exact absurd (show [x, y] = [] from h) (by simp)
  | cons d r =>
    obtain ⟨v, vs, e, h1, h2⟩ := h
    cases e
    obtain ⟨e, rfl, h3⟩ := DenTL.one h2
    exact ⟨d, e, rfl, h1, h3⟩
theorem DenL.nil_iff {c : Rc} {F : Hp} {xs : List D} {vs : List V} (h : DenL c F xs vs) : vs = [] ↔ xs = [] := by
  have e := h.length
  constructor
  · intro z; subst z; exact List.eq_nil_of_length_eq_zero e.symm
  · intro z; subst z; exact List.eq_nil_of_length_eq_zero e
theorem DenL.rep {c : Rc} {F : Hp} {xs : List D} {vs : List V} (h : DenL c F xs vs) : ∀ n : Nat, DenL c F (List.replicate n xs).flatten (List.replicate n vs).flatten
  | 0 => rfl
  | n + 1 => by
    rw [List.replicate_succ, List.replicate_succ, List.flatten_cons, List.flatten_cons]
    exact h.append (h.rep n)
theorem intsOf_den {rc : Rc} {F : Hp} : ∀ {xs : List D} {ns : List Int} {vs : List V}, intsOf xs = some ns → DenL rc F xs vs → vs = ns.map V.int
  | [], ns, vs, e, h => by cases e; exact h
  | .int i :: r, ns, vs, e, h => by
    obtain ⟨v, us, rfl, h1, h2⟩ := h
    rw [intsOf] at e
    cases z : intsOf r with
    | none => rw [z] at e; cases e
    | some ms => rw [z] at e; cases e; rw [intsOf_den z h2]; cases (show v = .int i from h1); rfl
  | .non :: _, _, _, e, _ | .bl _ :: _, _, _, e, _ | .str _ :: _, _, _, e, _ | .tup _ :: _, _, _, e, _ | .lst _ :: _, _, _, e, _ | .dct _ :: _, _, _, e, _ | .obj _ _ :: _, _, _, e, _ | .hdl _ :: _, _, _, e, _ | .scr _ :: _, _, _, e, _ => by cases e
theorem blsOf_den {rc : Rc} {F : Hp} : ∀ {xs : List D} {ns : List Bool} {vs : List V}, blsOf xs = some ns → DenL rc F xs vs → vs = ns.map V.bl
  | [], ns, vs, e, h => by cases e; exact h
  | .bl i :: r, ns, vs, e, h => by
    obtain ⟨v, us, rfl, h1, h2⟩ := h
    rw [blsOf] at e
    cases z : blsOf r with
    | none => rw [z] at e; cases e
    | some ms => rw [z] at e; cases e; rw [blsOf_den z h2]; cases (show v = .bl i from h1); rfl
  | .non :: _, _, _, e, _ | .int _ :: _, _, _, e, _ | .str _ :: _, _, _, e, _ | .tup _ :: _, _, _, e, _ | .lst _ :: _, _, _, e, _ | .dct _ :: _, _, _, e, _ | .obj _ _ :: _, _, _, e, _ | .hdl _ :: _, _, _, e, _ | .scr _ :: _, _, _, e, _ => by cases e
theorem flat_den {d : D} {v : V} (h : DenT c F H d v) (f : d.flat = true) : flatV v = true := by
  cases d with
  | non => rw [h.non]; rfl
  | bl b => rw [h.bl]; rfl
  | int b => rw [h.int]; rfl
  | str b => rw [h.str]; rfl
  | _ => cases f
theorem eqV_flat {d e : D} {v u : V} (h : DenT c F H d v) (h2 : DenT c F H e u) (f : d.flat = true) (f2 : e.flat = true) : L2.eqV v u = d.eqv e := by
  cases d with
  | non => rw [h.non]; cases e with
    | non => rw [h2.non]; rfl
    | bl _ => rw [h2.bl]; rfl
    | int _ => rw [h2.int]; rfl
    | str _ => rw [h2.str]; rfl
    | _ => cases f2
  | bl _ => rw [h.bl]; cases e with
    | non => rw [h2.non]; rfl
    | bl _ => rw [h2.bl]; rfl
    | int _ => rw [h2.int]; rfl
    | str _ => rw [h2.str]; rfl
    | _ => cases f2
  | int _ => rw [h.int]; cases e with
    | non => rw [h2.non]; rfl
    | bl _ => rw [h2.bl]; rfl
    | int _ => rw [h2.int]; rfl
    | str _ => rw [h2.str]; rfl
    | _ => cases f2
  | str _ => rw [h.str]; cases e with
    | non => rw [h2.non]; rfl
    | bl _ => rw [h2.bl]; rfl
    | int _ => rw [h2.int]; rfl
    | str _ => rw [h2.str]; rfl
    | _ => cases f2
  | _ => cases f
theorem flats_den (H : Hp) : ∀ {xs : List D} {vs : List V}, DenL c.rc F xs vs → xs.all D.flat = true → vs.all flatV = true
  | [], _, h, _ => by cases h; rfl
  | x :: xs, _, ⟨v, r, e, h1, h2⟩, f => by
    subst e
    rw [List.all_cons, Bool.and_eq_true] at f ⊢
    exact ⟨flat_den (H := H) (.inl h1) f.1, flats_den H h2 f.2⟩
theorem inV_flat {a : D} {x : V} (ha : DenT c F H a x) (fa : a.flat = true) : ∀ {xs : List D} {vs : List V}, DenL c.rc F xs vs → xs.all D.flat = true → inV x vs = xs.any fun y => y.eqv a
  | [], _, h, _ => by cases h; rfl
  | y :: xs, _, ⟨v, r, e, h1, h2⟩, f => by
    subst e
    rw [List.all_cons, Bool.and_eq_true] at f
    show (L2.eqV v x || inV x r) = _
    rw [List.any_cons, eqV_flat (H := H) (.inl h1) ha f.1 fa, inV_flat ha fa h2 f.2]
theorem cut_den {rc : Rc} {F : Hp} {xs : List D} {vs : List V} (h : DenL rc F xs vs) (lo hi : Option Int) : DenL rc F (cutL xs lo hi) (cutV vs lo hi) := by
  unfold cutL cutV
  rw [h.length]
  exact (h.drop _).take _

/-! ### two-place -/
variable {X : Cx}
theorem b64_eq : b64 = 2 ^ 64 := rfl
theorem u_add (hK : c.K = X.K) : OpR X (binaryOp .Add) (rU2 c .add) := by
  intro pins s σ' H x y v u Q I rx ry h
  obtain ⟨F0, F, ρ, st, te, σ, τ, ds, d, C, hd, sem, q⟩ := h
  obtain ⟨d1, d2, rfl, h1, h2⟩ := hd.two
  cases d1 <;> cases d2 <;> first | exact (show False from sem).elim | skip
  · obtain rfl := h1.int
    obtain rfl := h2.int
    obtain rfl := (show d = _ from sem)
    exact op_add pins s σ' H _ _ v u Q I rx ry ⟨_, _, rfl, rfl, q.now C rfl⟩
  · obtain rfl := h1.str
    obtain rfl := h2.str
    obtain ⟨z, rfl⟩ := (show _ ∧ d = _ from sem)
    exact op_add_str pins s σ' H _ _ v u Q I rx ry ⟨_, _, rfl, rfl, z, q.now C rfl⟩
  · obtain ⟨a, vs, rfl, e1, r1⟩ := h1.tup C.sub
    obtain ⟨b, us, rfl, e2, r2⟩ := h2.tup C.sub
    obtain ⟨z, rfl⟩ := (show _ ∧ d = _ from sem)
    rw [hK] at e1 e2
    refine op_catA pins s σ' H _ _ v u Q I rx ry ⟨a, b, vs, us, rfl, rfl, e1, e2, by rw [r1.length, r2.length]; exact z, fun e => ?_, fun _ e => ?_, fun _ _ p hp => ?_⟩
    · have := (r1.nil_iff).mp e
      subst this
      rcases h2 with h2 | ⟨_, _, _, _, w, _⟩
      · exact q.now C h2
      · cases w
    · have := (r2.nil_iff).mp e
      subst this
      rcases h1 with h1 | ⟨_, _, _, _, w, _⟩
      · rw [List.append_nil] at q; exact q.now C h1
      · cases w
    · exact q.lay C hp fun s1 => ⟨p, _, rfl, SqT.of upd_same, (r1.append r2).sub s1⟩
  · obtain ⟨a, vs, rfl, e1, r1⟩ := h1.lst C.sub
    obtain ⟨b, us, rfl, e2, r2⟩ := h2.lst C.sub
    obtain ⟨z, rfl⟩ := (show _ ∧ d = _ from sem)
    exact op_cat pins s σ' H _ _ v u Q I rx ry ⟨a, b, vs, us, rfl, rfl, e1, e2, by rw [r1.length, r2.length]; exact z, fun p hp => q.fresh.lay C hp (r1.append r2)⟩
theorem f_add : OpR X (binaryOp .Add) (fun x y => rUF c .add [x, y]) := by
  intro pins s σ' H x y v u Q I rx ry h
  obtain ⟨F0, F, ρ, st, te, σ, τ, ds, d, C, hd, sem, q⟩ := h
  obtain ⟨d1, d2, rfl, h1, h2⟩ := hd.two
  cases d1 <;> cases d2 <;> first | exact (show False from sem).elim | (have e := (show D.lst d = _ from sem); cases e; done) | (have e := (show _ ∧ D.lst d = _ from sem).2; cases e; done) | skip
  obtain ⟨a, vs, rfl, e1, r1⟩ := h1.lst C.sub
  obtain ⟨b, us, rfl, e2, r2⟩ := h2.lst C.sub
  obtain ⟨z, e⟩ := (show _ ∧ D.lst d = _ from sem)
  cases e
  exact op_cat pins s σ' H _ _ v u Q I rx ry ⟨a, b, vs, us, rfl, rfl, e1, e2, by rw [r1.length, r2.length]; exact z, fun p hp => q.lay C hp (r1.append r2)⟩
theorem u_sub : OpR X (binaryOp .Sub) (rU2 c .sub) := by
  intro pins s σ' H x y v u Q I rx ry h
  obtain ⟨F0, F, ρ, st, te, σ, τ, ds, d, C, hd, sem, q⟩ := h
  obtain ⟨d1, d2, rfl, h1, h2⟩ := hd.two
  cases d1 <;> cases d2 <;> first | exact (show False from sem).elim | skip
  obtain rfl := h1.int
  obtain rfl := h2.int
  obtain rfl := (show d = _ from sem)
  exact op_sub pins s σ' H _ _ v u Q I rx ry ⟨_, _, rfl, rfl, q.now C rfl⟩
theorem rep_bounds {k : Int} (h : -b62 ≤ k ∧ k < b62) : -(2 ^ 63) ≤ k ∧ k < 2 ^ 63 := by
  have e : b62 = 2 ^ 62 := rfl
  rw [e] at h
  omega
theorem u_mul (hK : c.K = X.K) : OpR X (binaryOp .Mult) (rU2 c .mul) := by
  intro pins s σ' H x y v u Q I rx ry h
  obtain ⟨F0, F, ρ, st, te, σ, τ, ds, d, C, hd, sem, q⟩ := h
  obtain ⟨d1, d2, rfl, h1, h2⟩ := hd.two
  cases d1 <;> cases d2 <;> first | exact (show False from sem).elim | skip
  · obtain rfl := h1.int
    obtain rfl := h2.int
    obtain ⟨z, rfl⟩ := (show _ ∧ d = _ from sem)
    exact op_mul pins s σ' H _ _ v u Q I rx ry ⟨_, _, rfl, rfl, z, q.now C rfl⟩
  · obtain ⟨a, vs, rfl, e1, r1⟩ := h1.tup C.sub
    obtain rfl := h2.int
    obtain ⟨⟨z1, z2, z3, z4⟩, rfl⟩ := (show _ ∧ d = _ from sem)
    rw [hK] at e1
    exact op_repT pins s σ' H _ _ v u Q I rx ry ⟨a, _, vs, rfl, rfl, e1, fun e => z1 (r1.nil_iff.mp e), z2, z3, by rw [r1.length]; exact z4, fun p hp => q.lay C hp fun s1 => ⟨p, _, rfl, SqT.of upd_same, (r1.rep _).sub s1⟩⟩
  · obtain ⟨a, vs, rfl, e1, r1⟩ := h1.lst C.sub
    obtain rfl := h2.int
    obtain ⟨z1, z2, rfl⟩ := (show _ ∧ _ ∧ d = _ from sem)
    exact op_rep pins s σ' H _ _ v u Q I rx ry ⟨a, _, vs, rfl, rfl, e1, (rep_bounds z1).1, (rep_bounds z1).2, by rw [r1.length]; exact z2, fun p hp => q.fresh.lay C hp (r1.rep _)⟩
theorem f_mul : OpR X (binaryOp .Mult) (fun x y => rUF c .mul [x, y]) := by
  intro pins s σ' H x y v u Q I rx ry h
  obtain ⟨F0, F, ρ, st, te, σ, τ, ds, d, C, hd, sem, q⟩ := h
  obtain ⟨d1, d2, rfl, h1, h2⟩ := hd.two
  cases d1 <;> cases d2 <;> first | exact (show False from sem).elim | (have e := (show D.lst d = _ from sem); cases e; done) | (have e := (show _ ∧ D.lst d = _ from sem).2; cases e; done) | skip
  obtain ⟨a, vs, rfl, e1, r1⟩ := h1.lst C.sub
  obtain rfl := h2.int
  obtain ⟨z1, z2, e⟩ := (show _ ∧ _ ∧ D.lst d = _ from sem)
  cases e
  exact op_rep pins s σ' H _ _ v u Q I rx ry ⟨a, _, vs, rfl, rfl, e1, (rep_bounds z1).1, (rep_bounds z1).2, by rw [r1.length]; exact z2, fun p hp => q.lay C hp (r1.rep _)⟩
theorem u_fdiv : OpR X (binaryOp .FloorDiv) (rU2 c .fdiv) := by
  intro pins s σ' H x y v u Q I rx ry h
  obtain ⟨F0, F, ρ, st, te, σ, τ, ds, d, C, hd, sem, q⟩ := h
  obtain ⟨d1, d2, rfl, h1, h2⟩ := hd.two
  cases d1 <;> cases d2 <;> first | exact (show False from sem).elim | skip
  obtain rfl := h1.int
  obtain rfl := h2.int
  obtain ⟨⟨z1, z2⟩, rfl⟩ := (show _ ∧ d = _ from sem)
  exact op_fdiv pins s σ' H _ _ v u Q I rx ry ⟨_, _, rfl, rfl, ⟨z1, by have e : b30 = 1073741824 := rfl; omega⟩, q.now C rfl⟩
theorem u_mod : OpR X (binaryOp .Mod) (rU2 c .mod) := by
  intro pins s σ' H x y v u Q I rx ry h
  obtain ⟨F0, F, ρ, st, te, σ, τ, ds, d, C, hd, sem, q⟩ := h
  obtain ⟨d1, d2, rfl, h1, h2⟩ := hd.two
  cases d1 <;> cases d2 <;> first | exact (show False from sem).elim | skip
  obtain rfl := h1.int
  obtain rfl := h2.int
  obtain ⟨z, rfl⟩ := (show _ ∧ d = _ from sem)
  exact op_mod pins s σ' H _ _ v u Q I rx ry ⟨_, _, rfl, rfl, z, q.now C rfl⟩
theorem u_pow : OpR X (binaryOp .Pow) (rU2 c .pow) := by
  intro pins s σ' H x y v u Q I rx ry h
  obtain ⟨F0, F, ρ, st, te, σ, τ, ds, d, C, hd, sem, q⟩ := h
  obtain ⟨d1, d2, rfl, h1, h2⟩ := hd.two
  cases d1 <;> cases d2 <;> first | exact (show False from sem).elim | skip
  obtain rfl := h1.int
  obtain rfl := h2.int
  obtain ⟨⟨z1, z2, z3⟩, rfl⟩ := (show _ ∧ d = _ from sem)
  exact op_pow pins s σ' H _ _ v u Q I rx ry ⟨_, _, rfl, rfl, ⟨z1, Int.le_trans z2 (by decide), Nat.lt_of_le_of_lt z3 (by decide)⟩, q.now C rfl⟩
theorem u_neg : UnR X (unaryOp .USub) (fun x => rUL c .neg [x]) := by
  intro pins s σ' H x v Q I rx h
  obtain ⟨F0, F, ρ, st, te, σ, τ, ds, d, C, hd, sem, q⟩ := h
  obtain ⟨d1, rfl, h1⟩ := hd.one
  cases d1 <;> first | exact (show False from sem).elim | skip
  obtain rfl := h1.int
  obtain rfl := (show d = _ from sem)
  exact un_neg pins s σ' H _ v Q I rx ⟨_, rfl, q.now C rfl⟩

/-! ### comparisons -/
theorem u_cmp {op : CmpOp} {o : Op} {p : Int → Int → Bool} (ho : OpR X (compareOp op) (rI0 fun i j => .bl (p i j))) (hs : ∀ d e r, o.sem [d, e] r → ∃ i j, d = .int i ∧ e = .int j ∧ r = .bl (p i j)) : OpR X (compareOp op) (rU2 c o) := by
  intro pins s σ' H x y v u Q I rx ry h
  obtain ⟨F0, F, ρ, st, te, σ, τ, ds, d, C, hd, sem, q⟩ := h
  obtain ⟨d1, d2, rfl, h1, h2⟩ := hd.two
  obtain ⟨i, j, rfl, rfl, rfl⟩ := hs _ _ _ sem
  obtain rfl := h1.int
  obtain rfl := h2.int
  exact ho pins s σ' H _ _ v u Q I rx ry ⟨_, _, rfl, rfl, q.now C rfl⟩
theorem u_le : OpR X (compareOp .LtE) (rU2 c .le) := u_cmp op_le fun d e r h => by cases d <;> cases e <;> first | exact (show False from h).elim | exact ⟨_, _, rfl, rfl, h⟩
theorem u_gt : OpR X (compareOp .Gt) (rU2 c .gt) := u_cmp op_gt fun d e r h => by cases d <;> cases e <;> first | exact (show False from h).elim | exact ⟨_, _, rfl, rfl, h⟩
theorem u_ge : OpR X (compareOp .GtE) (rU2 c .ge) := u_cmp op_ge fun d e r h => by cases d <;> cases e <;> first | exact (show False from h).elim | exact ⟨_, _, rfl, rfl, h⟩
theorem shaped_of {p : PyData} {n : Nat} (hn : n ≤ 64) (a : p.canLay0 = true) (b : p.depth ≤ n) : SeqAt.shaped p = true := by
  unfold SeqAt.shaped
  rw [Bool.and_eq_true, a]
  exact ⟨rfl, decide_eq_true (Nat.le_trans b hn)⟩
theorem eq_cases {d e r : D} (neg : Bool) (h : (if neg then Op.ne else Op.eq).sem [d, e] r) :
    (∃ i j : Int, d = .int i ∧ e = .int j ∧ r = .bl (if neg then !decide (i = j) else decide (i = j))) ∨ (∃ i j : Str, d = .str i ∧ e = .str j ∧ r = .bl (if neg then !decide (i = j) else decide (i = j))) ∨
      ((d.eqOk 60 = true ∧ e.eqOk 60 = true) ∧ r = .bl (if neg then !d.eqv e else d.eqv e)) := by
  cases neg <;> cases d <;> cases e <;> first
    | exact .inl ⟨_, _, rfl, rfl, h⟩
    | exact .inr (.inl ⟨_, _, rfl, rfl, h⟩)
    | exact .inr (.inr h)
theorem u_eq (hK : c.K = X.K) (hu : X.A.units + 64 < cLine) : OpR X (compareOp .Eq) (rU2 c .eq) := by
  intro pins s σ' H x y v u Q I rx ry h
  obtain ⟨F0, F, ρ, st, te, σ, τ, ds, d, C, hd, sem, q⟩ := h
  obtain ⟨d1, d2, rfl, h1, h2⟩ := hd.two
  rcases eq_cases false sem with ⟨i, j, rfl, rfl, rfl⟩ | ⟨i, j, rfl, rfl, rfl⟩ | ⟨⟨z1, z2⟩, rfl⟩
  · obtain rfl := h1.int
    obtain rfl := h2.int
    refine op_eq pins s σ' H _ _ v u Q I rx ry ⟨rfl, ?_⟩
    rw [show decide (V.int i = V.int j) = decide (i = j) by rw [dec_int, Bool.beq_eq_decide_eq]]
    exact q.now C rfl
  · obtain rfl := h1.str
    obtain rfl := h2.str
    refine op_eq pins s σ' H _ _ v u Q I rx ry ⟨rfl, ?_⟩
    rw [show decide (V.str i = V.str j) = decide (i = j) by rw [dec_str, Bool.beq_eq_decide_eq]]
    exact q.now C rfl
  · obtain ⟨p1, e1, a1, b1, g1⟩ := eqOk_py _ _ z1
    obtain ⟨p2, e2, a2, b2, g2⟩ := eqOk_py _ _ z2
    refine op_eqD hu pins s σ' H _ _ v u Q I rx ry ⟨p1, p2, hK ▸ denT_dp C.sub h1 e1 g1, hK ▸ denT_dp C.sub h2 e2 g2, shaped_of (by decide) a1 b1, shaped_of (by decide) a2 b2, ?_⟩
    rw [← eqv_py _ _ _ _ e1 e2 g1 g2]
    exact q.now C rfl
theorem u_ne (hK : c.K = X.K) (hu : X.A.units + 64 < cLine) : OpR X (compareOp .NotEq) (rU2 c .ne) := by
  intro pins s σ' H x y v u Q I rx ry h
  obtain ⟨F0, F, ρ, st, te, σ, τ, ds, d, C, hd, sem, q⟩ := h
  obtain ⟨d1, d2, rfl, h1, h2⟩ := hd.two
  rcases eq_cases true sem with ⟨i, j, rfl, rfl, rfl⟩ | ⟨i, j, rfl, rfl, rfl⟩ | ⟨⟨z1, z2⟩, rfl⟩
  · obtain rfl := h1.int
    obtain rfl := h2.int
    refine op_ne pins s σ' H _ _ v u Q I rx ry ⟨rfl, ?_⟩
    rw [show decide (V.int i = V.int j) = decide (i = j) by rw [dec_int, Bool.beq_eq_decide_eq]]
    exact q.now C rfl
  · obtain rfl := h1.str
    obtain rfl := h2.str
    refine op_ne pins s σ' H _ _ v u Q I rx ry ⟨rfl, ?_⟩
    rw [show decide (V.str i = V.str j) = decide (i = j) by rw [dec_str, Bool.beq_eq_decide_eq]]
    exact q.now C rfl
  · obtain ⟨p1, e1, a1, b1, g1⟩ := eqOk_py _ _ z1
    obtain ⟨p2, e2, a2, b2, g2⟩ := eqOk_py _ _ z2
    refine op_neD hu pins s σ' H _ _ v u Q I rx ry ⟨p1, p2, hK ▸ denT_dp C.sub h1 e1 g1, hK ▸ denT_dp C.sub h2 e2 g2, shaped_of (by decide) a1 b1, shaped_of (by decide) a2 b2, ?_⟩
    rw [← eqv_py _ _ _ _ e1 e2 g1 g2]
    exact q.now C rfl
theorem isN_den {a : D} {v : V} (h : DenT c F H a v) : decide (v = .non) = a.isNon := by
  cases a with
  | non => rw [h.non]; rfl
  | bl _ => rw [h.bl]; rfl
  | int _ => rw [h.int]; rfl
  | str _ => rw [h.str]; rfl
  | tup _ => rcases h with ⟨a, _, rfl, _⟩ | ⟨_, _, _, rfl, _⟩ <;> rfl
  | lst _ => rcases h with ⟨a, _, rfl, _⟩ | ⟨_, _, _, rfl, _⟩ <;> rfl
  | dct _ => rcases h with ⟨a, _, rfl, _⟩ | ⟨_, _, _, rfl, _⟩ <;> rfl
  | obj _ _ => rcases h with h | ⟨_, _, _, rfl, _⟩; exact h.elim; rfl
  | hdl _ => rcases h with ⟨a, _, rfl⟩ | ⟨_, _, _, rfl, _⟩ <;> rfl
  | scr _ => rcases h with ⟨a, rfl, _⟩ | ⟨_, _, _, rfl, _⟩ <;> rfl
theorem u_isN : OpR X (compareOp .Is) (fun x y H Q => y = .non ∧ rUL c .isN [x] H Q) := by
  intro pins s σ' H x y v u Q I rx ry h
  obtain ⟨rfl, F0, F, ρ, st, te, σ, τ, ds, d, C, hd, sem, q⟩ := h
  obtain ⟨d1, rfl, h1⟩ := hd.one
  obtain rfl := (show d = _ from sem)
  refine op_isN pins s σ' H _ _ v u Q I rx ry ⟨rfl, ?_⟩
  rw [isN_den h1]
  exact q.now C rfl
theorem u_notN : OpR X (compareOp .IsNot) (fun x y H Q => y = .non ∧ rUL c .notN [x] H Q) := by
  intro pins s σ' H x y v u Q I rx ry h
  obtain ⟨rfl, F0, F, ρ, st, te, σ, τ, ds, d, C, hd, sem, q⟩ := h
  obtain ⟨d1, rfl, h1⟩ := hd.one
  obtain rfl := (show d = _ from sem)
  refine op_notN pins s σ' H _ _ v u Q I rx ry ⟨rfl, ?_⟩
  rw [isN_den h1]
  exact q.now C rfl
theorem any_py {a : D} {p : PyData} (e1 : a.py = some p) (g1 : p.hasDict = false) : ∀ {xs : List D} {ps : List PyData}, pyL xs = some ps → PyData.hasDictAll ps = false → (ps.any fun z => PyData.eqv z p) = xs.any fun y => y.eqv a
  | [], ps, h, _ => by cases h; rfl
  | x :: xs, ps, h, n => by
    rw [pyL] at h
    split at h
    · rename_i q qs b1 b2
      cases h
      have n' : (q.hasDict || PyData.hasDictAll qs) = false := n
      rw [Bool.or_eq_false_iff] at n'
      rw [List.any_cons, List.any_cons, any_py e1 g1 b2 n'.2, eqv_py x a q p b1 e1 n'.1 g1]
    · cases h
theorem in_cases {a e r : D} (neg : Bool) (h : (if neg then Op.notIn else Op.in_).sem [a, e] r) :
    (∃ xs, e = .lst xs ∧ (a.eqOk 60 = true ∧ eqOkL 60 xs = true) ∧ r = .bl (if neg then !xs.any fun y => y.eqv a else xs.any fun y => y.eqv a)) ∨
    (∃ xs, e = .tup xs ∧ (a.flat = true ∧ xs.all D.flat = true) ∧ r = .bl (if neg then !xs.any fun y => y.eqv a else xs.any fun y => y.eqv a)) := by
  cases neg <;> cases e <;> first
    | exact .inl ⟨_, rfl, h⟩
    | exact .inr ⟨_, rfl, h⟩
    | exact (show False from h).elim
theorem u_in (hK : c.K = X.K) (hu : X.A.units + 65 < cLine) : OpR X (compareOp .In) (rU2 c .in_) := by
  intro pins s σ' H x y v u Q I rx ry h
  obtain ⟨F0, F, ρ, st, te, σ, τ, ds, d, C, hd, sem, q⟩ := h
  obtain ⟨d1, d2, rfl, h1, h2⟩ := hd.two
  rcases in_cases false sem with ⟨xs, rfl, ⟨z1, z2⟩, rfl⟩ | ⟨xs, rfl, ⟨z1, z2⟩, rfl⟩
  · obtain ⟨p1, e1, a1, b1, g1⟩ := eqOk_py _ _ z1
    obtain ⟨ps, e2, a2, b2, g2⟩ := eqOkL_py _ _ z2
    refine op_inD hu pins s σ' H _ _ v u Q I rx ry ⟨p1, ps, hK ▸ denT_dp C.sub h1 e1 g1, hK ▸ denT_dp C.sub h2 (by rw [D.py, e2]; rfl) g2, shaped_of (by decide) a1 b1, shaped_of (n := 61) (by decide) a2 (Nat.succ_le_succ b2), ?_⟩
    rw [any_py e1 g1 e2 g2]
    exact q.now C rfl
  · obtain ⟨a, vs, rfl, e2, r2⟩ := h2.tup C.sub
    rw [hK] at e2
    refine op_in_seq pins s σ' H _ _ v u Q I rx ry ⟨a, vs, rfl, .inr e2, flat_den h1 z1, flats_den H r2 z2, ?_⟩
    rw [if_neg (by decide), inV_flat h1 z1 r2 z2]
    exact q.now C rfl
theorem u_notIn (hK : c.K = X.K) (hu : X.A.units + 65 < cLine) : OpR X (compareOp .NotIn) (rU2 c .notIn) := by
  intro pins s σ' H x y v u Q I rx ry h
  obtain ⟨F0, F, ρ, st, te, σ, τ, ds, d, C, hd, sem, q⟩ := h
  obtain ⟨d1, d2, rfl, h1, h2⟩ := hd.two
  rcases in_cases true sem with ⟨xs, rfl, ⟨z1, z2⟩, rfl⟩ | ⟨xs, rfl, ⟨z1, z2⟩, rfl⟩
  · obtain ⟨p1, e1, a1, b1, g1⟩ := eqOk_py _ _ z1
    obtain ⟨ps, e2, a2, b2, g2⟩ := eqOkL_py _ _ z2
    refine op_notInD hu pins s σ' H _ _ v u Q I rx ry ⟨p1, ps, hK ▸ denT_dp C.sub h1 e1 g1, hK ▸ denT_dp C.sub h2 (by rw [D.py, e2]; rfl) g2, shaped_of (by decide) a1 b1, shaped_of (n := 61) (by decide) a2 (Nat.succ_le_succ b2), ?_⟩
    rw [any_py e1 g1 e2 g2]
    exact q.now C rfl
  · obtain ⟨a, vs, rfl, e2, r2⟩ := h2.tup C.sub
    rw [hK] at e2
    refine op_notIn_seq pins s σ' H _ _ v u Q I rx ry ⟨a, vs, rfl, .inr e2, flat_den h1 z1, flats_den H r2 z2, ?_⟩
    rw [if_pos rfl, inV_flat h1 z1 r2 z2]
    exact q.now C rfl
/-! ### tuples of ints and texts -/
theorem row_py : ∀ {x : D}, x.rowOk = true → ∃ p, x.py = some p ∧ p.hasDict = false ∧ p.depth = 0
  | .int i, _ => ⟨_, rfl, rfl, rfl⟩
  | .str x, _ => ⟨_, rfl, rfl, rfl⟩
  | .non, h => by cases h
  | .bl _, h => by cases h
  | .tup _, h => by cases h
  | .lst _, h => by cases h
  | .dct _, h => by cases h
  | .obj _ _, h => by cases h
  | .hdl _, h => by cases h
  | .scr _, h => by cases h
theorem rows_py : ∀ {xs : List D}, xs.all D.rowOk = true → ∃ ps, pyL xs = some ps ∧ PyData.hasDictAll ps = false ∧ PyData.depthAll ps = 0
  | [], _ => ⟨[], rfl, rfl, rfl⟩
  | x :: xs, h => by
    rw [List.all_cons, Bool.and_eq_true] at h
    obtain ⟨p, e1, n1, d1⟩ := row_py h.1
    obtain ⟨ps, e2, n2, d2⟩ := rows_py h.2
    refine ⟨p :: ps, by unfold pyL; rw [e1, e2], by unfold PyData.hasDictAll; rw [n1, n2]; rfl, by unfold PyData.depthAll; rw [d1, d2]; rfl⟩
theorem alike_rows : ∀ {xs ys : List D} {ps qs : List PyData}, cmpOkL xs ys = true → pyL xs = some ps → pyL ys = some qs → PySem.W.alikeAll ps qs = true ∧
    PyProof.Rows.lexLt itemOrd (PySem.W.keyToksAll ps) (PySem.W.keyToksAll qs) = ltL xs ys
  | [], [], ps, qs, _, h1, h2 => by
    cases h1; cases h2
    refine ⟨by unfold PySem.W.alikeAll; rfl, ?_⟩
    unfold PySem.W.keyToksAll
    rw [PyProof.Rows.lex_self]; rfl
  | [], y :: ys, ps, qs, _, h1, h2 => by
    cases h1
    unfold pyL at h2
    split at h2
    · cases h2
      refine ⟨by unfold PySem.W.alikeAll; rfl, ?_⟩
      rw [PySem.W.keyToksAll, PySem.W.keyToksAll]
      rw [PyProof.Rows.lex_diff (by simp)]
      rfl
    · cases h2
  | x :: xs, [], ps, qs, _, h1, h2 => by
    cases h2
    unfold pyL at h1
    split at h1
    · cases h1
      refine ⟨by unfold PySem.W.alikeAll; rfl, ?_⟩
      rw [PySem.W.keyToksAll, PySem.W.keyToksAll]
      rw [PyProof.Rows.lex_diff (by simp)]
      rfl
    · cases h1
  | x :: xs, y :: ys, ps, qs, h, h1, h2 => by
    unfold cmpOkL at h
    rw [Bool.and_eq_true] at h
    unfold pyL at h1 h2
    split at h1
    · rename_i p1 r1 e1 e2
      split at h2
      · rename_i p2 r2 e3 e4
        cases h1; cases h2
        obtain ⟨ih1, ih2⟩ := alike_rows h.2 e2 e4
        have hc := h.1
        cases x <;> cases y <;> first | (cases hc; done) | skip
        · rename_i i j
          cases e1; cases e3
          refine ⟨by unfold PySem.W.alikeAll; rw [ih1]; rfl, ?_⟩
          rw [PySem.W.keyToksAll, PySem.W.keyToksAll, PyProof.Rows.lex_self]
          show PyProof.Rows.lexLt itemOrd (.inl i :: PySem.W.keyToksAll r1) (.inl j :: PySem.W.keyToksAll r2) = if (i == j) = true then ltL xs ys else decide (i < j)
          by_cases hij : i = j
          · subst hij
            rw [PyProof.Rows.lex_self, ih2, if_pos (by simp)]
          · rw [PyProof.Rows.lex_diff (by simpa using hij), if_neg (by simpa using hij)]
            rfl
        · rename_i i j
          cases e1; cases e3
          refine ⟨by unfold PySem.W.alikeAll; rw [ih1]; rfl, ?_⟩
          rw [PySem.W.keyToksAll, PySem.W.keyToksAll, PyProof.Rows.lex_self]
          show PyProof.Rows.lexLt itemOrd (.inr i.cps.toList :: PySem.W.keyToksAll r1) (.inr j.cps.toList :: PySem.W.keyToksAll r2) = if (i == j) = true then ltL xs ys else itemLt (.inr i.cps.toList) (.inr j.cps.toList)
          by_cases hij : i = j
          · subst hij
            rw [PyProof.Rows.lex_self, ih2, if_pos (by simp)]
          · rw [PyProof.Rows.lex_diff (fun z => hij (PySem.W.str_of_cps (Sum.inr.inj z))), if_neg (by simpa using hij)]
      · cases h2
    · cases h1
theorem tups_py {a b : D} (h : tupsOk a b = true) : ∃ p q, a.py = some p ∧ b.py = some q ∧ p.hasDict = false ∧ q.hasDict = false ∧ p.depth = 1 ∧ q.depth = 1 ∧ PySem.W.alike p q = true ∧ p ≠ .none ∧ PySem.W.dataLt p q = a.ltT b := by
  cases a <;> cases b <;> first | (cases h; done) | skip
  rename_i xs ys
  unfold tupsOk at h
  rw [Bool.and_eq_true, Bool.and_eq_true] at h
  obtain ⟨⟨h1, h2⟩, h3⟩ := h
  obtain ⟨ps, e1, n1, d1⟩ := rows_py h2
  obtain ⟨qs, e2, n2, d2⟩ := rows_py h3
  obtain ⟨k1, k2⟩ := alike_rows h1 e1 e2
  refine ⟨.tuple ps, .tuple qs, by unfold D.py; rw [e1]; rfl, by unfold D.py; rw [e2]; rfl, n1, n2, by unfold PyData.depth; rw [d1], by unfold PyData.depth; rw [d2], k1, (fun z => nomatch z), ?_⟩
  exact k2
theorem dp_reads {X : Cx} {pins : List (Addr × Obj)} {σ : L2.St} {H : Hp} {s : Shared} (I : Inv X pins σ H s) {p : PyData} {x : V} {v : Value} (h : Dp X.K H x p) (r : RelV x v) : ∃ as, Reads s.heap v p as := Dp.reads I p x v h r
theorem u_lt (hK : c.K = X.K) (hu : X.A.units + 64 < cLine) : OpR X (compareOp .Lt) (rU2 c .lt) := by
  intro pins s σ' H x y v u Q I rx ry h
  obtain ⟨F0, F, ρ, st, te, σ, τ, ds, d, C, hd, sem, q⟩ := h
  obtain ⟨d1, d2, rfl, h1, h2⟩ := hd.two
  cases d1 <;> cases d2 <;> first | exact (show False from sem).elim | skip
  · obtain rfl := h1.int
    obtain rfl := h2.int
    obtain rfl := (show d = _ from sem)
    exact op_lt pins s σ' H _ _ v u Q I rx ry ⟨_, _, rfl, rfl, q.now C rfl⟩
  · obtain ⟨ok, rfl⟩ := (show _ ∧ d = _ from sem)
    obtain ⟨p, p2, e1, e2, n1, n2, w1, w2, al, nn, lt⟩ := tups_py ok
    obtain ⟨as, ra⟩ := dp_reads I (hK ▸ denT_dp C.sub h1 e1 n1) rx
    obtain ⟨bs, rb⟩ := dp_reads I (hK ▸ denT_dp C.sub h2 e2 n2) ry
    refine PySem.W.lt_data ra rb al nn (by rw [w1, w2]; show X.A.units + 1 < cLine; omega) ?_
    rw [lt]
    exact ⟨.bl _, H, I, rfl, q.now C rfl⟩
end
end Pv

end
section
set_option linter.all false
set_option maxRecDepth 100000
set_option maxHeartbeats 2000000
/-! Pv5: subscripts, slices, built-in functions, displays. -/
namespace Pv
open PySem PySem.Spec PyProof.Rows L2
section
variable {S : Type}
variable {c : Set S} {F0 F H : Hp} {ρ te : Env} {st : S} {σ τ : List (Option V)} {d : D} {v : V} {Q : VK}
variable {X : Cx}
theorem atI_den {rc : Rc} {F : Hp} {xs : List D} {vs : List V} {i : Int} {d : D} (h : DenL rc F xs vs) (e : atI xs i = some d) : ∃ v, atI vs i = some v ∧ Den rc F d v := by
  unfold atI at e ⊢
  rw [h.length]
  cases z : ixN xs.length i with
  | none => rw [z] at e; cases e
  | some j =>
    rw [z] at e
    obtain ⟨v, h1, h2⟩ := h.get (show xs[j]? = some d from e)
    exact ⟨v, h1, h2⟩
theorem u_ix (hK : c.K = X.K) : IxR X (rU2 c .ix) := by
  intro ea eb pins s σ' H x y v u Q I rx ry h hs
  obtain ⟨F0, F, ρ, st, te, σ, τ, ds, d, C, hd, sem, q⟩ := h
  obtain ⟨d1, d2, rfl, h1, h2⟩ := hd.two
  cases d1 <;> cases d2 <;> first | exact (show False from sem).elim | skip
  · obtain ⟨a, vs, rfl, e1, r1⟩ := h1.tup C.sub
    obtain rfl := h2.int
    obtain ⟨w, e2, r2⟩ := atI_den r1 (show atI _ _ = some d from sem)
    rw [hK] at e1
    exact ix_tup ea eb pins s σ' H _ _ v u Q I rx ry ⟨a, vs, _, w, rfl, rfl, e1, e2, q.now C r2⟩ hs
  · obtain ⟨a, vs, rfl, e1, r1⟩ := h1.lst C.sub
    obtain rfl := h2.int
    obtain ⟨w, e2, r2⟩ := atI_den r1 (show atI _ _ = some d from sem)
    exact ix_list ea eb pins s σ' H _ _ v u Q I rx ry ⟨a, vs, _, w, rfl, rfl, SqL.of e1, e2, q.now C r2⟩ hs

/-! ### slices -/
def pts (lo hi : Option Int) : List D := (match lo with | some i => [D.int i] | none => []) ++ (match hi with | some i => [D.int i] | none => [])
def vpts (lo hi : Option Int) : List V := (match lo with | some i => [V.int i] | none => []) ++ (match hi with | some i => [V.int i] | none => [])
theorem slice_cases {b1 b2 : Bool} {xs : List D} {d r : D} {ds : List D} (h : (Op.slice b1 b2).sem (d :: ds) r) : ∃ lo hi, ds = pts lo hi ∧ b1 = lo.isSome ∧ b2 = hi.isSome ∧ ((∃ xs, d = .lst xs ∧ r = .lst (cutL xs lo hi)) ∨ (∃ xs, d = .tup xs ∧ r = .tup (cutL xs lo hi))) := by
  match b1, b2, d, ds, h with
  | false, false, .lst xs, [], h => exact ⟨none, none, rfl, rfl, rfl, .inl ⟨xs, rfl, h⟩⟩
  | true, false, .lst xs, [.int i], h => exact ⟨some i, none, rfl, rfl, rfl, .inl ⟨xs, rfl, h⟩⟩
  | false, true, .lst xs, [.int i], h => exact ⟨none, some i, rfl, rfl, rfl, .inl ⟨xs, rfl, h⟩⟩
  | true, true, .lst xs, [.int i, .int j], h => exact ⟨some i, some j, rfl, rfl, rfl, .inl ⟨xs, rfl, h⟩⟩
  | true, false, .tup xs, [.int i], h => exact ⟨some i, none, rfl, rfl, rfl, .inr ⟨xs, rfl, h⟩⟩
  | false, true, .tup xs, [.int i], h => exact ⟨none, some i, rfl, rfl, rfl, .inr ⟨xs, rfl, h⟩⟩
  | true, true, .tup xs, [.int i, .int j], h => exact ⟨some i, some j, rfl, rfl, rfl, .inr ⟨xs, rfl, h⟩⟩
theorem sIx_whole {α : Type} {xs : List α} {lo hi : Option Int} (h1 : HT.sIx xs.length 0 lo = 0) (h2 : HT.sIx xs.length xs.length hi = xs.length) : (xs.drop (HT.sIx xs.length 0 lo)).take (HT.sIx xs.length xs.length hi - HT.sIx xs.length 0 lo) = xs := by
  rw [h1, h2]; simp
theorem u_slice (hK : c.K = X.K) (b1 b2 : Bool) : SlR X (fun x lo hi H Q => ∃ F0 F ρ st te σ τ d r, Cur (S := S) c F0 F ρ st te σ τ H ∧ DenT c F H d x ∧ (Op.slice b1 b2).sem (d :: pts lo hi) r ∧ b1 = lo.isSome ∧ b2 = hi.isSome ∧ Done c F0 F ρ st te σ τ H r Q) := by
  intro pins s σ' H x v vl vu lo hi sl Q I rx hs pl pu h
  obtain ⟨F0, F, ρ, st, te, σ, τ, d, r, C, h1, sem, z1, z2, q⟩ := h
  obtain ⟨lo', hi', e, y1, y2, w⟩ := slice_cases (xs := []) sem
  have el : lo' = lo ∧ hi' = hi := by
    subst z1; subst z2
    cases lo <;> cases hi <;> cases lo' <;> cases hi' <;> simp_all [pts]
  obtain ⟨rfl, rfl⟩ := el
  rcases w with ⟨xs, rfl, rfl⟩ | ⟨xs, rfl, rfl⟩
  · obtain ⟨a, vs, rfl, e1, r1⟩ := h1.lst C.sub
    exact sl_list pins s σ' H _ v vl vu _ _ sl Q I rx hs pl pu ⟨a, vs, rfl, SqL.of e1, fun p hp => q.fresh.lay C hp (cut_den r1 _ _)⟩
  · obtain ⟨a, vs, rfl, e1, r1⟩ := h1.tup C.sub
    have e1' := hK ▸ e1
    refine sl_tupA pins s σ' H _ v vl vu _ _ sl Q I rx hs pl pu ⟨a, vs, rfl, e1', fun ⟨w1, w2⟩ => ?_, fun _ p hp => q.lay C hp fun s1 => ⟨p, _, rfl, SqT.of upd_same, (cut_den r1 _ _).sub s1⟩⟩
    rw [r1.length] at w1 w2
    have : cutL xs lo' hi' = xs := sIx_whole w1 w2
    rw [this] at q
    rcases h1 with h1 | ⟨_, _, _, _, w, _⟩
    · exact q.now C h1
    · cases w
theorem f_slice (b1 b2 : Bool) : SlR X (fun x lo hi H Q => ∃ F0 F ρ st te σ τ d r, Cur (S := S) c F0 F ρ st te σ τ H ∧ DenT c F H d x ∧ (Op.slice b1 b2).sem (d :: pts lo hi) (.lst r) ∧ b1 = lo.isSome ∧ b2 = hi.isSome ∧ DoneF c F0 F ρ st te σ τ H r Q) := by
  intro pins s σ' H x v vl vu lo hi sl Q I rx hs pl pu h
  obtain ⟨F0, F, ρ, st, te, σ, τ, d, r, C, h1, sem, z1, z2, q⟩ := h
  obtain ⟨lo', hi', e, y1, y2, w⟩ := slice_cases (xs := []) sem
  have el : lo' = lo ∧ hi' = hi := by
    subst z1; subst z2
    cases lo <;> cases hi <;> cases lo' <;> cases hi' <;> simp_all [pts]
  obtain ⟨rfl, rfl⟩ := el
  rcases w with ⟨xs, rfl, e⟩ | ⟨xs, rfl, e⟩
  · cases e
    obtain ⟨a, vs, rfl, e1, r1⟩ := h1.lst C.sub
    exact sl_list pins s σ' H _ v vl vu _ _ sl Q I rx hs pl pu ⟨a, vs, rfl, SqL.of e1, fun p hp => q.lay C hp (cut_den r1 _ _)⟩
  · cases e


/-! ### what an operation's value says of its operands -/
theorem sem_one {o : Op} {ds : List D} {d : D} (h : o.sem ds d) (ho : o = .len ∨ o = .abs ∨ o = .int ∨ o = .maxL ∨ o = .minL ∨ o = .sum ∨ o = .all ∨ o = .any ∨ o = .tuple ∨ o = .list ∨ o = .sorted ∨ o = .repr) : ∃ a, ds = [a] := by
  rcases ds with _ | ⟨a, _ | ⟨b, r⟩⟩
  · rcases ho with rfl | rfl | rfl | rfl | rfl | rfl | rfl | rfl | rfl | rfl | rfl | rfl <;> exact (show False from h).elim
  · exact ⟨a, rfl⟩
  · rcases ho with rfl | rfl | rfl | rfl | rfl | rfl | rfl | rfl | rfl | rfl | rfl | rfl <;> first | exact (show False from h).elim | (cases a <;> exact (show False from h).elim)
theorem sem_two {o : Op} {ds : List D} {d : D} (h : o.sem ds d) (ho : o = .max2 ∨ o = .min2) : ∃ i j, ds = [.int i, .int j] := by
  rcases ho with rfl | rfl
  · rcases ds with _ | ⟨a, r⟩
    · exact (show False from h).elim
    · cases a <;> first | exact (show False from h).elim | skip
      rcases r with _ | ⟨b, r⟩
      · exact (show False from h).elim
      · cases b <;> first | exact (show False from h).elim | skip
        rcases r with _ | ⟨e, r⟩
        · exact ⟨_, _, rfl⟩
        · exact (show False from h).elim
  · rcases ds with _ | ⟨a, r⟩
    · exact (show False from h).elim
    · cases a <;> first | exact (show False from h).elim | skip
      rcases r with _ | ⟨b, r⟩
      · exact (show False from h).elim
      · cases b <;> first | exact (show False from h).elim | skip
        rcases r with _ | ⟨e, r⟩
        · exact ⟨_, _, rfl⟩
        · exact (show False from h).elim

/-! ### built-in functions -/
theorem u_len (hK : c.K = X.K) : CallR X (.builtin "len") (rUL c .len) := by
  intro pins s σ' H vs us Q I r h
  obtain ⟨F0, F, ρ, st, te, σ, τ, ds, d, C, hd, sem, q⟩ := h
  obtain ⟨a0, rfl⟩ := sem_one sem (by simp)
  obtain ⟨v, _, rfl, h1, e⟩ := hd
  obtain rfl := (show _ = [] from e)
  cases a0 <;> first | exact (show False from sem).elim | skip
  · rename_i x
    obtain rfl := h1.str
    obtain ⟨z, rfl⟩ := (show _ ∧ d = _ from sem)
    exact call_len pins s σ' H _ us Q I r ⟨_, _, rfl, ⟨z, rfl⟩, q.now C rfl⟩
  · rename_i xs
    obtain ⟨a, vs, rfl, e1, r1⟩ := h1.tup C.sub
    obtain rfl := (show d = _ from sem)
    rw [hK] at e1
    refine call_len pins s σ' H _ us Q I r ⟨_, _, rfl, .inr ⟨vs, e1, rfl⟩, ?_⟩
    rw [r1.length]
    exact q.now C rfl
  · rename_i xs
    obtain ⟨a, vs, rfl, e1, r1⟩ := h1.lst C.sub
    obtain rfl := (show d = _ from sem)
    refine call_len pins s σ' H _ us Q I r ⟨_, _, rfl, .inl ⟨vs, SqL.of e1, rfl⟩, ?_⟩
    rw [r1.length]
    exact q.now C rfl
  · rename_i xs
    obtain ⟨a, rfl, e1⟩ := h1.scr C.sub
    obtain rfl := (show d = _ from sem)
    rw [hK] at e1
    refine call_len pins s σ' H _ us Q I r ⟨_, _, rfl, .inl ⟨_, e1, rfl⟩, ?_⟩
    rw [List.length_map]
    exact q.now C rfl
theorem u_abs : CallR X (.builtin "abs") (rUL c .abs) := by
  intro pins s σ' H vs us Q I r h
  obtain ⟨F0, F, ρ, st, te, σ, τ, ds, d, C, hd, sem, q⟩ := h
  obtain ⟨a0, rfl⟩ := sem_one sem (by simp)
  obtain ⟨v, _, rfl, h1, e⟩ := hd
  obtain rfl := (show _ = [] from e)
  cases a0 <;> first | exact (show False from sem).elim | skip
  rename_i i
  obtain rfl := h1.int
  obtain rfl := (show d = _ from sem)
  exact call_abs pins s σ' H _ us Q I r ⟨_, rfl, q.now C rfl⟩
theorem u_int : CallR X (.type "int") (rUL c .int) := by
  intro pins s σ' H vs us Q I r h
  obtain ⟨F0, F, ρ, st, te, σ, τ, ds, d, C, hd, sem, q⟩ := h
  obtain ⟨a0, rfl⟩ := sem_one sem (by simp)
  obtain ⟨v, _, rfl, h1, e⟩ := hd
  obtain rfl := (show _ = [] from e)
  cases a0 <;> first | exact (show False from sem).elim | skip
  · rename_i i
    obtain rfl := h1.bl
    obtain rfl := (show d = _ from sem)
    exact call_int1 pins s σ' H _ us Q I r (.inr ⟨_, rfl, q.now C rfl⟩)
  · rename_i i
    obtain rfl := h1.int
    obtain rfl := (show d = _ from sem)
    exact call_int1 pins s σ' H _ us Q I r (.inl ⟨_, rfl, q.now C rfl⟩)
theorem u_max2 (hc : X.calm = true) : CallR X (.builtin "max") (rUL c .max2) := by
  intro pins s σ' H vs us Q I r h
  obtain ⟨F0, F, ρ, st, te, σ, τ, ds, d, C, hd, sem, q⟩ := h
  obtain ⟨i, j, rfl⟩ := sem_two sem (by simp)
  obtain ⟨v, _, rfl, h1, w, _, rfl, h2, e⟩ := hd
  obtain rfl := (show _ = [] from e)
  obtain rfl := h1.int
  obtain rfl := h2.int
  obtain rfl := (show d = _ from sem)
  exact call_max2 hc pins s σ' H _ us Q I r ⟨_, _, rfl, q.now C rfl⟩
theorem u_min2 (hc : X.calm = true) : CallR X (.builtin "min") (rUL c .min2) := by
  intro pins s σ' H vs us Q I r h
  obtain ⟨F0, F, ρ, st, te, σ, τ, ds, d, C, hd, sem, q⟩ := h
  obtain ⟨i, j, rfl⟩ := sem_two sem (by simp)
  obtain ⟨v, _, rfl, h1, w, _, rfl, h2, e⟩ := hd
  obtain rfl := (show _ = [] from e)
  obtain rfl := h1.int
  obtain rfl := h2.int
  obtain rfl := (show d = _ from sem)
  exact call_min2 hc pins s σ' H _ us Q I r ⟨_, _, rfl, q.now C rfl⟩
theorem u_maxL (hc : X.calm = true) : CallR X (.builtin "max") (rUL c .maxL) := by
  intro pins s σ' H vs us Q I r h
  obtain ⟨F0, F, ρ, st, te, σ, τ, ds, d, C, hd, sem, q⟩ := h
  obtain ⟨a0, rfl⟩ := sem_one sem (by simp)
  obtain ⟨v, _, rfl, h1, e⟩ := hd
  obtain rfl := (show _ = [] from e)
  cases a0 <;> first | exact (show False from sem).elim | skip
  rename_i xs
  obtain ⟨a, vs, rfl, e1, r1⟩ := h1.lst C.sub
  obtain ⟨ns, m, z, hm, hle, rfl⟩ := (show ∃ ns m, intsOf xs = some ns ∧ m ∈ ns ∧ (∀ y, y ∈ ns → y ≤ m) ∧ d = .int m from sem)
  obtain rfl := intsOf_den z r1
  refine cr_max hc pins s σ' H _ us Q I r ⟨a, ns, rfl, SqL.of e1, List.length_pos_of_mem hm, fun m' h1 h2 => ?_⟩
  rw [Int.le_antisymm (hle _ h1) (h2 _ hm)]
  exact q.now C rfl
theorem row_inj : ∀ {a b : D}, a.rowOk = true → b.rowOk = true → a.py = b.py → a = b
  | .int i, .int j, _, _, h => by cases h; rfl
  | .str x, .str y, _, _, h => by cases h; rfl
  | .int _, .str _, _, _, h => by cases h
  | .str _, .int _, _, _, h => by cases h
  | .non, _, h, _, _ => by cases h
  | .bl _, _, h, _, _ => by cases h
  | .tup _, _, h, _, _ => by cases h
  | .lst _, _, h, _, _ => by cases h
  | .dct _, _, h, _, _ => by cases h
  | .obj _ _, _, h, _, _ => by cases h
  | .hdl _, _, h, _, _ => by cases h
  | .scr _, _, h, _, _ => by cases h
  | .int _, .non, _, h, _ => by cases h
  | .int _, .bl _, _, h, _ => by cases h
  | .int _, .tup _, _, h, _ => by cases h
  | .int _, .lst _, _, h, _ => by cases h
  | .int _, .dct _, _, h, _ => by cases h
  | .int _, .obj _ _, _, h, _ => by cases h
  | .int _, .hdl _, _, h, _ => by cases h
  | .int _, .scr _, _, h, _ => by cases h
  | .str _, .non, _, h, _ => by cases h
  | .str _, .bl _, _, h, _ => by cases h
  | .str _, .tup _, _, h, _ => by cases h
  | .str _, .lst _, _, h, _ => by cases h
  | .str _, .dct _, _, h, _ => by cases h
  | .str _, .obj _ _, _, h, _ => by cases h
  | .str _, .hdl _, _, h, _ => by cases h
  | .str _, .scr _, _, h, _ => by cases h
theorem rows_inj : ∀ {xs ys : List D} {ps : List PyData}, xs.all D.rowOk = true → ys.all D.rowOk = true → pyL xs = some ps → pyL ys = some ps → xs = ys
  | [], [], _, _, _, _, _ => rfl
  | [], y :: ys, ps, _, _, h1, h2 => by
    cases h1
    unfold pyL at h2
    split at h2 <;> cases h2
  | x :: xs, [], ps, _, _, h1, h2 => by
    cases h2
    unfold pyL at h1
    split at h1 <;> cases h1
  | x :: xs, y :: ys, ps, a, b, h1, h2 => by
    rw [List.all_cons, Bool.and_eq_true] at a b
    unfold pyL at h1 h2
    split at h1
    · rename_i p1 r1 e1 e2
      split at h2
      · rename_i p2 r2 e3 e4
        cases h1
        obtain ⟨rfl, rfl⟩ := List.cons.inj (Option.some.inj h2)
        rw [row_inj a.1 b.1 (e1.trans e3.symm), rows_inj a.2 b.2 e2 e4]
      · cases h2
    · cases h1
theorem tups_inj {a b : D} (h : tupsOk a b = true) (e : a.py = b.py) : a = b := by
  cases a <;> cases b <;> first | (cases h; done) | skip
  rename_i xs ys
  unfold tupsOk at h
  rw [Bool.and_eq_true, Bool.and_eq_true] at h
  obtain ⟨⟨_, h2⟩, h3⟩ := h
  obtain ⟨ps, e1, _, _⟩ := rows_py h2
  obtain ⟨qs, e2, _, _⟩ := rows_py h3
  rw [D.py, D.py, e1, e2] at e
  have : ps = qs := by
    have := Option.some.inj e
    exact PyData.tuple.inj this
  subst this
  rw [rows_inj h2 h3 e1 e2]
theorem minT_mem : ∀ (r : List D) (x : D), minT x r ∈ x :: r
  | [], x => List.mem_cons_self
  | y :: r, x => by
    show minT (if y.ltT x then y else x) r ∈ _
    have h := minT_mem r (if y.ltT x then y else x)
    rcases List.mem_cons.mp h with e | h
    · rw [e]
      split
      · exact List.mem_cons_of_mem _ List.mem_cons_self
      · exact List.mem_cons_self
    · exact List.mem_cons_of_mem _ (List.mem_cons_of_mem _ h)
theorem minT_py : ∀ {r : List D} {x : D} {p : PyData} {ps : List PyData}, (∀ y ∈ x :: r, ∀ z ∈ x :: r, tupsOk y z = true) → x.py = some p → pyL r = some ps → (minT x r).py = some (PySem.W.minD p ps)
  | [], x, p, ps, _, h1, h2 => by cases h2; exact h1
  | y :: r, x, p, ps, ok, h1, h2 => by
    unfold pyL at h2
    split at h2
    · rename_i q qs e1 e2
      cases h2
      obtain ⟨p1, q1, a1, a2, _, _, _, _, _, _, lt⟩ := tups_py (ok y (List.mem_cons_of_mem _ List.mem_cons_self) x List.mem_cons_self)
      rw [e1] at a1; rw [h1] at a2
      cases a1; cases a2
      show (minT (if y.ltT x then y else x) r).py = some (PySem.W.minD (if PySem.W.dataLt q p then q else p) qs)
      rw [lt]
      by_cases hb : y.ltT x = true
      · rw [if_pos hb, if_pos hb]
        exact minT_py (fun a ha b hb => ok a (by rcases List.mem_cons.mp ha with rfl | h
                                                 · exact List.mem_cons_of_mem _ List.mem_cons_self
                                                 · exact List.mem_cons_of_mem _ (List.mem_cons_of_mem _ h)) b (by
                                                 rcases List.mem_cons.mp hb with rfl | h
                                                 · exact List.mem_cons_of_mem _ List.mem_cons_self
                                                 · exact List.mem_cons_of_mem _ (List.mem_cons_of_mem _ h))) e1 e2
      · rw [if_neg hb, if_neg hb]
        exact minT_py (fun a ha b hb => ok a (by rcases List.mem_cons.mp ha with rfl | h
                                                 · exact List.mem_cons_self
                                                 · exact List.mem_cons_of_mem _ (List.mem_cons_of_mem _ h)) b (by
                                                 rcases List.mem_cons.mp hb with rfl | h
                                                 · exact List.mem_cons_self
                                                 · exact List.mem_cons_of_mem _ (List.mem_cons_of_mem _ h))) h1 e2
    · cases h2
theorem tups_all {xs : List D} (h : ∀ y ∈ xs, ∀ z ∈ xs, tupsOk y z = true) : ∃ ps, pyL xs = some ps ∧ PyData.hasDictAll ps = false ∧ PyData.depthAll ps ≤ 1 ∧ (∀ q ∈ ps, ∃ y ∈ xs, y.py = some q) := by
  have one : ∀ y ∈ xs, ∃ p, y.py = some p ∧ p.hasDict = false ∧ p.depth = 1 := fun y hy => by
    obtain ⟨p, _, e, _, n, _, d, _, _, _, _⟩ := tups_py (h y hy y hy)
    exact ⟨p, e, n, d⟩
  clear h
  induction xs with
  | nil => exact ⟨[], rfl, rfl, Nat.zero_le _, fun q hq => nomatch hq⟩
  | cons x xs ih =>
    obtain ⟨p, e, n, d⟩ := one x List.mem_cons_self
    obtain ⟨ps, e2, n2, d2, m2⟩ := ih fun y hy => one y (List.mem_cons_of_mem _ hy)
    refine ⟨p :: ps, by unfold pyL; rw [e, e2], by unfold PyData.hasDictAll; rw [n, n2]; rfl, by unfold PyData.depthAll; rw [d]; omega, fun q hq => ?_⟩
    rcases List.mem_cons.mp hq with rfl | hq
    · exact ⟨x, List.mem_cons_self, e⟩
    · obtain ⟨y, hy, ey⟩ := m2 q hq
      exact ⟨y, List.mem_cons_of_mem _ hy, ey⟩
theorem pyL_get' : ∀ {xs : List D} {ps : List PyData} {j : Nat} {z : D}, pyL xs = some ps → xs[j]? = some z → ∃ q, ps[j]? = some q ∧ z.py = some q
  | [], ps, j, z, _, h => by simp at h
  | x :: xs, ps, j, z, e, h => by
    unfold pyL at e
    split at e
    · rename_i p r e1 e2
      cases e
      cases j with
      | zero => cases h; exact ⟨p, rfl, e1⟩
      | succ j => exact pyL_get' (j := j) e2 h
    · cases e
theorem readsAll_get {h : Heap} : ∀ {vs : List Value} {ps : List PyData} {as : List Addr} {i : Nat} {v : Value} {q : PyData}, ReadsAll h vs ps as → vs[i]? = some v → ps[i]? = some q → ∃ bs, Reads h v q bs
  | _, _, _, i, v, q, .nil, hv, _ => by simp at hv
  | _, _, _, 0, v, q, .cons r _, hv, hq => by cases hv; cases hq; exact ⟨_, r⟩
  | _, _, _, i + 1, v, q, .cons _ rs, hv, hq => readsAll_get (i := i) rs (by simpa using hv) (by simpa using hq)
theorem u_minL (hc : X.calm = true) (hK : c.K = X.K) (hu : X.A.units + 64 < cLine) : CallR X (.builtin "min") (rUL c .minL) := by
  intro pins s σ' H vs us Q I r h
  obtain ⟨F0, F, ρ, st, te, σ, τ, ds, d, C, hd, sem, q⟩ := h
  obtain ⟨a0, rfl⟩ := sem_one sem (by simp)
  obtain ⟨v, _, rfl, h1, e⟩ := hd
  obtain rfl := (show _ = [] from e)
  cases a0 <;> first | exact (show False from sem).elim | skip
  rename_i xs
  obtain ⟨a, vs, rfl, e1, r1⟩ := h1.lst C.sub
  rcases (show (∃ ns m, intsOf xs = some ns ∧ m ∈ ns ∧ (∀ y, y ∈ ns → m ≤ y) ∧ d = .int m) ∨ (∃ x r, xs = x :: r ∧ (∀ y ∈ xs, ∀ z ∈ xs, tupsOk y z = true) ∧ d = minT x r) from sem) with ⟨ns, m, z, hm, hle, rfl⟩ | ⟨x, rest, rfl, ok, rfl⟩
  · obtain rfl := intsOf_den z r1
    refine cr_min hc pins s σ' H _ us Q I r ⟨a, ns, rfl, SqL.of e1, List.length_pos_of_mem hm, fun m' h1 h2 => ?_⟩
    rw [Int.le_antisymm (h2 _ hm) (hle _ h1)]
    exact q.now C rfl
  · obtain ⟨ps, p1, n1, d1, m1⟩ := tups_all ok
    have hx : ∃ p qs, ps = p :: qs ∧ x.py = some p ∧ pyL rest = some qs := by
      unfold pyL at p1
      split at p1
      · rename_i p qs z1 z2
        cases p1
        exact ⟨p, qs, rfl, z1, z2⟩
      · cases p1
    obtain ⟨p, qs, rfl, x1, x2⟩ := hx
    obtain ⟨its, rv, hl, hlen⟩ := I.list (SqL.of e1)
    have hdp : DpAll X.K H vs (p :: qs) := by
      rw [← hK]
      exact den_dps C.sub _ _ _ r1 p1 n1
    obtain ⟨as, rs⟩ := Dp.readsAll I _ _ its hdp rv
    have alk : PySem.W.AlikeAll (p :: qs) := by
      refine ⟨fun y hy z hz => ?_, fun y hy => ?_⟩
      · obtain ⟨dy, my, ey⟩ := m1 y hy
        obtain ⟨dz, mz, ez⟩ := m1 z hz
        obtain ⟨p', q', k1, k2, _, _, _, _, al, _, _⟩ := tups_py (ok dy my dz mz)
        rw [ey] at k1; rw [ez] at k2
        cases k1; cases k2
        exact al
      · obtain ⟨dy, my, ey⟩ := m1 y hy
        obtain ⟨p', q', k1, k2, _, _, _, _, _, nn, _⟩ := tups_py (ok dy my dy my)
        rw [ey] at k1
        cases k1
        exact nn
    rw [Vals.ref1 r]
    refine PySem.W.min_list_data (I.ok.hd hc) hl.isList (show ReadsAll s.heap its.toArray.toList (p :: qs) as from rs) alk (by omega) fun i v h' tk bs hv hr hk => ?_
    have hv : its[i]? = some v := by simpa using hv
    have hi : i < its.length := (List.getElem?_eq_some_iff.mp hv).1
    have hlv := rv.length
    have hlx := r1.length
    obtain ⟨z, hz⟩ : ∃ z, (x :: rest)[i]? = some z := ⟨_, List.getElem?_eq_getElem (by omega)⟩
    obtain ⟨q0, hq0, hzq⟩ := pyL_get' p1 hz
    obtain ⟨bs2, hr2⟩ := readsAll_get rs hv hq0
    obtain ⟨u, hu1, hden⟩ := r1.get hz
    obtain ⟨v2, hv2, rel⟩ := Vals.get rv hu1
    rw [hv] at hv2
    cases hv2
    obtain ⟨eqd, _⟩ := PyProof.Rows.reads_det (fun b o e _ => hk b o e) hr2 hr
    have hmin := minT_py (ps := qs) ok x1 x2
    have hzm : z = minT x rest := tups_inj (ok z (List.mem_of_getElem? hz) _ (minT_mem rest x)) (by rw [hzq, hmin, eqd])
    exact ⟨u, H, I.kept hk, rel, q.now C (hzm ▸ hden)⟩
theorem u_sum (hc : X.calm = true) : CallR X (.builtin "sum") (rUL c .sum) := by
  intro pins s σ' H vs us Q I r h
  obtain ⟨F0, F, ρ, st, te, σ, τ, ds, d, C, hd, sem, q⟩ := h
  obtain ⟨a0, rfl⟩ := sem_one sem (by simp)
  obtain ⟨v, _, rfl, h1, e⟩ := hd
  obtain rfl := (show _ = [] from e)
  cases a0 <;> first | exact (show False from sem).elim | skip
  rename_i xs
  obtain ⟨a, vs, rfl, e1, r1⟩ := h1.lst C.sub
  obtain ⟨ns, z, rfl⟩ := (show ∃ ns, intsOf xs = some ns ∧ d = .int ns.sum from sem)
  obtain rfl := intsOf_den z r1
  exact cr_sum hc pins s σ' H _ us Q I r ⟨a, ns, rfl, SqL.of e1, q.now C rfl⟩
theorem u_all (hc : X.calm = true) : CallR X (.builtin "all") (rUL c .all) := by
  intro pins s σ' H vs us Q I r h
  obtain ⟨F0, F, ρ, st, te, σ, τ, ds, d, C, hd, sem, q⟩ := h
  obtain ⟨a0, rfl⟩ := sem_one sem (by simp)
  obtain ⟨v, _, rfl, h1, e⟩ := hd
  obtain rfl := (show _ = [] from e)
  cases a0 <;> first | exact (show False from sem).elim | skip
  rename_i xs
  obtain ⟨a, vs, rfl, e1, r1⟩ := h1.lst C.sub
  obtain ⟨ns, z, rfl⟩ := (show ∃ ns, blsOf xs = some ns ∧ d = .bl (ns.all id) from sem)
  obtain rfl := blsOf_den z r1
  exact cr_all hc pins s σ' H _ us Q I r ⟨a, ns, rfl, SqL.of e1, q.now C rfl⟩
theorem u_any (hc : X.calm = true) : CallR X (.builtin "any") (rUL c .any) := by
  intro pins s σ' H vs us Q I r h
  obtain ⟨F0, F, ρ, st, te, σ, τ, ds, d, C, hd, sem, q⟩ := h
  obtain ⟨a0, rfl⟩ := sem_one sem (by simp)
  obtain ⟨v, _, rfl, h1, e⟩ := hd
  obtain rfl := (show _ = [] from e)
  cases a0 <;> first | exact (show False from sem).elim | skip
  rename_i xs
  obtain ⟨a, vs, rfl, e1, r1⟩ := h1.lst C.sub
  obtain ⟨ns, z, rfl⟩ := (show ∃ ns, blsOf xs = some ns ∧ d = .bl (ns.any id) from sem)
  obtain rfl := blsOf_den z r1
  exact cr_any hc pins s σ' H _ us Q I r ⟨a, ns, rfl, SqL.of e1, q.now C rfl⟩
theorem u_tuple (hK : c.K = X.K) : CallR X (.type "tuple") (rUL c .tuple) := by
  intro pins s σ' H vs us Q I r h
  obtain ⟨F0, F, ρ, st, te, σ, τ, ds, d, C, hd, sem, q⟩ := h
  obtain ⟨a0, rfl⟩ := sem_one sem (by simp)
  obtain ⟨v, _, rfl, h1, e⟩ := hd
  obtain rfl := (show _ = [] from e)
  cases a0 <;> first | exact (show False from sem).elim | skip
  · rename_i xs
    obtain ⟨a, vs, rfl, e1, r1⟩ := h1.tup C.sub
    obtain rfl := (show d = _ from sem)
    rw [hK] at e1
    refine call_tuple_of pins s σ' H _ us Q I r ⟨a, vs, rfl, .inr ⟨e1, ?_⟩⟩
    rcases h1 with h1 | ⟨_, _, _, _, w, _⟩
    · exact q.now C h1
    · cases w
  · rename_i xs
    obtain ⟨a, vs, rfl, e1, r1⟩ := h1.lst C.sub
    obtain rfl := (show d = _ from sem)
    exact call_tuple_of pins s σ' H _ us Q I r ⟨a, vs, rfl, .inl ⟨SqL.of e1, fun l hl => q.lay C hl fun s1 => ⟨l, _, rfl, SqT.of upd_same, r1.sub s1⟩⟩⟩
theorem f_list (hK : c.K = X.K) : CallR X (.type "list") (rUF c .list) := by
  intro pins s σ' H vs us Q I r h
  obtain ⟨F0, F, ρ, st, te, σ, τ, ds, d, C, hd, sem, q⟩ := h
  obtain ⟨a0, rfl⟩ := sem_one sem (by simp)
  obtain ⟨v, _, rfl, h1, e⟩ := hd
  obtain rfl := (show _ = [] from e)
  cases a0 <;> first | exact (show False from sem).elim | skip
  · rename_i xs
    obtain ⟨a, vs, rfl, e1, r1⟩ := h1.tup C.sub
    have e := (show D.lst d = _ from sem)
    cases e
    rw [hK] at e1
    exact call_list_of pins s σ' H _ us Q I r ⟨a, vs, rfl, .inr e1, fun l hl => q.lay C hl r1⟩
  · rename_i xs
    obtain ⟨a, vs, rfl, e1, r1⟩ := h1.lst C.sub
    have e := (show D.lst d = _ from sem)
    cases e
    exact call_list_of pins s σ' H _ us Q I r ⟨a, vs, rfl, .inl (SqL.of e1), fun l hl => q.lay C hl r1⟩
theorem f_sorted : CallR X (.builtin "sorted") (rUF c .sorted) := by
  intro pins s σ' H vs us Q I r h
  obtain ⟨F0, F, ρ, st, te, σ, τ, ds, d, C, hd, sem, q⟩ := h
  obtain ⟨a0, rfl⟩ := sem_one sem (by simp)
  obtain ⟨v, _, rfl, h1, e⟩ := hd
  obtain rfl := (show _ = [] from e)
  cases a0 <;> first | exact (show False from sem).elim | skip
  rename_i xs
  obtain ⟨a, vs, rfl, e1, r1⟩ := h1.lst C.sub
  obtain ⟨ns, z, e⟩ := (show ∃ ns, intsOf xs = some ns ∧ D.lst d = _ from sem)
  cases e
  obtain rfl := intsOf_den z r1
  refine cr_sortedI pins s σ' H _ us Q I r ⟨a, ns, rfl, SqL.of e1, fun ms p hp hs hn => ?_⟩
  obtain rfl := PySem.W.os_sorted_mergeSort hp hs
  exact q.lay C hn (DenL.ints _)
/-- a rule that gives a new list gives data -/
theorem uOf {o : Op} {f : Value} (h : CallR X f (rUF c o)) (hl : ∀ ds d, o.sem ds d → ∃ xs, d = .lst xs) : CallR X f (rUL c o) := by
  intro pins s σ' H vs us Q I r hh
  obtain ⟨F0, F, ρ, st, te, σ, τ, ds, d, C, hd, sem, q⟩ := hh
  obtain ⟨xs, rfl⟩ := hl _ _ sem
  exact h pins s σ' H vs us Q I r ⟨F0, F, ρ, st, te, σ, τ, ds, xs, C, hd, sem, q.fresh⟩
theorem u_list (hK : c.K = X.K) : CallR X (.type "list") (rUL c .list) := uOf (f_list hK) fun ds d h => by
  obtain ⟨a, rfl⟩ := sem_one h (by simp)
  cases a <;> first | exact (show False from h).elim | exact ⟨_, h⟩
theorem u_sorted : CallR X (.builtin "sorted") (rUL c .sorted) := uOf f_sorted fun ds d h => by
  obtain ⟨a, rfl⟩ := sem_one h (by simp)
  cases a <;> first | exact (show False from h).elim | (obtain ⟨ns, _, h⟩ := h; exact ⟨_, h⟩)

/-! ### repr -/
theorem u_repr (hK : c.K = X.K) (hg : X.A.guards = some []) (hu : X.A.units + 70 < cLine) : CallR X (.builtin "repr") (rUL c .repr) := by
  intro pins s σ' H vs us Q I r h
  obtain ⟨F0, F, ρ, st, te, σ, τ, ds, d, C, hd, sem, q⟩ := h
  obtain ⟨a, rfl⟩ := sem_one sem (by simp)
  · obtain ⟨v, _, rfl, h1, e⟩ := hd
    obtain rfl := (show _ = [] from e)
    obtain ⟨p, e1, g1, sh, dp, sz, rfl⟩ := (show ∃ p, a.py = some p ∧ p.hasDict = false ∧ p.showable = true ∧ p.depth ≤ 60 ∧ p.shown.length ≤ sizeLine ∧ d = .str p.shown from sem)
    obtain ⟨u, rfl, ru⟩ := vals1 r
    have hD := hK ▸ denT_dp C.sub h1 e1 g1
    have fin : ∀ {w : Value} {h' : Heap} {t' : Nat}, RelV (.str p.shown) w → (∀ b o, s.heap.get? b = some o → h'.get? b = some o) → EP X pins σ' Q w { s with heap := h', toks := t' } := fun {w h' t'} rw k =>
      ⟨_, H, I.kept k, rw, q.now C rfl⟩
    cases hD with
    | non => cases ru; exact PySem.P.repr_of_none (fin ⟨_, rfl⟩ fun _ _ e => e)
    | bl b => cases ru; exact PySem.P.repr_of_bool (fin ⟨_, by cases b <;> rfl⟩ fun _ _ e => e)
    | int i =>
      obtain ⟨t, rfl⟩ := ru
      exact PySem.P.repr_of_int (of_decide_eq_true sh) (fin ⟨_, rfl⟩ fun _ _ e => e)
    | str x =>
      obtain ⟨t, rfl⟩ := ru
      exact PySem.P.repr_of_str (fin ⟨_, rfl⟩ fun _ _ e => e) sz
    | lst hq ha =>
      obtain ⟨as, hr⟩ := Dp.reads I _ _ _ (.lst hq ha) ru
      cases ru
      exact repr_of_reads' hr sh (fun z => by rw [g1] at z; cases z) hg (by omega) (fun _ _ e => e) (fun h' u tk k => fin ⟨_, rfl⟩ k) sz
    | tup hq ha =>
      obtain ⟨as, hr⟩ := Dp.reads I _ _ _ (.tup hq ha) ru
      cases ru
      exact repr_of_reads' hr sh (fun z => by rw [g1] at z; cases z) hg (by omega) (fun _ _ e => e) (fun h' u tk k => fin ⟨_, rfl⟩ k) sz

/-! ### isinstance -/
def Ty.nm : Ty → String
  | .int => "int"
  | .bool => "bool"
  | .str => "str"
  | .tuple => "tuple"
  | .list => "list"
  | .dict => "dict"
def D.tyS : D → String
  | .non => "NoneType"
  | .bl _ => "bool"
  | .int _ => "int"
  | .str _ => "str"
  | .tup _ => "tuple"
  | .lst _ => "list"
  | _ => "dict"
theorem ty_of (hK : c.K = X.K) (s : Sub F H) (h : DenT c F H d v) (k : d.kinded = true) : TyX X.K H v (.type d.tyS) := by
  cases d with
  | non => rw [h.non]; exact .base .non
  | bl _ => rw [h.bl]; exact .base (.bl _)
  | int _ => rw [h.int]; exact .base (.int _)
  | str _ => rw [h.str]; exact .base (.str _)
  | tup xs =>
    obtain ⟨a, vs, rfl, e, _⟩ := h.tup s
    rw [hK] at e
    rcases e with (e | ⟨o, e⟩) | ⟨o, its, n, e, hc, _⟩
    · exact .base (.tup e)
    · exact .fTuple e
    · exact .kTuple e hc
  | lst xs =>
    obtain ⟨a, vs, rfl, e, _⟩ := h.lst s
    exact .base (.lst e)
  | dct xs =>
    rcases h with ⟨a, ks, rfl, e, _⟩ | ⟨_, _, _, _, w, _⟩
    · rcases e with e | ⟨o, e⟩
      · exact .base (.dK (s _ _ e))
      · exact .fDict (s _ _ e)
    · cases w
  | _ => cases k
inductive Kd where
  | non | bl | int | str | tup | lst | dct
def Kd.nm : Kd → String
  | .non => "NoneType"
  | .bl => "bool"
  | .int => "int"
  | .str => "str"
  | .tup => "tuple"
  | .lst => "list"
  | .dct => "dict"
def Ty.hasK : Ty → Kd → Bool
  | .int, .int => true
  | .int, .bl => true
  | .bool, .bl => true
  | .str, .str => true
  | .tuple, .tup => true
  | .list, .lst => true
  | .dict, .dct => true
  | _, _ => false
theorem kit_tab (t : Ty) (k : Kd) : kitB k.nm t.nm = some (t.hasK k) := by
  cases t <;> cases k <;> decide +kernel
theorem kit_one (K : PySem.W.Frag) (t : Ty) (d : D) (k : d.kinded = true) : PySem.W.kitOne K (.type d.tyS) (.type t.nm) = some (t.has d) := by
  cases d with
  | non => exact (kit_ty (kit_tab t .non)).trans (by cases t <;> rfl)
  | bl _ => exact (kit_ty (kit_tab t .bl)).trans (by cases t <;> rfl)
  | int _ => exact (kit_ty (kit_tab t .int)).trans (by cases t <;> rfl)
  | str _ => exact (kit_ty (kit_tab t .str)).trans (by cases t <;> rfl)
  | tup _ => exact (kit_ty (kit_tab t .tup)).trans (by cases t <;> rfl)
  | lst _ => exact (kit_ty (kit_tab t .lst)).trans (by cases t <;> rfl)
  | dct _ => exact (kit_ty (kit_tab t .dct)).trans (by cases t <;> rfl)
  | _ => cases k
theorem u_isi1 (hK : c.K = X.K) (t : Ty) : CallR X (.builtin "isinstance") (fun vs H Q => ∃ v, vs = [v, .ty t.nm] ∧ rUL c (.isi [t]) [v] H Q) := by
  intro pins s σ' H vs us Q I r h
  obtain ⟨v, rfl, F0, F, ρ, st, te, σ, τ, ds, d, C, hd, sem, q⟩ := h
  obtain ⟨d1, rfl, h1⟩ := hd.one
  obtain ⟨k, rfl⟩ := (show d1.kinded = true ∧ d = _ from sem)
  refine call_isi pins s σ' H _ us Q I r ⟨v, .ty t.nm, .type d1.tyS, .type t.nm, t.has d1, rfl, .ty _, ty_of hK C.sub h1 k, kit_one _ _ _ k, ?_⟩
  have e : ([t].any fun t => t.has d1) = t.has d1 := by simp
  rw [← e]
  exact q.now C rfl
theorem kit_any (K : PySem.W.Frag) (d : D) (k : d.kinded = true) : ∀ ts : List Ty, PySem.W.kitAny K (.type d.tyS) (ts.map fun t => .type t.nm) = some (ts.any fun t => t.has d)
  | [] => rfl
  | t :: ts => by
    rw [List.map_cons, List.any_cons]
    refine kitAny_cons (kit_one K t d k) (fun e => ?_) fun e => ?_
    · rw [e, kit_any K d k ts]; rfl
    · rw [e]; rfl
theorem cls_all : ∀ ts : List Ty, Paired ClsV (ts.map fun t => V.ty t.nm) (ts.map fun t => Value.type t.nm)
  | [] => .nil
  | t :: ts => .cons (.ty _) (cls_all ts)
theorem u_isiT (hK : c.K = X.K) (ts : List Ty) : CallR X (.builtin "isinstance") (fun vs H Q => ∃ v tp, vs = [v, .ref tp] ∧ H tp = some (.tup (ts.map fun t => V.ty t.nm)) ∧ rUL c (.isi ts) [v] H Q) := by
  intro pins s σ' H vs us Q I r h
  obtain ⟨v, tp, rfl, hT, F0, F, ρ, st, te, σ, τ, ds, d, C, hd, sem, q⟩ := h
  obtain ⟨d1, rfl, h1⟩ := hd.one
  obtain ⟨k, rfl⟩ := (show d1.kinded = true ∧ d = _ from sem)
  exact call_isiT pins s σ' H _ us Q I r ⟨v, tp, _, .type d1.tyS, _, _, rfl, hT, cls_all ts, ty_of hK C.sub h1 k, kit_any _ _ k ts, q.now C rfl⟩
end
end Pv

end
section
set_option linter.all false
set_option maxRecDepth 100000
set_option maxHeartbeats 1000000
/-! Rv: t[::-1] of a tuple. -/
namespace Rv
open PySem PySem.Spec PyProof.Rows HT
section
variable {prog : Program} {w : World} {A : Around} {E : Value → Shared → Prop} {s : Shared}
theorem places_rev (n : Nat) : Builtin.Slice.slicePlaces ((n : Int) - 1) (-1) (-1) = n := by
  unfold Builtin.Slice.slicePlaces
  rw [if_neg (by decide)]
  by_cases h : n = 0
  · subst h; decide
  · rw [if_pos (by omega)]
    have : ((n : Int) - 1 - -1 - 1) / (- -1) + 1 = (n : Int) := by
      rw [show (- -1 : Int) = 1 by decide, Int.ediv_one]; omega
    rw [this, Int.toNat_natCast]
theorem applied_rev {sl : Addr} {vl vu vs : Value} {n : Nat} {Q : Int × Int × Nat → Shared → Prop} (hs : s.heap.IsSliceOf sl vl vu vs) (pl : IsPart vl none) (pu : IsPart vu none) (ps : IsPart vs (some (-1)))
    (h : Q ((n : Int) - 1, -1, n) s) : wpAny (model prog w) A (Builtin.Slice.sliceApplied (.ref sl) (pure (n : Int))) Q E s := by
  obtain ⟨os, hos, hcs, hds⟩ := id hs
  unfold Builtin.Slice.sliceApplied Builtin.Slice.sliceFields
  refine wpAny_bind (wpAny_bind (wpAny_field hos hds (x := vl) rfl (wpAny_bind (wpAny_field hos hds (x := vu) rfl (wpAny_bind (wpAny_field hos hds (x := vs) rfl (wpAny_pure ?_)))))))
  refine wpAny_bind (slicePart_ ps ?_)
  show wpAny _ _ (if ((-1 : Int) == 0) = true then _ else _) _ _ s
  rw [if_neg (by decide)]
  refine wpAny_bind (slicePart_ pl (wpAny_bind (slicePart_ pu (wpAny_bind (wpAny_pure ?_)))))
  show wpAny _ _ (pure (((n : Int) - 1), (-1 : Int), Builtin.Slice.slicePlaces ((n : Int) - 1) (-1) (-1))) _ _ s
  rw [places_rev]
  exact wpAny_pure h
theorem fm_congr {α β : Type} {f g : α → Option β} : ∀ l : List α, (∀ m ∈ l, f m = g m) → l.filterMap f = l.filterMap g
  | [], _ => rfl
  | a :: l, h => by
    rw [List.filterMap_cons, List.filterMap_cons, h a List.mem_cons_self, fm_congr l fun m hm => h m (List.mem_cons_of_mem _ hm)]
theorem pick_rev (xs : Array Value) : ((List.range xs.size).filterMap fun (m : Nat) => xs[(((xs.size : Int) - 1) + (m : Int) * (-1)).toNat]?).toArray = xs.toList.reverse.toArray := by
  congr 1
  have h1 : (List.range xs.size).filterMap (fun (m : Nat) => xs[(((xs.size : Int) - 1) + (m : Int) * (-1)).toNat]?) = ((List.range xs.size).map fun k => xs.size - 1 - k).filterMap (xs[·]?) := by
    rw [List.filterMap_map]
    refine fm_congr _ fun m hm => ?_
    have := List.mem_range.mp hm
    show _ = xs[xs.size - 1 - m]?
    have e : ((xs.size : Int) - 1 + (m : Int) * (-1)).toNat = xs.size - 1 - m := by omega
    rw [e]
  rw [h1]
  have h2 : (List.range xs.size).map (fun k => xs.size - 1 - k) = (List.range xs.size).reverse := by
    apply List.ext_getElem
    · simp
    · intro i h1 h2
      simp
  rw [h2, List.filterMap_reverse]
  congr 1
  have h := pick_run xs 0 xs.size
  have e : (List.range xs.size).map (0 + ·) = List.range xs.size := by
    rw [show ((0 + ·) : Nat → Nat) = id from funext fun k => Nat.zero_add k, List.map_id]
  rw [e, List.drop_zero, List.take_of_length_le (by rw [Array.length_toList]; exact Nat.le_refl _)] at h
  exact h
theorem getItem_tuple_rev {t sl : Addr} {items : Array Value} {vl vu vs : Value} {Q : Value → Shared → Prop} (ht : IsTup s.heap t items) (hs : s.heap.IsSliceOf sl vl vu vs) (pl : IsPart vl none) (pu : IsPart vu none) (ps : IsPart vs (some (-1)))
    (h : Q (.ref s.heap.objs.size) { s with heap := s.heap.push { cls := .type "tuple", data := .seq items.toList.reverse.toArray } })
    (hsz : items.size ≤ sizeLine) : wpAny (model prog w) A (getItem (.ref t) (.ref sl)) Q E s := by
  have htake : sizeOk (.seq items.toList.reverse.toArray) := by
    show items.toList.reverse.toArray.size ≤ sizeLine
    rw [List.size_toArray, List.length_reverse, Array.length_toList]
    exact hsz
  obtain ⟨os, hos, hcs, hds⟩ := id hs
  have hTs : s.TypeIs (.ref sl) "slice" := ⟨os, hos, hcs⟩
  unfold getItem
  try with_reducible refine wpAny_holding ?_
  first | refine wpAny_bind (wpAny_pure ?_) | skip
  refine wpAny_bind (wpAny_sequenceKey ht.typeIs (by decide) ?_)
  refine wpAny_bind (wpAny_callSpecial?_slot (name := Str.ofString "__getitem__") ht.typeIs PyProof.Rows.slot_tuple_getitem
    (wpAny_call_entry PyProof.Rows.slot_tuple_getitem ht.typeIs entry_tuple_getitem ?_ (args_tuple_getitem _ _)))
  show wpAny _ _ (Builtin.Tuple.tupleItemsOf (.ref t) >>= _) _ _ s
  refine wpAny_bind (tupleItemsOf_ ht ?_)
  refine wpAny_bind (wpAny_typeOf hTs ?_)
  rw [if_pos (by decide)]
  refine wpAny_bind (applied_rev hs pl pu ps ?_)
  have hno : ¬ ((((items.size : Int) - 1) == 0 && (-1 : Int) == 1 && items.size == items.size) = true) := by
    intro q
    rw [Bool.and_eq_true, Bool.and_eq_true] at q
    exact absurd q.1.2 (by decide)
  show wpAny _ _ (if (((items.size : Int) - 1) == 0 && (-1 : Int) == 1 && items.size == items.size) = true then _ else _) _ _ s
  rw [if_neg hno, pick_rev]
  first
    | exact wpAny_bind (m := Builtin.Tuple.tupleExact _) (wpAny_newObj_type (wpAny_pure ⟨_, rfl, wpAny_pure h⟩) htake)
    | exact wpAny_bind (m := Builtin.Tuple.tupleExact _) (wpAny_newObj_type (wpAny_bind (wpAny_pure (wpAny_pure ⟨_, rfl, wpAny_pure h⟩))) htake)
    | exact wpAny_bind (wpAny_bind (m := Builtin.Tuple.tupleExact _) (wpAny_newObj_type (wpAny_pure (wpAny_pure ⟨_, rfl, wpAny_pure h⟩)) htake))
    | exact wpAny_bind (wpAny_bind (m := Builtin.Tuple.tupleExact _) (wpAny_newObj_type (wpAny_pure ⟨_, rfl, wpAny_pure h⟩) htake))
end
end Rv
namespace Pv
open PySem PySem.Spec PyProof.Rows L2
def tRevA (K : PySem.W.Frag) (te : TE) : TE := fun σ H Q => te σ H fun x H1 => (∃ a xs, x = .ref a ∧ SqL K H1 a xs ∧ ∀ p, H1 p = none → Q (.ref p) (upd H1 p (.lst xs.reverse))) ∨
  (∃ a xs, x = .ref a ∧ SqT K H1 a xs ∧ ∀ p, H1 p = none → Q (.ref p) (upd H1 p (.tup xs.reverse)))
theorem pe_revA {X : Cx} {e : Expr} {te : TE} {k : Nat} {p1 p2 p3 pos : Pos} (he : PE X e te) : PE X (.Subscript e (.Slice none none (some (.UnaryOp .USub (.Constant (.int 1) k p1) p2)) p3) pos) (tRevA X.K te) := by
  refine ⟨fun pins s σ H Q I h => ?_⟩
  refine Subscript_ (thn (he.run pins s σ H _ I h) fun v s1 ⟨x, H1, I1, r1, q1⟩ => ?_)
  have hst : PO X (some (.UnaryOp .USub (.Constant (.int 1) k p1) p2)) (tPart (tUn (rU fun i => .int (-i)) (tC (.int 1)))) := po_some (pe_un un_neg pe_int)
  refine wpAny_Slice (thn (po_none.run pins s1 σ H1 (fun o H2 => o = none ∧ H2 = H1) I1 ⟨rfl, rfl⟩) fun vl s2 ⟨l, H2, I2, pl, el, e2⟩ => ?_)
  subst el e2
  refine thn (po_none.run pins s2 σ H2 (fun o H3 => o = none ∧ H3 = H2) I2 ⟨rfl, rfl⟩) fun vu s3 ⟨u, H3, I3, pu, eu, e3⟩ => ?_
  subst eu e3
  refine thn (hst.run pins s3 σ H3 (fun o H4 => o = some (-1) ∧ H4 = H3) I3 ⟨1, rfl, -1, rfl, rfl, rfl⟩) fun vs s4 ⟨o, H4, I4, ps, eo, e4⟩ => ?_
  subst eo e4
  have I5 : Inv X pins σ H4 { s4 with heap := s4.heap.push { cls := .type "slice", data := .fields #[vl, vu, vs] } } := I4.kept (t' := s4.toks) fun b ob q => Heap.get?_push_of_some _ q
  rcases q1 with ⟨a, xs, ex, hx, q⟩ | ⟨a, xs, ex, hx, q⟩
  · subst ex
    cases r1
    obtain ⟨its, r, ht, hz⟩ := I5.list hx
    have hlen := r.length
    show wpAny (model X.prog X.w) X.A (subscriptTail e (.Slice none none (some (.UnaryOp .USub (.Constant (.int 1) k p1) p2)) p3) (.ref a) (.ref s4.heap.objs.size)) (EP X pins σ Q) X.xe { s4 with heap := s4.heap.push { cls := .type "slice", data := .fields #[vl, vu, vs] } }
    refine tail_any (ops := [.ref a, .ref s4.heap.objs.size]) ht.isList.typeIs (PySem.slot_list_getitem.lookup) ?_ (by with_unfolding_all rfl)
    refine wpAny_getItem_list_slice ht.isList (Heap.IsSliceOf.new _ vl vu vs) pl pu ps (by decide) ?_ (by rw [List.size_toArray]; omega)
    rw [PySem.W.krv_pick]
    refine ⟨.ref _, _, I5.laid (t' := s4.toks) (o := .lst xs.reverse) (fun b ob q => Heap.get?_push_of_some _ q) (Nat.le_refl _) ?_, rfl, q _ (I5.hok.fresh (Nat.le_refl _))⟩
    exact ⟨by rw [List.length_reverse]; exact hz, _, 0, r.reverse, Heap.get?_push_size _ rfl⟩
  · subst ex
    cases r1
    obtain ⟨its, r, ht, hz⟩ := I5.tuple hx
    have hlen := r.length
    show wpAny (model X.prog X.w) X.A (subscriptTail e (.Slice none none (some (.UnaryOp .USub (.Constant (.int 1) k p1) p2)) p3) (.ref a) (.ref s4.heap.objs.size)) (EP X pins σ Q) X.xe { s4 with heap := s4.heap.push { cls := .type "slice", data := .fields #[vl, vu, vs] } }
    refine tail_any (ops := [.ref a, .ref s4.heap.objs.size]) ht.typeIs (PyProof.Rows.slot_tuple_getitem.lookup) ?_ (by with_unfolding_all rfl)
    refine Rv.getItem_tuple_rev ht (Heap.IsSliceOf.new _ vl vu vs) pl pu ps ?_ (by rw [List.size_toArray]; omega)
    refine ⟨.ref _, _, I5.laid (t' := s4.toks) (o := .tup xs.reverse) (fun b ob q => Heap.get?_push_of_some _ q) (Nat.le_refl _) ?_, rfl, q _ (I5.hok.fresh (Nat.le_refl _))⟩
    exact ⟨by rw [List.length_reverse]; exact hz, _, r.reverse, ⟨_, Heap.get?_push_size _ rfl, rfl, ⟨_, rfl⟩⟩⟩
end Pv

end
section
set_option linter.all false
set_option maxRecDepth 100000
set_option maxHeartbeats 2000000
/-! Pv6: what a def promises; the compiler for expressions; readings. -/
namespace Pv
open PySem PySem.Spec PyProof.Rows L2
section
variable {S : Type}
/-- an exception as data -/
def DenX (K : PySem.W.Frag) (mg : Str → Option Value) (η : Nat → Option Addr) (F H : Hp) (e : D) (cls : Value) (dx : Option Addr) : Prop :=
  ∃ n fs C, e = .obj n fs ∧ cls = .ref C ∧ mg n = some (.ref C) ∧ ((dx = none ∧ fs = []) ∨ ∃ a fvs, dx = some a ∧ H a = some (.xd fvs) ∧ Paired (fun (p : Str × D) (q : Str × V) => p.1 = q.1 ∧ Den ⟨K, η⟩ F p.2 q.2) fs fvs)
/-- what a call leaves -/
structure Post (R : Reg S) (F H : Hp) (st : S) (F' H' : Hp) : Prop where
  f : Sub F F'
  fh : Sub F' H'
  h : ∀ a o, H a = some o → ¬ R.M a → H' a = some o
  new : ∀ a o, F' a = some o → F a = some o ∨ H a = none
  m : ∀ a, R.M a → F' a = none
  reg : R.ok st H'
def spOf (K : PySem.W.Frag) (mg : Str → Option Value) (RC : Reg S → Prop) (n : Nat) (ct : Ct S) : Sp := fun vs H Q E => ∃ (R : Reg S) (F : Hp) (st : S) (ds : List D) (Qd Ed : D → S → Prop),
  RC R ∧ Sub F H ∧ (∀ a, R.M a → F a = none) ∧ R.ok st H ∧ DenL ⟨K, R.η⟩ F ds vs ∧ ds.length = n ∧ ct ds st Qd Ed ∧
  (∀ d st' v F' H', Qd d st' → Post R F H st' F' H' → Den ⟨K, R.η⟩ F' d v → Q v H') ∧
  (∀ e st' cls dx F' H', Ed e st' → Post R F H st' F' H' → DenX K mg R.η F' H' e cls dx → E cls dx H')
/-- a def keeps a promise, called where no repr is under way -/
structure FnG (P : Program) (w : World) (K : PySem.W.Frag) (mg : Str → Option Value) (base : Heap) (k : Nat) (f : Addr) (fd : FuncData) (ps : List Str) (sp : Sp) : Prop where
  len : ∀ vs H Q E, sp vs H Q E → vs.length = ps.length
  run : ∀ (A : Around) (outer : List PySem.Env) (s : Shared) (H : Hp) (args : Args) (us : List Value) (vs : List V) (Q : VK) (E : XK), Room k A → A.guards = some [] → Env0 P w K mg base A outer s H → BindsTo s fd args (ps.zip us) →
    Vals vs us → sp vs H Q E → codeAny (model P w) A (.call (.ref f) args) (CR (L2.CX P w) outer P w H s Q E) s

/-! ### names -/
def ixOf (x : Str) : List Str → Nat → Option Nat
  | [], _ => none
  | y :: r, n => if y = x then some n else ixOf x r (n + 1)
theorem ixOf_get {x : Str} : ∀ {N : List Str} {n i : Nat}, ixOf x N n = some i → n ≤ i ∧ N[i - n]? = some x
  | [], _, _, h => by cases h
  | y :: r, n, i, h => by
    unfold ixOf at h
    split at h
    · rename_i e; cases h; subst e; simp
    · obtain ⟨h1, h2⟩ := ixOf_get h
      refine ⟨by omega, ?_⟩
      have e : i - n = (i - (n + 1)) + 1 := by omega
      rw [e]; simpa using h2
/-- a call's shape: f, so many positional values, keywords; the def's id; how the rest is filled up (a keyword's value in turn, or a default) -/
structure KF where
  f : Str
  n : Nat
  ks : List Str
  id : Nat
  fill : List (Option D)
structure Cs where
  N : List Str
  sc : Scope
  cons : List (Str × D)
  blt : List Str
  funs : List (Str × Nat × Nat)
  kf : List KF := []
def Cs.slot (cs : Cs) (x : Str) : Option Nat :=
  if (x == ("__debug__" : Str)) || (x == ("__classdict__" : Str)) then none else
  match cs.sc.names.lookup x with
  | some .local => ixOf x cs.N 0
  | some .cell => ixOf x cs.N 0
  | some .free => ixOf x cs.N 0
  | _ => none
theorem Cs.slot_ok {cs : Cs} {x : Str} {i : Nat} (h : cs.slot x = some i) : cs.N[i]? = some x ∧ Vis cs.sc x ∧ (x == ("__debug__" : Str)) = false ∧ (x == ("__classdict__" : Str)) = false := by
  unfold Cs.slot at h
  split at h
  · cases h
  · rename_i n
    rw [Bool.not_eq_true, Bool.or_eq_false_iff] at n
    split at h <;> first | (rename_i e; exact ⟨by simpa using (ixOf_get h).2, by first | exact .inl e | exact .inr (.inl e) | exact .inr (.inr e), n.1, n.2⟩) | cases h
def Cs.glob (cs : Cs) (x : Str) : Bool := (match cs.sc.names.lookup x with | some .globalImplicit => true | _ => false) && !(x == ("__debug__" : Str)) && !(x == ("__name__" : Str))
theorem Cs.glob_ok {cs : Cs} {x : Str} (h : cs.glob x = true) : cs.sc.names.lookup x = some .globalImplicit ∧ (x == ("__debug__" : Str)) = false ∧ x ≠ "__name__" := by
  unfold Cs.glob at h
  rw [Bool.and_eq_true, Bool.and_eq_true, Bool.not_eq_true', Bool.not_eq_true'] at h
  obtain ⟨⟨h1, h2⟩, h3⟩ := h
  refine ⟨?_, h2, fun e => by subst e; simp at h3⟩
  split at h1
  · assumption
  · cases h1

/-! ### the compiler -/
def bopOf : Operator → Option Op
  | .Add => some .add
  | .Sub => some .sub
  | .Mult => some .mul
  | .FloorDiv => some .fdiv
  | .Mod => some .mod
  | .Pow => some .pow
  | _ => none
def copOf : CmpOp → Option Op
  | .Eq => some .eq
  | .NotEq => some .ne
  | .Lt => some .lt
  | .LtE => some .le
  | .Gt => some .gt
  | .GtE => some .ge
  | .In => some .in_
  | .NotIn => some .notIn
  | _ => none
/-- operands: a name is looked at in place -/
def cOper (cs : Cs) (f : Expr → Option X) (e : Expr) (r : Os) : Option Os := match e with
  | .Name x _ => match cs.slot x with
    | some i => some (.p i r)
    | none => (f e).map fun x => .x x r
  | _ => (f e).map fun x => .x x r
def cOs (cs : Cs) (f : Expr → Option X) : List Expr → Option Os
  | [] => some .nil
  | e :: es => (cOs cs f es).bind (cOper cs f e)
def cAs (f : Expr → Option X) : List Expr → Option Os
  | [] => some .nil
  | e :: es => match f e, cAs f es with
    | some x, some r => some (.x x r)
    | _, _ => none
def cBool (f : Expr → Option X) (mk : X → X → X) : List Expr → Option X
  | [] => none
  | [e] => f e
  | e :: es => match f e, cBool f mk es with
    | some a, some b => some (mk a b)
    | _, _ => none
def appO : Os → Os → Os
  | .nil, m => m
  | .x e r, m => .x e (appO r m)
  | .p i r, m => .p i (appO r m)
def fillO : List (Option D) → Os → Os
  | [], _ => .nil
  | some d :: r, m => .x (.k d) (fillO r m)
  | none :: r, .x e m => .x e (fillO r m)
  | none :: r, m => m
def cKw (cs : Cs) (g : Expr → Option X) (f : Str) (es : List Expr) (kws : List Keyword) : Option X := match es with
  | [] => none
  | e :: r => (cs.kf.find? fun q => q.f == f && q.n == (e :: r).length && q.ks.map some == kws.map (·.arg)).bind fun q => match cAs g (e :: r), cAs g (kws.map (·.value)) with
    | some l, some m => some (.call q.id (appO l (fillO q.fill m)))
    | _, _ => none
def tyOf? (x : Str) : Option Ty := if x = "int" then some .int else if x = "bool" then some .bool else if x = "str" then some .str else if x = "tuple" then some .tuple else if x = "list" then some .list else if x = "dict" then some .dict else none
def bltOf (x : Str) (n : Nat) : Option Op :=
  if x = "len" then some .len else if x = "abs" then some .abs else if x = "int" then some .int else if x = "max" then (if n = 2 then some .max2 else some .maxL) else if x = "min" then (if n = 2 then some .min2 else some .minL)
  else if x = "sum" then some .sum else if x = "all" then some .all else if x = "any" then some .any else if x = "tuple" then some .tuple else if x = "list" then some .list else if x = "sorted" then some .sorted else if x = "repr" then some .repr else none
mutual
def Tg.ixs : Tg → List Nat
  | .n i => [i]
  | .t l => ixsL l
def ixsL : List Tg → List Nat
  | [] => []
  | g :: r => Tg.ixs g ++ ixsL r
end
def nmIx (N : List Str) (sc : Scope) (x : Str) : Option Nat := match sc.names.lookup x with
  | some .local => ixOf x N 0
  | some .cell => ixOf x N 0
  | _ => none
def cTgs (N : List Str) (sc : Scope) : List Expr → Option (List Nat)
  | [] => some []
  | .Name x _ :: es => match nmIx N sc x, cTgs N sc es with
    | some i, some l => some (i :: l)
    | _, _ => none
  | _ :: _ => none
def cTg (N : List Str) (sc : Scope) : Expr → Option Tg
  | .Name x _ => (nmIx N sc x).map .n
  | .Tuple es _ _ => (cTgs N sc es).map fun l => .t (l.map .n)
  | _ => none
/-- what a loop goes through -/
def cIt (cs : Cs) (f : Expr → Option X) (isT : Bool) : Expr → Option It
  | .Call (.Name x p) es [] q =>
    if x = "range" && cs.glob x && cs.blt.contains x && (es.length == 1 || es.length == 2) then (cAs f es).map .rng
    else if x = "enumerate" && cs.glob x && cs.blt.contains x && es.length == 1 && isT then (cAs f es).map .enum
    else if x = "zip" && cs.glob x && cs.blt.contains x && es.length == 2 && isT then (cAs f es).map .zip
    else (cAs f [.Call (.Name x p) es [] q]).map .seq
  | e => (cAs f [e]).map .seq
def isTupE : Expr → Bool
  | .Tuple .. => true
  | _ => false
mutual
/-- the names that are read as values -/
def vX : X → List Nat
  | .k _ => []
  | .v i => [i]
  | .op _ l => vO l
  | .and a b => vX a ++ vX b
  | .or a b => vX a ++ vX b
  | .not a => vX a
  | .ife c a b => vX c ++ vX a ++ vX b
  | .chain _ _ a b c => vX a ++ vX b ++ vX c
  | .call _ l => vO l
  | .on _ a _ l => vX a ++ vO l
  | .comp fz _ _ it _ _ => fz ++ vI it
def vO : Os → List Nat
  | .nil => []
  | .x e r => vX e ++ vO r
  | .p _ r => vO r
def vI : It → List Nat
  | .seq l => vO l
  | .rng l => vO l
  | .enum l => vO l
  | .zip l => vO l
end
def ownOf (N : List Str) (g : Tg) : List (Str × Nat) := g.ixs.filterMap fun i => (N[i]?).map fun x => (x, i)
def cX : Nat → Cs → Expr → Option X
  | 0, _, _ => none
  | n + 1, cs, e => match e with
    | .Constant .none _ _ => some (.k .non)
    | .Constant (.bool b) _ _ => some (.k (.bl b))
    | .Constant (.int i) _ _ => some (.k (.int i))
    | .Constant (.str x) _ _ => some (.k (.str x))
    | .Name x _ => match cs.slot x with
      | some i => some (.v i)
      | none => if cs.glob x then (cs.cons.lookup x).map .k else none
    | .BinOp a o b _ => (bopOf o).bind fun o' => (cOs cs (cX n cs) [a, b]).map (.op o')
    | .UnaryOp .USub a _ => (cOs cs (cX n cs) [a]).map (.op .neg)
    | .UnaryOp .Not a _ => (cX n cs a).map .not
    | .BoolOp .And es _ => cBool (cX n cs) .and es
    | .BoolOp .Or es _ => cBool (cX n cs) .or es
    | .Compare a [.Is] [.Constant .none _ _] _ => (cOs cs (cX n cs) [a]).map (.op .isN)
    | .Compare a [.IsNot] [.Constant .none _ _] _ => (cOs cs (cX n cs) [a]).map (.op .notN)
    | .Compare a [o] [b] _ => (copOf o).bind fun o' => (cOs cs (cX n cs) [a, b]).map (.op o')
    | .Compare a [o1, o2] [b, c] _ => match copOf o1, copOf o2, cX n cs a, cX n cs b, cX n cs c with
      | some p1, some p2, some xa, some xb, some xc => some (.chain p1 p2 xa xb xc)
      | _, _, _, _, _ => none
    | .IfExp c a b _ => match cX n cs c, cX n cs a, cX n cs b with
      | some xc, some xa, some xb => some (.ife xc xa xb)
      | _, _, _ => none
    | .Tuple es _ _ => (cAs (cX n cs) es).map (.op .tup)
    | .List es _ => (cAs (cX n cs) es).map (.op .lst)
    | .Subscript a (.Slice none none none _) _ => (cOper cs (cX n cs) a .nil).map (.op (.slice false false))
    | .Subscript a (.Slice (some i) none none _) _ => ((cAs (cX n cs) [i]).bind (cOper cs (cX n cs) a)).map (.op (.slice true false))
    | .Subscript a (.Slice none (some j) none _) _ => ((cAs (cX n cs) [j]).bind (cOper cs (cX n cs) a)).map (.op (.slice false true))
    | .Subscript a (.Slice (some i) (some j) none _) _ => ((cAs (cX n cs) [i, j]).bind (cOper cs (cX n cs) a)).map (.op (.slice true true))
    | .Subscript a (.Slice none none (some (.UnaryOp .USub (.Constant (.int 1) _ _) _)) _) _ => (cOs cs (cX n cs) [a]).map (.op .rev)
    | .Subscript a i _ => (cOs cs (cX n cs) [a, i]).map (.op .ix)
    | .Call (.Name f _) es [] _ =>
      if cs.glob f then
        match cs.funs.lookup f with
        | some (id, m) => if es.length = m ∧ m ≠ 0 then (cAs (cX n cs) es).map (.call id) else none
        | none => if cs.blt.contains f then
            (if f = "isinstance" then (match es with
              | [a, .Name t _] => if cs.glob t && cs.blt.contains t then (tyOf? t).bind fun ty => (cOs cs (cX n cs) [a]).map (.op (.isi [ty])) else none
              | _ => none)
            else (bltOf f es.length).bind fun o => if es.length ≠ 0 then (cOs cs (cX n cs) es).map (.op o) else none)
          else cKw cs (cX n cs) f es []
      else none
    | .Call (.Name f _) es (kw :: kws) _ => if cs.glob f then cKw cs (cX n cs) f es (kw :: kws) else none
    | .Call (.Attribute (.Name y py) m ap) [b] [] cp => if m = "index" && ap.endLine == cp.line then (match cX n cs (.Name y py), cX n cs b with
        | some xa, some xb => some (.on .list xa .index (.x xb .nil))
        | _, _ => none) else none
    | .ListComp elt [⟨tg, iter, ifs, 0⟩] scope _ =>
      match cTg cs.N scope tg with
      | none => none
      | some g =>
        if blkC cs.N cs.sc scope (ownOf cs.N g) then
          match cIt cs (cX n cs) (isTupE tg) iter, cX n { cs with sc := relS scope cs.sc } elt, cAs (cX n { cs with sc := relS scope cs.sc }) ifs with
          | some it, some x, some l => if ifs.length ≤ 1 then some (.comp (vX x ++ vO l) ((ownOf cs.N g).map (·.2)) g it l x) else none
          | _, _, _ => none
        else none
    | _ => none
end
end Pv

end
section
set_option linter.all false
set_option maxRecDepth 100000
set_option maxHeartbeats 2000000
/-! Pv7: readings of compiled expressions; operands. -/
namespace Pv
open PySem PySem.Spec PyProof.Rows L2
section
variable {S : Type}
def scalD : D → Option V
  | .non => some .non
  | .bl b => some (.bl b)
  | .int i => some (.int i)
  | .str x => some (.str x)
  | _ => none
theorem scal_den {d : D} {v : V} (h : scalD d = some v) (c : Rc) (F : Hp) : Den c F d v := by
  cases d <;> cases h <;> rfl
def fillV : List (Option D) → List V → List V
  | [], _ => []
  | some d :: r, zs => (scalD d).getD .non :: fillV r zs
  | none :: r, z :: zs => z :: fillV r zs
  | none :: _, [] => []
def fillD : List (Option D) → List D → List D
  | [], _ => []
  | some d :: r, zs => d :: fillD r zs
  | none :: r, z :: zs => z :: fillD r zs
  | none :: _, [] => []
/-- what a context offers to compiled code -/
structure Good (X : Cx) (cs : Cs) (c : Set S) (Γ : Nat → Ct S) : Prop where
  N : X.N = cs.N
  sc : X.env.scope = cs.sc
  nd : cs.N.Nodup
  K : c.K = X.K
  mg : c.mg = X.mg
  calm : X.calm = true
  hu : X.A.units + 70 < cLine
  hg : X.A.guards = some []
  cons : ∀ x d, cs.cons.lookup x = some d → ∃ v u, scalD d = some v ∧ X.mg x = some u ∧ RelV v u
  blt : ∀ x, cs.blt.contains x = true → X.mg x = none
  funs : ∀ f id m, cs.funs.lookup f = some (id, m) → ∃ fa fd k ps, X.mg f = some (.ref fa) ∧ PySem.W.keepIn X.K (.ref fa) = true ∧ Binds X.K fd ps [] ∧ ps.length = m ∧ Room k X.A ∧ FnG X.prog X.w X.K X.mg X.base k fa fd ps (spOf X.K X.mg c.RC m (Γ id))
  kfs : ∀ q ∈ cs.kf, ∃ fa fd k ps g gV, X.mg q.f = some (.ref fa) ∧ PySem.W.keepIn X.K (.ref fa) = true ∧ KBn X.K fd ps q.n q.ks g gV ∧ (∀ vs zs : List V, vs.length = q.n → zs.length = q.ks.length → gV vs zs = vs ++ fillV q.fill zs) ∧ ps.length = q.n + q.fill.length ∧
    (q.fill.filter Option.isNone).length = q.ks.length ∧ (∀ d, some d ∈ q.fill → (scalD d).isSome = true) ∧ Room k X.A ∧ FnG X.prog X.w X.K X.mg X.base k fa fd ps (spOf X.K X.mg c.RC ps.length (Γ q.id))
theorem Good.gl {X : Cx} {cs : Cs} {c : Set S} {Γ : Nat → Ct S} (G : Good X cs c Γ) {x : Str} (h : cs.glob x = true) : Gl X x := by
  show X.env.scope.names.lookup x = _
  rw [G.sc]
  exact (Cs.glob_ok h).1
def EImp (c : Set S) (W : WX) (F0 : Hp) (te : Env) (σ τ : List (Option V)) (Ed : QX S) : Prop :=
  ∀ e ρ' st' F' H' cls dx, Ed e ρ' st' → Cur c F0 F' ρ' st' te σ τ H' → DenX c.K c.mg c.R.η F' H' e cls dx → W cls dx σ H'
variable (Γ : Nat → Ct S) (c : Set S) (W : WX)
def uE (x : X) : TE := fun σ H Q => ∃ F0 F ρ st te τ Qd Ed, Cur c F0 F ρ st te σ τ H ∧ wpX Γ x ρ st Qd Ed ∧
  (∀ d ρ' st' v F' H', Qd d ρ' st' → Cur c F0 F' ρ' st' te σ τ H' → Ext c F H F' H' → Den c.rc F' d v → Q v H') ∧ EImp c W F0 te σ τ Ed
def uF (x : X) : TE := fun σ H Q => ∃ F0 F ρ st te τ Qd Ed, Cur c F0 F ρ st te σ τ H ∧ wpX Γ x ρ st Qd Ed ∧
  (∀ d ρ' st' F' H', Qd d ρ' st' → Cur c F0 F' ρ' st' te σ τ H' → Ext c F H F' H' → ∃ xs, d = .lst xs ∧ ∀ p, Fresh c F' (ρ' ++ te) (σ ++ τ) H' xs p → Q (.ref p) H') ∧ EImp c W F0 te σ τ Ed
def uT (x : X) : TT := fun σ H Q => ∃ F0 F ρ st te τ Qd Ed, Cur c F0 F ρ st te σ τ H ∧ wpX Γ x ρ st Qd Ed ∧
  (∀ d ρ' st' F' H', Qd d ρ' st' → Cur c F0 F' ρ' st' te σ τ H' → Ext c F H F' H' → ∃ b, d.truth = some b ∧ Q b H') ∧ EImp c W F0 te σ τ Ed
def uO (l : Os) : TA := fun σ H Q => ∃ F0 F ρ st te τ Qd Ed, Cur c F0 F ρ st te σ τ H ∧ wpO Γ l ρ st Qd Ed ∧
  (∀ ds ρ' st' vs F' H', Qd ds ρ' st' → Cur c F0 F' ρ' st' te σ τ H' → Ext c F H F' H' → DenTL c F' H' ds vs → Q vs H') ∧ EImp c W F0 te σ τ Ed

variable {Γ c W}
variable {X : Cx} {cs : Cs} {F0 F H : Hp} {ρ te : Env} {st : S} {σ τ : List (Option V)}
theorem PE.weaken {e : Expr} {t t' : TE} (h : PE X e t) (w : ∀ σ H Q, t' σ H Q → t σ H Q) : PE X e t' := ⟨fun pins s σ H Q I q => h.run pins s σ H Q I (w σ H Q q)⟩
theorem PT.weaken {e : Expr} {t t' : TT} (h : PT X e t) (w : ∀ σ H Q, t' σ H Q → t σ H Q) : PT X e t' := ⟨fun pins s σ H Q I q => h.run pins s σ H Q I (w σ H Q q)⟩

theorem Cur.at (C : Cur c F0 F ρ st te σ τ H) {i : Nat} {s : Sl} (h : ρ[i]? = some s) : ∃ x, σ[i]? = some x ∧ SlOk c F H s x := by
  have hi : i < ρ.length := (List.getElem?_eq_some_iff.mp h).1
  have hs : i < σ.length := C.len ▸ hi
  refine ⟨σ[i], by simp [hs], C.sim.slot i s _ ?_ ?_⟩
  · rw [List.getElem?_append_left hi]; exact h
  · rw [List.getElem?_append_left hs]; simp [hs]
theorem peek_at (C : Cur c F0 F ρ st te σ τ H) {i : Nat} (h : (peek ρ i).isSome = true) : ∃ v, σ[i]? = some (some v) := by
  unfold peek at h
  split at h
  · rename_i d e
    obtain ⟨x, hx, v, rfl, _⟩ := C.at e
    exact ⟨v, hx⟩
  · rename_i d e
    obtain ⟨x, hx, p, vs, rfl, _⟩ := C.at e
    exact ⟨_, hx⟩
  · cases h
theorem peek_den (C : Cur c F0 F ρ st te σ τ H) {i : Nat} {d : D} {v : V} (h : peek ρ i = some d) (e : σ[i]? = some (some v)) : DenT c F H d v := by
  unfold peek at h
  split at h
  · rename_i d' e'
    cases h
    obtain ⟨x, hx, v', rfl, r⟩ := C.at e'
    rw [hx] at e; cases e
    exact .inl r
  · rename_i d' e'
    cases h
    obtain ⟨x, hx, p, vs, rfl, f, n, m, q, r⟩ := C.at e'
    rw [hx] at e; cases e
    exact .inr ⟨p, vs, d', rfl, rfl, q, m, r⟩
  · cases h
theorem Cur.freeze (C : Cur c F0 F ρ st te σ τ H) {i : Nat} {xs : List D} (h : ρ[i]? = some (.own xs)) :
    ∃ p F', σ[i]? = some (some (.ref p)) ∧ Cur c F0 F' (ρ.set i (.val (.lst xs))) st te σ τ H ∧ Ext c F H F' H ∧ Den c.rc F' (.lst xs) (.ref p) := by
  have hi : i < ρ.length := (List.getElem?_eq_some_iff.mp h).1
  obtain ⟨p, F', e, I, x, d⟩ := C.sim.freeze (i := i) (xs := xs) (by rw [List.getElem?_append_left hi]; exact h)
  refine ⟨p, F', ?_, ⟨by simpa using C.len, ?_⟩, x, d⟩
  · rw [List.getElem?_append_left (C.len ▸ hi)] at e; exact e
  · rw [List.set_append_left _ _ hi] at I; exact I

/-! ### expressions compiled -/
/-- not a star -/
def NS (e : Expr) : Prop := ∀ es env, starEach (e :: es) env = (false, eval e env) :: starEach es env
structure Fok (X : Cx) (Γ : Nat → Ct S) (c : Set S) (W : WX) (f : Expr → Option Pv.X) : Prop where
  e : ∀ e x, f e = some x → PE X e (uE Γ c W x)
  t : ∀ e x, f e = some x → PT X e (uT Γ c W x)
  ns : ∀ e x, f e = some x → NS e
inductive OsOf (cs : Cs) (f : Expr → Option Pv.X) : List Expr → Os → Prop where
  | nil : OsOf cs f [] .nil
  | x {e es x r} : f e = some x → OsOf cs f es r → OsOf cs f (e :: es) (.x x r)
  | p {y pos es i r} : cs.slot y = some i → OsOf cs f es r → OsOf cs f (.Name y pos :: es) (.p i r)
theorem cOper_of {f : Expr → Option Pv.X} {e : Expr} {es : List Expr} {r l : Os} (hr : OsOf cs f es r) (h : cOper cs f e r = some l) : OsOf cs f (e :: es) l := by
  have gen : ∀ {l}, (f e).map (fun x => Os.x x r) = some l → OsOf cs f (e :: es) l := fun {l} h => by
    cases z : f e with
    | none => rw [z] at h; cases h
    | some x => rw [z] at h; cases h; exact .x z hr
  unfold cOper at h
  split at h
  · split at h
    · rename_i z; cases h; exact .p z hr
    · exact gen h
  · exact gen h
theorem cOs_of {f : Expr → Option Pv.X} : ∀ {es : List Expr} {l : Os}, cOs cs f es = some l → OsOf cs f es l
  | [], l, h => by cases h; exact .nil
  | e :: es, l, h => by
    unfold cOs at h
    cases z : cOs cs f es with
    | none => rw [z] at h; cases h
    | some r => rw [z] at h; exact cOper_of (cOs_of z) h
theorem cAs_of {f : Expr → Option Pv.X} : ∀ {es : List Expr} {l : Os}, cAs f es = some l → OsOf cs f es l
  | [], l, h => by cases h; exact .nil
  | e :: es, l, h => by
    unfold cAs at h
    split at h
    · rename_i x r z1 z2; cases h; exact .x z1 (cAs_of z2)
    · cases h
theorem ns_name {y : Str} {pos : Pos} : NS (.Name y pos) := fun _ _ => rfl
theorem OsOf.ns {f : Expr → Option Pv.X} (hf : Fok X Γ c W f) : ∀ {es : List Expr} {l : Os}, OsOf cs f es l → ∀ e ∈ es, NS e
  | _, _, .nil, e, h => by cases h
  | _, _, .x h1 h2, e, h => by
    rcases List.mem_cons.mp h with rfl | h
    · exact hf.ns _ _ h1
    · exact OsOf.ns hf h2 e h
  | _, _, .p h1 h2, e, h => by
    rcases List.mem_cons.mp h with rfl | h
    · exact ns_name
    · exact OsOf.ns hf h2 e h
theorem plain_of : ∀ {es : List Expr} (pos : Pos) (env : PySem.Env), (∀ e ∈ es, NS e) → (backTo pos (starEach es env)).any (·.1) = false
  | [], _, _, _ => rfl
  | e :: es, pos, env, h => by
    rw [h e List.mem_cons_self]
    show (false || (backTo pos (starEach es env)).any (·.1)) = false
    rw [plain_of pos env fun a ha => h a (List.mem_cons_of_mem _ ha)]; rfl
theorem pe_name (G : Good X cs c Γ) {y : Str} {pos : Pos} {i : Nat} (h : cs.slot y = some i) : PE X (.Name y pos) (tVar i) := by
  obtain ⟨h1, h2, h3, h4⟩ := Cs.slot_ok h
  exact pe_var (by rw [G.N]; exact h1) (by rw [G.sc]; exact h2) h3 h4
/-- operands one after another -/
theorem pa_of (G : Good X cs c Γ) {f : Expr → Option Pv.X} (hf : Fok X Γ c W f) : ∀ {es : List Expr} {l : Os}, OsOf cs f es l → PA X es (uO Γ c W l)
  | _, _, .nil => ⟨fun pos pins s σ H Q I h => by
    obtain ⟨F0, F, ρ, st, te, τ, Qd, Ed, C, w, k, _⟩ := h
    exact pa_nil.run pos pins s σ H Q I (k [] ρ st [] F H w C (Ext.refl _ _ _) rfl)⟩
  | _, _, .x (r := r) h1 h2 => ⟨fun pos pins s σ H Q I h => by
    refine (pa_cons (hf.e _ _ h1) (pa_of G hf h2) (hf.ns _ _ h1 _ _)).run pos pins s σ H Q I ?_
    obtain ⟨F0, F, ρ, st, te, τ, Qd, Ed, C, w, k, ei⟩ := h
    refine ⟨F0, F, ρ, st, te, τ, _, Ed, C, w, fun d ρ1 st1 v F1 H1 w1 C1 x1 dn => ?_, ei⟩
    exact ⟨F0, F1, ρ1, st1, te, τ, _, Ed, C1, w1, fun ds ρ2 st2 vs F2 H2 w2 C2 x2 dns => k _ ρ2 st2 _ F2 H2 w2 C2 (x1.trans x2) ⟨v, vs, rfl, .inl (dn.sub x2.f), dns⟩, ei⟩⟩
  | _, _, .p (i := i) (r := r) h1 h2 => ⟨fun pos pins s σ H Q I h => by
    refine (pa_cons (pe_name G h1) (pa_of G hf h2) (ns_name _ _)).run pos pins s σ H Q I ?_
    obtain ⟨F0, F, ρ, st, te, τ, Qd, Ed, C, w, k, ei⟩ := h
    obtain ⟨ps, w⟩ := (show (peek ρ i).isSome = true ∧ wpO Γ r ρ st (fun ds ρ' st' => match peek ρ' i with | some d => Qd (d :: ds) ρ' st' | none => False) Ed from w)
    obtain ⟨v, hv⟩ := peek_at C ps
    refine ⟨v, hv, F0, F, ρ, st, te, τ, _, Ed, C, w, fun ds ρ2 st2 vs F2 H2 w2 C2 x2 dns => ?_, ei⟩
    cases z : peek ρ2 i with
    | none => rw [z] at w2; exact w2.elim
    | some d => rw [z] at w2; exact k _ ρ2 st2 _ F2 H2 w2 C2 x2 ⟨v, vs, rfl, peek_den C2 z hv, dns⟩⟩
/-- one operand -/
theorem opnd1 (G : Good X cs c Γ) {f : Expr → Option Pv.X} (hf : Fok X Γ c W f) {a : Expr} {l : Os} (h : OsOf cs f [a] l) : ∃ ta, PE X a ta ∧ ∀ (σ : L2.St) (H : Hp) (R : V → Hp → Prop),
    uO Γ c W l σ H (fun vs H' => ∀ x, vs = [x] → R x H') → ta σ H R := by
  cases h with
  | x h1 h2 =>
    cases h2
    refine ⟨_, hf.e _ _ h1, fun σ H R ⟨F0, F, ρ, st, te, τ, Qd, Ed, C, w, k, ei⟩ => ⟨F0, F, ρ, st, te, τ, _, Ed, C, w, fun d ρ1 st1 v F1 H1 w1 C1 x1 dn => ?_, ei⟩⟩
    exact k [d] ρ1 st1 [v] F1 H1 w1 C1 x1 ⟨v, [], rfl, .inl dn, rfl⟩ v rfl
  | p h1 h2 =>
    rename_i y pos i r
    cases h2
    refine ⟨_, pe_name G h1, fun σ H R ⟨F0, F, ρ, st, te, τ, Qd, Ed, C, w, k, ei⟩ => ?_⟩
    obtain ⟨ps, w⟩ := (show (peek ρ i).isSome = true ∧ (match peek ρ i with | some d => Qd [d] ρ st | none => False) from w)
    obtain ⟨v, hv⟩ := peek_at C ps
    refine ⟨v, hv, ?_⟩
    cases z : peek ρ i with
    | none => rw [z] at w; exact w.elim
    | some d =>
      rw [z] at w
      exact k [d] ρ st [v] F H w C (Ext.refl _ _ _) ⟨v, [], rfl, peek_den C z hv, rfl⟩ v rfl
/-- two operands -/
theorem opnd2 (G : Good X cs c Γ) {f : Expr → Option Pv.X} (hf : Fok X Γ c W f) {a b : Expr} {l : Os} (h : OsOf cs f [a, b] l) : ∃ ta tb, PE X a ta ∧ PE X b tb ∧ ∀ (σ : L2.St) (H : Hp) (R : V → V → Hp → Prop),
    uO Γ c W l σ H (fun vs H' => ∀ x y, vs = [x, y] → R x y H') → ta σ H fun x H1 => tb σ H1 fun y H2 => R x y H2 := by
  cases h with
  | x h1 h2 =>
    obtain ⟨tb, hb, kb⟩ := opnd1 G hf h2
    refine ⟨_, tb, hf.e _ _ h1, hb, fun σ H R ⟨F0, F, ρ, st, te, τ, Qd, Ed, C, w, k, ei⟩ => ⟨F0, F, ρ, st, te, τ, _, Ed, C, w, fun d ρ1 st1 v F1 H1 w1 C1 x1 dn => ?_, ei⟩⟩
    refine kb σ H1 _ ⟨F0, F1, ρ1, st1, te, τ, _, Ed, C1, w1, fun ds ρ2 st2 vs F2 H2 w2 C2 x2 dns => ?_, ei⟩
    exact fun y e => k (d :: ds) ρ2 st2 (v :: vs) F2 H2 w2 C2 (x1.trans x2) ⟨v, vs, rfl, .inl (dn.sub x2.f), dns⟩ v y (by rw [e])
  | p h1 h2 =>
    rename_i y pos i r
    obtain ⟨tb, hb, kb⟩ := opnd1 G hf h2
    refine ⟨_, tb, pe_name G h1, hb, fun σ H R ⟨F0, F, ρ, st, te, τ, Qd, Ed, C, w, k, ei⟩ => ?_⟩
    obtain ⟨ps, w⟩ := (show (peek ρ i).isSome = true ∧ wpO Γ r ρ st (fun ds ρ' st' => match peek ρ' i with | some d => Qd (d :: ds) ρ' st' | none => False) Ed from w)
    obtain ⟨v, hv⟩ := peek_at C ps
    refine ⟨v, hv, kb σ H _ ⟨F0, F, ρ, st, te, τ, _, Ed, C, w, fun ds ρ2 st2 vs F2 H2 w2 C2 x2 dns => ?_, ei⟩⟩
    cases z : peek ρ2 i with
    | none => rw [z] at w2; exact w2.elim
    | some d =>
      rw [z] at w2
      exact fun y e => k (d :: ds) ρ2 st2 (v :: vs) F2 H2 w2 C2 x2 ⟨v, vs, rfl, peek_den C2 z hv, dns⟩ v y (by rw [e])
/-- an operation over operands -/
theorem op_uO {o : Op} {l : Os} {σ : L2.St} {H : Hp} {Q : VK} (h : uE Γ c W (.op o l) σ H Q) : uO Γ c W l σ H (fun vs H' => rUL c o vs H' Q) := by
  obtain ⟨F0, F, ρ, st, te, τ, Qd, Ed, C, w, k, ei⟩ := h
  refine ⟨F0, F, ρ, st, te, τ, _, Ed, C, w, fun ds ρ1 st1 vs F1 H1 w1 C1 x1 dns => ?_, ei⟩
  obtain ⟨d, sem, q⟩ := w1
  exact ⟨F0, F1, ρ1, st1, te, σ, τ, ds, d, C1, dns, sem, fun v F2 H2 C2 x2 dn => k d ρ1 st1 v F2 H2 q C2 (x1.trans x2) dn⟩
theorem op_uF {o : Op} {l : Os} {σ : L2.St} {H : Hp} {Q : VK} (h : uF Γ c W (.op o l) σ H Q) : uO Γ c W l σ H (fun vs H' => rUF c o vs H' Q) := by
  obtain ⟨F0, F, ρ, st, te, τ, Qd, Ed, C, w, k, ei⟩ := h
  refine ⟨F0, F, ρ, st, te, τ, _, Ed, C, w, fun ds ρ1 st1 vs F1 H1 w1 C1 x1 dns => ?_, ei⟩
  obtain ⟨d, sem, q⟩ := w1
  obtain ⟨xs, rfl, _⟩ := k d ρ1 st1 F1 H1 q C1 x1
  refine ⟨F0, F1, ρ1, st1, te, σ, τ, ds, xs, C1, dns, sem, fun p F2 H2 C2 x2 fr => ?_⟩
  obtain ⟨ys, e, r⟩ := k _ ρ1 st1 F2 H2 q C2 (x1.trans x2)
  cases e
  exact r p fr
theorem uO.imp {l : Os} {σ : L2.St} {H : Hp} {Q Q' : List V → Hp → Prop} (h : uO Γ c W l σ H Q) (w : ∀ vs H, Q vs H → Q' vs H) : uO Γ c W l σ H Q' := by
  obtain ⟨F0, F, ρ, st, te, τ, Qd, Ed, C, q, k, ei⟩ := h
  exact ⟨F0, F, ρ, st, te, τ, Qd, Ed, C, q, fun ds ρ1 st1 vs F1 H1 w1 C1 x1 dns => w _ _ (k ds ρ1 st1 vs F1 H1 w1 C1 x1 dns), ei⟩
/-- how many operands -/
def Os.len : Os → Nat
  | .nil => 0
  | .x _ r => r.len + 1
  | .p _ r => r.len + 1
theorem OsOf.len {f : Expr → Option Pv.X} : ∀ {es : List Expr} {l : Os}, OsOf cs f es l → l.len = es.length
  | _, _, .nil => rfl
  | _, _, .x _ h => congrArg (· + 1) h.len
  | _, _, .p _ h => congrArg (· + 1) h.len
theorem DenTL.length {F H : Hp} : ∀ {ds : List D} {vs : List V}, DenTL c F H ds vs → vs.length = ds.length
  | [], _, h => by cases h; rfl
  | _ :: _, _, ⟨v, r, e, _, h⟩ => by subst e; exact congrArg (· + 1) (DenTL.length h)
end
end Pv

end
section
set_option linter.all false
set_option maxRecDepth 100000
set_option maxHeartbeats 2000000
/-! Pv8: enumerate over a tuple. -/
namespace PySem
theorem pv_meets_enumT (l : Addr) (items : Array Value) (n : Nat) (dct : Option Addr) (sl : Array (Option Value)) :
    Meets (Builtin.«enumerate.__new__» ⟨[.type "enumerate", .ref l], []⟩) (fun _ R s => s.heap.get? l = some { cls := .type "tuple", dict := dct, data := .seq items n, slots := sl } ∧
      R (.ok (.ret (.ref (s.heap.push { cls := .type "tuple_iterator", data := .fields #[.ref l, .int 0 0] }).objs.size)))
        { s with heap := (s.heap.push { cls := .type "tuple_iterator", data := .fields #[.ref l, .int 0 0] }).push { cls := .type "enumerate", data := .fields #[.none, .bool false, .ref s.heap.objs.size, rawInt 0, .none, .none] } }) :=
  .of_wp fun prog w A R s h => by
    obtain ⟨hp, g, d, tk, os⟩ := s
    obtain ⟨hl, h⟩ := h
    have hsub := sub_enumerate
    have hT : Heap.IsTuple (Shared.heap ⟨hp, g, d, tk, os⟩) l items := ⟨_, hl, rfl, n, rfl⟩
    wp_walk using AutoSeq1.wpAny_loadPart' hl
    refine wpAny_stack_any fun st => wpAny_pure ?_
    split
    · rename_i c _ _ _ _ _
      cases (c == Value.type "enumerate") <;> (wp_walk using AutoSeq1.wpAny_loadPart' hl, wpAny_pyIter_tuple hT; exact ⟨_, rfl, h⟩)
    · wp_walk using AutoSeq1.wpAny_loadPart' hl, wpAny_pyIter_tuple hT
      exact ⟨_, rfl, h⟩
section
variable {prog : Program} {w : World} {A : Around} {E : Value → Shared → Prop} {s : Shared}
theorem pv_call_enumT {l : Addr} {items : Array Value} {Q : Value → Shared → Prop} (hL : s.heap.IsTuple l items)
    (h : ∀ g, IsEnum g (s.heap.objs.size + 1) s.heap.objs.size 0 .none → g.IsTupleIter s.heap.objs.size l 0 → (∀ b o, s.heap.get? b = some o → g.get? b = some o) → Q (.ref (s.heap.objs.size + 1)) { s with heap := g }) :
    wpAny (model prog w) A (call (.type "enumerate") [.ref l]) Q E s := by
  obtain ⟨⟨cl, dct, dt, sl⟩, hl, hc, n, hd⟩ := hL
  have e1 : cl = .type "tuple" := hc
  have e2 : dt = .seq items n := hd
  subst e1
  subst e2
  refine callType_new F.called_enumerate (by decide) (F.typeCall_enumerate_1 _) (F.newCall_enumerate_1 _) (fun obj => F.args_object_init_2 obj _) F.entry_enumerate_new (pv_meets_enumT l items n dct sl) ⟨hl, ?_⟩
  have hz : (s.heap.push { cls := .type "tuple_iterator", data := .fields #[.ref l, .int 0 0] }).objs.size = s.heap.objs.size + 1 := Heap.size_push ..
  show _ ∧ _
  rw [hz]
  have he : IsEnum ((s.heap.push { cls := .type "tuple_iterator", data := .fields #[.ref l, .int 0 0] }).push { cls := .type "enumerate", data := .fields #[.none, .bool false, .ref s.heap.objs.size, rawInt 0, .none, .none] }) (s.heap.objs.size + 1) s.heap.objs.size 0 .none := by
    have z := Heap.get?_push_size (s.heap.push { cls := .type "tuple_iterator", data := .fields #[.ref l, .int 0 0] }) (o := { cls := .type "enumerate", data := .fields #[.none, .bool false, .ref s.heap.objs.size, rawInt 0, .none, .none] }) rfl
    rw [hz] at z
    exact z
  refine ⟨⟨_, he, rfl⟩, h _ he ⟨_, Heap.get?_push_of_some _ (Heap.get?_push_size _ rfl), rfl, rfl⟩ fun b o y => Heap.get?_push_of_some _ (Heap.get?_push_of_some _ y)⟩
theorem pv_draws_tuple (hh : A.handled = none) (it l : Addr) (hne : l ≠ it) (items : Array Value) : Draws prog w A it [it, l] items.size (fun i v => items[i]? = some v) (fun i h => h.IsTupleIter it l i ∧ h.IsTuple l items) where
  live := fun _ _ st => let ⟨o, ho, _⟩ := st.1; ⟨o, ho⟩
  frame := fun _ _ _ st hk => by
    obtain ⟨⟨o, ho, r⟩, ⟨u, hu, q⟩⟩ := st
    exact ⟨⟨o, hk it (by simp) o ho, r⟩, ⟨u, hk l (by simp) u hu, q⟩⟩
  item := fun i s Q E hi st hQ => by
    refine RZ.nextOf_tuple_item st.1 st.2 (x := items[i]) (by simp [hi]) fun g hit' hs' => ?_
    refine hQ _ g s.toks (by simp [hi]) ⟨hit', ?_⟩ hs'
    obtain ⟨u, hu, q⟩ := st.2
    exact ⟨u, (hs'.2 l hne).trans hu, q⟩
  done := fun s Q E st hE => by
    refine RZ.nextOf_tuple_end hh st.1 st.2 (by simp) fun g e hx he => hE g e hx he
end
end PySem

namespace Pv
open PySem PySem.Spec PyProof.Rows L2
/-- enumerate of the tuple at a: each item in a new pair -/
def IteT (K : PySem.W.Frag) (a : Addr) : L2.It where
  go := fun i H => ∃ (xs : List V) (x : V), SqT K H a xs ∧ xs[i]? = some x
  yld := fun i H v H' => ∃ T x, v = .ref T ∧ H T = none ∧ H' = upd H T (.tup [.int (i : Nat), x]) ∧ ∀ xs, SqT K H a xs → xs[i]? = some x
  stop := fun i H => ∃ xs : List V, SqT K H a xs ∧ xs.length = i
theorem turn_enumT {P : Program} {w : World} {K : PySem.W.Frag} {elts : List Expr} {kk : Nat} {tpos : Pos} (a e it : Addr) :
    Turn P w K (.Tuple elts kk tpos) (IteT K a) [e, it] e (fun i h => (∃ old, IsEnum h e it ((i : Nat) : Int) old) ∧ h.IsTupleIter it a i ∧ e ≠ it) where
  mem := by simp
  obj := fun i h st b hb => by
    obtain ⟨⟨old, he⟩, ⟨o, ho, _, hd⟩, _⟩ := st
    rcases (show b = e ∨ b = it by simpa using hb) with z | z
    · subst z; exact ⟨_, he, fun v q => nomatch q⟩
    · subst z; exact ⟨o, ho, fun v q => by rw [hd] at q; cases q⟩
  keep := fun i h g st k => by
    obtain ⟨⟨old, he⟩, ⟨o, ho, r⟩, hne⟩ := st
    exact ⟨⟨old, k e (by simp) _ he⟩, ⟨o, k it (by simp) o ho, r⟩, hne⟩
  item := by
    intro X hP hw hK hc i pins s σ H E I hf st hg
    subst hP hw hK
    obtain ⟨⟨old, he⟩, hit, hne⟩ := st
    obtain ⟨xs, x, hq, hx⟩ := hg
    obtain ⟨its, rv, p, hz⟩ := I.tuple hq
    obtain ⟨u, hu, ru⟩ := rv.get hx
    have hel : e < s.heap.objs.size := Heap.lt_size he
    have hil : it < s.heap.objs.size := by obtain ⟨_, q, _⟩ := hit; exact Heap.lt_size q
    obtain ⟨oa, hoa, hca, na, hda⟩ := id p
    obtain ⟨oi, hoi, hci, hdi⟩ := id hit
    have ne1 : a ≠ it := fun z => by subst z; rw [hoa] at hoi; cases hoi; rw [hda] at hdi; cases hdi
    have ne2 : e ≠ a := fun z => by
      have h2 : s.heap.get? e = some _ := he
      rw [z, hoa] at h2
      cases h2
      cases hda
    have hlt : i < its.toArray.size := by simpa using (List.getElem?_eq_some_iff.mp hu).1
    refine wpAny_pyNext_enum_itemD (pv_draws_tuple (A := X.A.in1) (I.ok.hd hc) it a ne1 its.toArray) he ⟨hit, p⟩ hlt hne (by simp; exact ⟨hne, ne2⟩) fun y g tk hy ho hst hT hsz hk => ?_
    obtain rfl : y = u := by
      have h1 : its[i]? = some y := by simpa using hy
      rw [hu] at h1; cases h1; rfl
    refine ⟨_, rfl, wpAny_letOwnedTupleGo_enum (s := { s with heap := g, toks := tk + 1 }) ho fun g2 he' sb => ?_⟩
    have hT2 : g2.get? s.heap.objs.size = some { cls := .type "tuple", data := .seq #[.int i tk, y] } := (sb.2 _ (Nat.ne_of_gt hel)).trans hT
    have new : ObjOk X.prog X.w (upd H s.heap.objs.size (.tup [.int (i : Nat), x])) g2 s.heap.objs.size (.tup [.int (i : Nat), x]) :=
      ⟨(by decide : 2 ≤ sizeLine), [.int i tk, y], .cons ⟨_, rfl⟩ (.cons ru .nil), ⟨_, hT2, rfl, _, rfl⟩⟩
    have I1 : Inv X pins σ (upd H s.heap.objs.size (.tup [.int (i : Nat), x])) { s with heap := g2, toks := tk + 1 } :=
      I.turnedNew (ch := [e, it]) (fun b ob hb q => (sb.2 b (fun z => hb (by simp [z]))).trans (hk b ob (fun z => hb (by simp [z])) (fun z => hb (by simp [z])) q)) hf (Nat.le_refl _) new
    refine ⟨.ref s.heap.objs.size, _, I1, rfl, ⟨_, x, rfl, I.hok.fresh (Nat.le_refl _), rfl, fun ys h2 => by rw [I.tuple_inj h2 hq]; exact hx⟩, ⟨⟨y, ?_⟩, ?_, hne⟩, fun b hb => ?_⟩
    · rw [show ((i + 1 : Nat) : Int) = (i : Int) + 1 by omega]; exact he'
    · obtain ⟨⟨o2, ho2, r2⟩, _⟩ := hst
      exact ⟨o2, (sb.2 it (Ne.symm hne)).trans ho2, r2⟩
    · have hb2 : b < s.heap.objs.size := by rcases (show b = e ∨ b = it by simpa using hb) with z | z <;> (subst z; assumption)
      rw [upd_ne (Nat.ne_of_lt hb2)]
      exact (hf b hb).1
  done := by
    intro X hP hw hK hc i pins s σ H E I hf st hg
    subst hP hw hK
    obtain ⟨⟨old, he⟩, hit, hne⟩ := st
    obtain ⟨xs, hq, hx⟩ := hg
    obtain ⟨its, rv, p, hz⟩ := I.tuple hq
    obtain ⟨f0, f1, f2, f3, f4, f5⟩ := hf it (by simp)
    have hl := rv.length
    obtain ⟨oa, hoa, hca, na, hda⟩ := id p
    obtain ⟨oi, hoi, hci, hdi⟩ := id hit
    have ne1 : a ≠ it := fun z => by subst z; rw [hoa] at hoi; cases hoi; rw [hda] at hdi; cases hdi
    have ei : i = its.toArray.size := by simp; omega
    rw [ei] at he hit
    exact wpAny_pyNext_enum_endD (pv_draws_tuple (A := X.A.in1) (I.ok.hd hc) it a ne1 its.toArray) he ⟨hit, p⟩ fun g eb => ⟨rfl, I.turned (t' := s.toks) (fun b o hb q => eb b o hb q) f0 f1 f3 f4 f5⟩
  self := fun A i s Q E st h => let ⟨⟨_, he⟩, _⟩ := st; wpAny_pyIter_enum he h
def iEnumA (K : PySem.W.Frag) (ta : TA) : TI := fun σ H R => ta σ H fun vs H1 => ∃ a xs, vs = [.ref a] ∧ ((SqL K H1 a xs ∧ R (Ite K a) H1) ∨ (SqT K H1 a xs ∧ R (IteT K a) H1))
theorem pi_enumA {X : Cx} {e : Expr} {ta : TA} {p pos tpos : Pos} {elts : List Expr} {kk : Nat} (hg : Gl X "enumerate") (hm : X.mg "enumerate" = none) (ha : PA X [e] ta) (hs : starEach [e] X.env = [(false, eval e X.env)]) :
    PI X (.Tuple elts kk tpos) (.Call (.Name "enumerate" p) [e] [] pos) (iEnumA X.K ta) := by
  refine ⟨fun pins s σ H R I h => Call_ (ld_blt I hg hm boot_enumerate (PyProof.Rows.callWith_type1 (thn (ha.run pos pins s σ H _ I h) fun us s1 ⟨vs, H1, I1, r1, q1⟩ => ?_) hs rfl))⟩
  obtain ⟨a, xs, ex, q1⟩ := q1
  subst ex
  obtain rfl := Vals.ref1 r1
  have fr : ∀ b ∈ [s1.heap.objs.size + 1, s1.heap.objs.size], FpOk X pins H1 b := fun b hb => by
    have hle : s1.heap.objs.size ≤ b := by
      rcases (show b = s1.heap.objs.size + 1 ∨ b = s1.heap.objs.size by simpa using hb) with z | z <;> omega
    exact I1.fpOk hle (I1.hok.fresh hle)
  rcases q1 with ⟨hq, q⟩ | ⟨hq, q⟩
  · obtain ⟨its, rv, p', hz⟩ := I1.list hq
    refine call_enumerate_list p'.isList fun g he hit hsz hk => wpAny_pyIter_enum he ?_
    exact ⟨s1.heap.objs.size + 1, [s1.heap.objs.size + 1, s1.heap.objs.size], _, _, H1, rfl, I1.kept (t' := s1.toks) hk, turn_enum a (s1.heap.objs.size + 1) s1.heap.objs.size, ⟨⟨.none, he⟩, hit, Nat.succ_ne_self _⟩, fr, q⟩
  · obtain ⟨its, rv, p', hz⟩ := I1.tuple hq
    refine pv_call_enumT (show s1.heap.IsTuple a its.toArray from p') fun g he hit hk => wpAny_pyIter_enum he ?_
    exact ⟨s1.heap.objs.size + 1, [s1.heap.objs.size + 1, s1.heap.objs.size], _, _, H1, rfl, I1.kept (t' := s1.toks) hk, turn_enumT a (s1.heap.objs.size + 1) s1.heap.objs.size, ⟨⟨.none, he⟩, hit, Nat.succ_ne_self _⟩, fr, q⟩
/-- what is known to be a list or a tuple, walked -/
def iSeq (K : PySem.W.Frag) (tl : TE) : TI := fun σ H R => tl σ H fun x H1 => ∃ a xs, x = .ref a ∧ ((SqL K H1 a xs ∧ R (Itl K a) H1) ∨ (SqT K H1 a xs ∧ R (Itt K a) H1))
theorem pi_seq {X : Cx} {tg l : Expr} {tl : TE} (hl : PE X l tl) : PI X tg l (iSeq X.K tl) := by
  refine ⟨fun pins s σ H R I h => thn (hl.run pins s σ H _ I h) fun v s1 ⟨x, H1, I1, r1, a, xs, e, q1⟩ => ?_⟩
  subst e
  obtain rfl : v = Value.ref a := r1
  have fr : ∀ b ∈ [s1.heap.objs.size], FpOk X pins H1 b := fun b hb => by
    obtain rfl : b = s1.heap.objs.size := by simpa using hb
    exact I1.fpOk (Nat.le_refl _) (I1.hok.fresh (Nat.le_refl _))
  rcases q1 with ⟨hq, q⟩ | ⟨hq, q⟩
  · obtain ⟨its, rv, p, hz⟩ := I1.list hq
    exact wpAny_pyIter_list p.isList ⟨s1.heap.objs.size, [s1.heap.objs.size], _, _, H1, rfl, I1.kept (t' := s1.toks) fun b o e => Heap.get?_push_of_some _ e, turn_list a _, ⟨_, Heap.get?_push_size _ rfl, rfl, rfl⟩, fr, q⟩
  · obtain ⟨its, rv, p, hz⟩ := I1.tuple hq
    exact wpAny_pyIter_tuple (show s1.heap.IsTuple a its.toArray from p) ⟨s1.heap.objs.size, [s1.heap.objs.size], _, _, H1, rfl, I1.kept (t' := s1.toks) fun b o e => Heap.get?_push_of_some _ e, turn_tuple a _, ⟨_, Heap.get?_push_size _ rfl, rfl, rfl⟩, fr, q⟩
end Pv

end
section
set_option linter.all false
set_option maxRecDepth 100000
set_option maxHeartbeats 2000000
/-! Pv9: calls, targets, what loops go through. -/
namespace Pv
open PySem PySem.Spec PyProof.Rows L2
section
variable {S : Type} {Γ : Nat → Ct S} {c : Set S} {W : WX}
variable {X : Cx} {cs : Cs} {F0 F H : Hp} {ρ te : Env} {st : S} {σ τ : List (Option V)}
/-! ### behind a call -/
theorem Cur.after (C : Cur c F0 F ρ st te σ τ H) {F' H' : Hp} {st' : S} (p : Post c.R F H st' F' H') : Cur c F0 F' ρ st' te σ τ H' ∧ Ext c F H F' H' := by
  have I := C.sim
  refine ⟨⟨C.len, ⟨fun a o e m => p.h a o (I.keep a o e m) m, I.f0.trans p.f, p.fh, fun a o e => ?_, p.m, p.reg, I.len, fun i s x h1 h2 => ?_, I.inj⟩⟩, p.f, p.h⟩
  · rcases p.new a o e with z | z
    · exact I.fnew a o z
    · by_cases m : c.R.M a
      · rw [p.m a m] at e; cases e
      · cases q : c.H0 a with
        | none => exact .inr rfl
        | some u => rw [I.keep a u q m] at z; cases z
  · have z := I.slot i s x h1 h2
    cases s with
    | un => trivial
    | val d => obtain ⟨v, e, w⟩ := z; exact ⟨v, e, w.sub p.f⟩
    | own ys =>
      obtain ⟨b, us, e, f', n', m', q', r'⟩ := z
      refine ⟨b, us, e, ?_, n', m', p.h _ _ q' m', r'.sub p.f⟩
      cases q : F' b with
      | none => rfl
      | some u =>
        rcases p.new b u q with z | z
        · rw [f'] at z; cases z
        · rw [q'] at z; cases z
theorem DenTL.den : ∀ {ds : List D} {vs : List V}, (∀ d v, DenT c F H d v → Den c.rc F d v) → DenTL c F H ds vs → DenL c.rc F ds vs
  | [], _, _, h => h
  | _ :: _, _, k, ⟨v, r, e, h1, h2⟩ => ⟨v, r, e, k _ _ h1, DenTL.den k h2⟩
/-- arguments of a def: all are data -/
inductive AsOf (f : Expr → Option Pv.X) : List Expr → Os → Prop where
  | nil : AsOf f [] .nil
  | x {e es x r} : f e = some x → AsOf f es r → AsOf f (e :: es) (.x x r)
theorem cAs_as {f : Expr → Option Pv.X} : ∀ {es : List Expr} {l : Os}, cAs f es = some l → AsOf f es l
  | [], l, h => by cases h; exact .nil
  | e :: es, l, h => by
    unfold cAs at h
    split at h
    · rename_i x r z1 z2; cases h; exact .x z1 (cAs_as z2)
    · cases h
theorem AsOf.os {f : Expr → Option Pv.X} {cs : Cs} : ∀ {es : List Expr} {l : Os}, AsOf f es l → OsOf cs f es l
  | _, _, .nil => .nil
  | _, _, .x h1 h2 => .x h1 h2.os
/-- data as arguments -/
def uA (Γ : Nat → Ct S) (c : Set S) (W : WX) (l : Os) : TA := fun σ H Q => ∃ F0 F ρ st te τ Qd Ed, Cur c F0 F ρ st te σ τ H ∧ wpO Γ l ρ st Qd Ed ∧
  (∀ ds ρ' st' vs F' H', vs.length = l.len → Qd ds ρ' st' → Cur c F0 F' ρ' st' te σ τ H' → Ext c F H F' H' → DenL c.rc F' ds vs → Q vs H') ∧ EImp c W F0 te σ τ Ed
theorem pa_data {f : Expr → Option Pv.X} (hf : Fok X Γ c W f) : ∀ {es : List Expr} {l : Os}, AsOf f es l → PA X es (uA Γ c W l)
  | _, _, .nil => ⟨fun pos pins s σ H Q I h => by
    obtain ⟨F0, F, ρ, st, te, τ, Qd, Ed, C, w, k, _⟩ := h
    exact pa_nil.run pos pins s σ H Q I (k [] ρ st [] F H rfl w C (Ext.refl _ _ _) rfl)⟩
  | _, _, .x (r := r) h1 h2 => ⟨fun pos pins s σ H Q I h => by
    refine (pa_cons (hf.e _ _ h1) (pa_data hf h2) (hf.ns _ _ h1 _ _)).run pos pins s σ H Q I ?_
    obtain ⟨F0, F, ρ, st, te, τ, Qd, Ed, C, w, k, ei⟩ := h
    refine ⟨F0, F, ρ, st, te, τ, _, Ed, C, w, fun d ρ1 st1 v F1 H1 w1 C1 x1 dn => ?_, ei⟩
    exact ⟨F0, F1, ρ1, st1, te, τ, _, Ed, C1, w1, fun ds ρ2 st2 vs F2 H2 hl w2 C2 x2 dns => k _ ρ2 st2 _ F2 H2 (congrArg (· + 1) hl) w2 C2 (x1.trans x2) ⟨v, vs, rfl, dn.sub x2.f, dns⟩, ei⟩⟩
theorem DenL.len {rc : Rc} {F : Hp} {ds : List D} {vs : List V} (h : DenL rc F ds vs) : ds.length = vs.length := h.length.symm
theorem pe_callG (G : Good X cs c Γ) (tk : Takes X W) {f : Expr → Option Pv.X} (hf : Fok X Γ c W f) {x : Str} {id m : Nat} {e : Expr} {es : List Expr} {l : Os} {p pos : Pos} (hg : cs.glob x = true) (hx : cs.funs.lookup x = some (id, m)) (hm : (e :: es).length = m)
    (h : AsOf f (e :: es) l) : PE X (.Call (.Name x p) (e :: es) [] pos) (uE Γ c W (.call id l)) := by
  obtain ⟨fa, fd, k, ps, h1, h2, h3, h4, h5, h6⟩ := G.funs x id m hx
  have hns := (h.os (cs := cs)).ns hf
  refine ⟨fun pins s σ H Q I hw => ?_⟩
  obtain ⟨F0, F, ρ, st, te, τ, Qd, Ed, C, w, kk, ei⟩ := hw
  have hw' : uA Γ c W l σ H (fun vs H1 => vs.length = m ∧ spOf X.K X.mg c.RC m (Γ id) vs H1 Q (fun cls d H2 => W cls d σ H2)) := by
    refine ⟨F0, F, ρ, st, te, τ, _, Ed, C, w, fun ds ρ1 st1 vs F1 H1 hl w1 C1 x1 dns => ?_, ei⟩
    have I1 := C1.sim
    have hl : vs.length = m := by rw [hl, (h.os (cs := cs)).len, hm]
    refine ⟨hl, c.R, F1, st1, ds, _, _, c.okR, I1.fh, I1.fM, I1.reg, ?_, ?_, w1, fun d st2 v F2 H2 q pp dn => ?_, fun er st2 cls dx F2 H2 q pp dx' => ?_⟩
    · rw [← G.K]; exact dns
    · rw [dns.len, hl]
    · obtain ⟨C2, x2⟩ := C1.after pp
      exact kk d ρ1 st2 v F2 H2 q C2 (x1.trans x2) (by rw [← G.K] at dn; exact dn)
    · obtain ⟨C2, x2⟩ := C1.after pp
      exact ei er ρ1 st2 F2 H2 cls dx q C2 (by rw [G.K, G.mg]; exact dx')
  refine wpAny_Call_Name_kw (ld_glob I (G.gl hg) h1 ?_ (Cs.glob_ok hg).2.1)
  refine PySem.W.callWith_K (h₀ := X.base) I.ok.mod.kin h2 (thn ((pa_data hf h).run pos pins s σ H _ I hw') fun us s1 ⟨vs, H1, I1, r, q⟩ => ⟨I1.kIn, ?_⟩) (hns e List.mem_cons_self _ _) (plain_of _ _ fun a ha => hns a (List.mem_cons_of_mem _ ha))
  obtain ⟨hl, q⟩ := q
  have lu : (us ++ ([] : List Value)).length = ps.length := by rw [List.append_nil, ← r.length, hl, h4]
  have hb := h3 s1 us I1.kIn lu
  rw [List.append_nil] at hb
  refine wpAny_call (codeAny_mono (h6.run X.A X.stack s1 H1 ⟨us, []⟩ us vs Q _ h5 G.hg I1.env0 hb r q) fun res s2 hq => ?_)
  cases res with
  | error er => exact tk er s2 (XE.of_call I1 (fun _ _ _ z => z) hq)
  | ok fl =>
    cases fl with
    | ret u => exact I1.after hq
    | _ => exact False.elim hq
/-! ### calls with keywords, with defaults -/
inductive XOnly : Os → Prop where
  | nil : XOnly .nil
  | x {e r} : XOnly r → XOnly (.x e r)
theorem AsOf.xonly {f : Expr → Option Pv.X} : ∀ {es : List Expr} {l : Os}, AsOf f es l → XOnly l
  | _, _, .nil => .nil
  | _, _, .x _ h => .x h.xonly
theorem wpO_appX : ∀ {l : Os} (_ : XOnly l) (m : Os) (ρ : Env) (st : S) (Q : List D → Env → S → Prop) (E : QX S), wpO Γ (appO l m) ρ st Q E = wpO Γ l ρ st (fun ds ρ1 st1 => wpO Γ m ρ1 st1 (fun es ρ2 st2 => Q (ds ++ es) ρ2 st2) E) E
  | _, .nil, m, ρ, st, Q, E => rfl
  | _, .x (e := e) (r := r) h, m, ρ, st, Q, E => by
    show wpX Γ e ρ st (fun d ρ1 st1 => wpO Γ (appO r m) ρ1 st1 (fun ds ρ2 st2 => Q (d :: ds) ρ2 st2) E) E = wpX Γ e ρ st (fun d ρ1 st1 => wpO Γ r ρ1 st1 (fun ds ρ2 st2 => wpO Γ m ρ2 st2 (fun es ρ3 st3 => Q (d :: ds ++ es) ρ3 st3) E) E) E
    congr 1
    funext d ρ1 st1
    exact wpO_appX h m ρ1 st1 _ E
theorem wpO_fill : ∀ (fl : List (Option D)) {m : Os} (_ : XOnly m) (_ : (fl.filter Option.isNone).length = m.len) (ρ : Env) (st : S) (Q : List D → Env → S → Prop) (E : QX S),
    wpO Γ (fillO fl m) ρ st Q E = wpO Γ m ρ st (fun zs ρ1 st1 => Q (fillD fl zs) ρ1 st1) E
  | [], _, .nil, _, ρ, st, Q, E => rfl
  | [], _, .x h, hl, ρ, st, Q, E => by cases hl
  | some d :: r, m, hm, hl, ρ, st, Q, E => by
    have hl' : (r.filter Option.isNone).length = m.len := hl
    exact wpO_fill r hm hl' ρ st (fun ds ρ1 st1 => Q (d :: ds) ρ1 st1) E
  | none :: r, _, .nil, hl, ρ, st, Q, E => by cases hl
  | none :: r, _, .x (e := e) (r := m) h, hl, ρ, st, Q, E => by
    have hl' : (r.filter Option.isNone).length = m.len := Nat.succ.inj hl
    show wpX Γ e ρ st (fun d ρ1 st1 => wpO Γ (fillO r m) ρ1 st1 (fun ds ρ2 st2 => Q (d :: ds) ρ2 st2) E) E = wpX Γ e ρ st (fun d ρ1 st1 => wpO Γ m ρ1 st1 (fun zs ρ2 st2 => Q (d :: fillD r zs) ρ2 st2) E) E
    congr 1
    funext d ρ1 st1
    exact wpO_fill r h hl' ρ1 st1 (fun ds ρ2 st2 => Q (d :: ds) ρ2 st2) E
theorem fill_den {rc : Rc} {F : Hp} : ∀ {fl : List (Option D)} (_ : ∀ d, some d ∈ fl → (scalD d).isSome = true) {zs : List D} {vs : List V}, DenL rc F zs vs → DenL rc F (fillD fl zs) (fillV fl vs)
  | [], _, zs, vs, h => rfl
  | some d :: r, hs, zs, vs, h => by
    obtain ⟨v, hv⟩ := Option.isSome_iff_exists.mp (hs d List.mem_cons_self)
    refine ⟨v, fillV r vs, ?_, scal_den hv rc F, fill_den (fun e he => hs e (List.mem_cons_of_mem _ he)) h⟩
    show (scalD d).getD .non :: fillV r vs = _
    rw [hv]; rfl
  | none :: r, hs, [], vs, h => by cases h; exact rfl
  | none :: r, hs, z :: zs, vs, ⟨v, w, e, h1, h2⟩ => by
    subst e
    exact ⟨v, fillV r w, rfl, h1, fill_den (fun e he => hs e (List.mem_cons_of_mem _ he)) h2⟩
theorem fillD_len : ∀ {fl : List (Option D)} {zs : List D}, (fl.filter Option.isNone).length = zs.length → (fillD fl zs).length = fl.length
  | [], zs, h => rfl
  | some d :: r, zs, h => congrArg (· + 1) (fillD_len (fl := r) h)
  | none :: r, [], h => by cases h
  | none :: r, z :: zs, h => congrArg (· + 1) (fillD_len (fl := r) (Nat.succ.inj h))
theorem pk_data {f : Expr → Option Pv.X} (hf : Fok X Γ c W f) : ∀ {kws : List Keyword} {l : Os}, AsOf f (kws.map (·.value)) l → PK X kws (uA Γ c W l)
  | [], _, .nil => ⟨fun pos pins s σ H Q I h => by
    obtain ⟨F0, F, ρ, st, te, τ, Qd, Ed, C, w, k, _⟩ := h
    exact pk_nil.run pos pins s σ H Q I (k [] ρ st [] F H rfl w C (Ext.refl _ _ _) rfl)⟩
  | ⟨nm, e, kp⟩ :: kws, _, .x (r := r) h1 h2 => ⟨fun pos pins s σ H Q I h => by
    refine (pk_cons (nm := nm) (kpos := kp) (hf.e _ _ h1) (pk_data hf h2)).run pos pins s σ H Q I ?_
    obtain ⟨F0, F, ρ, st, te, τ, Qd, Ed, C, w, k, ei⟩ := h
    refine ⟨F0, F, ρ, st, te, τ, _, Ed, C, w, fun d ρ1 st1 v F1 H1 w1 C1 x1 dn => ?_, ei⟩
    exact ⟨F0, F1, ρ1, st1, te, τ, _, Ed, C1, w1, fun ds ρ2 st2 vs F2 H2 hl w2 C2 x2 dns => k _ ρ2 st2 _ F2 H2 (congrArg (· + 1) hl) w2 C2 (x1.trans x2) ⟨v, vs, rfl, dn.sub x2.f, dns⟩, ei⟩⟩
theorem kw_all {pos : Pos} {env : PySem.Env} : ∀ {kws : List Keyword} {ks : List Str}, ks.map some = kws.map (·.arg) →
    (backToKw pos (keywordEach kws env)).all (·.1.isSome) = true ∧ (backToKw pos (keywordEach kws env)).filterMap (·.1) = ks ∧ (backToKw pos (keywordEach kws env)).any (·.1.isNone) = false
  | [], [], _ => ⟨rfl, rfl, rfl⟩
  | [], _ :: _, h => by cases h
  | _ :: _, [], h => by cases h
  | ⟨nm, e, kp⟩ :: kws, x :: ks, h => by
    obtain ⟨h1, h2⟩ := List.cons.inj h
    obtain ⟨a, b, d⟩ := kw_all (pos := pos) (env := env) h2
    have h1 : some x = nm := h1
    subst h1
    exact ⟨a, congrArg (x :: ·) b, d⟩
theorem AsOf.len {f : Expr → Option Pv.X} : ∀ {es : List Expr} {l : Os}, AsOf f es l → l.len = es.length
  | _, _, .nil => rfl
  | _, _, .x _ h => congrArg (· + 1) h.len
theorem pe_callKw (G : Good X cs c Γ) (tk : Takes X W) {f : Expr → Option Pv.X} (hf : Fok X Γ c W f) {x : Str} {e : Expr} {es : List Expr} {kws : List Keyword} {y : Pv.X} {p pos : Pos} (hg : cs.glob x = true) (h : cKw cs f x (e :: es) kws = some y) :
    PE X (.Call (.Name x p) (e :: es) kws pos) (uE Γ c W y) := by
  unfold cKw at h
  dsimp only at h
  cases hq : cs.kf.find? fun q => q.f == x && q.n == (e :: es).length && q.ks.map some == kws.map (·.arg) with
  | none => rw [hq] at h; cases h
  | some q =>
  rw [hq] at h
  have hp := List.find?_some hq
  have hmem := List.mem_of_find?_eq_some hq
  rw [Bool.and_eq_true, Bool.and_eq_true] at hp
  obtain ⟨⟨p1, p2⟩, p3⟩ := hp
  have p1 := eq_of_beq p1
  have p2 := eq_of_beq p2
  have p3 := eq_of_beq p3
  subst p1
  dsimp only [Option.bind] at h
  split at h
  · rename_i l m hl hm
    cases h
    have hl := cAs_as hl
    have hm := cAs_as hm
    obtain ⟨fa, fd, k, ps, g, gV, h1, h2, h3, h4, h5, h6, h7, h8, h9⟩ := G.kfs q hmem
    obtain ⟨k1, k2, k3⟩ := kw_all (pos := pos) (env := X.env) p3
    have hns := (hl.os (cs := cs)).ns hf
    have hml : m.len = q.ks.length := by
      rw [hm.len, List.length_map]
      have := congrArg List.length p3
      rw [List.length_map, List.length_map] at this
      exact this.symm
    refine ⟨fun pins s σ H Q I hw => ?_⟩
    obtain ⟨F0, F, ρ, st, te, τ, Qd, Ed, C, w, kk, ei⟩ := hw
    have w : wpO Γ (appO l (fillO q.fill m)) ρ st (fun ds ρ' st' => Γ q.id ds st' (fun d st'' => Qd d ρ' st'') fun e st'' => Ed e ρ' st'') Ed := w
    rw [wpO_appX hl.xonly] at w
    have hw' : uA Γ c W l σ H (fun vs H1 => uA Γ c W m σ H1 (fun zs H2 => vs.length = q.n ∧ zs.length = q.ks.length ∧ spOf X.K X.mg c.RC ps.length (Γ q.id) (gV vs zs) H2 Q (fun cls d H3 => W cls d σ H3))) := by
      refine ⟨F0, F, ρ, st, te, τ, _, Ed, C, w, fun ds ρ1 st1 vs F1 H1 hv w1 C1 x1 dns => ?_, ei⟩
      rw [wpO_fill q.fill hm.xonly (by rw [h6, hml])] at w1
      refine ⟨F0, F1, ρ1, st1, te, τ, _, Ed, C1, w1, fun es2 ρ2 st2 zs F2 H2 hz w2 C2 x2 dnz => ?_, ei⟩
      have hv : vs.length = q.n := by rw [hv, hl.len, p2]
      have hz : zs.length = q.ks.length := by rw [hz, hml]
      have hd : DenL c.rc F2 (ds ++ fillD q.fill es2) (gV vs zs) := by
        rw [h4 vs zs hv hz]
        exact DenL.append (DenL.sub x2.f dns) (fill_den h7 dnz)
      refine ⟨hv, hz, c.R, F2, st2, ds ++ fillD q.fill es2, _, _, c.okR, C2.sim.fh, C2.sim.fM, C2.sim.reg, ?_, ?_, w2, fun d st3 v F3 H3 qq pp dn => ?_, fun er st3 cls dx F3 H3 qq pp dx' => ?_⟩
      · rw [← G.K]; exact hd
      · rw [List.length_append, dns.len, hv, fillD_len (by rw [h6, dnz.len, hz]), h5]
      · obtain ⟨C3, x3⟩ := C2.after pp
        exact kk d ρ2 st3 v F3 H3 qq C3 ((x1.trans x2).trans x3) (by rw [← G.K] at dn; exact dn)
      · obtain ⟨C3, x3⟩ := C2.after pp
        exact ei er ρ2 st3 F3 H3 cls dx qq C3 (by rw [G.K, G.mg]; exact dx')
    refine wpAny_Call_Name_kw (ld_glob I (G.gl hg) h1 ?_ (Cs.glob_ok hg).2.1)
    refine PySem.W.callWith_KW (h₀ := X.base) I.ok.mod.kin h2 k1 (thn ((pa_data hf hl).run pos pins s σ H _ I hw') fun us s1 ⟨vs, H1, I1, r, q1⟩ => ?_) (by rw [plain_of pos X.env hns, k3]; rfl) (hns e List.mem_cons_self _ _)
    refine thn ((pk_data hf hm).run pos pins s1 σ H1 _ I1 q1) fun ws s2 ⟨zs, H2, I2, rz, l1, l2, q2⟩ => ⟨I2.kIn, ?_⟩
    rw [k2]
    refine wpAny_call (codeAny_mono (h9.run X.A X.stack s2 H2 ⟨us, q.ks.zip ws⟩ (g us ws) (gV vs zs) Q _ h8 G.hg I2.env0 (h3.to s2 us ws I2.kIn (r.length.symm.trans l1) (rz.length.symm.trans l2)) (h3.rel r rz) q2) fun res s3 hq => ?_)
    cases res with
    | error er => exact tk er s3 (XE.of_call I2 (fun _ _ _ z => z) hq)
    | ok fl =>
      cases fl with
      | ret u => exact I2.after hq
      | _ => exact False.elim hq
  · cases h
end
end Pv

end
section
set_option linter.all false
set_option maxRecDepth 100000
set_option maxHeartbeats 2000000
/-! Pv10: targets; what loops go through. -/
namespace Pv
open PySem PySem.Spec PyProof.Rows L2
section
variable {S : Type} {Γ : Nat → Ct S} {c : Set S} {W : WX}
variable {X : Cx} {cs : Cs} {F0 F H : Hp} {ρ te : Env} {st : S} {σ τ : List (Option V)}
/-! ### names that are stored -/
theorem Cur.put (C : Cur c F0 F ρ st te σ τ H) {d : D} {v : V} (i : Nat) (hd : Den c.rc F d v) : Cur c F0 F (ρ.set i (.val d)) st te (σ.set i (some v)) τ H := by
  refine ⟨by simpa using C.len, ?_⟩
  by_cases hi : i < ρ.length
  · have J := C.sim.put (i := i) hd
    rw [List.set_append_left _ _ hi, List.set_append_left _ _ (C.len ▸ hi)] at J
    exact J
  · have e1 : ρ.set i (.val d) = ρ := List.set_eq_of_length_le (by omega)
    have e2 : σ.set i (some v) = σ := List.set_eq_of_length_le (by rw [← C.len]; omega)
    rw [e1, e2]; exact C.sim
theorem Cur.forget (C : Cur c F0 F ρ st te σ τ H) (i : Nat) (x : Option V) : Cur c F0 F (ρ.set i .un) st te (σ.set i x) τ H := by
  refine ⟨by simpa using C.len, ?_⟩
  by_cases hi : i < ρ.length
  · have J := C.sim.forget i x
    rw [List.set_append_left _ _ hi, List.set_append_left _ _ (C.len ▸ hi)] at J
    exact J
  · have e1 : ρ.set i .un = ρ := List.set_eq_of_length_le (by omega)
    have e2 : σ.set i x = σ := List.set_eq_of_length_le (by rw [← C.len]; omega)
    rw [e1, e2]; exact C.sim
theorem Cur.wipe (C : Cur c F0 F ρ st te σ τ H) : ∀ vs : List Nat, Cur c F0 F (wipeE ρ vs) st te (L2.wipe σ vs) τ H
  | [] => C
  | v :: vs => (C.wipe vs).forget v none
theorem wipe_set {σ : L2.St} {i : Nat} {x : Option V} : ∀ {vs : List Nat}, i ∈ vs → L2.wipe (σ.set i x) vs = L2.wipe σ vs
  | [], h => by cases h
  | v :: vs, h => by
    show (L2.wipe (σ.set i x) vs).set v none = (L2.wipe σ vs).set v none
    by_cases hi : i ∈ vs
    · rw [wipe_set hi]
    · have hv : i = v := (List.mem_cons.mp h).resolve_right hi
      have com : ∀ (us : List Nat), i ∉ us → L2.wipe (σ.set i x) us = (L2.wipe σ us).set i x := fun us => by
        induction us with
        | nil => intro _; rfl
        | cons u us ih =>
          intro hu
          rw [List.mem_cons, not_or] at hu
          show (L2.wipe (σ.set i x) us).set u none = ((L2.wipe σ us).set u none).set i x
          rw [ih hu.2, List.set_comm _ _ (Ne.symm hu.1)]
      rw [com vs hi, hv, List.set_set]
theorem wipe_wipe {σ : L2.St} : ∀ {vs us : List Nat}, (∀ i ∈ us, i ∈ vs) → L2.wipe (L2.wipe σ us) vs = L2.wipe σ vs
  | vs, [], _ => rfl
  | vs, u :: us, h => by
    show L2.wipe ((L2.wipe σ us).set u none) vs = _
    rw [wipe_set (h u List.mem_cons_self)]
    exact wipe_wipe fun i hi => h i (List.mem_cons_of_mem _ hi)
theorem ixsL_n : ∀ is : List Nat, ixsL (is.map .n) = is
  | [] => rfl
  | i :: is => by show [i] ++ ixsL (is.map .n) = _; rw [ixsL_n is]; rfl
/-- a target's reading -/
def uG (c : Set S) (g : Tg) : TG := fun v σ H Q => ∃ d F0 F ρ st te τ ρ', Cur c F0 F ρ st te σ τ H ∧ Den c.rc F d v ∧ g.bind d ρ = some ρ' ∧
  ∀ σ', Cur c F0 F ρ' st te σ' τ H → (∀ vs : List Nat, (∀ i ∈ g.ixs, i ∈ vs) → L2.wipe σ' vs = L2.wipe σ vs) → Q σ' H
def setS : List Nat → List V → L2.St → L2.St
  | i :: is, v :: vs, σ => setS is vs (σ.set i (some v))
  | _, _, σ => σ
def gNames (is : List Nat) : TGs := fun vs σ H Q => vs.length = is.length ∧ Q (setS is vs σ) H
theorem nmIx_ok {N : List Str} {sc : Scope} {x : Str} {i : Nat} (h : nmIx N sc x = some i) : N[i]? = some x ∧ (sc.names.lookup x = some .local ∨ sc.names.lookup x = some .cell) := by
  unfold nmIx at h
  split at h <;> first | (rename_i e; exact ⟨by simpa using (ixOf_get h).2, by first | exact .inl e | exact .inr e⟩) | cases h
/-- where names may be stored -/
structure Sto (X : Cx) (N : List Str) (sc : Scope) : Prop where
  eN : X.N = N
  nd : N.Nodup
  calm : X.calm = true
  loc : ∀ x, (sc.names.lookup x = some .local ∨ sc.names.lookup x = some .cell) → Loc X.env.scope x ∧ (X.fn x = true ∨ X.env.scope.names.lookup x = some .local)
variable {N : List Str} {sc : Scope}
theorem pg_nm (T : Sto X N sc) {x : Str} {pos : Pos} {i : Nat} (h : nmIx N sc x = some i) : PG X (.Name x pos) (gName i) := by
  obtain ⟨h1, h2⟩ := nmIx_ok h
  obtain ⟨l, f⟩ := T.loc x h2
  exact pg_name (by rw [T.eN]; exact T.nd) (by rw [T.eN]; exact h1) l f
theorem pgs_nms (T : Sto X N sc) : ∀ {es : List Expr} {is : List Nat}, cTgs N sc es = some is → PGs X es (gNames is)
  | [], is, h => by
    cases h
    exact ⟨fun pins s σ H vs us Q I r hq => by
      obtain ⟨e, q⟩ := hq
      exact pgs_nil.run pins s σ H vs us Q I r ⟨List.eq_nil_of_length_eq_zero e, by rw [List.eq_nil_of_length_eq_zero e] at q; exact q⟩⟩
  | .Name x pos :: es, is, h => by
    unfold cTgs at h
    split at h
    · rename_i i l e1 e2
      cases h
      refine ⟨fun pins s σ H vs us Q I r hq => (pgs_cons (pg_nm T e1) (pgs_nms T e2)).run pins s σ H vs us Q I r ?_⟩
      obtain ⟨e, q⟩ := hq
      cases vs with
      | nil => cases e
      | cons v vs => exact ⟨v, vs, rfl, by simpa using e, q⟩
    · cases h
theorem ass_nms {env : PySem.Env} : ∀ {es : List Expr} {is : List Nat}, cTgs N sc es = some is → (assignEach es env).length = is.length ∧ (assignEach es env).findIdx? (·.1) = none
  | [], is, h => by cases h; exact ⟨rfl, rfl⟩
  | .Name x pos :: es, is, h => by
    unfold cTgs at h
    split at h
    · rename_i i l e1 e2
      cases h
      obtain ⟨a, b⟩ := ass_nms (env := env) e2
      have e : assignEach (.Name x pos :: es) env = (false, assign (.Name x pos) env) :: assignEach es env := rfl
      rw [e]
      refine ⟨by rw [List.length_cons, a]; rfl, ?_⟩
      rw [List.findIdx?_cons]
      simp [b]
    · cases h
theorem binds_len : ∀ {is : List Nat} {ds : List D} {ρ ρ' : Env}, Tg.binds (is.map .n) ds ρ = some ρ' → ds.length = is.length
  | [], [], _, _, _ => rfl
  | [], _ :: _, _, _, h => by simp [Tg.binds] at h
  | _ :: _, [], _, _, h => by simp [Tg.binds] at h
  | i :: is, d :: ds, ρ, ρ', h => by
    have h : Tg.binds (is.map .n) ds (ρ.set i (.val d)) = some ρ' := h
    exact congrArg (· + 1) (binds_len h)
theorem Cur.binds : ∀ {is : List Nat} {ds : List D} {vs : List V} {ρ ρ' : Env} {σ : L2.St}, Cur c F0 F ρ st te σ τ H → DenL c.rc F ds vs → Tg.binds (is.map .n) ds ρ = some ρ' → Cur c F0 F ρ' st te (setS is vs σ) τ H ∧ ∀ us : List Nat, (∀ i ∈ is, i ∈ us) → L2.wipe (setS is vs σ) us = L2.wipe σ us
  | [], [], vs, ρ, ρ', σ, C, d, h => by
    cases d
    have e : ρ = ρ' := Option.some.inj h
    subst e
    exact ⟨C, fun _ _ => rfl⟩
  | [], _ :: _, _, _, _, _, _, _, h => by simp [Tg.binds] at h
  | _ :: _, [], _, _, _, _, _, _, h => by simp [Tg.binds] at h
  | i :: is, e :: ds, vs, ρ, ρ', σ, C, d, h => by
    obtain ⟨v, r, rfl, d1, d2⟩ := d
    have h : Tg.binds (is.map .n) ds (ρ.set i (.val e)) = some ρ' := h
    obtain ⟨C2, w⟩ := (C.put i d1).binds d2 h
    exact ⟨C2, fun us hu => (w us fun j hj => hu j (List.mem_cons_of_mem _ hj)).trans (wipe_set (hu i List.mem_cons_self))⟩
theorem pg_of (T : Sto X N sc) (hK : c.K = X.K) {tg : Expr} {g : Tg} (h : cTg N sc tg = some g) : PG X tg (uG c g) := by
  unfold cTg at h
  split at h
  · rename_i x pos
    cases e : nmIx N sc x with
    | none => rw [e] at h; cases h
    | some i =>
      rw [e] at h; cases h
      refine ⟨fun pins s σ H v u Q I r hq => (pg_nm T e).run pins s σ H v u Q I r ?_⟩
      obtain ⟨d, F0, F, ρ, st, te, τ, ρ', C, dn, b, q⟩ := hq
      cases b
      exact q _ (C.put i dn) fun vs hv => wipe_set (hv i (List.mem_singleton.mpr rfl))
  · rename_i es k pos
    cases e : cTgs N sc es with
    | none => rw [e] at h; cases h
    | some is =>
      rw [e] at h; cases h
      obtain ⟨a, b⟩ := ass_nms (env := X.env) e
      refine ⟨fun pins s σ H v u Q I r hq => (pg_tup T.calm (pgs_nms T e) (n := is.length) a b).run pins s σ H v u Q I r ?_⟩
      obtain ⟨d, F0, F, ρ, st, te, τ, ρ', C, dn, b, q⟩ := hq
      cases d with
      | tup ds =>
        have b : Tg.binds (is.map .n) ds ρ = some ρ' := b
        obtain ⟨t, vs, rfl, hs, dl⟩ := dn
        obtain ⟨C2, w⟩ := C.binds dl b
        have hl : vs.length = is.length := by rw [dl.length, binds_len b]
        refine ⟨t, vs, rfl, by rw [← hK]; exact sqT_sub C.sub hs, hl, hl, q _ C2 fun us hu => w us ?_⟩
        have e : (Tg.t (is.map .n)).ixs = is := ixsL_n is
        rw [e] at hu
        exact hu
      | _ => cases b
  · cases h

/-! ### what a loop goes through -/
def Goes (c : Set S) (J : L2.It) (ds : List D) (Fs : Hp) : Prop := ∀ F0 F ρ st te σ τ H, Cur c F0 F ρ st te σ τ H → Sub Fs F → ∀ i : Nat,
  (∀ d, ds[i]? = some d → J.go i H ∧ ∀ x H', J.yld i H x H' → ∃ F', Cur c F0 F' ρ st te σ τ H' ∧ Ext c F H F' H' ∧ Den c.rc F' d x) ∧ (i = ds.length → J.stop i H)
theorem goes_list {Fs : Hp} {a : Addr} {vs : List V} {ds : List D} (h : SqL c.K Fs a vs) (d : DenL c.rc Fs ds vs) : Goes c (Itl c.K a) ds Fs := by
  intro F0 F ρ st te σ τ H C s i
  have hH : SqL c.K H a vs := sqL_sub C.sub (sqL_sub s h)
  refine ⟨fun e he => ?_, fun e => ⟨vs, hH, by rw [d.length, e]; exact Nat.le_refl _⟩⟩
  obtain ⟨v, hv, dv⟩ := d.get he
  refine ⟨⟨vs, v, hH, hv⟩, fun x H' y => ?_⟩
  obtain ⟨rfl, y⟩ := y
  have ex := y vs (hH)
  rw [hv] at ex; cases ex
  exact ⟨F, C, Ext.refl _ _ _, dv.sub s⟩
theorem goes_tup {Fs : Hp} {a : Addr} {vs : List V} {ds : List D} (h : SqT c.K Fs a vs) (d : DenL c.rc Fs ds vs) : Goes c (Itt c.K a) ds Fs := by
  intro F0 F ρ st te σ τ H C s i
  have hH : SqT c.K H a vs := sqT_sub C.sub (sqT_sub s h)
  refine ⟨fun e he => ?_, fun e => ⟨vs, hH, by rw [d.length, e]; exact Nat.le_refl _⟩⟩
  obtain ⟨v, hv, dv⟩ := d.get he
  refine ⟨⟨vs, v, hH, hv⟩, fun x H' y => ?_⟩
  obtain ⟨rfl, y⟩ := y
  have ex := y vs hH
  rw [hv] at ex; cases ex
  exact ⟨F, C, Ext.refl _ _ _, dv.sub s⟩
theorem rangeD_get : ∀ (n : Nat) (lo : Int) (i : Nat), (rangeD lo n)[i]? = if i < n then some (.int (lo + i)) else none
  | 0, lo, i => by simp [rangeD]
  | n + 1, lo, 0 => by simp [rangeD]
  | n + 1, lo, i + 1 => by
    show (rangeD (lo + 1) n)[i]? = _
    rw [rangeD_get n (lo + 1) i]
    by_cases h : i < n
    · rw [if_pos h, if_pos (by omega)]
      have e : lo + 1 + (i : Int) = lo + ((i + 1 : Nat) : Int) := by omega
      rw [e]
    · rw [if_neg h, if_neg (by omega)]
theorem rangeD_len : ∀ (n : Nat) (lo : Int), (rangeD lo n).length = n
  | 0, _ => rfl
  | n + 1, lo => congrArg (· + 1) (rangeD_len n (lo + 1))
theorem goes_range {Fs : Hp} (lo : Int) (n : Nat) : Goes c (Itr lo n) (rangeD lo n) Fs := by
  intro F0 F ρ st te σ τ H C s i
  rw [rangeD_len]
  refine ⟨fun e he => ?_, fun e => by rw [e]; exact Nat.le_refl _⟩
  rw [rangeD_get] at he
  split at he
  · rename_i hi
    cases he
    refine ⟨hi, fun x H' y => ?_⟩
    obtain ⟨rfl, rfl⟩ := y
    exact ⟨F, C, Ext.refl _ _ _, rfl⟩
  · cases he
theorem enum_get : ∀ (ds : List D) (n i : Nat), (enumFrom n ds)[i]? = (ds[i]?).map fun d => .tup [.int ((n + i : Nat) : Int), d]
  | [], n, i => by simp [enumFrom]
  | d :: ds, n, 0 => by simp [enumFrom]
  | d :: ds, n, i + 1 => by
    show (enumFrom (n + 1) ds)[i]? = (ds[i]?).map _
    rw [enum_get ds (n + 1) i, show n + 1 + i = n + (i + 1) by omega]
theorem enum_len : ∀ (ds : List D) (n : Nat), (enumFrom n ds).length = ds.length
  | [], _ => rfl
  | d :: ds, n => congrArg (· + 1) (enum_len ds (n + 1))
theorem pair_lay (C : Cur c F0 F ρ st te σ τ H) {T : Addr} {d e : D} {v u : V} (hT : H T = none) (h1 : Den c.rc F d v) (h2 : Den c.rc F e u) :
    ∃ F', Cur c F0 F' ρ st te σ τ (upd H T (.tup [v, u])) ∧ Ext c F H F' (upd H T (.tup [v, u])) ∧ Den c.rc F' (.tup [d, e]) (.ref T) := by
  obtain ⟨J, x⟩ := C.sim.lay (o := .tup [v, u]) hT
  exact ⟨_, ⟨C.len, J⟩, x, T, _, rfl, SqT.of upd_same, v, _, rfl, h1.sub x.f, u, _, rfl, h2.sub x.f, rfl⟩
theorem goes_enumL {Fs : Hp} {a : Addr} {vs : List V} {ds : List D} (h : SqL c.K Fs a vs) (d : DenL c.rc Fs ds vs) : Goes c (Ite c.K a) (enumFrom 0 ds) Fs := by
  intro F0 F ρ st te σ τ H C s i
  have hH : SqL c.K H a vs := sqL_sub C.sub (sqL_sub s h)
  rw [enum_len]
  refine ⟨fun e he => ?_, fun e => ⟨vs, hH, by rw [d.length, e]; exact Nat.le_refl _⟩⟩
  rw [enum_get] at he
  cases z : ds[i]? with
  | none => rw [z] at he; cases he
  | some f =>
    rw [z] at he; cases he
    obtain ⟨v, hv, dv⟩ := d.get z
    refine ⟨⟨vs, v, hH, hv⟩, fun x H' y => ?_⟩
    obtain ⟨T, w, rfl, hT, rfl, y⟩ := y
    have ex := y vs (hH)
    rw [hv] at ex; cases ex
    rw [Nat.zero_add]
    exact pair_lay C hT rfl (dv.sub s)
theorem goes_enumT {Fs : Hp} {a : Addr} {vs : List V} {ds : List D} (h : SqT c.K Fs a vs) (d : DenL c.rc Fs ds vs) : Goes c (IteT c.K a) (enumFrom 0 ds) Fs := by
  intro F0 F ρ st te σ τ H C s i
  have hH : SqT c.K H a vs := sqT_sub C.sub (sqT_sub s h)
  rw [enum_len]
  refine ⟨fun e he => ?_, fun e => ⟨vs, hH, by rw [d.length, e]⟩⟩
  rw [enum_get] at he
  cases z : ds[i]? with
  | none => rw [z] at he; cases he
  | some f =>
    rw [z] at he; cases he
    obtain ⟨v, hv, dv⟩ := d.get z
    refine ⟨⟨vs, v, hH, hv⟩, fun x H' y => ?_⟩
    obtain ⟨T, w, rfl, hT, rfl, y⟩ := y
    have ex := y vs hH
    rw [hv] at ex; cases ex
    rw [Nat.zero_add]
    exact pair_lay C hT rfl (dv.sub s)
theorem zip_get : ∀ (as bs : List D) (i : Nat) (d : D), (zipD as bs)[i]? = some d → ∃ a b, as[i]? = some a ∧ bs[i]? = some b ∧ d = .tup [a, b]
  | [], _, i, d, h => by simp [zipD] at h
  | _ :: _, [], i, d, h => by simp [zipD] at h
  | a :: as, b :: bs, 0, d, h => by simp [zipD] at h; exact ⟨a, b, rfl, rfl, h.symm⟩
  | a :: as, b :: bs, i + 1, d, h => zip_get as bs i d h
theorem zip_len : ∀ (as bs : List D), (zipD as bs).length = as.length ∨ (zipD as bs).length = bs.length
  | [], _ => .inl rfl
  | _ :: _, [] => .inr rfl
  | a :: as, b :: bs => (zip_len as bs).imp (congrArg (· + 1)) (congrArg (· + 1))
theorem goes_zipL {Fs : Hp} {a b : Addr} {vs us : List V} {ds es : List D} (h : Fs a = some (.lst vs)) (d : DenL c.rc Fs ds vs) (h2 : Fs b = some (.lst us)) (d2 : DenL c.rc Fs es us) : Goes c (Itz c.K a b) (zipD ds es) Fs := by
  intro F0 F ρ st te σ τ H C s i
  have hH : H a = some (.lst vs) := C.sub _ _ (s _ _ h)
  have hH2 : H b = some (.lst us) := C.sub _ _ (s _ _ h2)
  refine ⟨fun e he => ?_, fun e => ⟨vs, us, SqL.of hH, SqL.of hH2, ?_⟩⟩
  · obtain ⟨x1, x2, e1, e2, rfl⟩ := zip_get _ _ _ _ he
    obtain ⟨v, hv, dv⟩ := d.get e1
    obtain ⟨u, hu, du⟩ := d2.get e2
    refine ⟨⟨vs, us, v, u, SqL.of hH, SqL.of hH2, hv, hu⟩, fun x H' y => ?_⟩
    obtain ⟨T, w1, w2, rfl, hT, rfl, y1, y2⟩ := y
    have q1 := y1 vs (SqL.of hH)
    have q2 := y2 us (SqL.of hH2)
    rw [hv] at q1; cases q1
    rw [hu] at q2; cases q2
    exact pair_lay C hT (dv.sub s) (du.sub s)
  · rw [d.length, d2.length, e]
    rcases zip_len ds es with z | z
    · exact .inl (by omega)
    · exact .inr (by omega)
theorem goes_zipT {Fs : Hp} {a b : Addr} {vs us : List V} {ds es : List D} (h : SqT c.K Fs a vs) (d : DenL c.rc Fs ds vs) (h2 : SqT c.K Fs b us) (d2 : DenL c.rc Fs es us) : Goes c (RZ.ItzT c.K a b) (zipD ds es) Fs := by
  intro F0 F ρ st te σ τ H C s i
  have hH : SqT c.K H a vs := sqT_sub C.sub (sqT_sub s h)
  have hH2 : SqT c.K H b us := sqT_sub C.sub (sqT_sub s h2)
  refine ⟨fun e he => ?_, fun e => ⟨vs, us, hH, hH2, ?_⟩⟩
  · obtain ⟨x1, x2, e1, e2, rfl⟩ := zip_get _ _ _ _ he
    obtain ⟨v, hv, dv⟩ := d.get e1
    obtain ⟨u, hu, du⟩ := d2.get e2
    refine ⟨⟨vs, us, v, u, hH, hH2, hv, hu⟩, fun x H' y => ?_⟩
    obtain ⟨T, w1, w2, rfl, hT, rfl, y1, y2⟩ := y
    have q1 := y1 vs hH
    have q2 := y2 us hH2
    rw [hv] at q1; cases q1
    rw [hu] at q2; cases q2
    exact pair_lay C hT (dv.sub s) (du.sub s)
  · rw [d.length, d2.length, e]
    rcases zip_len ds es with z | z
    · exact .inl (by omega)
    · exact .inr (by omega)
def uI (Γ : Nat → Ct S) (c : Set S) (W : WX) (it : It) : TI := fun σ H R => ∃ F0 F ρ st te τ Qd Ed, Cur c F0 F ρ st te σ τ H ∧ wpI Γ it ρ st Qd Ed ∧
  (∀ ds ρ' st' J F' H', Qd ds ρ' st' → Cur c F0 F' ρ' st' te σ τ H' → Ext c F H F' H' → Goes c J ds F' → R J H') ∧ EImp c W F0 te σ τ Ed
theorem _root_.L2.PI.weaken {tg iter : Expr} {t t' : TI} (h : PI X tg iter t) (w : ∀ σ H Q, t' σ H Q → t σ H Q) : PI X tg iter t' := ⟨fun pins s σ H Q I q => h.run pins s σ H Q I (w σ H Q q)⟩
theorem as1 {f : Expr → Option Pv.X} {e : Expr} {l : Os} (h : AsOf f [e] l) : ∃ x, f e = some x ∧ l = .x x .nil := by
  cases h with
  | x h1 h2 => cases h2; exact ⟨_, h1, rfl⟩
theorem as2 {f : Expr → Option Pv.X} {e e2 : Expr} {l : Os} (h : AsOf f [e, e2] l) : ∃ x y, f e = some x ∧ f e2 = some y ∧ l = .x x (.x y .nil) := by
  cases h with
  | x h1 h2 =>
    obtain ⟨y, h3, rfl⟩ := as1 h2
    exact ⟨_, y, h1, h3, rfl⟩
theorem pi_u (G : Good X cs c Γ) {f : Expr → Option Pv.X} (hf : Fok X Γ c W f) {tg iter : Expr} {it : It} (h : cIt cs f (isTupE tg) iter = some it) : PI X tg iter (uI Γ c W it) := by
  have seq : ∀ {e l}, (cAs f [e]).map It.seq = some l → PI X tg e (uI Γ c W l) := fun {e l} h => by
    cases z : cAs f [e] with
    | none => rw [z] at h; cases h
    | some os =>
      rw [z] at h; cases h
      obtain ⟨x, hx, rfl⟩ := as1 (cAs_as z)
      refine (pi_seq (hf.e _ _ hx)).weaken fun σ H R hw => ?_
      obtain ⟨F0, F, ρ, st, te, τ, Qd, Ed, C, w, k, ei⟩ := hw
      refine ⟨F0, F, ρ, st, te, τ, _, Ed, C, w, fun d ρ1 st1 v F1 H1 w1 C1 x1 dn => ?_, ei⟩
      obtain ⟨d', xs, e, io, q⟩ := w1
      cases e
      cases d with
      | tup ys =>
        cases io
        obtain ⟨a, vs, rfl, hs, dl⟩ := dn
        refine ⟨a, vs, rfl, .inr ⟨by rw [← G.K]; exact sqT_sub C1.sub hs, k _ ρ1 st1 _ F1 H1 q C1 x1 ?_⟩⟩
        rw [← G.K]; exact goes_tup hs dl
      | lst ys =>
        cases io
        obtain ⟨a, vs, rfl, hs, dl⟩ := dn
        refine ⟨a, vs, rfl, .inl ⟨SqL.of (C1.sub _ _ hs), k _ ρ1 st1 _ F1 H1 q C1 x1 ?_⟩⟩
        rw [← G.K]; exact goes_list (SqL.of hs) dl
      | scr ns =>
        cases io
        obtain ⟨a, rfl, hs⟩ := dn
        refine ⟨a, _, rfl, .inl ⟨by rw [← G.K]; exact sqL_sub C1.sub hs, k _ ρ1 st1 _ F1 H1 q C1 x1 ?_⟩⟩
        rw [← G.K]; exact goes_list hs (DenL.ints ns)
      | _ => cases io
  have getM : ∀ {x : Str}, (cs.glob x = true ∧ cs.blt.contains x = true) → Gl X x ∧ X.mg x = none := fun {x} h => ⟨G.gl h.1, G.blt x h.2⟩
  unfold cIt at h
  split at h
  · rename_i x p es q
    split at h
    · rename_i hc
      simp only [Bool.and_eq_true, Bool.or_eq_true, decide_eq_true_eq, beq_iff_eq] at hc
      obtain ⟨⟨⟨rfl, h1⟩, h2⟩, hl⟩ := hc
      obtain ⟨g1, g2⟩ := getM ⟨h1, h2⟩
      cases z : cAs f es with
      | none => rw [z] at h; cases h
      | some os =>
        rw [z] at h; cases h
        have ha := cAs_as z
        have hns := (ha.os (cs := cs)).ns hf
        rcases hl with hl | hl
        · obtain ⟨e, rfl⟩ : ∃ e, es = [e] := List.length_eq_one_iff.mp hl
          refine (pi_range1 g1 g2 (pa_data hf ha) (hns e List.mem_cons_self [] X.env)).weaken fun σ H R hw => ?_
          obtain ⟨F0, F, ρ, st, te, τ, Qd, Ed, C, w, k, ei⟩ := hw
          refine ⟨F0, F, ρ, st, te, τ, _, Ed, C, w, fun ds ρ1 st1 vs F1 H1 hl w1 C1 x1 dn => ?_, ei⟩
          have hl2 := hl.symm.trans dn.length
          rw [(ha.os (cs := cs)).len] at hl2
          obtain ⟨d, rfl⟩ : ∃ d, ds = [d] := List.length_eq_one_iff.mp hl2.symm
          cases d with
          | int j =>
            obtain ⟨⟨b1, b2⟩, q⟩ := w1
            obtain ⟨v, _, rfl, hv, e0⟩ := dn
            obtain rfl := (show _ = [] from e0)
            obtain rfl : v = .int j := hv
            exact ⟨j, rfl, b1, b2, k _ ρ1 st1 _ F1 H1 q C1 x1 (goes_range 0 _)⟩
          | _ => exact w1.elim
        · obtain ⟨e, e2, rfl⟩ : ∃ e e2, es = [e, e2] := by
            match es, hl with
            | [a, b], _ => exact ⟨a, b, rfl⟩
          refine (pi_range2 g1 g2 (pa_data hf ha) (by rw [hns e List.mem_cons_self, hns e2 (by simp)]; rfl) (hns e2 (by simp) [] X.env)).weaken fun σ H R hw => ?_
          obtain ⟨F0, F, ρ, st, te, τ, Qd, Ed, C, w, k, ei⟩ := hw
          refine ⟨F0, F, ρ, st, te, τ, _, Ed, C, w, fun ds ρ1 st1 vs F1 H1 hl w1 C1 x1 dn => ?_, ei⟩
          have hl2 := hl.symm.trans dn.length
          rw [(ha.os (cs := cs)).len] at hl2
          obtain ⟨d, d2, rfl⟩ : ∃ d d2, ds = [d, d2] := by
            match ds, hl2 with
            | [a, b], _ => exact ⟨a, b, rfl⟩
          cases d with
          | int i =>
            cases d2 with
            | int j =>
              obtain ⟨⟨⟨b1, b2⟩, b3, b4⟩, q⟩ := w1
              obtain ⟨v, _, rfl, hv, v2, _, rfl, hv2, e0⟩ := dn
              obtain rfl := (show _ = [] from e0)
              obtain rfl : v = .int i := hv
              obtain rfl : v2 = .int j := hv2
              exact ⟨i, j, rfl, ⟨b1, b2, b3, b4⟩, k _ ρ1 st1 _ F1 H1 q C1 x1 (goes_range i _)⟩
            | _ => exact w1.elim
          | _ => exact w1.elim
    · split at h
      · rename_i hc
        simp only [Bool.and_eq_true, decide_eq_true_eq, beq_iff_eq] at hc
        obtain ⟨⟨⟨⟨rfl, h1⟩, h2⟩, hl⟩, ht⟩ := hc
        obtain ⟨g1, g2⟩ := getM ⟨h1, h2⟩
        obtain ⟨e, rfl⟩ : ∃ e, es = [e] := List.length_eq_one_iff.mp hl
        cases z : cAs f [e] with
        | none => rw [z] at h; cases h
        | some os =>
          rw [z] at h; cases h
          have ha := cAs_as z
          have hns := (ha.os (cs := cs)).ns hf
          cases tg <;> first | cases ht | skip
          refine (pi_enumA g1 g2 (pa_data hf ha) (hns e List.mem_cons_self [] X.env)).weaken fun σ H R hw => ?_
          obtain ⟨F0, F, ρ, st, te, τ, Qd, Ed, C, w, k, ei⟩ := hw
          refine ⟨F0, F, ρ, st, te, τ, _, Ed, C, w, fun ds ρ1 st1 vs F1 H1 hl w1 C1 x1 dn => ?_, ei⟩
          obtain ⟨d, xs, rfl, io, q⟩ := w1
          obtain ⟨v, _, rfl, hv, e0⟩ := dn
          obtain rfl := (show _ = [] from e0)
          cases d with
          | tup ys =>
            cases io
            obtain ⟨a, us, rfl, hs, dl⟩ := hv
            refine ⟨a, us, rfl, .inr ⟨by rw [← G.K]; exact sqT_sub C1.sub hs, k _ ρ1 st1 _ F1 H1 q C1 x1 ?_⟩⟩
            rw [← G.K]; exact goes_enumT hs dl
          | lst ys =>
            cases io
            obtain ⟨a, us, rfl, hs, dl⟩ := hv
            refine ⟨a, us, rfl, .inl ⟨SqL.of (C1.sub _ _ hs), k _ ρ1 st1 _ F1 H1 q C1 x1 ?_⟩⟩
            rw [← G.K]; exact goes_enumL (SqL.of hs) dl
          | scr ns =>
            cases io
            obtain ⟨a, rfl, hs⟩ := hv
            refine ⟨a, _, rfl, .inl ⟨by rw [← G.K]; exact sqL_sub C1.sub hs, k _ ρ1 st1 _ F1 H1 q C1 x1 ?_⟩⟩
            rw [← G.K]; exact goes_enumL hs (DenL.ints ns)
          | _ => cases io
      · split at h
        · rename_i hc
          simp only [Bool.and_eq_true, decide_eq_true_eq, beq_iff_eq] at hc
          obtain ⟨⟨⟨⟨rfl, h1⟩, h2⟩, hl⟩, ht⟩ := hc
          obtain ⟨g1, g2⟩ := getM ⟨h1, h2⟩
          obtain ⟨e, e2, rfl⟩ : ∃ e e2, es = [e, e2] := by
            match es, hl with
            | [a, b], _ => exact ⟨a, b, rfl⟩
          cases z : cAs f [e, e2] with
          | none => rw [z] at h; cases h
          | some os =>
            rw [z] at h; cases h
            have ha := cAs_as z
            have hns := (ha.os (cs := cs)).ns hf
            cases tg <;> first | cases ht | skip
            refine (RZ.pi_zipA g1 g2 (pa_data hf ha) (hns e List.mem_cons_self _ X.env) (plain_of _ _ fun a ha => hns a (List.mem_cons_of_mem _ ha))).weaken fun σ H R hw => ?_
            obtain ⟨F0, F, ρ, st, te, τ, Qd, Ed, C, w, k, ei⟩ := hw
            refine ⟨F0, F, ρ, st, te, τ, _, Ed, C, w, fun ds ρ1 st1 vs F1 H1 hl w1 C1 x1 dn => ?_, ei⟩
            have hl2 := hl.symm.trans dn.length
            rw [(ha.os (cs := cs)).len] at hl2
            obtain ⟨d, d2, rfl⟩ : ∃ d d2, ds = [d, d2] := by
              match ds, hl2 with
              | [a, b], _ => exact ⟨a, b, rfl⟩
            obtain ⟨v, _, rfl, hv, v2, _, rfl, hv2, e0⟩ := dn
            obtain rfl := (show _ = [] from e0)
            cases d with
            | tup ys =>
              cases d2 with
              | tup zs =>
                obtain ⟨a, us, rfl, hs, dl⟩ := hv
                obtain ⟨b, us2, rfl, hs2, dl2⟩ := hv2
                refine ⟨a, b, us, us2, rfl, .inr ⟨by rw [← G.K]; exact sqT_sub C1.sub hs, by rw [← G.K]; exact sqT_sub C1.sub hs2, k _ ρ1 st1 _ F1 H1 w1 C1 x1 ?_⟩⟩
                rw [← G.K]; exact goes_zipT hs dl hs2 dl2
              | _ => exact w1.elim
            | lst ys =>
              cases d2 with
              | lst zs =>
                obtain ⟨a, us, rfl, hs, dl⟩ := hv
                obtain ⟨b, us2, rfl, hs2, dl2⟩ := hv2
                refine ⟨a, b, us, us2, rfl, .inl ⟨SqL.of (C1.sub _ _ hs), SqL.of (C1.sub _ _ hs2), k _ ρ1 st1 _ F1 H1 w1 C1 x1 ?_⟩⟩
                rw [← G.K]; exact goes_zipL hs dl hs2 dl2
              | _ => exact w1.elim
            | _ => exact w1.elim
        · exact seq h
  · exact seq h
end
end Pv

end
section
set_option linter.all false
set_option maxRecDepth 100000
set_option maxHeartbeats 2000000
/-! Pv11: list comprehensions. -/
namespace Pv
open PySem PySem.Spec PyProof.Rows L2
section
variable {S : Type} {Γ : Nat → Ct S} {c : Set S} {W : WX}
variable {X : Cx} {cs : Cs} {F0 F H : Hp} {ρ te : Env} {st : S} {σ τ : List (Option V)}
theorem takesF : Takes X (fun _ _ _ _ => False) := fun u s x => by
  obtain ⟨_, _, _, _, _, _, _, _, _, _, _, _, _, _, _, _, z⟩ := x
  exact z.elim
theorem Cur.freezeL : ∀ {fz : List Nat} {F : Hp} {ρ : Env}, Cur c F0 F ρ st te σ τ H → ∃ F', Cur c F0 F' (freezeL fz ρ) st te σ τ H ∧ Ext c F H F' H
  | [], F, ρ, C => ⟨F, C, Ext.refl _ _ _⟩
  | i :: is, F, ρ, C => by
    unfold Pv.freezeL
    split
    · rename_i xs e
      obtain ⟨p, F', _, C', x, _⟩ := C.freeze e
      obtain ⟨F2, C2, x2⟩ := C'.freezeL (fz := is)
      exact ⟨F2, C2, x.trans x2⟩
    · exact C.freezeL (fz := is)
theorem freezeL_len : ∀ (fz : List Nat) (ρ : Env), (freezeL fz ρ).length = ρ.length
  | [], _ => rfl
  | i :: is, ρ => by
    unfold Pv.freezeL
    rw [freezeL_len is]
    split
    · rw [List.length_set]
    · rfl
/-- frozen names stay frozen -/
theorem freezeL_keep : ∀ (fz : List Nat) {ρ : Env} {i : Nat}, (∀ xs, ρ[i]? ≠ some (.own xs)) → ∀ xs, (freezeL fz ρ)[i]? ≠ some (.own xs)
  | [], _, _, h, xs => h xs
  | j :: js, ρ, i, h, xs => by
    unfold Pv.freezeL
    refine freezeL_keep js (fun ys => ?_) xs
    split
    · rename_i zs e
      by_cases hj : j = i
      · subst hj; exact absurd e (h zs)
      · rw [List.getElem?_set_ne hj]; exact h ys
    · exact h ys
theorem freezeL_at : ∀ (fz : List Nat) {ρ : Env} {i : Nat}, i ∈ fz → ∀ xs, (freezeL fz ρ)[i]? ≠ some (.own xs)
  | j :: js, ρ, i, h, xs => by
    unfold Pv.freezeL
    rcases List.mem_cons.mp h with rfl | h
    · refine freezeL_keep js (fun ys => ?_) xs
      split
      · rename_i zs e
        rw [List.getElem?_set_self (List.getElem?_eq_some_iff.mp e).1]
        intro z; cases z
      · rename_i e
        exact fun z => e ys z
    · exact freezeL_at js h xs
theorem wipeE_out : ∀ {vs : List Nat} {ρ : Env} {i : Nat}, i ∉ vs → (wipeE ρ vs)[i]? = ρ[i]?
  | [], _, _, _ => rfl
  | v :: vs, ρ, i, h => by
    rw [List.mem_cons, not_or] at h
    show ((wipeE ρ vs).set v .un)[i]? = _
    rw [List.getElem?_set_ne (Ne.symm h.1)]; exact wipeE_out h.2
theorem wipeS_out : ∀ {vs : List Nat} {σ : L2.St} {i : Nat}, i ∉ vs → (L2.wipe σ vs)[i]? = σ[i]?
  | [], _, _, _ => rfl
  | v :: vs, σ, i, h => by
    rw [List.mem_cons, not_or] at h
    show ((L2.wipe σ vs).set v none)[i]? = _
    rw [List.getElem?_set_ne (Ne.symm h.1)]; exact wipeS_out h.2
theorem wipeE_len : ∀ (vs : List Nat) (ρ : Env), (wipeE ρ vs).length = ρ.length
  | [], _ => rfl
  | v :: vs, ρ => by show ((wipeE ρ vs).set v .un).length = _; rw [List.length_set, wipeE_len vs ρ]
/-- a new list held aside -/
theorem Cur.aside (C : Cur c F0 F ρ st te σ τ H) {p : Addr} (hp : H p = none) : Cur c F0 F ρ st (te ++ [.own []]) σ (τ ++ [some (.ref p)]) (upd H p (.lst [])) := by
  obtain ⟨n, m, f⟩ := C.sim.new hp
  have J := C.sim.grow (o := .lst []) hp
  refine ⟨C.len, J.keep, J.f0, J.fh, J.fnew, J.fM, J.reg, ?_, fun i s x h1 h2 => ?_, fun i j xs ys a h1 h2 h3 h4 => ?_⟩
  · have := J.len
    simp only [List.length_append, List.length_cons, List.length_nil] at this ⊢
    omega
  · rw [← List.append_assoc] at h1 h2
    by_cases hi : i < (ρ ++ te).length
    · rw [List.getElem?_append_left hi] at h1
      rw [List.getElem?_append_left (J.len ▸ hi)] at h2
      exact J.slot i s x h1 h2
    · have e : i = (ρ ++ te).length := by
        have := (List.getElem?_eq_some_iff.mp h1).1
        rw [List.length_append] at this
        simp only [List.length_cons, List.length_nil] at this
        omega
      subst e
      rw [List.getElem?_append_right (Nat.le_refl _), Nat.sub_self] at h1
      rw [J.len, List.getElem?_append_right (Nat.le_refl _), Nat.sub_self] at h2
      cases h1; cases h2
      exact ⟨p, [], rfl, f, n, m, upd_same, rfl⟩
  · rw [← List.append_assoc] at h1 h2 h3 h4
    have old : ∀ {k : Nat} {zs : List D}, ((ρ ++ te) ++ [Sl.own []])[k]? = some (.own zs) → ((σ ++ τ) ++ [some (V.ref p)])[k]? = some (some (.ref a)) → (k < (ρ ++ te).length ∧ (ρ ++ te)[k]? = some (.own zs) ∧ (σ ++ τ)[k]? = some (some (.ref a)) ∧ a ≠ p) ∨ (k = (ρ ++ te).length ∧ a = p) := fun {k zs} q1 q2 => by
      by_cases hk : k < (ρ ++ te).length
      · rw [List.getElem?_append_left hk] at q1
        rw [List.getElem?_append_left (J.len ▸ hk)] at q2
        refine .inl ⟨hk, q1, q2, fun e => ?_⟩
        obtain ⟨b, us, e1, _, _, _, e2, _⟩ := C.sim.slot k _ _ q1 q2
        cases e1
        rw [e, hp] at e2; cases e2
      · have e : k = (ρ ++ te).length := by
          have := (List.getElem?_eq_some_iff.mp q1).1
          rw [List.length_append] at this
          simp only [List.length_cons, List.length_nil] at this
          omega
        subst e
        rw [J.len, List.getElem?_append_right (Nat.le_refl _), Nat.sub_self] at q2
        cases q2
        exact .inr ⟨rfl, rfl⟩
    rcases old h1 h3 with ⟨_, a1, a2, a3⟩ | ⟨a1, a2⟩ <;> rcases old h2 h4 with ⟨_, b1, b2, b3⟩ | ⟨b1, b2⟩
    · exact J.inj i j xs ys a a1 b1 a2 b2
    · exact absurd b2 a3
    · exact absurd a2 b3
    · rw [a1, b1]
/-- what is held aside last -/
theorem Cur.last {acc : List D} {p : Addr} (C : Cur c F0 F ρ st (te ++ [.own acc]) σ (τ ++ [some (.ref p)]) H) (hl : te.length = τ.length) : F p = none ∧ c.H0 p = none ∧ ¬ c.R.M p ∧ ∃ vs, H p = some (.lst vs) ∧ DenL c.rc F acc vs := by
  have e1 : (ρ ++ (te ++ [.own acc]))[ρ.length + te.length]? = some (.own acc) := by
    rw [← List.append_assoc, ← List.length_append, List.getElem?_append_right (Nat.le_refl _), Nat.sub_self]; rfl
  have e2 : (σ ++ (τ ++ [some (V.ref p)]))[ρ.length + te.length]? = some (some (.ref p)) := by
    rw [← List.append_assoc, C.len, hl, ← List.length_append, List.getElem?_append_right (Nat.le_refl _), Nat.sub_self]; rfl
  obtain ⟨b, vs, e, f, n, m, q, r⟩ := C.sim.slot _ _ _ e1 e2
  cases e
  exact ⟨f, n, m, vs, q, r⟩
theorem Cur.push {acc : List D} {p : Addr} {d : D} {v : V} {vs : List V} (C : Cur c F0 F ρ st (te ++ [.own acc]) σ (τ ++ [some (.ref p)]) H) (hl : te.length = τ.length) (hp : H p = some (.lst vs)) (dv : Den c.rc F d v) :
    Cur c F0 F ρ st (te ++ [.own (acc ++ [d])]) σ (τ ++ [some (.ref p)]) (upd H p (.lst (vs ++ [v]))) := by
  obtain ⟨_, _, _, us, hq, r⟩ := C.last hl
  rw [hp] at hq; cases hq
  have e1 : (ρ ++ (te ++ [.own acc]))[ρ.length + te.length]? = some (.own acc) := by
    rw [← List.append_assoc, ← List.length_append, List.getElem?_append_right (Nat.le_refl _), Nat.sub_self]; rfl
  have e2 : (σ ++ (τ ++ [some (V.ref p)]))[ρ.length + te.length]? = some (some (.ref p)) := by
    rw [← List.append_assoc, C.len, hl, ← List.length_append, List.getElem?_append_right (Nat.le_refl _), Nat.sub_self]; rfl
  have J := C.sim.write (ys := acc ++ [d]) (us := vs ++ [v]) e1 e2 (r.append ⟨v, [], rfl, dv, rfl⟩)
  refine ⟨C.len, ?_⟩
  have e3 : (ρ ++ (te ++ [Sl.own acc])).set (ρ.length + te.length) (.own (acc ++ [d])) = ρ ++ (te ++ [.own (acc ++ [d])]) := by
    rw [← List.append_assoc, ← List.length_append, List.set_append_right _ _ (Nat.le_refl _), Nat.sub_self, ← List.append_assoc]; rfl
  rw [e3] at J
  exact J
/-- behind a comprehension: the names as ahead of it, the new list is nobody's -/
theorem Cur.back {F1 H1 : Hp} {st1 : S} {acc : List D} {p : Addr} {vs : List Nat} (C1 : Cur c F0 F1 ρ st1 te σ τ H1) (hv : ∀ i ∈ vs, ∀ xs, ρ[i]? ≠ some (.own xs)) (hl : te.length = τ.length)
    (C : Cur c F1 F (wipeE ρ vs) st (te ++ [.own acc]) (L2.wipe σ vs) (τ ++ [some (.ref p)]) H) : Cur c F0 F ρ st te σ τ H ∧ Fresh c F (ρ ++ te) (σ ++ τ) H acc p := by
  have I := C.sim
  have I1 := C1.sim
  obtain ⟨f, n, m, q⟩ := C.last hl
  have lr := C1.len
  have tr : ∀ {i : Nat} {s : Sl} {x : Option V}, (ρ ++ te)[i]? = some s → (σ ++ τ)[i]? = some x → (i ∈ vs ∧ i < ρ.length) ∨ ((wipeE ρ vs ++ (te ++ [Sl.own acc]))[i]? = some s ∧ (L2.wipe σ vs ++ (τ ++ [some (V.ref p)]))[i]? = some x) := fun {i s x} h1 h2 => by
    by_cases hi : i < ρ.length
    · by_cases hm : i ∈ vs
      · exact .inl ⟨hm, hi⟩
      · refine .inr ⟨?_, ?_⟩
        · rw [List.getElem?_append_left (by rw [wipeE_len]; exact hi), wipeE_out hm]
          rw [List.getElem?_append_left hi] at h1; exact h1
        · rw [List.getElem?_append_left (by rw [L2.wipe_length, ← lr]; exact hi), wipeS_out hm]
          rw [List.getElem?_append_left (lr ▸ hi)] at h2; exact h2
    · refine .inr ⟨?_, ?_⟩
      · rw [List.getElem?_append_right (by omega)] at h1
        rw [List.getElem?_append_right (by rw [wipeE_len]; omega), wipeE_len]
        have := (List.getElem?_eq_some_iff.mp h1).1
        rw [List.getElem?_append_left this]; exact h1
      · rw [List.getElem?_append_right (by omega)] at h2
        rw [List.getElem?_append_right (by rw [L2.wipe_length]; omega), L2.wipe_length]
        have := (List.getElem?_eq_some_iff.mp h2).1
        rw [List.getElem?_append_left this]; exact h2
  refine ⟨⟨lr, I.keep, I1.f0.trans I.f0, I.fh, fun a o e => ?_, I.fM, I.reg, I1.len, fun i s x h1 h2 => ?_, I1.inj⟩, f, n, m, q, fun j ys h1 h2 => ?_⟩
  · rcases I.fnew a o e with z | z
    · exact I1.fnew a o z
    · exact .inr z
  · rcases tr h1 h2 with ⟨hm, hi⟩ | ⟨a, b⟩
    · have z := I1.slot i s x h1 h2
      cases s with
      | un => trivial
      | val d => obtain ⟨v, e, w⟩ := z; exact ⟨v, e, w.sub I.f0⟩
      | own ys =>
        rw [List.getElem?_append_left hi] at h1
        exact absurd h1 (hv i hm ys)
    · exact I.slot i s x a b
  · rcases tr h1 h2 with ⟨hm, hi⟩ | ⟨a, b⟩
    · rw [List.getElem?_append_left hi] at h1
      exact hv j hm ys h1
    · have e1 : (wipeE ρ vs ++ (te ++ [Sl.own acc]))[ρ.length + te.length]? = some (.own acc) := by
        have e : ρ.length + te.length = (wipeE ρ vs ++ te).length := by rw [List.length_append, wipeE_len]
        rw [e, ← List.append_assoc, List.getElem?_append_right (Nat.le_refl _), Nat.sub_self]; rfl
      have e2 : (L2.wipe σ vs ++ (τ ++ [some (V.ref p)]))[ρ.length + te.length]? = some (some (.ref p)) := by
        have e : ρ.length + te.length = (L2.wipe σ vs ++ τ).length := by rw [List.length_append, L2.wipe_length, lr, hl]
        rw [e, ← List.append_assoc, List.getElem?_append_right (Nat.le_refl _), Nat.sub_self]; rfl
      have e := I.inj _ _ _ _ _ a e1 b e2
      have := (List.getElem?_eq_some_iff.mp h1).1
      rw [List.length_append] at this
      omega
theorem Cur.tl (C : Cur c F0 F ρ st te σ τ H) : te.length = τ.length := by
  have h := C.sim.len
  rw [List.length_append, List.length_append, C.len] at h
  omega
end
end Pv

end
section
set_option linter.all false
set_option maxRecDepth 100000
set_option maxHeartbeats 4000000
/-! Pv12: list comprehensions are sound. -/
namespace Pv
open PySem PySem.Spec PyProof.Rows L2
section
variable {S : Type} {Γ : Nat → Ct S} {c : Set S} {W : WX}
variable {X : Cx} {cs : Cs} {F0 F H : Hp} {ρ te : Env} {st : S} {σ τ : List (Option V)}
theorem Good.blk (G : Good X cs c Γ) {scope : Scope} (s : Shared) (H : Hp) (C : Addr) (cl : List (Str × Addr)) (fp : List Addr) :
    Good (X.blk s H scope (compEnvC scope cl C X.env) fp) { cs with sc := relS scope cs.sc } c Γ :=
  ⟨G.N, by rw [← G.sc]; rfl, G.nd, G.K, G.mg, G.calm, G.hu, G.hg, G.cons, G.blt, G.funs, G.kfs⟩
theorem Good.sto (G : Good X cs c Γ) {scope : Scope} (s : Shared) (H : Hp) (C : Addr) (cl : List (Str × Addr)) (fp : List Addr) :
    Sto (X.blk s H scope (compEnvC scope cl C X.env) fp) cs.N scope := by
  refine ⟨G.N, G.nd, G.calm, fun x h => ?_⟩
  rcases h with h | h
  · have e : (relS scope X.env.scope).names.lookup x = some .local := lookup_relS_keep (by decide) h
    exact ⟨.inl e, .inr e⟩
  · have e : (relS scope X.env.scope).names.lookup x = some .cell := lookup_relS_keep (by decide) h
    refine ⟨.inr e, .inl ?_⟩
    show (scope.names.lookup x == some .cell) = true
    rw [h]; rfl
theorem cTgs_in {N : List Str} {sc : Scope} : ∀ {es : List Expr} {is : List Nat}, cTgs N sc es = some is → ∀ i ∈ is, ∃ x, N[i]? = some x
  | [], is, h, i, hi => by cases h; cases hi
  | .Name x pos :: es, is, h, i, hi => by
    unfold cTgs at h
    split at h
    · rename_i j l e1 e2
      cases h
      rcases List.mem_cons.mp hi with rfl | hi
      · exact ⟨x, (nmIx_ok e1).1⟩
      · exact cTgs_in e2 i hi
    · cases h
theorem cTg_in {N : List Str} {sc : Scope} {tg : Expr} {g : Tg} (h : cTg N sc tg = some g) : ∀ i ∈ g.ixs, i ∈ (ownOf N g).map (·.2) := by
  have key : ∀ i ∈ g.ixs, ∃ x, N[i]? = some x := by
    unfold cTg at h
    split at h
    · rename_i x pos
      cases e : nmIx N sc x with
      | none => rw [e] at h; cases h
      | some j =>
        rw [e] at h; cases h
        intro i hi
        obtain rfl : i = j := List.mem_singleton.mp hi
        exact ⟨x, (nmIx_ok e).1⟩
    · rename_i es k pos
      cases e : cTgs N sc es with
      | none => rw [e] at h; cases h
      | some is =>
        rw [e] at h; cases h
        intro i hi
        have e3 : (Tg.t (is.map .n)).ixs = is := ixsL_n is
        rw [e3] at hi
        exact cTgs_in e i hi
    · cases h
  intro i hi
  obtain ⟨x, hx⟩ := key i hi
  exact List.mem_map.mpr ⟨(x, i), List.mem_filterMap.mpr ⟨i, hi, by rw [hx]; rfl⟩, rfl⟩
/-- a test in a comprehension's block -/
def uC (Γ : Nat → Ct S) (c : Set S) : Os → TT
  | .nil => tYes
  | .x x _ => uT Γ c (fun _ _ _ _ => False) x
  | .p _ _ => fun _ _ _ => False
theorem wipeE_set {ρ : Env} {i : Nat} {x : Sl} : ∀ {vs : List Nat}, i ∈ vs → wipeE (ρ.set i x) vs = wipeE ρ vs
  | [], h => by cases h
  | v :: vs, h => by
    show (wipeE (ρ.set i x) vs).set v .un = (wipeE ρ vs).set v .un
    by_cases hi : i ∈ vs
    · rw [wipeE_set hi]
    · have hv : i = v := (List.mem_cons.mp h).resolve_right hi
      have com : ∀ (us : List Nat), i ∉ us → wipeE (ρ.set i x) us = (wipeE ρ us).set i x := fun us => by
        induction us with
        | nil => intro _; rfl
        | cons u us ih =>
          intro hu
          rw [List.mem_cons, not_or] at hu
          show (wipeE (ρ.set i x) us).set u .un = ((wipeE ρ us).set u .un).set i x
          rw [ih hu.2, List.set_comm _ _ (Ne.symm hu.1)]
      rw [com vs hi, hv, List.set_set]
theorem wipeE_wipe {ρ : Env} : ∀ {vs us : List Nat}, (∀ i ∈ us, i ∈ vs) → wipeE (wipeE ρ us) vs = wipeE ρ vs
  | vs, [], _ => rfl
  | vs, u :: us, h => by
    show wipeE ((wipeE ρ us).set u .un) vs = _
    rw [wipeE_set (h u List.mem_cons_self)]
    exact wipeE_wipe fun i hi => h i (List.mem_cons_of_mem _ hi)
theorem binds_wipe : ∀ {is : List Nat} {ds : List D} {ρ ρ' : Env} {vs : List Nat}, (∀ i ∈ is, i ∈ vs) → Tg.binds (is.map .n) ds ρ = some ρ' → wipeE ρ' vs = wipeE ρ vs
  | [], [], ρ, ρ', vs, _, h => by rw [show ρ = ρ' from Option.some.inj h]
  | [], _ :: _, _, _, _, _, h => by simp [Tg.binds] at h
  | _ :: _, [], _, _, _, _, h => by simp [Tg.binds] at h
  | i :: is, d :: ds, ρ, ρ', vs, hi, h => by
    have h : Tg.binds (is.map .n) ds (ρ.set i (.val d)) = some ρ' := h
    rw [binds_wipe (fun j hj => hi j (List.mem_cons_of_mem _ hj)) h, wipeE_set (hi i List.mem_cons_self)]
theorem bind_wipe {N : List Str} {sc : Scope} {tg : Expr} {g : Tg} (h : cTg N sc tg = some g) {d : D} {ρ ρ' : Env} {vs : List Nat} (hv : ∀ i ∈ g.ixs, i ∈ vs) (hb : g.bind d ρ = some ρ') : wipeE ρ' vs = wipeE ρ vs := by
  unfold cTg at h
  split at h
  · rename_i x pos
    cases e : nmIx N sc x with
    | none => rw [e] at h; cases h
    | some j =>
      rw [e] at h; cases h
      cases hb
      exact wipeE_set (hv j (List.mem_singleton.mpr rfl))
  · rename_i es k pos
    cases e : cTgs N sc es with
    | none => rw [e] at h; cases h
    | some is =>
      rw [e] at h; cases h
      have e3 : (Tg.t (is.map .n)).ixs = is := ixsL_n is
      rw [e3] at hv
      cases d with
      | tup ds => exact binds_wipe hv hb
      | _ => cases hb
  · cases h
/-- a new list that nobody else holds -/
def uN (Γ : Nat → Ct S) (c : Set S) (W : WX) (x : Pv.X) : TE := fun σ H Q => ∃ F0 F ρ st te τ Qd Ed, Cur c F0 F ρ st te σ τ H ∧ wpX Γ x ρ st Qd Ed ∧
  (∀ xs ρ' st' F' H', Qd (.lst xs) ρ' st' → Cur c F0 F' ρ' st' te σ τ H' → Ext c F H F' H' → ∀ p, Fresh c F' (ρ' ++ te) (σ ++ τ) H' xs p → Q (.ref p) H') ∧ EImp c W F0 te σ τ Ed
/-- one turn of a comprehension -/
def turnW (Γ : Nat → Ct S) (l : Os) (x : Pv.X) : Env → S → (Env → S → Prop) → (D → S → Prop) → Prop := fun ρ1 st1 skip keep => wpO Γ l ρ1 st1 (fun bs ρ2 st2 => match bs with
          | [] => wpX Γ x ρ2 st2 (fun y ρ3 st3 => ρ3 = ρ1 ∧ keep y st3) fun _ _ _ => False
          | [b] => (match b.truth with
            | some true => wpX Γ x ρ2 st2 (fun y ρ3 st3 => ρ3 = ρ1 ∧ keep y st3) fun _ _ _ => False
            | some false => skip ρ2 st2
            | none => False)
          | _ => False) fun _ _ _ => False
theorem comp_R {f' : Expr → Option Pv.X} {N : List Str} {sc : Scope} {ifs : List Expr} {tg : Expr} {it : It} {g : Tg} {x : Pv.X} {l : Os} {fz : List Nat} (hg : cTg N sc tg = some g) (hl' : AsOf f' ifs l) (h1 : ifs.length ≤ 1) {σ : L2.St} {H : Hp} {Q : VK}
    (hw : uN Γ c W (.comp fz ((ownOf N g).map (·.2)) g it l x) σ H Q) : tLc (uI Γ c W it) (uG c g) (uC Γ c l) (uE Γ c (fun _ _ _ _ => False) x) ((ownOf N g).map (·.2)) σ H Q := by
  obtain ⟨F0, F, ρ, st, te, τ, Qd, Ed, C, w, k, ei⟩ := hw
  refine ⟨F0, F, ρ, st, te, τ, _, Ed, C, w, fun ds ρ1 st1 J F1 H1 w1 C1 x1 go => ?_, ei⟩
  intro p hp0
  obtain ⟨F2, C2, x2⟩ := C1.freezeL (fz := (ownOf N g).map (·.2) ++ fz)
  obtain ⟨vs, hvs⟩ : ∃ vs, (ownOf N g).map (·.2) = vs := ⟨_, rfl⟩
  rw [hvs] at C2 w1 ⊢
  obtain ⟨ρf, hρf⟩ : ∃ ρf, freezeL (vs ++ fz) ρ1 = ρf := ⟨_, rfl⟩
  rw [hρf] at C2 w1
  have hno : ∀ i ∈ vs, ∀ xs, ρf[i]? ≠ some (.own xs) := fun i hi xs => by
    rw [← hρf]; exact freezeL_at _ (List.mem_append_left _ hi) xs
  have tl := C1.tl
  have nm : ∀ {H' : Hp} {F' : Hp} {st' : S} {acc : List D}, Cur c F2 F' (wipeE ρf vs) st' (te ++ [.own acc]) (L2.wipe σ vs) (τ ++ [some (.ref p)]) H' → Cur c F0 F' ρf st' te σ τ H' ∧ Fresh c F' (ρf ++ te) (σ ++ τ) H' acc p := fun C' => C2.back hno tl C'
  refine ⟨fun i m H' => m = ds.length - i ∧ i ≤ ds.length ∧ ∃ F' st' acc, Cur c F2 F' (wipeE ρf vs) st' (te ++ [.own acc]) (L2.wipe σ vs) (τ ++ [some (.ref p)]) H' ∧ Sub F2 F' ∧ (∀ a o, H1 a = some o → ¬ c.R.M a → H' a = some o) ∧
      compW (turnW Γ l x)
        g (wipeE ρf vs) (ds.drop i) st' acc fun ys st2 => Qd (.lst ys) ρf st2, ⟨ds.length, by omega, Nat.zero_le _, F2, st1, [], ?_, Sub.refl _, fun a o e m => Sub.upd hp0 a o e, w1⟩, fun i m H' hW => ?_⟩
  · have Cw := (C2.wipe vs).aside hp0
    exact ⟨Cw.len, Cw.sim.keep, Sub.refl _, Cw.sim.fh, fun a o e => .inl e, Cw.sim.fM, Cw.sim.reg, Cw.sim.len, Cw.sim.slot, Cw.sim.inj⟩
  · obtain ⟨em, hi, F', st', acc, C', s', hk, hw'⟩ := hW
    have gi := go F2 F' _ st' _ _ _ H' C' (x2.f.trans s') i
    by_cases hlt : i < ds.length
    · right
      obtain ⟨d, hd⟩ : ∃ d, ds[i]? = some d := ⟨ds[i], by simp [hlt]⟩
      obtain ⟨jgo, jy⟩ := gi.1 d hd
      have hdrop : ds.drop i = d :: ds.drop (i + 1) := by
        rw [List.drop_eq_getElem_cons hlt]
        rw [List.getElem?_eq_getElem hlt] at hd
        cases hd; rfl
      rw [hdrop] at hw'
      unfold compW at hw'
      cases hbind : g.bind d (wipeE ρf vs) with
      | none => rw [hbind] at hw'; exact hw'.elim
      | some ρt =>
        rw [hbind] at hw'
        obtain ⟨Nx, hNx⟩ : ∃ Nx : Hp → Prop, Nx = fun H'' => ∃ F'' st'' acc'', Cur c F2 F'' (wipeE ρf vs) st'' (te ++ [.own acc'']) (L2.wipe σ vs) (τ ++ [some (.ref p)]) H'' ∧ Sub F2 F'' ∧ (∀ a o, H1 a = some o → ¬ c.R.M a → H'' a = some o) ∧ compW (turnW Γ l x) g (wipeE ρf vs) (ds.drop (i + 1)) st'' acc'' fun ys st2 => Qd (.lst ys) ρf st2 := ⟨_, rfl⟩
        refine ⟨jgo, Nx, fun H'' hn => by
          rw [hNx] at hn
          obtain ⟨F'', st'', acc'', a1, a2, a3, a4⟩ := hn
          exact ⟨ds.length - (i + 1), by omega, rfl, hlt, F'', st'', acc'', a1, a2, a3, a4⟩, fun xv H2 y => ?_⟩
        obtain ⟨F3, C3, x3, dn⟩ := jy xv H2 y
        refine ⟨d, F2, F3, _, st', _, _, ρt, C3, dn, hbind, fun σ' C4 hwp => ⟨?_, ?_⟩⟩
        · rw [hwp vs fun i hi => hvs ▸ cTg_in hg i hi, wipe_wipe fun i hi => hi]
        -- a turn's end
        have ew : wipeE ρt vs = wipeE ρf vs := by
          rw [bind_wipe hg (fun i hi => hvs ▸ cTg_in hg i hi) hbind]; exact wipeE_wipe fun i hi => hi
        have es : L2.wipe σ' vs = L2.wipe σ vs := by
          rw [hwp vs fun i hi => hvs ▸ cTg_in hg i hi, wipe_wipe fun i hi => hi]
        have fin : ∀ {F5 H5 : Hp} {st5 : S} {acc : List D}, Cur c F2 F5 ρt st5 (te ++ [.own acc]) σ' (τ ++ [some (.ref p)]) H5 → Cur c F2 F5 (wipeE ρf vs) st5 (te ++ [.own acc]) (L2.wipe σ vs) (τ ++ [some (.ref p)]) H5 := fun {F5 H5 st5 acc} C5 => by
          have C6 := C5.wipe vs
          rw [ew, es] at C6
          exact C6
        have elem : ∀ {F4 H4 : Hp} {ρ2 : Env} {st4 : S}, Cur c F2 F4 ρ2 st4 (te ++ [.own acc]) σ' (τ ++ [some (.ref p)]) H4 → Sub F2 F4 → (∀ a o, H1 a = some o → ¬ c.R.M a → H4 a = some o) →
            wpX Γ x ρ2 st4 (fun y ρ3 st3 => ρ3 = ρt ∧ acc.length < sizeLine ∧ compW (turnW Γ l x) g (wipeE ρf vs) (ds.drop (i + 1)) st3 (acc ++ [y]) fun ys st2 => Qd (.lst ys) ρf st2) (fun _ _ _ => False) →
            uE Γ c (fun _ _ _ _ => False) x σ' H4 fun y H5 => ∃ acc, H5 p = some (.lst acc) ∧ acc.length < sizeLine ∧ Nx (upd H5 p (.lst (acc ++ [y]))) := fun {F4 H4 ρ2 st4} C4 s4 h4 w4 => by
          refine ⟨F2, F4, ρ2, st4, _, _, _, _, C4, w4, fun y ρ3 st3 v F5 H5 q C5 x5 dn => ?_, fun _ _ _ _ _ _ _ z => z.elim⟩
          obtain ⟨rfl, lt, q⟩ := q
          have tl5 : te.length = τ.length := tl
          obtain ⟨f5, n5, m5, us, q5, r5⟩ := C5.last tl5
          refine ⟨us, q5, by rw [r5.length]; exact lt, ?_⟩
          rw [hNx]
          refine ⟨F5, st3, _, fin (C5.push tl5 q5 dn), s4.trans x5.f, fun a o e m => ?_, q⟩
          have hne : a ≠ p := fun z => by rw [z, hp0] at e; cases e
          rw [upd_ne hne]
          exact x5.h a o (h4 a o e m) m
        have h2' : ∀ a o, H1 a = some o → ¬ c.R.M a → H2 a = some o := fun a o e m => x3.h a o (hk a o e m) m
        have hwt : wpO Γ l ρt st' (fun bs ρ2 st2 => match bs with
          | [] => wpX Γ x ρ2 st2 (fun y ρ3 st3 => ρ3 = ρt ∧ acc.length < sizeLine ∧ compW (turnW Γ l x) g (wipeE ρf vs) (ds.drop (i + 1)) st3 (acc ++ [y]) fun ys st2 => Qd (.lst ys) ρf st2) fun _ _ _ => False
          | [b] => (match b.truth with
            | some true => wpX Γ x ρ2 st2 (fun y ρ3 st3 => ρ3 = ρt ∧ acc.length < sizeLine ∧ compW (turnW Γ l x) g (wipeE ρf vs) (ds.drop (i + 1)) st3 (acc ++ [y]) fun ys st2 => Qd (.lst ys) ρf st2) fun _ _ _ => False
            | some false => ρ2 = ρt ∧ compW (turnW Γ l x) g (wipeE ρf vs) (ds.drop (i + 1)) st2 acc fun ys st2 => Qd (.lst ys) ρf st2
            | none => False)
          | _ => False) fun _ _ _ => False := hw'
        cases hl' with
        | nil => exact elem C4 (s'.trans x3.f |> fun z => z) h2' hwt
        | x ha hb =>
          cases hb with
          | x _ _ => simp at h1
          | nil =>
            rename_i xc
            refine ⟨F2, F3, ρt, st', _, _, _, _, C4, hwt, fun b ρ2 st2 F4 H4 q C5 x5 => ?_, fun _ _ _ _ _ _ _ z => z.elim⟩
            replace q : (match b.truth with
              | some true => wpX Γ x ρ2 st2 (fun y ρ3 st3 => ρ3 = ρt ∧ acc.length < sizeLine ∧ compW (turnW Γ (.x xc .nil) x) g (wipeE ρf vs) (ds.drop (i + 1)) st3 (acc ++ [y]) fun ys st2 => Qd (.lst ys) ρf st2) fun _ _ _ => False
              | some false => ρ2 = ρt ∧ compW (turnW Γ (.x xc .nil) x) g (wipeE ρf vs) (ds.drop (i + 1)) st2 acc fun ys st2 => Qd (.lst ys) ρf st2
              | none => False) := q
            have s4 : Sub F2 F4 := (s'.trans x3.f).trans x5.f
            have h4 : ∀ a o, H1 a = some o → ¬ c.R.M a → H4 a = some o := fun a o e m => x5.h a o (h2' a o e m) m
            cases eb : b.truth with
            | none => rw [eb] at q; exact q.elim
            | some bb =>
              rw [eb] at q
              refine ⟨bb, rfl, ?_⟩
              cases bb with
              | true =>
                rw [if_pos rfl]
                exact elem C5 s4 h4 q
              | false =>
                rw [if_neg (by decide)]
                obtain ⟨rfl, q⟩ := q
                rw [hNx]
                exact ⟨F4, st2, acc, fin C5, s4, h4, q⟩
    · left
      have e : i = ds.length := by omega
      refine ⟨gi.2 e, ?_⟩
      rw [e, List.drop_length] at hw'
      unfold compW at hw'
      obtain ⟨Cb, fr⟩ := nm C'
      exact k acc ρf st' F' H' hw' Cb ⟨(x1.f.trans x2.f).trans s', fun a o h m => hk a o (x1.h a o h m) m⟩ p fr
theorem comp_F (G : Good X cs c Γ) {f f' : Expr → Option Pv.X} (hf : Fok X Γ c W f)
    {elt tg iter : Expr} {ifs : List Expr} {scope : Scope} {pos : Pos} {it : It} {g : Tg} {x : Pv.X} {l : Os} {fz : List Nat}
    (hf' : ∀ (s : Shared) (H : Hp) (C : Addr) (cl : List (Str × Addr)) (fp : List Addr), Fok (X.blk s H scope (compEnvC scope cl C X.env) fp) Γ c (fun _ _ _ _ => False) f')
    (hg : cTg cs.N scope tg = some g) (ok : blkC cs.N cs.sc scope (ownOf cs.N g) = true) (hi : cIt cs f (isTupE tg) iter = some it) (hx : f' elt = some x) (hl : cAs f' ifs = some l) (h1 : ifs.length ≤ 1)
    (hset : ∀ v, foldedSetIterable iter X.env v = pure v) :
    PE X (.ListComp elt [⟨tg, iter, ifs, 0⟩] scope pos) (uN Γ c W (.comp fz ((ownOf cs.N g).map (·.2)) g it l x)) := by
  have okB : BlkOk X.N X.env.scope scope (ownOf cs.N g) := by rw [G.N, G.sc]; exact blkOk_by ok
  have hnd : X.N.Nodup := by rw [G.N]; exact G.nd
  have hl' := cAs_as hl
  have hp := pe_lc (X := X) (elt := elt) (scope := scope) (pos := pos) (ifs := ifs) (g := uG c g) (tt := uC Γ c l) (te := uE Γ c (fun _ _ _ _ => False) x) G.calm hnd (pi_u G hf hi) okB (fun s H C cl fp => pg_of (G.sto s H C cl fp) G.K hg)
    (fun s H C cl fp => by
      cases hl' with
      | nil => exact pts_nil
      | x a b =>
        cases b with
        | nil => exact pts_one ((hf' s H C cl fp).t _ _ a)
        | x _ _ => simp at h1)
    (fun s H C cl fp => (hf' s H C cl fp).e _ _ hx) hset
  exact PE.weaken hp fun σ H Q hw => comp_R hg hl' h1 hw
/-- name = [..] on one line -/
theorem comp_S (G : Good X cs c Γ) {f f' : Expr → Option Pv.X} (hf : Fok X Γ c W f)
    {elt tg iter : Expr} {ifs : List Expr} {scope : Scope} {pos spos py : Pos} {y : Str} {i : Nat} {it : It} {g : Tg} {x : Pv.X} {l : Os} {fz : List Nat}
    (hk : X.env.scope.kind = .function) (hyN : cs.N[i]? = some y) (hyl : cs.sc.names.lookup y = some .local) (hln : (py.line == pos.line) = true) (hany : (scope.names.any fun (n, k) => n == y && (k == .local || k == .cell)) = false)
    (hf' : ∀ (s : Shared) (H : Hp) (C : Addr) (cl : List (Str × Addr)) (fp : List Addr), Fok (X.blk s H scope (compEnvC scope cl C X.env) fp) Γ c (fun _ _ _ _ => False) f')
    (hg : cTg cs.N scope tg = some g) (ok : blkC cs.N cs.sc scope (ownOf cs.N g) = true) (hi : cIt cs f (isTupE tg) iter = some it) (hx : f' elt = some x) (hl : cAs f' ifs = some l) (h1 : ifs.length ≤ 1)
    (hset : ∀ v, foldedSetIterable iter X.env v = pure v) :
    PS X (.Assign [.Name y py] (.ListComp elt [⟨tg, iter, ifs, 0⟩] scope pos) spos) (tAsg (uN Γ c W (.comp fz ((ownOf cs.N g).map (·.2)) g it l x)) (gName i)) := by
  have okB : BlkOk X.N X.env.scope scope (ownOf cs.N g) := by rw [G.N, G.sc]; exact blkOk_by ok
  have hnd : X.N.Nodup := by rw [G.N]; exact G.nd
  have hl' := cAs_as hl
  have hyl' : X.env.scope.names.lookup y = some .local := by rw [G.sc]; exact hyl
  have hp := ps_setLc (X := X) (elt := elt) (scope := scope) (pos := pos) (spos := spos) (py := py) (ifs := ifs) (g := uG c g) (tt := uC Γ c l) (te := uE Γ c (fun _ _ _ _ => False) x) G.calm hnd (by rw [G.N]; exact hyN) hyl' (sw_true hk hyl' hln hany) (pi_u G hf hi) okB (fun s H C cl fp => pg_of (G.sto s H C cl fp) G.K hg)
    (fun s H C cl fp => by
      cases hl' with
      | nil => exact pts_nil
      | x a b =>
        cases b with
        | nil => exact pts_one ((hf' s H C cl fp).t _ _ a)
        | x _ _ => simp at h1)
    (fun s H C cl fp => (hf' s H C cl fp).e _ _ hx) hset
  exact ⟨fun pins s σ H D I hw => hp.run pins s σ H D I (comp_R hg hl' h1 hw)⟩
theorem uN_F {x : Pv.X} {σ : L2.St} {H : Hp} {Q : VK} (h : uF Γ c W x σ H Q) : uN Γ c W x σ H Q := by
  obtain ⟨F0, F, ρ, st, te, τ, Qd, Ed, C, w, k, ei⟩ := h
  refine ⟨F0, F, ρ, st, te, τ, Qd, Ed, C, w, fun xs ρ1 st1 F1 H1 q C1 x1 p fr => ?_, ei⟩
  obtain ⟨ys, e, r⟩ := k _ ρ1 st1 F1 H1 q C1 x1
  cases e
  exact r p fr
theorem uN_E {x : Pv.X} {σ : L2.St} {H : Hp} {Q : VK} (h : uE Γ c W x σ H Q) : uN Γ c W x σ H Q := by
  obtain ⟨F0, F, ρ, st, te, τ, Qd, Ed, C, w, k, ei⟩ := h
  refine ⟨F0, F, ρ, st, te, τ, Qd, Ed, C, w, fun xs ρ1 st1 F1 H1 q C1 x1 p fr => ?_, ei⟩
  have dn : Done c F0 F1 ρ1 st1 te σ τ H1 (.lst xs) Q := fun v F2 H2 C2 x2 d => k _ ρ1 st1 v F2 H2 q C2 (x1.trans x2) d
  exact dn.fresh p F1 H1 C1 (Ext.refl _ _ _) fr
end
end Pv

end
section
set_option linter.all false
set_option maxRecDepth 100000
set_option maxHeartbeats 4000000
/-! Pv13: compiled expressions are sound. -/
namespace Pv
open PySem PySem.Spec PyProof.Rows L2
section
variable {S : Type} {Γ : Nat → Ct S} {c : Set S} {W : WX}
variable {X : Cx} {cs : Cs} {F0 F H : Hp} {ρ te : Env} {st : S} {σ τ : List (Option V)}
/-! ### truth -/
theorem truth_den {K : PySem.W.Frag} {d : D} {v : V} {b : Bool} (hK : c.K = K) (s : Sub F H) (h : Den c.rc F d v) (e : d.truth = some b) : TruV K v H b := by
  subst hK
  cases d with
  | non => cases h; cases e; rfl
  | bl k => cases h; cases e; rfl
  | int i => cases h; cases e; rfl
  | str x =>
    cases h
    have e : (if x.length ≤ sizeLine then some (x.length != 0) else none) = some b := e
    by_cases hl : x.length ≤ sizeLine
    · rw [if_pos hl] at e
      cases e
      refine ⟨hl, ?_⟩
      rw [Bool.eq_iff_iff]; simp
    · rw [if_neg hl] at e; cases e
  | tup xs =>
    obtain ⟨a, vs, rfl, q, r⟩ := h
    cases e
    refine .inr (.inl ⟨vs, sqT_sub s q, ?_⟩)
    have := r.nil_iff
    rw [Bool.eq_iff_iff]; simp [this]
  | lst xs =>
    obtain ⟨a, vs, rfl, q, r⟩ := h
    cases e
    refine .inl ⟨vs, SqL.of (s _ _ q), ?_⟩
    have := r.nil_iff
    rw [Bool.eq_iff_iff]; simp [this]
  | _ => cases e
theorem uT_E (hK : c.K = X.K) {x : Pv.X} {σ : L2.St} {H : Hp} {Q : Bool → Hp → Prop} (h : uT Γ c W x σ H Q) : uE Γ c W x σ H (fun v H' => ∃ k, TruV X.K v H' k ∧ Q k H') := by
  obtain ⟨F0, F, ρ, st, te, τ, Qd, Ed, C, w, k, ei⟩ := h
  refine ⟨F0, F, ρ, st, te, τ, Qd, Ed, C, w, fun d ρ1 st1 v F1 H1 q C1 x1 dn => ?_, ei⟩
  obtain ⟨b, e, r⟩ := k d ρ1 st1 F1 H1 q C1 x1
  exact ⟨b, truth_den hK C1.sub dn e, r⟩
theorem pt_plain (G : Good X cs c Γ) {e : Expr} {x : Pv.X} (h : PE X e (uE Γ c W x)) (he : ∀ whole, isTrue e X.env whole = (do let v ← whole; standAt e.pos; holding [v] (truthy v))) : PT X e (uT Γ c W x) :=
  PT.weaken (pt_truth h he) fun _ _ _ hw => uT_E G.K hw
theorem op_uT {o : Op} (ho : ∀ ds d, o.sem ds d → ∃ k, d = .bl k) {l : Os} {σ : L2.St} {H : Hp} {Q : Bool → Hp → Prop} (h : uT Γ c W (.op o l) σ H Q) : uO Γ c W l σ H (fun vs H' => rUL c o vs H' fun v H2 => ∃ k, v = .bl k ∧ Q k H2) := by
  obtain ⟨F0, F, ρ, st, te, τ, Qd, Ed, C, w, k, ei⟩ := h
  refine ⟨F0, F, ρ, st, te, τ, _, Ed, C, w, fun ds ρ1 st1 vs F1 H1 w1 C1 x1 dns => ?_, ei⟩
  obtain ⟨d, sem, q⟩ := w1
  obtain ⟨b, rfl⟩ := ho _ _ sem
  refine ⟨F0, F1, ρ1, st1, te, σ, τ, ds, _, C1, dns, sem, fun v F2 H2 C2 x2 dn => ?_⟩
  obtain ⟨b2, e, r⟩ := k _ ρ1 st1 F2 H2 q C2 (x1.trans x2)
  cases e
  cases dn
  exact ⟨_, rfl, r⟩
/-! ### constants, names -/
theorem pe_k {e : Expr} {d : D} {v : V} (hd : scalD d = some v) (h : PE X e (tC v)) : PE X e (uE Γ c W (.k d)) :=
  PE.weaken h fun σ H Q ⟨F0, F, ρ, st, te, τ, Qd, Ed, C, w, k, ei⟩ => k d ρ st v F H w C (Ext.refl _ _ _) (scal_den hd _ _)
theorem pe_v (G : Good X cs c Γ) {y : Str} {pos : Pos} {i : Nat} (h : cs.slot y = some i) : PE X (.Name y pos) (uE Γ c W (.v i)) :=
  PE.weaken (pe_name G h) fun σ H Q ⟨F0, F, ρ, st, te, τ, Qd, Ed, C, w, k, ei⟩ => by
    cases e : ρ[i]? with
    | none =>
      have w : (match ρ[i]? with | some (.val d) => Qd d ρ st | some (.own xs) => Qd (.lst xs) (ρ.set i (.val (.lst xs))) st | _ => False) := w
      rw [e] at w; exact w.elim
    | some s =>
      have w : (match ρ[i]? with | some (.val d) => Qd d ρ st | some (.own xs) => Qd (.lst xs) (ρ.set i (.val (.lst xs))) st | _ => False) := w
      rw [e] at w
      cases s with
      | un => exact w.elim
      | val d =>
        obtain ⟨x, hx, v, rfl, r⟩ := C.at e
        exact ⟨v, hx, k d ρ st v F H w C (Ext.refl _ _ _) r⟩
      | own xs =>
        obtain ⟨p, F', hp, C', x', dn⟩ := C.freeze e
        exact ⟨.ref p, hp, k _ _ st _ F' H w C' x' dn⟩
/-! ### one and two operands -/
variable {f : Expr → Option Pv.X} {a b : Expr} {l : Os} {pos : Pos}
theorem pe_op2 (G : Good X cs c Γ) (hf : Fok X Γ c W f) {op : Operator} {o : Op} (ho : OpR X (binaryOp op) (rU2 c o)) (h : OsOf cs f [a, b] l) : PE X (.BinOp a op b pos) (uE Γ c W (.op o l)) := by
  obtain ⟨ta, tb, ha, hb, k⟩ := opnd2 G hf h
  exact PE.weaken (pe_op ho ha hb) fun σ H Q hw => k σ H _ ((op_uO hw).imp fun vs H1 q x y e => by subst e; exact q)
theorem pe_neg (G : Good X cs c Γ) (hf : Fok X Γ c W f) (h : OsOf cs f [a] l) : PE X (.UnaryOp .USub a pos) (uE Γ c W (.op .neg l)) := by
  obtain ⟨ta, ha, k⟩ := opnd1 G hf h
  exact PE.weaken (pe_un u_neg ha) fun σ H Q hw => k σ H _ ((op_uO hw).imp fun vs H1 q x e => by subst e; exact q)
theorem pe_cmp2 (G : Good X cs c Γ) (hf : Fok X Γ c W f) {op : CmpOp} {o : Op} (ho : OpR X (compareOp op) (rU2 c o)) (hm : behindInMarks op b = false) (h : OsOf cs f [a, b] l) : PE X (.Compare a [op] [b] pos) (uE Γ c W (.op o l)) := by
  obtain ⟨ta, tb, ha, hb, k⟩ := opnd2 G hf h
  exact PE.weaken (pe_cmpR ho ha hb hm) fun σ H Q hw => k σ H _ ((op_uO hw).imp fun vs H1 q x y e => by subst e; exact q)
theorem pt_cmp2 (G : Good X cs c Γ) (hf : Fok X Γ c W f) {op : CmpOp} {o : Op} (hbl : ∀ ds d, o.sem ds d → ∃ k, d = .bl k) (ho : OpR X (compareOp op) (rU2 c o)) (hm : behindInMarks op b = false) (h : OsOf cs f [a, b] l) : PT X (.Compare a [op] [b] pos) (uT Γ c W (.op o l)) := by
  obtain ⟨ta, tb, ha, hb, k⟩ := opnd2 G hf h
  exact PT.weaken (pt_cmpR ho ha hb hm) fun σ H Q hw => k σ H _ ((op_uT hbl hw).imp fun vs H1 q x y e => by subst e; exact q)
theorem pe_is (G : Good X cs c Γ) (hf : Fok X Γ c W f) {op : CmpOp} {o : Op} {j : Nat} {pos2 : Pos} (ho : OpR X (compareOp op) (fun x y H Q => y = .non ∧ rUL c o [x] H Q)) (hm : behindInMarks op (.Constant .none j pos2) = false) (h : OsOf cs f [a] l) : PE X (.Compare a [op] [.Constant .none j pos2] pos) (uE Γ c W (.op o l)) := by
  obtain ⟨ta, ha, k⟩ := opnd1 G hf h
  exact PE.weaken (pe_cmpR ho ha pe_non hm) fun σ H Q hw => k σ H _ ((op_uO hw).imp fun vs H1 q x e => by subst e; exact ⟨rfl, q⟩)
theorem pt_is (G : Good X cs c Γ) (hf : Fok X Γ c W f) {op : CmpOp} {o : Op} {j : Nat} {pos2 : Pos} (hbl : ∀ ds d, o.sem ds d → ∃ k, d = .bl k) (ho : OpR X (compareOp op) (fun x y H Q => y = .non ∧ rUL c o [x] H Q)) (hm : behindInMarks op (.Constant .none j pos2) = false) (h : OsOf cs f [a] l) : PT X (.Compare a [op] [.Constant .none j pos2] pos) (uT Γ c W (.op o l)) := by
  obtain ⟨ta, ha, k⟩ := opnd1 G hf h
  exact PT.weaken (pt_cmpR ho ha pe_non hm) fun σ H Q hw => k σ H _ ((op_uT hbl hw).imp fun vs H1 q x e => by subst e; exact ⟨rfl, q⟩)
theorem pe_ix2 (G : Good X cs c Γ) (hf : Fok X Γ c W f) (hs : PlainIx b) (h : OsOf cs f [a, b] l) : PE X (.Subscript a b pos) (uE Γ c W (.op .ix l)) := by
  obtain ⟨ta, tb, ha, hb, k⟩ := opnd2 G hf h
  exact PE.weaken (pe_ix (u_ix G.K) ha hb hs) fun σ H Q hw => k σ H _ ((op_uO hw).imp fun vs H1 q x y e => by subst e; exact q)
/-! ### displays, builtins -/
theorem op_uA {o : Op} {l : Os} {σ : L2.St} {H : Hp} {Q : VK} (h : uE Γ c W (.op o l) σ H Q) : uA Γ c W l σ H (fun vs H1 => ∃ F0 F ρ st te τ ds d, Cur c F0 F ρ st te σ τ H1 ∧ DenL c.rc F ds vs ∧ o.sem ds d ∧ Done c F0 F ρ st te σ τ H1 d Q) := by
  obtain ⟨F0, F, ρ, st, te, τ, Qd, Ed, C, w, k, ei⟩ := h
  refine ⟨F0, F, ρ, st, te, τ, _, Ed, C, w, fun ds ρ1 st1 vs F1 H1 hl w1 C1 x1 dns => ?_, ei⟩
  obtain ⟨d, sem, q⟩ := w1
  exact ⟨F0, F1, ρ1, st1, te, τ, ds, d, C1, dns, sem, fun v F2 H2 C2 x2 dn => k d ρ1 st1 v F2 H2 q C2 (x1.trans x2) dn⟩
theorem op_uAN {o : Op} {l : Os} {σ : L2.St} {H : Hp} {Q : VK} (h : uN Γ c W (.op o l) σ H Q) : uA Γ c W l σ H (fun vs H1 => ∃ F0 F ρ st te τ ds d, Cur c F0 F ρ st te σ τ H1 ∧ DenL c.rc F ds vs ∧ o.sem ds d ∧ ∀ xs, d = .lst xs → DoneF c F0 F ρ st te σ τ H1 xs Q) := by
  obtain ⟨F0, F, ρ, st, te, τ, Qd, Ed, C, w, k, ei⟩ := h
  refine ⟨F0, F, ρ, st, te, τ, _, Ed, C, w, fun ds ρ1 st1 vs F1 H1 hl w1 C1 x1 dns => ?_, ei⟩
  obtain ⟨d, sem, q⟩ := w1
  exact ⟨F0, F1, ρ1, st1, te, τ, ds, d, C1, dns, sem, fun xs e p F2 H2 C2 x2 fr => by subst e; exact k xs ρ1 st1 F2 H2 q C2 (x1.trans x2) p fr⟩
theorem op_uON {o : Op} {l : Os} {σ : L2.St} {H : Hp} {Q : VK} (hl : ∀ ds d, o.sem ds d → ∃ xs, d = .lst xs) (h : uN Γ c W (.op o l) σ H Q) : uO Γ c W l σ H (fun vs H' => rUF c o vs H' Q) := by
  obtain ⟨F0, F, ρ, st, te, τ, Qd, Ed, C, w, k, ei⟩ := h
  refine ⟨F0, F, ρ, st, te, τ, _, Ed, C, w, fun ds ρ1 st1 vs F1 H1 w1 C1 x1 dns => ?_, ei⟩
  obtain ⟨d, sem, q⟩ := w1
  obtain ⟨xs, rfl⟩ := hl _ _ sem
  exact ⟨F0, F1, ρ1, st1, te, σ, τ, ds, xs, C1, dns, sem, fun p F2 H2 C2 x2 fr => k xs ρ1 st1 F2 H2 q C2 (x1.trans x2) p fr⟩
theorem uA.imp {l : Os} {σ : L2.St} {H : Hp} {Q Q' : List V → Hp → Prop} (h : uA Γ c W l σ H Q) (w : ∀ vs H, Q vs H → Q' vs H) : uA Γ c W l σ H Q' := by
  obtain ⟨F0, F, ρ, st, te, τ, Qd, Ed, C, q, k, ei⟩ := h
  exact ⟨F0, F, ρ, st, te, τ, Qd, Ed, C, q, fun ds ρ1 st1 vs F1 H1 hl w1 C1 x1 dns => w _ _ (k ds ρ1 st1 vs F1 H1 hl w1 C1 x1 dns), ei⟩
theorem pe_tupU (G : Good X cs c Γ) (hf : Fok X Γ c W f) {es : List Expr} {x1 : Nat} (h : AsOf f es l) : PE X (.Tuple es x1 pos) (uE Γ c W (.op .tup l)) := by
  refine PE.weaken (pe_tup (pa_data hf h)) fun σ H Q hw => (op_uA hw).imp fun vs H1 q => ?_
  obtain ⟨F0, F, ρ, st, te, τ, ds, d, C, dn, ⟨hl, rfl⟩, q⟩ := q
  exact ⟨by rw [← dn.len]; exact hl, fun p hp => q.lay C hp fun s => ⟨p, vs, rfl, .inl (.inl upd_same), dn.sub s⟩⟩
theorem pe_lstN (G : Good X cs c Γ) (hf : Fok X Γ c W f) {es : List Expr} (h : AsOf f es l) : PE X (.List es pos) (uN Γ c W (.op .lst l)) := by
  refine PE.weaken (pe_lst (pa_data hf h)) fun σ H Q hw => (op_uAN hw).imp fun vs H1 q => ?_
  obtain ⟨F0, F, ρ, st, te, τ, ds, d, C, dn, ⟨hl, rfl⟩, q⟩ := q
  exact ⟨by rw [← dn.len]; exact hl, fun p hp => (q ds rfl).lay C hp dn⟩
theorem pe_bltU (G : Good X cs c Γ) (hf : Fok X Γ c W f) {x : Str} {o : Op} {e : Expr} {es : List Expr} {p : Pos} (hg : cs.glob x = true) (hb : cs.blt.contains x = true) {idS : String} (hv : bootBuiltins x = some (.builtin idS)) (hc : CallR X (.builtin idS) (rUL c o)) (h : OsOf cs f (e :: es) l) :
    PE X (.Call (.Name x p) (e :: es) [] pos) (uE Γ c W (.op o l)) := by
  have hns := h.ns hf
  exact PE.weaken (pe_callB hc (G.gl hg) (G.blt x hb) hv (pa_of G hf h) (Cs.glob_ok hg).2.2 (Cs.glob_ok hg).2.1 (hns e List.mem_cons_self _ _) (plain_of _ _ fun a ha => hns a (List.mem_cons_of_mem _ ha))) fun σ H Q hw => op_uO hw
theorem pe_typU (G : Good X cs c Γ) (hf : Fok X Γ c W f) {x : Str} {o : Op} {e : Expr} {es : List Expr} {p : Pos} (hg : cs.glob x = true) (hb : cs.blt.contains x = true) {T : String} (hv : bootBuiltins x = some (.type T)) (hc : CallR X (.type T) (rUL c o)) (h : OsOf cs f (e :: es) l) :
    PE X (.Call (.Name x p) (e :: es) [] pos) (uE Γ c W (.op o l)) := by
  have hns := h.ns hf
  exact PE.weaken (pe_callTy hc (G.gl hg) (G.blt x hb) hv (pa_of G hf h) (Cs.glob_ok hg).2.2 (Cs.glob_ok hg).2.1 (hns e List.mem_cons_self _ _) (plain_of _ _ fun a ha => hns a (List.mem_cons_of_mem _ ha))) fun σ H Q hw => op_uO hw
/-! ### and, or, not, if -/
variable {xa xb xc : Pv.X} {cond : Expr}
theorem pe_notU (G : Good X cs c Γ) (ha : PE X a (uE Γ c W xa)) : PE X (.UnaryOp .Not a pos) (uE Γ c W (.not xa)) :=
  PE.weaken (pe_notT ha) fun σ H Q ⟨F0, F, ρ, st, te, τ, Qd, Ed, C, w, k, ei⟩ => ⟨F0, F, ρ, st, te, τ, _, Ed, C, w, fun d ρ1 st1 v F1 H1 q C1 x1 dn => by
    obtain ⟨b, e, q⟩ := q
    exact ⟨b, truth_den G.K C1.sub dn e, k _ ρ1 st1 _ F1 H1 q C1 x1 rfl⟩, ei⟩
theorem pt_notU (ha : PT X a (uT Γ c W xa)) : PT X (.UnaryOp .Not a pos) (uT Γ c W (.not xa)) :=
  PT.weaken (pt_not ha) fun σ H Q ⟨F0, F, ρ, st, te, τ, Qd, Ed, C, w, k, ei⟩ => ⟨F0, F, ρ, st, te, τ, _, Ed, C, w, fun d ρ1 st1 F1 H1 q C1 x1 => by
    obtain ⟨b, e, q⟩ := q
    obtain ⟨b2, e2, r⟩ := k _ ρ1 st1 F1 H1 q C1 x1
    cases e2
    exact ⟨b, e, r⟩, ei⟩
theorem PW.weaken {e : Expr} {t t' : TT} (h : PW X e t) (w : ∀ σ H Q, t' σ H Q → t σ H Q) : PW X e t' := ⟨fun wh pins s σ H Q I q => h.run wh pins s σ H Q I (w σ H Q q)⟩
theorem and_ok (G : Good X cs c Γ) (hf : Fok X Γ c W f) : ∀ {es : List Expr} {x : Pv.X}, cBool f .and es = some x → PE X (.BoolOp .And es pos) (uE Γ c W x) ∧ PW X (.BoolOp .And es pos) (uT Γ c W x)
  | [], _, h => by cases h
  | [e], x, h => ⟨pe_one (hf.e _ _ h), pw_and1 (hf.t _ _ h)⟩
  | e :: e2 :: es, x, h => by
    have h : (match f e, cBool f .and (e2 :: es) with | some a, some b => some (.and a b) | _, _ => none) = some x := h
    split at h
    · rename_i xa xb h1 h2
      cases h
      obtain ⟨ke, kt⟩ := and_ok G hf h2
      refine ⟨PE.weaken (pe_andT (hf.e _ _ h1) ke) fun σ H Q ⟨F0, F, ρ, st, te, τ, Qd, Ed, C, w, k, ei⟩ => ⟨F0, F, ρ, st, te, τ, _, Ed, C, w, fun d ρ1 st1 v F1 H1 q C1 x1 dn => ?_, ei⟩,
        PW.weaken (pw_and (hf.t _ _ h1) kt) fun σ H Q ⟨F0, F, ρ, st, te, τ, Qd, Ed, C, w, k, ei⟩ => ⟨F0, F, ρ, st, te, τ, _, Ed, C, w, fun d ρ1 st1 F1 H1 q C1 x1 => ?_, ei⟩⟩
      · cases e : d.truth with
        | none => rw [e] at q; exact q.elim
        | some bb =>
          rw [e] at q
          refine ⟨bb, truth_den G.K C1.sub dn e, ?_⟩
          cases bb with
          | true => rw [if_pos rfl]; exact ⟨F0, F1, ρ1, st1, te, τ, _, Ed, C1, q, fun d2 ρ2 st2 v2 F2 H2 q2 C2 x2 dn2 => k d2 ρ2 st2 v2 F2 H2 q2 C2 (x1.trans x2) dn2, ei⟩
          | false => rw [if_neg (by decide)]; exact k d ρ1 st1 v F1 H1 q C1 x1 dn
      · cases e : d.truth with
        | none => rw [e] at q; exact q.elim
        | some bb =>
          rw [e] at q
          refine ⟨bb, rfl, ?_⟩
          cases bb with
          | true => rw [if_pos rfl]; exact ⟨F0, F1, ρ1, st1, te, τ, _, Ed, C1, q, fun d2 ρ2 st2 F2 H2 q2 C2 x2 => k d2 ρ2 st2 F2 H2 q2 C2 (x1.trans x2), ei⟩
          | false =>
            rw [if_neg (by decide)]
            obtain ⟨b2, e2, r⟩ := k d ρ1 st1 F1 H1 q C1 x1
            rw [e] at e2; cases e2
            exact r
    · cases h
theorem or_ok (G : Good X cs c Γ) (hf : Fok X Γ c W f) : ∀ {es : List Expr} {x : Pv.X}, cBool f .or es = some x → PE X (.BoolOp .Or es pos) (uE Γ c W x) ∧ PW X (.BoolOp .Or es pos) (uT Γ c W x)
  | [], _, h => by cases h
  | [e], x, h => ⟨pe_one (hf.e _ _ h), pw_or1 (hf.t _ _ h)⟩
  | e :: e2 :: es, x, h => by
    have h : (match f e, cBool f .or (e2 :: es) with | some a, some b => some (.or a b) | _, _ => none) = some x := h
    split at h
    · rename_i xa xb h1 h2
      cases h
      obtain ⟨ke, kt⟩ := or_ok G hf h2
      refine ⟨PE.weaken (pe_orT (hf.e _ _ h1) ke) fun σ H Q ⟨F0, F, ρ, st, te, τ, Qd, Ed, C, w, k, ei⟩ => ⟨F0, F, ρ, st, te, τ, _, Ed, C, w, fun d ρ1 st1 v F1 H1 q C1 x1 dn => ?_, ei⟩,
        PW.weaken (pw_or (hf.t _ _ h1) kt) fun σ H Q ⟨F0, F, ρ, st, te, τ, Qd, Ed, C, w, k, ei⟩ => ⟨F0, F, ρ, st, te, τ, _, Ed, C, w, fun d ρ1 st1 F1 H1 q C1 x1 => ?_, ei⟩⟩
      · cases e : d.truth with
        | none => rw [e] at q; exact q.elim
        | some bb =>
          rw [e] at q
          refine ⟨bb, truth_den G.K C1.sub dn e, ?_⟩
          cases bb with
          | false => rw [if_neg (by decide)]; exact ⟨F0, F1, ρ1, st1, te, τ, _, Ed, C1, q, fun d2 ρ2 st2 v2 F2 H2 q2 C2 x2 dn2 => k d2 ρ2 st2 v2 F2 H2 q2 C2 (x1.trans x2) dn2, ei⟩
          | true => rw [if_pos rfl]; exact k d ρ1 st1 v F1 H1 q C1 x1 dn
      · cases e : d.truth with
        | none => rw [e] at q; exact q.elim
        | some bb =>
          rw [e] at q
          refine ⟨bb, rfl, ?_⟩
          cases bb with
          | false => rw [if_neg (by decide)]; exact ⟨F0, F1, ρ1, st1, te, τ, _, Ed, C1, q, fun d2 ρ2 st2 F2 H2 q2 C2 x2 => k d2 ρ2 st2 F2 H2 q2 C2 (x1.trans x2), ei⟩
          | true =>
            rw [if_pos rfl]
            obtain ⟨b2, e2, r⟩ := k d ρ1 st1 F1 H1 q C1 x1
            rw [e] at e2; cases e2
            exact r
    · cases h
theorem if_core {σ : L2.St} {H : Hp} {d : D} {ρ1 : Env} {st1 : S} {A B : Prop} (q : match d.truth with | some true => A | some false => B | none => False) : ∃ bb, d.truth = some bb ∧ (bb = true → A) ∧ (bb = false → B) := by
  cases e : d.truth with
  | none => rw [e] at q; exact q.elim
  | some bb =>
    rw [e] at q
    cases bb with
    | true => exact ⟨true, rfl, fun _ => q, fun z => nomatch z⟩
    | false => exact ⟨false, rfl, fun z => (nomatch z), fun _ => q⟩
theorem pe_ifU (hc : PT X cond (uT Γ c W xc)) (ha : PE X a (uE Γ c W xa)) (hb : PE X b (uE Γ c W xb)) : PE X (.IfExp cond a b pos) (uE Γ c W (.ife xc xa xb)) :=
  PE.weaken (pe_ifExp hc ha hb) fun σ H Q ⟨F0, F, ρ, st, te, τ, Qd, Ed, C, w, k, ei⟩ => ⟨F0, F, ρ, st, te, τ, _, Ed, C, w, fun d ρ1 st1 F1 H1 q C1 x1 => by
    obtain ⟨bb, e, q1, q2⟩ := if_core (S := S) (σ := σ) (H := H) (ρ1 := ρ1) (st1 := st1) q
    refine ⟨bb, e, ?_⟩
    cases bb with
    | true => rw [if_pos rfl]; exact ⟨F0, F1, ρ1, st1, te, τ, _, Ed, C1, q1 rfl, fun d2 ρ2 st2 v2 F2 H2 q2 C2 x2 dn2 => k d2 ρ2 st2 v2 F2 H2 q2 C2 (x1.trans x2) dn2, ei⟩
    | false => rw [if_neg (by decide)]; exact ⟨F0, F1, ρ1, st1, te, τ, _, Ed, C1, q2 rfl, fun d2 ρ2 st2 v2 F2 H2 q2 C2 x2 dn2 => k d2 ρ2 st2 v2 F2 H2 q2 C2 (x1.trans x2) dn2, ei⟩, ei⟩
theorem pt_ifU (hc : PT X cond (uT Γ c W xc)) (ha : PT X a (uT Γ c W xa)) (hb : PT X b (uT Γ c W xb)) : PT X (.IfExp cond a b pos) (uT Γ c W (.ife xc xa xb)) :=
  ⟨fun pins s σ H Q I ⟨F0, F, ρ, st, te, τ, Qd, Ed, C, w, k, ei⟩ => by
    have hw : uT Γ c W xc σ H fun bb H1 => if bb = true then uT Γ c W xa σ H1 Q else uT Γ c W xb σ H1 Q := ⟨F0, F, ρ, st, te, τ, _, Ed, C, w, fun d ρ1 st1 F1 H1 q C1 x1 => by
      obtain ⟨bb, e, q1, q2⟩ := if_core (S := S) (σ := σ) (H := H) (ρ1 := ρ1) (st1 := st1) q
      refine ⟨bb, e, ?_⟩
      cases bb with
      | true => rw [if_pos rfl]; exact ⟨F0, F1, ρ1, st1, te, τ, _, Ed, C1, q1 rfl, fun d2 ρ2 st2 F2 H2 q2 C2 x2 => k d2 ρ2 st2 F2 H2 q2 C2 (x1.trans x2), ei⟩
      | false => rw [if_neg (by decide)]; exact ⟨F0, F1, ρ1, st1, te, τ, _, Ed, C1, q2 rfl, fun d2 ρ2 st2 F2 H2 q2 C2 x2 => k d2 ρ2 st2 F2 H2 q2 C2 (x1.trans x2), ei⟩, ei⟩
    refine isTrue_IfExp (thn (hc.run pins s σ H _ I hw) fun bb s1 ⟨H1, I1, q1⟩ => ?_)
    cases bb with
    | true => exact ha.run pins s1 σ H1 Q I1 q1
    | false => exact hb.run pins s1 σ H1 Q I1 q1⟩
end
end Pv

end
section
set_option linter.all false
set_option maxRecDepth 100000
set_option maxHeartbeats 8000000
/-! Pv14: compiled expressions are sound: the main theorem. -/
namespace Pv
open PySem PySem.Spec PyProof.Rows L2
section
variable {S : Type} {Γ : Nat → Ct S} {c : Set S} {W : WX}
variable {X : Cx} {cs : Cs} {F0 F H : Hp} {ρ te : Env} {st : S} {σ τ : List (Option V)}
variable {f : Expr → Option Pv.X} {a b : Expr} {l : Os} {pos : Pos}
/-! ### slices -/
theorem pe_slc0 (G : Good X cs c Γ) (hf : Fok X Γ c W f) {p2 : Pos} (h : OsOf cs f [a] l) : PE X (.Subscript a (.Slice none none none p2) pos) (uE Γ c W (.op (.slice false false) l)) := by
  obtain ⟨ta, ha, k⟩ := opnd1 G hf h
  exact PE.weaken (pe_slice (u_slice G.K false false) ha po_none po_none) fun σ H Q hw => k σ H _ ((op_uO hw).imp fun vs H1 q x e => by
    subst e
    obtain ⟨F0, F, ρ, st, te, σ, τ, ds, d, C, dn, sem, q⟩ := q
    obtain ⟨d1, rfl, h1⟩ := dn.one
    exact ⟨F0, F, ρ, st, te, σ, τ, d1, d, C, h1, sem, rfl, rfl, q⟩)
theorem pe_slc1 (G : Good X cs c Γ) (hf : Fok X Γ c W f) {i : Expr} {p2 : Pos} (h : OsOf cs f [a, i] l) : PE X (.Subscript a (.Slice (some i) none none p2) pos) (uE Γ c W (.op (.slice true false) l)) := by
  obtain ⟨ta, ti, ha, hi, k⟩ := opnd2 G hf h
  exact PE.weaken (pe_slice (u_slice G.K true false) ha (po_some hi) po_none) fun σ H Q hw => k σ H _ ((op_uO hw).imp fun vs H1 q x y e => by
    subst e
    obtain ⟨F0, F, ρ, st, te, σ, τ, ds, d, C, dn, sem, q⟩ := q
    obtain ⟨d1, d2, rfl, h1, h2⟩ := dn.two
    obtain ⟨lo, hi, e, b1, b2, _⟩ := slice_cases (xs := []) sem
    cases hi with
    | some _ => cases b2
    | none =>
      cases lo with
      | none => cases b1
      | some j =>
        cases e
        exact ⟨j, h2.int, F0, F, ρ, st, te, σ, τ, d1, d, C, h1, sem, rfl, rfl, q⟩)
theorem pe_slc2 (G : Good X cs c Γ) (hf : Fok X Γ c W f) {i : Expr} {p2 : Pos} (h : OsOf cs f [a, i] l) : PE X (.Subscript a (.Slice none (some i) none p2) pos) (uE Γ c W (.op (.slice false true) l)) := by
  obtain ⟨ta, ti, ha, hi, k⟩ := opnd2 G hf h
  exact PE.weaken (pe_slice (u_slice G.K false true) ha po_none (po_some hi)) fun σ H Q hw => k σ H _ ((op_uO hw).imp fun vs H1 q x y e => by
    subst e
    obtain ⟨F0, F, ρ, st, te, σ, τ, ds, d, C, dn, sem, q⟩ := q
    obtain ⟨d1, d2, rfl, h1, h2⟩ := dn.two
    obtain ⟨lo, hi, e, b1, b2, _⟩ := slice_cases (xs := []) sem
    cases lo with
    | some _ => cases b1
    | none =>
      cases hi with
      | none => cases b2
      | some j =>
        cases e
        exact ⟨j, h2.int, F0, F, ρ, st, te, σ, τ, d1, d, C, h1, sem, rfl, rfl, q⟩)
theorem pe_sliceB {r : V → Option Int → Option Int → Hp → VK → Prop} {e lo hi : Expr} {te tl th : TE} {p2 : Pos} (hr : SlR X r) (he : PE X e te) (hl : PE X lo tl) (hu : PE X hi th) :
    PE X (.Subscript e (.Slice (some lo) (some hi) none p2) pos) (fun σ H Q => te σ H fun x H1 => tl σ H1 fun y H2 => th σ H2 fun z H3 => ∃ i j, y = .int i ∧ z = .int j ∧ r x (some i) (some j) H3 Q) := by
  refine ⟨fun pins s σ H Q I h => ?_⟩
  refine Subscript_ (thn (he.run pins s σ H _ I h) fun v s1 ⟨x, H1, I1, r1, q1⟩ => ?_)
  refine wpAny_Slice ?_
  rw [evalPart_some, evalPart_some]
  refine thn (hl.run pins s1 σ H1 _ I1 q1) fun vl s2 ⟨l, H2, I2, pl, q2⟩ => thn (hu.run pins s2 σ H2 _ I2 q2) fun vu s3 ⟨u, H3, I3, pu, i, j, e1, e2, q3⟩ => ?_
  subst e1; subst e2
  rw [evalPart_none]
  refine wpAny_pure ?_
  have pl' : IsPart vl (some i) := by obtain ⟨t, rfl⟩ := pl; exact .int i t
  have pu' : IsPart vu (some j) := by obtain ⟨t, rfl⟩ := pu; exact .int j t
  have I4 : Inv X pins σ H3 { s3 with heap := s3.heap.push { cls := .type "slice", data := .fields #[vl, vu, .none] } } := I3.kept (t' := s3.toks) fun b ob q => Heap.get?_push_of_some _ q
  obtain ⟨T, id, hT, ht, hg⟩ := hr pins { s3 with heap := s3.heap.push { cls := .type "slice", data := .fields #[vl, vu, .none] } } σ H3 x v vl vu (some i) (some j) s3.heap.objs.size Q I4 r1 (Heap.IsSliceOf.new ..) pl' pu' q3
  show wpAny (model X.prog X.w) X.A (subscriptTail e (.Slice (some lo) (some hi) none p2) v (.ref s3.heap.objs.size)) (EP X pins σ Q) X.xe { s3 with heap := s3.heap.push { cls := .type "slice", data := .fields #[vl, vu, .none] } }
  exact tail_any (ops := [.ref s3.heap.objs.size, v]) ht hT hg (by with_unfolding_all rfl)
/-- three operands -/
theorem opnd3 (G : Good X cs c Γ) (hf : Fok X Γ c W f) {a b e3 : Expr} {l : Os} (h : OsOf cs f [a, b, e3] l) : ∃ ta tb tc, PE X a ta ∧ PE X b tb ∧ PE X e3 tc ∧ ∀ (σ : L2.St) (H : Hp) (R : V → V → V → Hp → Prop),
    uO Γ c W l σ H (fun vs H' => ∀ x y z, vs = [x, y, z] → R x y z H') → ta σ H fun x H1 => tb σ H1 fun y H2 => tc σ H2 fun z H3 => R x y z H3 := by
  cases h with
  | x h1 h2 =>
    obtain ⟨tb, tc, hb, hc, kb⟩ := opnd2 G hf h2
    refine ⟨_, tb, tc, hf.e _ _ h1, hb, hc, fun σ H R ⟨F0, F, ρ, st, te, τ, Qd, Ed, C, w, k, ei⟩ => ⟨F0, F, ρ, st, te, τ, _, Ed, C, w, fun d ρ1 st1 v F1 H1 w1 C1 x1 dn => ?_, ei⟩⟩
    refine kb σ H1 _ ⟨F0, F1, ρ1, st1, te, τ, _, Ed, C1, w1, fun ds ρ2 st2 vs F2 H2 w2 C2 x2 dns => ?_, ei⟩
    exact fun y z e => k (d :: ds) ρ2 st2 (v :: vs) F2 H2 w2 C2 (x1.trans x2) ⟨v, vs, rfl, .inl (dn.sub x2.f), dns⟩ v y z (by rw [e])
  | p h1 h2 =>
    rename_i y pos i r
    obtain ⟨tb, tc, hb, hc, kb⟩ := opnd2 G hf h2
    refine ⟨_, tb, tc, pe_name G h1, hb, hc, fun σ H R ⟨F0, F, ρ, st, te, τ, Qd, Ed, C, w, k, ei⟩ => ?_⟩
    obtain ⟨ps, w⟩ := (show (peek ρ i).isSome = true ∧ wpO Γ r ρ st (fun ds ρ' st' => match peek ρ' i with | some d => Qd (d :: ds) ρ' st' | none => False) Ed from w)
    obtain ⟨v, hv⟩ := peek_at C ps
    refine ⟨v, hv, kb σ H _ ⟨F0, F, ρ, st, te, τ, _, Ed, C, w, fun ds ρ2 st2 vs F2 H2 w2 C2 x2 dns => ?_, ei⟩⟩
    cases z : peek ρ2 i with
    | none => rw [z] at w2; exact w2.elim
    | some d =>
      rw [z] at w2
      exact fun y z' e => k (d :: ds) ρ2 st2 (v :: vs) F2 H2 w2 C2 x2 ⟨v, vs, rfl, peek_den C2 z hv, dns⟩ v y z' (by rw [e])
theorem DenTL.three {ds : List D} {x y z : V} (h : DenTL c F H ds [x, y, z]) : ∃ d e g, ds = [d, e, g] ∧ DenT c F H d x ∧ DenT c F H e y ∧ DenT c F H g z := by
  cases ds with
  | nil => cases h
  | cons d ds =>
    obtain ⟨v, r, e, h1, h2⟩ := h
    cases e
    obtain ⟨e1, e2, rfl, h3, h4⟩ := DenTL.two h2
    exact ⟨d, e1, e2, rfl, h1, h3, h4⟩
theorem pe_slc3 (G : Good X cs c Γ) (hf : Fok X Γ c W f) {i j : Expr} {p2 : Pos} (h : OsOf cs f [a, i, j] l) : PE X (.Subscript a (.Slice (some i) (some j) none p2) pos) (uE Γ c W (.op (.slice true true) l)) := by
  obtain ⟨ta, ti, tj, ha, hi, hj, k⟩ := opnd3 G hf h
  exact PE.weaken (pe_sliceB (u_slice G.K true true) ha hi hj) fun σ H Q hw => k σ H _ ((op_uO hw).imp fun vs H1 q x y z e => by
    subst e
    obtain ⟨F0, F, ρ, st, te, σ, τ, ds, d, C, dn, sem, q⟩ := q
    obtain ⟨d1, d2, d3, rfl, h1, h2, h3⟩ := dn.three
    obtain ⟨lo, hi, e, b1, b2, _⟩ := slice_cases (xs := []) sem
    cases lo with
    | none => cases b1
    | some m =>
      cases hi with
      | none => cases b2
      | some n =>
        cases e
        exact ⟨m, n, h2.int, h3.int, F0, F, ρ, st, te, σ, τ, d1, d, C, h1, sem, rfl, rfl, q⟩)
/-! ### chains, isinstance -/
variable {xa xb xc : Pv.X} {e3 : Expr}
theorem pe_chainU (hf : Fok X Γ c W f) {op op' : CmpOp} {o o' : Op} (ho : OpR X (compareOp op) (rU2 c o)) (ho' : OpR X (compareOp op') (rU2 c o')) (hm : lastMarks [op, op'] [b, e3] = false) (ha : f a = some xa) (hb : f b = some xb) (hc : f e3 = some xc) :
    PE X (.Compare a [op, op'] [b, e3] pos) (uE Γ c W (.chain o o' xa xb xc)) ∧ PT X (.Compare a [op, op'] [b, e3] pos) (uT Γ c W (.chain o o' xa xb xc)) := by
  have core : ∀ (σ : L2.St) (H : Hp) (Q : VK), (∃ F0 F ρ st te τ Qd Ed, Cur c F0 F ρ st te σ τ H ∧ wpX Γ (.chain o o' xa xb xc) ρ st Qd Ed ∧ (∀ b ρ' st' F' H', Qd (.bl b) ρ' st' → Cur c F0 F' ρ' st' te σ τ H' → Ext c F H F' H' → Q (.bl b) H') ∧ EImp c W F0 te σ τ Ed) →
      tChain (rU2 c o) (rU2 c o') (uE Γ c W xa) (uE Γ c W xb) (uE Γ c W xc) σ H Q := fun σ H Q ⟨F0, F, ρ, st, te, τ, Qd, Ed, C, w, k, ei⟩ => by
    refine ⟨F0, F, ρ, st, te, τ, _, Ed, C, w, fun d1 ρ1 st1 v1 F1 H1 w1 C1 x1 dn1 => ?_, ei⟩
    refine ⟨F0, F1, ρ1, st1, te, τ, _, Ed, C1, w1, fun d2 ρ2 st2 v2 F2 H2 w2 C2 x2 dn2 => ?_, ei⟩
    obtain ⟨kb, sem, w2⟩ := w2
    refine ⟨F0, F2, ρ2, st2, te, σ, τ, [d1, d2], _, C2, ⟨v1, _, rfl, .inl (dn1.sub x2.f), v2, _, rfl, .inl dn2, rfl⟩, sem, fun v F3 H3 C3 x3 dn3 => ?_⟩
    cases dn3
    refine ⟨kb, rfl, ?_⟩
    cases kb with
    | false => rw [if_neg (by decide)]; exact k _ ρ2 st2 F3 H3 w2 C3 ((x1.trans x2).trans x3)
    | true =>
      rw [if_pos rfl]
      refine ⟨F0, F3, ρ2, st2, te, τ, _, Ed, C3, w2, fun d3 ρ4 st4 v4 F4 H4 w4 C4 x4 dn4 => ?_, ei⟩
      obtain ⟨j, sem2, w4⟩ := w4
      refine ⟨F0, F4, ρ4, st4, te, σ, τ, [d2, d3], _, C4, ⟨v2, _, rfl, .inl (dn2.sub (x3.f.trans x4.f)), v4, _, rfl, .inl dn4, rfl⟩, sem2, fun v F5 H5 C5 x5 dn5 => ?_⟩
      cases dn5
      exact k _ ρ4 st4 F5 H5 w4 C5 ((((x1.trans x2).trans x3).trans x4).trans x5)
  refine ⟨PE.weaken (pe_chain ho ho' (hf.e _ _ ha) (hf.e _ _ hb) (hf.e _ _ hc) hm) fun σ H Q ⟨F0, F, ρ, st, te, τ, Qd, Ed, C, w, k, ei⟩ => core σ H Q ⟨F0, F, ρ, st, te, τ, Qd, Ed, C, w, fun b ρ1 st1 F1 H1 q C1 x1 => k _ ρ1 st1 _ F1 H1 q C1 x1 rfl, ei⟩,
    PT.weaken (pt_chain ho ho' (hf.e _ _ ha) (hf.e _ _ hb) (hf.e _ _ hc) hm) fun σ H Q ⟨F0, F, ρ, st, te, τ, Qd, Ed, C, w, k, ei⟩ => core σ H _ ⟨F0, F, ρ, st, te, τ, Qd, Ed, C, w, fun b ρ1 st1 F1 H1 q C1 x1 => ?_, ei⟩⟩
  obtain ⟨b2, e, r⟩ := k _ ρ1 st1 F1 H1 q C1 x1
  cases e
  exact ⟨_, rfl, r⟩
theorem pe_isi (G : Good X cs c Γ) (hf : Fok X Γ c W f) {t : Str} {ty : Ty} {p p2 : Pos} (hg : cs.glob "isinstance" = true) (hb : cs.blt.contains "isinstance" = true) (hg2 : cs.glob t = true) (hb2 : cs.blt.contains t = true) (ht : bootBuiltins t = some (.type ty.nm)) (h : OsOf cs f [a] l) :
    PE X (.Call (.Name "isinstance" p) [a, .Name t p2] [] pos) (uE Γ c W (.op (.isi [ty]) l)) := by
  obtain ⟨ta, ha, k⟩ := opnd1 G hf h
  have hns := h.ns hf
  have h2 : PE X (.Name t p2) (tC (.ty ty.nm)) := pe_bltn (G.gl hg2) (G.blt t hb2) ht (by rfl) (Cs.glob_ok hg2).2.2 (Cs.glob_ok hg2).2.1
  refine PE.weaken (pe_callB (u_isi1 (c := c) G.K ty) (G.gl hg) (G.blt _ hb) (by decide +kernel) (pa_cons ha (pa_cons h2 pa_nil (ns_name _ _)) (hns a List.mem_cons_self _ _)) (Cs.glob_ok hg).2.2 (Cs.glob_ok hg).2.1 (hns a List.mem_cons_self _ _) rfl) fun σ H Q hw => k σ H _ ((op_uO hw).imp fun vs H1 q x e => by
    subst e
    exact ⟨x, rfl, q⟩)
/-! ### a[::-1], a.index(b) -/
theorem pe_revU (G : Good X cs c Γ) (hf : Fok X Γ c W f) {k : Nat} {p1 p2 p3 : Pos} (h : OsOf cs f [a] l) : PE X (.Subscript a (.Slice none none (some (.UnaryOp .USub (.Constant (.int 1) k p1) p2)) p3) pos) (uE Γ c W (.op .rev l)) := by
  obtain ⟨ta, ha, kk⟩ := opnd1 G hf h
  exact PE.weaken (pe_revA ha) fun σ H Q hw => kk σ H _ ((op_uO hw).imp fun vs H1 q x e => by
    subst e
    obtain ⟨F0, F, ρ, st, te, σ, τ, ds, d, C, dn, sem, q⟩ := q
    obtain ⟨d1, rfl, h1⟩ := dn.one
    cases d1 <;> first | exact (show False from sem).elim | skip
    · obtain rfl := (show d = _ from sem)
      obtain ⟨b, us, rfl, e1, r1⟩ := h1.tup C.sub
      exact .inr ⟨b, us, rfl, G.K ▸ e1, fun p hp => q.lay C hp fun s1 => ⟨p, _, rfl, SqT.of upd_same, (DenL.reverse r1).sub s1⟩⟩
    · obtain rfl := (show d = _ from sem)
      obtain ⟨b, us, rfl, e1, r1⟩ := h1.lst C.sub
      exact .inl ⟨b, us, rfl, SqL.of e1, fun p hp => q.fresh.lay C hp (DenL.reverse r1)⟩)
theorem pyL_get : ∀ {xs : List D} {ps : List PyData} {j : Nat} {z : D}, pyL xs = some ps → xs[j]? = some z → ∃ q, ps[j]? = some q ∧ z.py = some q
  | [], ps, j, z, _, h => by simp at h
  | x :: xs, ps, j, z, e, h => by
    unfold pyL at e
    split at e
    · rename_i p r e1 e2
      cases e
      cases j with
      | zero => cases h; exact ⟨p, rfl, e1⟩
      | succ j => exact pyL_get (j := j) e2 h
    · cases e
theorem pyL_back : ∀ {xs : List D} {ps : List PyData} {j : Nat} {q : PyData}, pyL xs = some ps → ps[j]? = some q → ∃ z, xs[j]? = some z ∧ z.py = some q
  | [], ps, j, q, e, h => by cases e; simp at h
  | x :: xs, ps, j, q, e, h => by
    unfold pyL at e
    split at e
    · rename_i p r e1 e2
      cases e
      cases j with
      | zero => cases h; exact ⟨x, rfl, e1⟩
      | succ j => exact pyL_back (j := j) e2 h
    · cases e
theorem noDict_get : ∀ {ps : List PyData} {j : Nat} {q : PyData}, PyData.hasDictAll ps = false → ps[j]? = some q → q.hasDict = false
  | [], j, q, _, h => by simp at h
  | p :: ps, j, q, e, h => by
    unfold PyData.hasDictAll at e
    rw [Bool.or_eq_false_iff] at e
    cases j with
    | zero => cases h; exact e.1
    | succ j => exact noDict_get (j := j) e.2 h
theorem pe_index (G : Good X cs c Γ) (hf : Fok X Γ c W f) {y : Str} {py ap cp : Pos} {xa xb : Pv.X} (hl : (ap.endLine == cp.line) = true) (h1 : f (.Name y py) = some xa) (h2 : f b = some xb) :
    PE X (.Call (.Attribute (.Name y py) "index" ap) [b] [] cp) (uE Γ c W (.on .list xa .index (.x xb .nil))) := by
  have hb : AsOf f [b] (.x xb .nil) := .x h2 .nil
  have nb := hf.ns _ _ h2
  have hs : starEach [b] X.env = (false, eval b X.env) :: starEach [] X.env := nb [] X.env
  refine PE.weaken (pe_bm PySem.F.plainAttrs_list PySem.F.slot_list_index PySem.F.type_list_index (mt_indexD (by have := G.hu; omega)) (hf.e _ _ h1) (pa_data hf hb) rfl (by rw [hs]; rfl) hl hs rfl) fun σ H Q hw => ?_
  obtain ⟨F0, F, ρ, st, te, τ, Qd, Ed, C, w, kk, ei⟩ := hw
  refine ⟨F0, F, ρ, st, te, τ, _, Ed, C, w, fun d ρ1 st1 v F1 H1 w1 C1 x1 dn => ?_, ei⟩
  obtain ⟨hd, w1⟩ := w1
  cases d <;> first | cases hd | skip
  rename_i xs
  obtain ⟨p, us, rfl, e1, r1⟩ := dn
  refine ⟨.inl ⟨rfl, us, SqL.of (C1.sim.fh _ _ e1)⟩, F0, F1, ρ1, st1, te, τ, _, Ed, C1, w1, fun ds ρ2 st2 vs F2 H2 hl2 q2 C2 x2 dns => ?_, ei⟩
  obtain ⟨r, sem, q2⟩ := q2
  obtain ⟨v2, _, rfl⟩ : ∃ v2 rest, vs = v2 :: rest := by
    cases vs with
    | nil => cases hl2
    | cons v2 rest => exact ⟨v2, rest, rfl⟩
  rename_i rest
  obtain rfl : rest = [] := List.length_eq_zero_iff.mp (Nat.succ.inj hl2)
  obtain ⟨d2, rfl⟩ : ∃ d2, ds = [d2] := by
    have := dns.length
    match ds, this with
    | [d2], _ => exact ⟨d2, rfl⟩
  obtain ⟨v2', r2, e2, dn2, _⟩ := dns
  cases e2
  obtain ⟨⟨z1, z2⟩, j, z, hj, hz, hno, rfl⟩ := sem
  obtain ⟨p1, e1', a1, b1, g1⟩ := eqOk_py _ _ z1
  obtain ⟨ps, e2', a2, b2, g2⟩ := eqOkL_py _ _ z2
  obtain ⟨q, hq, hzq⟩ := pyL_get e2' hj
  refine ⟨p, _, p1, ps, j, q, rfl, rfl, ?_, ?_, shaped_of (n := 61) (by decide) a2 (Nat.succ_le_succ b2), shaped_of (by decide) a1 b1, hq, ?_, fun m z' hm hz' => ?_, kk (.int j) ρ2 st2 _ F2 H2 q2 C2 (x1.trans x2) rfl⟩
  · have : Den c.rc F2 (.lst xs) (.ref p) := Den.sub x2.f ⟨p, us, rfl, e1, r1⟩
    rw [← G.K]
    exact denT_dp C2.sim.fh (.inl this) (show (D.lst xs).py = some (.list ps) by rw [D.py, e2']; rfl) g2
  · rw [← G.K]
    exact denT_dp C2.sim.fh (.inl dn2) e1' g1
  · rw [← eqv_py _ _ _ _ hzq e1' (noDict_get g2 hq) g1]; exact hz
  · obtain ⟨x, hx, hxq⟩ := pyL_back e2' hz'
    rw [← eqv_py _ _ _ _ hxq e1' (noDict_get g2 hz') g1]
    exact hno m x hm hx
end
end Pv

end
section
set_option linter.all false
set_option maxRecDepth 100000
set_option maxHeartbeats 8000000
/-! Pv15: compiled expressions are sound: the main theorem. -/
namespace Pv
open PySem PySem.Spec PyProof.Rows L2
section
variable {S : Type} {Γ : Nat → Ct S} {c : Set S} {W : WX}
variable {X : Cx} {cs : Cs}
structure Pl (e : Expr) : Prop where
  ns : NS e
  bm : ∀ op, behindInMarks op e = false
  ix : PlainIx e
  fs : ∀ env v, foldedSetIterable e env v = pure v
theorem pl_name {y : Str} {pos : Pos} : Pl (.Name y pos) := ⟨fun _ _ => rfl, fun _ => rfl, fun _ _ => rfl, fun _ _ => rfl⟩
theorem cX_pl : ∀ {n : Nat} {cs : Cs} {e : Expr} {x : Pv.X}, cX n cs e = some x → Pl e
  | 0, _, _, _, h => by cases h
  | n + 1, cs, e, x, h => by
    unfold cX at h
    split at h
    all_goals first | exact ⟨fun _ _ => rfl, fun _ => rfl, fun _ _ => rfl, fun _ _ => rfl⟩ | cases h
theorem OsOf.pl {n : Nat} {cs cs' : Cs} : ∀ {es : List Expr} {l : Os}, OsOf cs' (cX n cs) es l → ∀ e ∈ es, Pl e
  | _, _, .nil, e, h => by cases h
  | _, _, .x h1 h2, e, h => by
    rcases List.mem_cons.mp h with rfl | h
    · exact cX_pl h1
    · exact OsOf.pl h2 e h
  | _, _, .p h1 h2, e, h => by
    rcases List.mem_cons.mp h with rfl | h
    · exact pl_name
    · exact OsOf.pl h2 e h
def Op.isCmp : Op → Bool
  | .eq => true
  | .ne => true
  | .lt => true
  | .le => true
  | .gt => true
  | .ge => true
  | .isN => true
  | .notN => true
  | .in_ => true
  | .notIn => true
  | _ => false
theorem cmp_bl {o : Op} (ho : o.isCmp = true) : ∀ ds d, o.sem ds d → ∃ k, d = .bl k := by
  intro ds d h
  rcases ds with _ | ⟨a, _ | ⟨b, _ | ⟨e, r⟩⟩⟩
  · cases o <;> first | (cases ho; done) | exact (show False from h).elim
  · cases o <;> first | (cases ho; done) | exact (show False from h).elim | skip
    all_goals (cases a <;> first | exact (show False from h).elim | exact ⟨_, h⟩)
  · cases o <;> first | (cases ho; done) | skip
    all_goals (cases a <;> cases b <;> first | exact (show False from h).elim | exact ⟨_, h⟩ | exact ⟨_, h.2⟩)
  · cases o <;> first | (cases ho; done) | skip
    all_goals (cases a <;> cases b <;> exact (show False from h).elim)
theorem cmp_ok (G : Good X cs c Γ) {op : CmpOp} {o : Op} (h : copOf op = some o) : OpR X (compareOp op) (rU2 c o) ∧ o.isCmp = true := by
  have hu := G.hu
  have hK := G.K
  cases op <;> cases h
  · exact ⟨u_eq hK (by omega), rfl⟩
  · exact ⟨u_ne hK (by omega), rfl⟩
  · exact ⟨u_lt hK (by omega), rfl⟩
  · exact ⟨u_le, rfl⟩
  · exact ⟨u_gt, rfl⟩
  · exact ⟨u_ge, rfl⟩
  · exact ⟨u_in hK (by omega), rfl⟩
  · exact ⟨u_notIn hK (by omega), rfl⟩
theorem bop_ok (G : Good X cs c Γ) {op : Operator} {o : Op} (h : bopOf op = some o) : OpR X (binaryOp op) (rU2 c o) := by
  have hK := G.K
  cases op <;> cases h
  · exact u_add hK
  · exact u_sub
  · exact u_mul hK
  · exact u_mod
  · exact u_pow
  · exact u_fdiv
theorem blt_ok (G : Good X cs c Γ) {f : Expr → Option Pv.X} (hf : Fok X Γ c W f) {x : Str} {o : Op} {e : Expr} {es : List Expr} {l : Os} {p pos : Pos} (hg : cs.glob x = true) (hb : cs.blt.contains x = true) (h : bltOf x (e :: es).length = some o) (os : OsOf cs f (e :: es) l) :
    PE X (.Call (.Name x p) (e :: es) [] pos) (uE Γ c W (.op o l)) := by
  have hK := G.K
  have hc := G.calm
  unfold bltOf at h
  split at h
  · rename_i z; subst z; cases h; exact pe_bltU G hf hg hb (by decide +kernel) (u_len hK) os
  split at h
  · rename_i z; subst z; cases h; exact pe_bltU G hf hg hb (by decide +kernel) u_abs os
  split at h
  · rename_i z; subst z; cases h; exact pe_typU G hf hg hb (by decide +kernel) u_int os
  split at h
  · rename_i z; subst z
    split at h
    · cases h; exact pe_bltU G hf hg hb (by decide +kernel) (u_max2 hc) os
    · cases h; exact pe_bltU G hf hg hb (by decide +kernel) (u_maxL hc) os
  split at h
  · rename_i z; subst z
    split at h
    · cases h; exact pe_bltU G hf hg hb (by decide +kernel) (u_min2 hc) os
    · cases h; exact pe_bltU G hf hg hb (by decide +kernel) (u_minL hc hK (by have := G.hu; omega)) os
  split at h
  · rename_i z; subst z; cases h; exact pe_bltU G hf hg hb (by decide +kernel) (u_sum hc) os
  split at h
  · rename_i z; subst z; cases h; exact pe_bltU G hf hg hb (by decide +kernel) (u_all hc) os
  split at h
  · rename_i z; subst z; cases h; exact pe_bltU G hf hg hb (by decide +kernel) (u_any hc) os
  split at h
  · rename_i z; subst z; cases h; exact pe_typU G hf hg hb (by decide +kernel) (u_tuple hK) os
  split at h
  · rename_i z; subst z; cases h; exact pe_typU G hf hg hb (by decide +kernel) (u_list hK) os
  split at h
  · rename_i z; subst z; cases h; exact pe_bltU G hf hg hb (by decide +kernel) u_sorted os
  split at h
  · rename_i z; subst z; cases h; exact pe_bltU G hf hg hb (by decide +kernel) (u_repr hK G.hg G.hu) os
  · cases h
theorem ty_ok {t : Str} {ty : Ty} (h : tyOf? t = some ty) : bootBuiltins t = some (.type ty.nm) := by
  unfold tyOf? at h
  split at h
  · rename_i z; subst z; cases h; decide +kernel
  split at h
  · rename_i z; subst z; cases h; decide +kernel
  split at h
  · rename_i z; subst z; cases h; decide +kernel
  split at h
  · rename_i z; subst z; cases h; decide +kernel
  split at h
  · rename_i z; subst z; cases h; decide +kernel
  split at h
  · rename_i z; subst z; cases h; decide +kernel
  · cases h
theorem mapS {α β : Type} {f : α → β} {o : Option α} {y : β} (h : o.map f = some y) : ∃ x, o = some x ∧ f x = y := by
  cases o with
  | none => cases h
  | some x => cases h; exact ⟨x, rfl, rfl⟩
theorem bindS {α β : Type} {f : α → Option β} {o : Option α} {y : β} (h : o.bind f = some y) : ∃ x, o = some x ∧ f x = some y := by
  cases o with
  | none => cases h
  | some x => exact ⟨x, rfl, h⟩
theorem cIt_fs {n : Nat} {cs : Cs} {b : Bool} {iter : Expr} {it : It} (h : cIt cs (cX n cs) b iter = some it) : ∀ env v, foldedSetIterable iter env v = pure v := by
  unfold cIt at h
  split at h
  · exact fun _ _ => rfl
  · obtain ⟨os, h1, _⟩ := mapS h
    obtain ⟨x, hx, _⟩ := as1 (cAs_as h1)
    exact (cX_pl hx).fs
theorem cX_ok : ∀ (n : Nat) (X : Cx) (cs : Cs) (W : WX), Good X cs c Γ → Takes X W → ∀ e x, cX n cs e = some x → PE X e (uE Γ c W x) ∧ PT X e (uT Γ c W x)
  | 0, _, _, _, _, _, _, _, h => by cases h
  | n + 1, X, cs, W, G, tk, e, x, h => by
    have fok : ∀ {X : Cx} {cs : Cs} {W : WX}, Good X cs c Γ → Takes X W → Fok X Γ c W (cX n cs) := fun {X cs W} G tk => ⟨fun e x h => (cX_ok n X cs W G tk e x h).1, fun e x h => (cX_ok n X cs W G tk e x h).2, fun e x h => (cX_pl h).ns⟩
    have hf := fok G tk
    have both : ∀ {e : Expr} {x : Pv.X}, PE X e (uE Γ c W x) → (∀ whole, isTrue e X.env whole = (do let v ← whole; standAt e.pos; holding [v] (truthy v))) → PE X e (uE Γ c W x) ∧ PT X e (uT Γ c W x) := fun h he => ⟨h, pt_plain G h he⟩
    unfold cX at h
    split at h
    · cases h; exact both (pe_k rfl pe_non) fun _ => rfl
    · cases h; exact both (pe_k rfl pe_bl) fun _ => rfl
    · cases h; exact both (pe_k rfl pe_int) fun _ => rfl
    · cases h; exact both (pe_k rfl pe_str) fun _ => rfl
    · split at h
      · rename_i i e; cases h; exact both (pe_v G e) fun _ => rfl
      · split at h
        · rename_i hg
          obtain ⟨d, hd, rfl⟩ := mapS h
          obtain ⟨v, u, e1, e2, r⟩ := G.cons _ d hd
          exact both (pe_k e1 (pe_glob (G.gl hg) e2 r (Cs.glob_ok hg).2.1)) fun _ => rfl
        · cases h
    · obtain ⟨o, ho, h⟩ := bindS h
      obtain ⟨l, hl, rfl⟩ := mapS h
      exact both (pe_op2 G hf (bop_ok G ho) (cOs_of hl)) fun _ => rfl
    · obtain ⟨l, hl, rfl⟩ := mapS h
      exact both (pe_neg G hf (cOs_of hl)) fun _ => rfl
    · obtain ⟨xa, hx, rfl⟩ := mapS h
      exact ⟨pe_notU G (hf.e _ _ hx), pt_notU (hf.t _ _ hx)⟩
    · obtain ⟨ke, kt⟩ := and_ok G hf h
      exact ⟨ke, ⟨fun pins s σ H Q I q => kt.run _ pins s σ H Q I q⟩⟩
    · obtain ⟨ke, kt⟩ := or_ok G hf h
      exact ⟨ke, ⟨fun pins s σ H Q I q => kt.run _ pins s σ H Q I q⟩⟩
    · obtain ⟨l, hl, rfl⟩ := mapS h
      exact ⟨pe_is G hf u_isN rfl (cOs_of hl), pt_is G hf (cmp_bl rfl) u_isN rfl (cOs_of hl)⟩
    · obtain ⟨l, hl, rfl⟩ := mapS h
      exact ⟨pe_is G hf u_notN rfl (cOs_of hl), pt_is G hf (cmp_bl rfl) u_notN rfl (cOs_of hl)⟩
    · obtain ⟨o, ho, h⟩ := bindS h
      obtain ⟨l, hl, rfl⟩ := mapS h
      obtain ⟨k1, k2⟩ := cmp_ok G ho
      have os := cOs_of hl
      have bm := (os.pl _ (List.mem_cons_of_mem _ List.mem_cons_self)).bm
      exact ⟨pe_cmp2 G hf k1 (bm _) os, pt_cmp2 G hf (cmp_bl k2) k1 (bm _) os⟩
    · split at h
      · rename_i p1 p2 xa xb xc e1 e2 e3 e4 e5
        cases h
        exact pe_chainU hf (cmp_ok G e1).1 (cmp_ok G e2).1 ((cX_pl e5).bm _) e3 e4 e5
      · cases h
    · split at h
      · rename_i xc xa xb e1 e2 e3
        cases h
        exact ⟨pe_ifU (hf.t _ _ e1) (hf.e _ _ e2) (hf.e _ _ e3), pt_ifU (hf.t _ _ e1) (hf.t _ _ e2) (hf.t _ _ e3)⟩
      · cases h
    · obtain ⟨l, hl, rfl⟩ := mapS h
      exact both (pe_tupU G hf (cAs_as hl)) fun _ => rfl
    · obtain ⟨l, hl, rfl⟩ := mapS h
      exact both (PE.weaken (pe_lstN G hf (cAs_as hl)) fun _ _ _ => uN_E) fun _ => rfl
    · obtain ⟨l, hl, rfl⟩ := mapS h
      exact both (pe_slc0 G hf (cOper_of .nil hl)) fun _ => rfl
    · obtain ⟨l, hl, rfl⟩ := mapS h
      obtain ⟨r, hr, hl⟩ := bindS hl
      exact both (pe_slc1 G hf (cOper_of (cAs_of hr) hl)) fun _ => rfl
    · obtain ⟨l, hl, rfl⟩ := mapS h
      obtain ⟨r, hr, hl⟩ := bindS hl
      exact both (pe_slc2 G hf (cOper_of (cAs_of hr) hl)) fun _ => rfl
    · obtain ⟨l, hl, rfl⟩ := mapS h
      obtain ⟨r, hr, hl⟩ := bindS hl
      exact both (pe_slc3 G hf (cOper_of (cAs_of hr) hl)) fun _ => rfl
    · obtain ⟨l, hl, rfl⟩ := mapS h
      exact both (pe_revU G hf (cOs_of hl)) fun _ => rfl
    · obtain ⟨l, hl, rfl⟩ := mapS h
      have os := cOs_of hl
      exact both (pe_ix2 G hf (os.pl _ (List.mem_cons_of_mem _ List.mem_cons_self)).ix os) fun _ => rfl
    · rename_i fn p es pos
      split at h
      · rename_i hg
        split at h
        · rename_i id m hx
          split at h
          · rename_i hm
            obtain ⟨l, hl, rfl⟩ := mapS h
            cases es with
            | nil => exact absurd hm.1.symm hm.2
            | cons e es => exact both (pe_callG G tk hf hg hx hm.1 (cAs_as hl)) fun _ => rfl
          · cases h
        · split at h
          · rename_i hb
            split at h
            · rename_i z
              subst z
              split at h
              · split at h
                · rename_i ht
                  rw [Bool.and_eq_true] at ht
                  obtain ⟨ty, h1, h⟩ := bindS h
                  obtain ⟨l, hl, rfl⟩ := mapS h
                  exact both (pe_isi G hf hg hb ht.1 ht.2 (ty_ok h1) (cOs_of hl)) fun _ => rfl
                · cases h
              · cases h
            · obtain ⟨o, ho, h⟩ := bindS h
              split at h
              · rename_i hne
                obtain ⟨l, hl, rfl⟩ := mapS h
                cases es with
                | nil => exact absurd rfl hne
                | cons e es => exact both (blt_ok G hf hg hb ho (cOs_of hl)) fun _ => rfl
              · cases h
          · cases es with
            | nil => cases h
            | cons e es => exact both (pe_callKw G tk hf hg h) fun _ => rfl
      · cases h
    · split at h
      · rename_i hg
        rename_i es kw kws pos
        cases es with
        | nil => cases h
        | cons e es => exact both (pe_callKw G tk hf hg h) fun _ => rfl
      · cases h
    · split at h
      · rename_i hm
        rw [Bool.and_eq_true, decide_eq_true_eq] at hm
        obtain ⟨rfl, hl⟩ := hm
        split at h
        · rename_i xa xb e1 e2
          cases h
          exact both (pe_index G hf hl e1 e2) fun _ => rfl
        · cases h
      · cases h
    · split at h
      · cases h
      · rename_i g hgt
        split at h
        · rename_i ok
          split at h
          · rename_i it x l h1 h2 h3
            split at h
            · rename_i hl
              cases h
              exact both (PE.weaken (comp_F G hf (fun s H C cl fp => fok (G.blk s H C cl fp) takesF) hgt ok h1 h2 h3 hl (cIt_fs h1 _)) fun _ _ _ => uN_E) fun _ => rfl
            · cases h
          · cases h
        · cases h
    · cases h
end
end Pv

end
section
set_option linter.all false
set_option maxRecDepth 100000
set_option maxHeartbeats 4000000
/-! Pv16: statements: readings, blocks, assignments. -/
namespace Pv
open PySem PySem.Spec PyProof.Rows L2
section
variable {S : Type} {Γ : Nat → Ct S} {c : Set S} {W : WX}
variable {X : Cx} {cs : Cs} {F0 F H : Hp} {ρ te : Env} {st : S} {σ τ : List (Option V)}
/-- a statement's ends -/
structure Ek (c : Set S) (F0 F : Hp) (K : Kn S) (D : Ends) : Prop where
  nx : ∀ ρ st σ F' H, K.nx ρ st → Cur c F0 F' ρ st [] σ [] H → Sub F F' → D.nx σ H
  rt : ∀ d ρ st σ F' H v, K.rt d st → Cur c F0 F' ρ st [] σ [] H → Sub F F' → Den c.rc F' d v → D.rt v H
  bk : ∀ ρ st σ F' H, K.bk ρ st → Cur c F0 F' ρ st [] σ [] H → Sub F F' → D.bk σ H
  ct : ∀ ρ st σ F' H, K.ct ρ st → Cur c F0 F' ρ st [] σ [] H → Sub F F' → D.ct σ H
theorem Ek.mono {F1 : Hp} {K : Kn S} {D : Ends} (h : Ek c F0 F K D) (s : Sub F F1) : Ek c F0 F1 K D :=
  ⟨fun ρ st σ F' H k C x => h.nx ρ st σ F' H k C (s.trans x), fun d ρ st σ F' H v k C x dn => h.rt d ρ st σ F' H v k C (s.trans x) dn, fun ρ st σ F' H k C x => h.bk ρ st σ F' H k C (s.trans x), fun ρ st σ F' H k C x => h.ct ρ st σ F' H k C (s.trans x)⟩
def EImpS (c : Set S) (W : WX) (F0 : Hp) (Ed : QX S) : Prop := ∀ σ, EImp c W F0 [] σ [] Ed
def uS (Γ : Nat → Ct S) (c : Set S) (W : WX) (s : Stm) : TS := fun D σ H => ∃ F0 F ρ st K Ed, Cur c F0 F ρ st [] σ [] H ∧ wpS Γ s ρ st K Ed ∧ Ek c F0 F K D ∧ EImpS c W F0 Ed
def uSs (Γ : Nat → Ct S) (c : Set S) (W : WX) (s : Stms) : TS := fun D σ H => ∃ F0 F ρ st K Ed, Cur c F0 F ρ st [] σ [] H ∧ wpSs Γ s ρ st K Ed ∧ Ek c F0 F K D ∧ EImpS c W F0 Ed
theorem PS.weaken {s : Stmt} {t t' : TS} (h : PS X s t) (w : ∀ D σ H, t' D σ H → t D σ H) : PS X s t' := ⟨fun pins s σ H D I q => h.run pins s σ H D I (w D σ H q)⟩
theorem PSs.weaken {s : List Stmt} {t t' : TS} (h : PSs X s t) (w : ∀ D σ H, t' D σ H → t D σ H) : PSs X s t' := ⟨fun pins s σ H D I q => h.run pins s σ H D I (w D σ H q)⟩
/-! ### blocks -/
theorem pss_nilU : PSs X [] (uSs Γ c W .nil) := PSs.weaken pss_nil fun D σ H ⟨F0, F, ρ, st, K, Ed, C, w, e, ei⟩ => e.nx ρ st σ F H w C (Sub.refl _)
theorem pss_consU {s : Stmt} {r : List Stmt} {s' : Stm} {r' : Stms} (h1 : PS X s (uS Γ c W s')) (h2 : PSs X r (uSs Γ c W r')) : PSs X (s :: r) (uSs Γ c W (.cons s' r')) :=
  PSs.weaken (pss_cons h1 h2) fun D σ H ⟨F0, F, ρ, st, K, Ed, C, w, e, ei⟩ => ⟨F0, F, ρ, st, _, Ed, C, w, ⟨fun ρ1 st1 σ1 F1 H1 k C1 x1 => ⟨F0, F1, ρ1, st1, K, Ed, C1, k, e.mono x1, ei⟩, e.rt, e.bk, e.ct⟩, ei⟩
/-! ### small statements -/
variable {e : Expr} {x : Pv.X} {pos : Pos}
theorem ps_passU : PS X (.Pass pos) (uS Γ c W .pass) := PS.weaken ps_pass fun D σ H ⟨F0, F, ρ, st, K, Ed, C, w, e, ei⟩ => e.nx ρ st σ F H w C (Sub.refl _)
theorem ps_breakU : PS X (.Break pos) (uS Γ c W .brk) := PS.weaken ps_break fun D σ H ⟨F0, F, ρ, st, K, Ed, C, w, e, ei⟩ => e.bk ρ st σ F H w C (Sub.refl _)
theorem ps_contU : PS X (.Continue pos) (uS Γ c W .cont) := PS.weaken ps_continue fun D σ H ⟨F0, F, ρ, st, K, Ed, C, w, e, ei⟩ => e.ct ρ st σ F H w C (Sub.refl _)
theorem ps_raiseU {s : Stmt} : PS X s (uS Γ c W .raise) := PS.weaken ps_never fun D σ H ⟨F0, F, ρ, st, K, Ed, C, w, e, ei⟩ => w
theorem ps_retU (he : PE X e (uE Γ c W x)) : PS X (.Return (some e) pos) (uS Γ c W (.ret x)) :=
  PS.weaken (ps_ret he) fun D σ H ⟨F0, F, ρ, st, K, Ed, C, w, ek, ei⟩ => ⟨F0, F, ρ, st, [], [], _, Ed, C, w, fun d ρ1 st1 v F1 H1 q C1 x1 dn => ek.rt d ρ1 st1 σ F1 H1 v q C1 x1.f dn, ei σ⟩
theorem ps_retNU : PS X (.Return none pos) (uS Γ c W .retN) := PS.weaken ps_retN fun D σ H ⟨F0, F, ρ, st, K, Ed, C, w, e, ei⟩ => e.rt .non ρ st σ F H .non w C (Sub.refl _) rfl
theorem ps_exprU (he : PE X e (uE Γ c W x)) (hs : swapsWith e none pos.line X.env = pure false) : PS X (.Expr e pos) (uS Γ c W (.expr x)) :=
  PS.weaken (ps_expr he hs) fun D σ H ⟨F0, F, ρ, st, K, Ed, C, w, ek, ei⟩ => ⟨F0, F, ρ, st, [], [], _, Ed, C, w, fun d ρ1 st1 v F1 H1 q C1 x1 dn => ek.nx ρ1 st1 σ F1 H1 q C1 x1.f, ei σ⟩
theorem ps_ifU {cond : Expr} {a b : List Stmt} {xc : Pv.X} {a' b' : Stms} (hc : PT X cond (uT Γ c W xc)) (ha : PSs X a (uSs Γ c W a')) (hb : PSs X b (uSs Γ c W b')) : PS X (.If cond a b pos) (uS Γ c W (.ife xc a' b')) :=
  PS.weaken (ps_if hc ha hb) fun D σ H ⟨F0, F, ρ, st, K, Ed, C, w, ek, ei⟩ => ⟨F0, F, ρ, st, [], [], _, Ed, C, w, fun d ρ1 st1 F1 H1 q C1 x1 => by
    obtain ⟨bb, e, q1, q2⟩ := if_core (S := S) (σ := σ) (H := H) (ρ1 := ρ1) (st1 := st1) q
    refine ⟨bb, e, ?_⟩
    cases bb with
    | true => rw [if_pos rfl]; exact ⟨F0, F1, ρ1, st1, K, Ed, C1, q1 rfl, ek.mono x1.f, ei⟩
    | false => rw [if_neg (by decide)]; exact ⟨F0, F1, ρ1, st1, K, Ed, C1, q2 rfl, ek.mono x1.f, ei⟩, ei σ⟩
/-! ### assignments -/
theorem asg_set {i : Nat} {D : Ends} (h : uS Γ c W (.set i x) D σ H) : tAsg (uE Γ c W x) (gName i) D σ H := by
  obtain ⟨F0, F, ρ, st, K, Ed, C, w, ek, ei⟩ := h
  exact ⟨F0, F, ρ, st, [], [], _, Ed, C, w, fun d ρ1 st1 v F1 H1 q C1 x1 dn => ek.nx _ st1 _ F1 H1 q (C1.put i dn) x1.f, ei σ⟩
theorem Cur.putOwn (C : Cur c F0 F ρ st te σ τ H) {xs : List D} {p : Addr} (i : Nat) (fr : Fresh c F (ρ ++ te) (σ ++ τ) H xs p) : Cur c F0 F (ρ.set i (.own xs)) st te (σ.set i (some (.ref p))) τ H := by
  refine ⟨by simpa using C.len, ?_⟩
  by_cases hi : i < ρ.length
  · obtain ⟨f, n, m, ⟨vs, q, r⟩, al⟩ := fr
    have J := C.sim.putOwn (i := i) (xs := xs) f n m q r (fun j ys _ h1 h2 => (al j ys h1 h2).elim)
    rw [List.set_append_left _ _ hi, List.set_append_left _ _ (C.len ▸ hi)] at J
    exact J
  · have e1 : ρ.set i (.own xs) = ρ := List.set_eq_of_length_le (by omega)
    have e2 : σ.set i (some (.ref p)) = σ := List.set_eq_of_length_le (by rw [← C.len]; omega)
    rw [e1, e2]; exact C.sim
theorem asg_ownF {i : Nat} {D : Ends} (h : uS Γ c W (.own i x) D σ H) : tAsg (uF Γ c W x) (gName i) D σ H := by
  obtain ⟨F0, F, ρ, st, K, Ed, C, w, ek, ei⟩ := h
  refine ⟨F0, F, ρ, st, [], [], _, Ed, C, w, fun d ρ1 st1 F1 H1 q C1 x1 => ?_, ei σ⟩
  obtain ⟨xs, rfl, q⟩ := q
  exact ⟨xs, rfl, fun p fr => ek.nx _ st1 _ F1 H1 q (C1.putOwn i fr) x1.f⟩
/-- a target -/
theorem asg_tg {g : Tg} {D : Ends} (h : uS Γ c W (.tg g x) D σ H) : tAsg (uE Γ c W x) (uG c g) D σ H := by
  obtain ⟨F0, F, ρ, st, K, Ed, C, w, ek, ei⟩ := h
  refine ⟨F0, F, ρ, st, [], [], _, Ed, C, w, fun d ρ1 st1 v F1 H1 q C1 x1 dn => ?_, ei σ⟩
  cases hb : g.bind d ρ1 with
  | none => rw [hb] at q; exact q.elim
  | some ρ2 =>
    rw [hb] at q
    exact ⟨d, F0, F1, ρ1, st1, [], [], ρ2, C1, dn, hb, fun σ' C2 _ => ek.nx ρ2 st1 σ' F1 H1 q C2 x1.f⟩
/-- what is known of a def's context -/
structure GoodS (X : Cx) (cs : Cs) (c : Set S) (Γ : Nat → Ct S) (W : WX) : Prop where
  g : Good X cs c Γ
  tk : Takes X W
  kind : X.env.scope.kind = .function
  own : PassesOwn (model X.prog X.w) X.A X.env X.xe
  loc : ∀ x, X.fn x = true ∨ X.env.scope.names.lookup x = some .local
theorem GoodS.sto (G : GoodS X cs c Γ W) : Sto X cs.N cs.sc := by
  refine ⟨G.g.N, G.g.nd, G.g.calm, fun x h => ⟨?_, G.loc x⟩⟩
  rw [← G.g.sc] at h
  exact h
/-! ### swapped stores -/
inductive SwR where
  | none
  | bad
  | names (l : List Str)
def nm1 (sc : Scope) (line : Nat) : Expr → Option Str
  | .Name id pos => if sc.names.lookup id == some .local && pos.line == line then some id else Option.none
  | _ => Option.none
def swR (sc : Scope) (ts vs : List Expr) : SwR :=
    if !(ts.length == 2 || ts.length == 3) || vs.length != ts.length then .none else
    if vs.any fun | .Starred .. => true | _ => false then .none else
    let line := (ts.head?.map (·.pos.line)).getD 0
    let names := ts.filterMap (nm1 sc line)
    if names.length != ts.length || names.eraseDups.length != names.length then .none else
    if vs.all (foldedForSure 8) then .none else
    if vs.all (constantsAlone 8) then .bad else .names names
def SwP (R : SwR) (t : Sem (Option (List Str))) : Prop := (R = .none → t = pure Option.none) ∧ ∀ l, R = .names l → t = pure (some l)
theorem SwP.ite {c : Prop} [Decidable c] {R1 R2 : SwR} {t1 t2 : Sem (Option (List Str))} (h1 : SwP R1 t1) (h2 : SwP R2 t2) : SwP (if c then R1 else R2) (if c then t1 else t2) := by
  split
  · exact h1
  · exact h2
theorem SwP.nn : SwP .none (pure Option.none) := ⟨fun _ => rfl, fun l h => by cases h⟩
theorem SwP.bd {t : Sem (Option (List Str))} : SwP .bad t := ⟨(fun h => by cases h), fun l h => by cases h⟩
theorem SwP.nm {l : List Str} : SwP (.names l) (pure (some l)) := ⟨(fun h => by cases h), fun l' h => by cases h; rfl⟩
theorem swR_ok {env : PySem.Env} (hk : env.scope.kind = .function) (ts vs : List Expr) {k k2 : Nat} {p p2 : Pos} : SwP (swR env.scope ts vs) (swappedStores [.Tuple ts k p] (.Tuple vs k2 p2) env) := by
  have hb : (env.blockKind != .function) = false := by unfold Env.blockKind; rw [hk]; rfl
  have hk2 : ∀ id, env.kindOf id = env.scope.names.lookup id := fun _ => rfl
  unfold swR swappedStores
  simp only [hb, hk2, Bool.or_false]
  exact SwP.ite SwP.nn (SwP.ite SwP.nn (SwP.ite SwP.nn (SwP.ite SwP.nn (SwP.ite SwP.bd SwP.nm))))
theorem sw_noTup {env : PySem.Env} {tg e : Expr} (h : isTupE e = false) : swappedStores [tg] e env = pure Option.none := by
  cases tg <;> first | rfl | (cases e <;> first | rfl | cases h)
end
end Pv

end
section
set_option linter.all false
set_option maxRecDepth 100000
set_option maxHeartbeats 4000000
/-! Pv17: parallel assignments, methods of own lists, loops. -/
namespace Pv
open PySem PySem.Spec PyProof.Rows L2
section
variable {S : Type} {Γ : Nat → Ct S} {c : Set S} {W : WX}
variable {X : Cx} {cs : Cs} {F0 F H : Hp} {ρ te : Env} {st : S} {σ τ : List (Option V)}
/-! ### things held aside -/
theorem Sim.re {ρ ρ2 : Env} {σ σ2 : List (Option V)} (I : Sim c F0 F ρ st σ H) (φ : Nat → Nat) (hφ : ∀ i j, φ i = φ j → i = j) (hl : ρ2.length = σ2.length)
    (h : ∀ j s x, ρ2[j]? = some s → σ2[j]? = some x → ρ[φ j]? = some s ∧ σ[φ j]? = some x) : Sim c F0 F ρ2 st σ2 H :=
  ⟨I.keep, I.f0, I.fh, I.fnew, I.fM, I.reg, hl, fun j s x h1 h2 => I.slot _ s x (h j s x h1 h2).1 (h j s x h1 h2).2, fun i j xs ys p h1 h2 h3 h4 => hφ i j (I.inj _ _ xs ys p (h i _ _ h1 h3).1 (h j _ _ h2 h4).1 (h i _ _ h1 h3).2 (h j _ _ h2 h4).2)⟩
theorem Cur.drop (C : Cur c F0 F ρ st te σ τ H) : Cur c F0 F ρ st [] σ [] H := by
  refine ⟨C.len, C.sim.re id (fun _ _ h => h) (by simpa using C.len) fun j s x h1 h2 => ?_⟩
  rw [List.append_nil] at h1 h2
  have a := (List.getElem?_eq_some_iff.mp h1).1
  have b := (List.getElem?_eq_some_iff.mp h2).1
  exact ⟨by rw [id, List.getElem?_append_left a]; exact h1, by rw [id, List.getElem?_append_left b]; exact h2⟩
theorem EImpS.at' {Ed : QX S} (h : EImpS c W F0 Ed) (te : Env) (σ τ : List (Option V)) : EImp c W F0 te σ τ Ed := fun e ρ st F H cls dx q C d => h σ e ρ st F H cls dx q C.drop d
/-- one more thing held aside -/
theorem Cur.hold (C : Cur c F0 F ρ st te σ τ H) {d : D} {v : V} (dn : Den c.rc F d v) : Cur c F0 F ρ st (te ++ [.val d]) σ (τ ++ [some v]) H := by
  have J := C.sim
  have hl := J.len
  refine ⟨C.len, J.keep, J.f0, J.fh, J.fnew, J.fM, J.reg, ?_, fun i s x h1 h2 => ?_, fun i j xs ys a h1 h2 h3 h4 => ?_⟩
  · simp only [List.length_append, List.length_cons, List.length_nil] at hl ⊢
    omega
  · rw [← List.append_assoc] at h1 h2
    by_cases hi : i < (ρ ++ te).length
    · rw [List.getElem?_append_left hi] at h1
      rw [List.getElem?_append_left (hl ▸ hi)] at h2
      exact J.slot i s x h1 h2
    · have e : i = (ρ ++ te).length := by
        have := (List.getElem?_eq_some_iff.mp h1).1
        rw [List.length_append] at this
        simp only [List.length_cons, List.length_nil] at this
        omega
      subst e
      rw [List.getElem?_append_right (Nat.le_refl _), Nat.sub_self] at h1
      rw [hl, List.getElem?_append_right (Nat.le_refl _), Nat.sub_self] at h2
      cases h1; cases h2
      exact ⟨v, rfl, dn⟩
  · rw [← List.append_assoc] at h1 h2 h3 h4
    have old : ∀ {k : Nat} {zs : List D}, ((ρ ++ te) ++ [Sl.val d])[k]? = some (.own zs) → ((σ ++ τ) ++ [some v])[k]? = some (some (.ref a)) → (ρ ++ te)[k]? = some (.own zs) ∧ (σ ++ τ)[k]? = some (some (.ref a)) := fun {k zs} q1 q2 => by
      by_cases hk : k < (ρ ++ te).length
      · rw [List.getElem?_append_left hk] at q1
        rw [List.getElem?_append_left (hl ▸ hk)] at q2
        exact ⟨q1, q2⟩
      · have e : k = (ρ ++ te).length := by
          have := (List.getElem?_eq_some_iff.mp q1).1
          rw [List.length_append] at this
          simp only [List.length_cons, List.length_nil] at this
          omega
        subst e
        rw [List.getElem?_append_right (Nat.le_refl _), Nat.sub_self] at q1
        cases q1
    exact J.inj i j xs ys a (old h1 h3).1 (old h2 h4).1 (old h1 h3).2 (old h2 h4).2
theorem Cur.holdOwn (C : Cur c F0 F ρ st te σ τ H) {xs : List D} {p : Addr} (fr : Fresh c F (ρ ++ te) (σ ++ τ) H xs p) : Cur c F0 F ρ st (te ++ [.own xs]) σ (τ ++ [some (.ref p)]) H := by
  obtain ⟨f, n, m, ⟨vs, q, r⟩, al⟩ := fr
  have J := C.sim
  have hl := J.len
  have at' : ∀ {k : Nat} {s : Sl} {x : Option V}, ((ρ ++ te) ++ [Sl.own xs])[k]? = some s → ((σ ++ τ) ++ [some (V.ref p)])[k]? = some x → ((ρ ++ te)[k]? = some s ∧ (σ ++ τ)[k]? = some x ∧ k < (ρ ++ te).length) ∨ (k = (ρ ++ te).length ∧ s = .own xs ∧ x = some (.ref p)) := fun {k s x} q1 q2 => by
    by_cases hk : k < (ρ ++ te).length
    · rw [List.getElem?_append_left hk] at q1
      rw [List.getElem?_append_left (hl ▸ hk)] at q2
      exact .inl ⟨q1, q2, hk⟩
    · have e : k = (ρ ++ te).length := by
        have := (List.getElem?_eq_some_iff.mp q1).1
        rw [List.length_append] at this
        simp only [List.length_cons, List.length_nil] at this
        omega
      subst e
      rw [List.getElem?_append_right (Nat.le_refl _), Nat.sub_self] at q1
      rw [hl, List.getElem?_append_right (Nat.le_refl _), Nat.sub_self] at q2
      cases q1; cases q2
      exact .inr ⟨rfl, rfl, rfl⟩
  refine ⟨C.len, J.keep, J.f0, J.fh, J.fnew, J.fM, J.reg, ?_, fun i s x h1 h2 => ?_, fun i j xs1 ys a h1 h2 h3 h4 => ?_⟩
  · simp only [List.length_append, List.length_cons, List.length_nil] at hl ⊢
    omega
  · rw [← List.append_assoc] at h1 h2
    rcases at' h1 h2 with ⟨a, b, _⟩ | ⟨_, rfl, rfl⟩
    · exact J.slot i s x a b
    · exact ⟨p, vs, rfl, f, n, m, q, r⟩
  · rw [← List.append_assoc] at h1 h2 h3 h4
    rcases at' h1 h3 with ⟨a1, a2, _⟩ | ⟨a1, a2, a3⟩ <;> rcases at' h2 h4 with ⟨b1, b2, _⟩ | ⟨b1, b2, b3⟩
    · exact J.inj i j xs1 ys a a1 b1 a2 b2
    · cases b3; exact (al i xs1 a1 a2).elim
    · cases a3; exact (al j ys b1 b2).elim
    · rw [a1, b1]
/-- the first thing held aside goes under a name -/
theorem Cur.take {s : Sl} {x : Option V} (C : Cur c F0 F ρ st (s :: te) σ (x :: τ) H) (i : Nat) : Cur c F0 F (ρ.set i s) st te (σ.set i x) τ H := by
  have hl := C.len
  have hl2 := C.sim.len
  refine ⟨by simpa using hl, C.sim.re (fun j => if j < ρ.length then (if j = i then ρ.length else j) else j + 1) (fun a b h => ?_) (by simp only [List.length_append, List.length_set, List.length_cons] at hl2 ⊢; omega) fun j s' x' h1 h2 => ?_⟩
  · split at h <;> split at h <;> (try split at h) <;> (try split at h) <;> omega
  · by_cases hj : j < ρ.length
    · rw [if_pos hj]
      rw [List.getElem?_append_left (by simpa using hj)] at h1
      rw [List.getElem?_append_left (by simpa using hl ▸ hj)] at h2
      by_cases e : j = i
      · subst e
        rw [if_pos rfl]
        rw [List.getElem?_set_self hj] at h1
        rw [List.getElem?_set_self (hl ▸ hj)] at h2
        cases h1; cases h2
        refine ⟨by rw [List.getElem?_append_right (Nat.le_refl _), Nat.sub_self]; rfl, by rw [hl, List.getElem?_append_right (Nat.le_refl _), Nat.sub_self]; rfl⟩
      · rw [if_neg e]
        rw [List.getElem?_set_ne (Ne.symm e)] at h1 h2
        exact ⟨by rw [List.getElem?_append_left hj]; exact h1, by rw [List.getElem?_append_left (hl ▸ hj)]; exact h2⟩
    · rw [if_neg hj]
      rw [List.getElem?_append_right (by simpa using Nat.le_of_not_lt hj), List.length_set] at h1
      rw [List.getElem?_append_right (by simpa using hl ▸ Nat.le_of_not_lt hj), List.length_set] at h2
      refine ⟨?_, ?_⟩
      · rw [List.getElem?_append_right (by omega), show j + 1 - ρ.length = (j - ρ.length) + 1 by omega, List.getElem?_cons_succ]; exact h1
      · rw [List.getElem?_append_right (by omega), show j + 1 - σ.length = (j - σ.length) + 1 by omega, List.getElem?_cons_succ]; exact h2
/-! ### several values -/
variable {f : Expr → Option Pv.X}
inductive RsOf (X : Cx) (Γ : Nat → Ct S) (c : Set S) (W : WX) : List Expr → Rs → Prop where
  | nil : RsOf X Γ c W [] .nil
  | val {e es x r} : PE X e (uE Γ c W x) → NS e → RsOf X Γ c W es r → RsOf X Γ c W (e :: es) (.val x r)
  | own {e es x r} : PE X e (uF Γ c W x) → NS e → RsOf X Γ c W es r → RsOf X Γ c W (e :: es) (.own x r)
def Rs.len : Rs → Nat
  | .nil => 0
  | .val _ r => r.len + 1
  | .own _ r => r.len + 1
def uR (Γ : Nat → Ct S) (c : Set S) (W : WX) (r : Rs) : TA := fun σ H Q => ∃ F0 F ρ st te τ Qd Ed, Cur c F0 F ρ st te σ τ H ∧ wpR Γ r ρ st Qd Ed ∧
  (∀ ss ρ' st' (vs : List V) F' H', Qd ss ρ' st' → ss.length = vs.length → vs.length = r.len → Cur c F0 F' ρ' st' (te ++ ss) σ (τ ++ vs.map some) H' → Ext c F H F' H' → Q vs H') ∧ EImpS c W F0 Ed
theorem pa_rs : ∀ {es : List Expr} {r : Rs}, RsOf X Γ c W es r → PA X es (uR Γ c W r)
  | _, _, .nil => ⟨fun pos pins s σ H Q I h => by
    obtain ⟨F0, F, ρ, st, te, τ, Qd, Ed, C, w, k, _⟩ := h
    exact pa_nil.run pos pins s σ H Q I (k [] ρ st [] F H w rfl rfl (by rw [List.map_nil, List.append_nil, List.append_nil]; exact C) (Ext.refl _ _ _))⟩
  | _, _, .val h1 h2 h3 => ⟨fun pos pins s σ H Q I h => by
    refine (pa_cons h1 (pa_rs h3) (h2 _ _)).run pos pins s σ H Q I ?_
    obtain ⟨F0, F, ρ, st, te, τ, Qd, Ed, C, w, k, ei⟩ := h
    refine ⟨F0, F, ρ, st, te, τ, _, Ed, C, w, fun d ρ1 st1 v F1 H1 w1 C1 x1 dn => ?_, ei.at' te σ τ⟩
    refine ⟨F0, F1, ρ1, st1, _, _, _, Ed, C1.hold dn, w1, fun ss ρ2 st2 vs F2 H2 w2 hl hn C2 x2 => ?_, ei⟩
    refine k _ ρ2 st2 (v :: vs) F2 H2 w2 (congrArg (· + 1) hl) (congrArg (· + 1) hn) ?_ (x1.trans x2)
    rw [List.append_assoc, List.append_assoc] at C2
    exact C2⟩
  | _, _, .own h1 h2 h3 => ⟨fun pos pins s σ H Q I h => by
    refine (pa_cons h1 (pa_rs h3) (h2 _ _)).run pos pins s σ H Q I ?_
    obtain ⟨F0, F, ρ, st, te, τ, Qd, Ed, C, w, k, ei⟩ := h
    refine ⟨F0, F, ρ, st, te, τ, _, Ed, C, w, fun d ρ1 st1 F1 H1 w1 C1 x1 => ?_, ei.at' te σ τ⟩
    obtain ⟨xs, rfl, w1⟩ := w1
    refine ⟨xs, rfl, fun p fr => ?_⟩
    refine ⟨F0, F1, ρ1, st1, _, _, _, Ed, C1.holdOwn fr, w1, fun ss ρ2 st2 vs F2 H2 w2 hl hn C2 x2 => ?_, ei⟩
    refine k _ ρ2 st2 (.ref p :: vs) F2 H2 w2 (congrArg (· + 1) hl) (congrArg (· + 1) hn) ?_ (x1.trans x2)
    rw [List.append_assoc, List.append_assoc] at C2
    exact C2⟩
variable {i j k : Nat} {r : Rs} {E0 : Ends}
theorem par2 (hr : r.len = 2) (h : uS Γ c W (.par [i, j] r) E0 σ H) : tPar i j (uR Γ c W r) E0 σ H := by
  obtain ⟨F0, F, ρ, st, K, Ed, C, w, ek, ei⟩ := h
  refine ⟨F0, F, ρ, st, [], [], _, Ed, C, w, fun ss ρ1 st1 vs F1 H1 q hl hn C1 x1 => ?_, ei⟩
  obtain ⟨v, w, rfl⟩ : ∃ v w, vs = [v, w] := by
    match vs, hn.trans hr with
    | [a, b], _ => exact ⟨a, b, rfl⟩
  obtain ⟨s1, s2, rfl⟩ : ∃ s1 s2, ss = [s1, s2] := by
    match ss, hl with
    | [a, b], _ => exact ⟨a, b, rfl⟩
  have C2 : Cur c F0 F1 (ρ1.set i s1) st1 [s2] (σ.set i (some v)) [some w] H1 := Cur.take (te := [s2]) (τ := [some w]) C1 i
  exact ⟨v, w, rfl, ek.nx _ st1 _ F1 H1 q (C2.take j) x1.f⟩
theorem par3 (hr : r.len = 3) (h : uS Γ c W (.par [i, j, k] r) E0 σ H) : tPar3 i j k (uR Γ c W r) E0 σ H := by
  obtain ⟨F0, F, ρ, st, K, Ed, C, w, ek, ei⟩ := h
  refine ⟨F0, F, ρ, st, [], [], _, Ed, C, w, fun ss ρ1 st1 vs F1 H1 q hl hn C1 x1 => ?_, ei⟩
  obtain ⟨u, v, w, rfl⟩ : ∃ u v w, vs = [u, v, w] := by
    match vs, hn.trans hr with
    | [a, b, c], _ => exact ⟨a, b, c, rfl⟩
  obtain ⟨s1, s2, s3, rfl⟩ : ∃ s1 s2 s3, ss = [s1, s2, s3] := by
    match ss, hl with
    | [a, b, c], _ => exact ⟨a, b, c, rfl⟩
  have C2 : Cur c F0 F1 (ρ1.set i s1) st1 [s2, s3] (σ.set i (some u)) [some v, some w] H1 := Cur.take (te := [s2, s3]) (τ := [some v, some w]) C1 i
  have C3 : Cur c F0 F1 ((ρ1.set i s1).set j s2) st1 [s3] ((σ.set i (some u)).set j (some v)) [some w] H1 := Cur.take (te := [s3]) (τ := [some w]) C2 j
  exact ⟨u, v, w, rfl, ek.nx _ st1 _ F1 H1 q (C3.take k) x1.f⟩
theorem RsOf.len : ∀ {es : List Expr} {r : Rs}, RsOf X Γ c W es r → r.len = es.length
  | _, _, .nil => rfl
  | _, _, .val _ _ h => congrArg (· + 1) h.len
  | _, _, .own _ _ h => congrArg (· + 1) h.len
theorem ps_par2U (G : GoodS X cs c Γ W) {x y : Str} {a b : Expr} {px py pt pt2 pos : Pos} {kt k2 : Nat} (hi : cs.N[i]? = some x) (hj : cs.N[j]? = some y) (hij : i ≠ j) (hx : cs.sc.names.lookup x = some .local) (hy : cs.sc.names.lookup y = some .local)
    (hw : swR cs.sc [.Name x px, .Name y py] [a, b] = .names [x, y]) (hr : RsOf X Γ c W [a, b] r) : PS X (.Assign [.Tuple [.Name x px, .Name y py] kt pt] (.Tuple [a, b] k2 pt2) pos) (uS Γ c W (.par [i, j] r)) := by
  rw [← G.g.sc] at hx hy hw
  exact PS.weaken (ps_par G.g.calm (by rw [G.g.N]; exact G.g.nd) (by rw [G.g.N]; exact hi) (by rw [G.g.N]; exact hj) hij hx hy (pa_rs hr) ((swR_ok G.kind _ _).2 _ hw)) fun D σ H h => par2 hr.len h
theorem ps_par3U (G : GoodS X cs c Γ W) {x y z : Str} {a b d : Expr} {px py pz pt pt2 pos : Pos} {kt k2 : Nat} (hi : cs.N[i]? = some x) (hj : cs.N[j]? = some y) (hk : cs.N[k]? = some z) (hij : i ≠ j) (hik : i ≠ k) (hjk : j ≠ k) (hx : cs.sc.names.lookup x = some .local) (hy : cs.sc.names.lookup y = some .local) (hz : cs.sc.names.lookup z = some .local)
    (hw : swR cs.sc [.Name x px, .Name y py, .Name z pz] [a, b, d] = .names [x, y, z]) (hr : RsOf X Γ c W [a, b, d] r) : PS X (.Assign [.Tuple [.Name x px, .Name y py, .Name z pz] kt pt] (.Tuple [a, b, d] k2 pt2) pos) (uS Γ c W (.par [i, j, k] r)) := by
  rw [← G.g.sc] at hx hy hz hw
  exact PS.weaken (ps_par3 G.g.calm (by rw [G.g.N]; exact G.g.nd) (by rw [G.g.N]; exact hi) (by rw [G.g.N]; exact hj) (by rw [G.g.N]; exact hk) hij hik hjk hx hy hz (pa_rs hr) ((swR_ok G.kind _ _).2 _ hw)) fun D σ H h => par3 hr.len h
/-! ### methods of own lists -/
theorem own_at (C : Cur c F0 F ρ st te σ τ H) {xs : List D} (h : ρ[i]? = some (.own xs)) : ∃ p vs, σ[i]? = some (some (.ref p)) ∧ H p = some (.lst vs) ∧ DenL c.rc F xs vs := by
  obtain ⟨x, hx, p, vs, rfl, _, _, _, q, r⟩ := C.at h
  exact ⟨p, vs, hx, q, r⟩
theorem Cur.write (C : Cur c F0 F ρ st te σ τ H) {xs ys : List D} {p : Addr} {us : List V} (h : ρ[i]? = some (.own xs)) (hx : σ[i]? = some (some (.ref p))) (r : DenL c.rc F ys us) : Cur c F0 F (ρ.set i (.own ys)) st te σ τ (upd H p (.lst us)) := by
  have hi : i < ρ.length := (List.getElem?_eq_some_iff.mp h).1
  refine ⟨by simpa using C.len, ?_⟩
  have J := C.sim.write (i := i) (xs := xs) (ys := ys) (p := p) (us := us) (by rw [List.getElem?_append_left hi]; exact h) (by rw [List.getElem?_append_left (C.len ▸ hi)]; exact hx) r
  rw [List.set_append_left _ _ hi] at J
  exact J
theorem ps_appU (G : GoodS X cs c Γ W) {y : Str} {e : Expr} {x : Pv.X} {p1 p2 p3 p4 : Pos} (hi : cs.slot y = some i) (he : PE X e (uE Γ c W x)) (hn : NS e) (hline : (p2.endLine == p3.line) = true) : PS X (.Expr (.Call (.Attribute (.Name y p1) "append" p2) [e] [] p3) p4) (uS Γ c W (.app i x)) := by
  refine PS.weaken (ps_expr (pe_bm PySem.F.plainAttrs_list PySem.F.slot_list_append PySem.F.type_list_append mt_append (pe_name G.g hi) (pa_cons he pa_nil (hn _ _)) rfl ?_ hline (hn _ _) rfl) rfl) fun D σ H h => ?_
  · rw [hn [] X.env]; rfl
  · obtain ⟨F0, F, ρ, st, K, Ed, C, ⟨⟨xs, h0⟩, w⟩, ek, ei⟩ := h
    obtain ⟨p, vs, hs, hp, _⟩ := own_at C h0
    refine ⟨.ref p, hs, .inl ⟨rfl, vs, SqL.of hp⟩, F0, F, ρ, st, [], [], _, Ed, C, w, fun d ρ1 st1 v F1 H1 q C1 x1 dn => ?_, ei σ⟩
    obtain ⟨ys, h1, hl, q⟩ := q
    obtain ⟨p', us, hs', hp', r⟩ := own_at C1 h1
    rw [hs] at hs'; cases hs'
    exact ⟨p, us, v, rfl, rfl, hp', by rw [r.length]; exact hl, ek.nx _ st1 _ F1 _ q (C1.write h1 hs (r.append ⟨v, [], rfl, dn, rfl⟩)) x1.f⟩
theorem ps_extU (G : GoodS X cs c Γ W) {y : Str} {e : Expr} {x : Pv.X} {p1 p2 p3 p4 : Pos} (hi : cs.slot y = some i) (he : PE X e (uE Γ c W x)) (hn : NS e) (hline : (p2.endLine == p3.line) = true) : PS X (.Expr (.Call (.Attribute (.Name y p1) "extend" p2) [e] [] p3) p4) (uS Γ c W (.ext i x)) := by
  refine PS.weaken (ps_expr (pe_bm PySem.F.plainAttrs_list PySem.F.slot_list_extend PySem.F.type_list_extend mt_extend (pe_name G.g hi) (pa_cons he pa_nil (hn _ _)) rfl ?_ hline (hn _ _) rfl) rfl) fun D σ H h => ?_
  · rw [hn [] X.env]; rfl
  · obtain ⟨F0, F, ρ, st, K, Ed, C, ⟨⟨xs, h0⟩, w⟩, ek, ei⟩ := h
    obtain ⟨p, vs, hs, hp, _⟩ := own_at C h0
    refine ⟨.ref p, hs, .inl ⟨rfl, vs, SqL.of hp⟩, F0, F, ρ, st, [], [], _, Ed, C, w, fun d ρ1 st1 v F1 H1 q C1 x1 dn => ?_, ei σ⟩
    obtain ⟨ys, zs, h1, rfl, hl, q⟩ := q
    obtain ⟨p', us, hs', hp', r⟩ := own_at C1 h1
    rw [hs] at hs'; cases hs'
    obtain ⟨b, ws, rfl, hb, r2⟩ := dn
    exact ⟨p, b, us, ws, rfl, rfl, hp', C1.sub _ _ hb, by rw [r.length, r2.length]; exact hl, ek.nx _ st1 _ F1 _ q (C1.write h1 hs (r.append r2)) x1.f⟩
/-! ### loops -/
theorem ps_forU (G : GoodS X cs c Γ W) (hf : Fok X Γ c W f) {tg iter : Expr} {body : List Stmt} {it : It} {g : Tg} {b : Stms} {pos : Pos} (hg : cTg cs.N cs.sc tg = some g) (hi : cIt cs f (isTupE tg) iter = some it) (hb : PSs X body (uSs Γ c W b))
    (hs : ∀ x, foldedSetIterable iter X.env x = pure x) : PS X (.For tg iter body [] pos) (uS Γ c W (.for_ g it b)) := by
  refine PS.weaken (ps_for G.own G.g.calm (pi_u G.g hf hi) (pg_of G.sto G.g.K hg) hb hs) fun D σ H ⟨F0, F, ρ, st, K, Ed, C, w, ek, ei⟩ => ?_
  refine ⟨F0, F, ρ, st, [], [], _, Ed, C, w, fun ds ρ1 st1 J F1 H1 w1 C1 x1 go => ?_, ei σ⟩
  obtain ⟨BW, hBW⟩ : ∃ BW : Env → S → (Env → S → Prop) → Prop, BW = fun ρ1 st1 nx => wpSs Γ b ρ1 st1 { K with nx := nx, ct := nx, bk := K.nx } Ed := ⟨_, rfl⟩
  rw [← hBW] at w1
  refine ⟨fun i m σ' H' => m = ds.length - i ∧ i ≤ ds.length ∧ ∃ F' ρ' st', Cur c F0 F' ρ' st' [] σ' [] H' ∧ Sub F1 F' ∧ forW g BW (ds.drop i) ρ' st' K.nx, ⟨ds.length, by omega, Nat.zero_le _, F1, ρ1, st1, C1, Sub.refl _, w1⟩, fun i m σ' H' hW => ?_⟩
  obtain ⟨em, hi, F', ρ', st', C', s', hw'⟩ := hW
  have gi := go F0 F' _ st' _ _ _ H' C' s' i
  by_cases hlt : i < ds.length
  · right
    obtain ⟨d, hd⟩ : ∃ d, ds[i]? = some d := ⟨ds[i], by simp [hlt]⟩
    obtain ⟨jgo, jy⟩ := gi.1 d hd
    have hdrop : ds.drop i = d :: ds.drop (i + 1) := by
      rw [List.drop_eq_getElem_cons hlt]
      rw [List.getElem?_eq_getElem hlt] at hd
      cases hd; rfl
    rw [hdrop] at hw'
    unfold forW at hw'
    cases hbind : g.bind d ρ' with
    | none => rw [hbind] at hw'; exact hw'.elim
    | some ρt =>
      rw [hbind] at hw'
      refine ⟨jgo, fun σ2 H2 => ∃ F'' ρ'' st'', Cur c F0 F'' ρ'' st'' [] σ2 [] H2 ∧ Sub F1 F'' ∧ forW g BW (ds.drop (i + 1)) ρ'' st'' K.nx, fun σ2 H2 ⟨F'', ρ'', st'', a1, a2, a3⟩ => ⟨ds.length - (i + 1), by omega, rfl, hlt, F'', ρ'', st'', a1, a2, a3⟩, fun xv H2 y => ?_⟩
      obtain ⟨F3, C3, x3, dn⟩ := jy xv H2 y
      refine ⟨d, F0, F3, ρ', st', [], [], ρt, C3, dn, hbind, fun σ3 C4 _ => ?_⟩
      rw [hBW] at hw'
      have s3 := s'.trans x3.f
      have s4 := x1.f.trans s3
      refine ⟨F0, F3, ρt, st', _, Ed, C4, hw', ⟨fun ρ5 st5 σ5 F5 H5 k5 C5 x5 => ⟨F5, ρ5, st5, C5, s3.trans x5, hBW ▸ k5⟩, fun d5 ρ5 st5 σ5 F5 H5 v5 k5 C5 x5 dn5 => ek.rt d5 ρ5 st5 σ5 F5 H5 v5 k5 C5 (s4.trans x5) dn5, fun ρ5 st5 σ5 F5 H5 k5 C5 x5 => ek.nx ρ5 st5 σ5 F5 H5 k5 C5 (s4.trans x5), fun ρ5 st5 σ5 F5 H5 k5 C5 x5 => ⟨F5, ρ5, st5, C5, s3.trans x5, hBW ▸ k5⟩⟩, ei⟩
  · left
    have e : i = ds.length := by omega
    refine ⟨gi.2 e, ?_⟩
    rw [e, List.drop_length] at hw'
    unfold forW at hw'
    exact ek.nx ρ' st' σ' F' H' hw' C' (x1.f.trans s')
theorem ps_whileU (G : GoodS X cs c Γ W) {cond : Expr} {body : List Stmt} {xc : Pv.X} {b : Stms} {pos : Pos} (hc : PT X cond (uT Γ c W xc)) (hb : PSs X body (uSs Γ c W b)) : PS X (.While cond body [] pos) (uS Γ c W (.while_ xc b)) := by
  refine PS.weaken (ps_while G.own hc hb) fun D σ H ⟨F0, F, ρ, st, K, Ed, C, w, ek, ei⟩ => ?_
  obtain ⟨n, w⟩ := w
  obtain ⟨TW, hTW⟩ : ∃ TW : Env → S → (Env → S → Prop) → Prop, TW = fun ρ1 st1 nx => wpX Γ xc ρ1 st1 (fun d ρ2 st2 => match d.truth with
    | some true => wpSs Γ b ρ2 st2 { K with nx := nx, ct := nx, bk := K.nx } Ed
    | some false => K.nx ρ2 st2
    | none => False) Ed := ⟨_, rfl⟩
  replace w : whileW TW n ρ st := by rw [hTW]; exact w
  refine ⟨fun m σ' H' => ∃ F' ρ' st', Cur c F0 F' ρ' st' [] σ' [] H' ∧ Sub F F' ∧ whileW TW m ρ' st', ⟨n, F, ρ, st, C, Sub.refl _, w⟩, fun m σ' H' ⟨F', ρ', st', C', s', hw'⟩ => ?_⟩
  cases m with
  | zero => exact (show False from hw').elim
  | succ m =>
    have hw' : TW ρ' st' (whileW TW m) := hw'
    obtain ⟨NW, hNW⟩ : ∃ NW, NW = whileW TW m := ⟨_, rfl⟩
    rw [← hNW, hTW] at hw'
    refine ⟨F0, F', ρ', st', [], [], _, Ed, C', hw', fun d ρ1 st1 F1 H1 q C1 x1 => ?_, ei σ'⟩
    obtain ⟨bb, e, q1, q2⟩ := if_core (S := S) (σ := σ) (H := H) (ρ1 := ρ1) (st1 := st1) q
    refine ⟨bb, e, ?_⟩
    have s1 := s'.trans x1.f
    cases bb with
    | true =>
      dsimp only
      rw [if_pos rfl]
      refine ⟨fun σ2 H2 => ∃ F'' ρ'' st'', Cur c F0 F'' ρ'' st'' [] σ2 [] H2 ∧ Sub F F'' ∧ whileW TW m ρ'' st'', fun σ2 H2 z => ⟨m, by omega, z⟩, ?_⟩
      exact ⟨F0, F1, ρ1, st1, _, Ed, C1, q1 rfl, ⟨fun ρ5 st5 σ5 F5 H5 k5 C5 x5 => ⟨F5, ρ5, st5, C5, s1.trans x5, hNW ▸ k5⟩, fun d5 ρ5 st5 σ5 F5 H5 v5 k5 C5 x5 dn5 => ek.rt d5 ρ5 st5 σ5 F5 H5 v5 k5 C5 (s1.trans x5) dn5, fun ρ5 st5 σ5 F5 H5 k5 C5 x5 => ek.nx ρ5 st5 σ5 F5 H5 k5 C5 (s1.trans x5), fun ρ5 st5 σ5 F5 H5 k5 C5 x5 => ⟨F5, ρ5, st5, C5, s1.trans x5, hNW ▸ k5⟩⟩, ei⟩
    | false => dsimp only; rw [if_neg (by decide)]; exact ek.nx ρ1 st1 σ' F1 H1 (q2 rfl) C1 s1
end
end Pv

end
section
set_option linter.all false
set_option maxRecDepth 100000
set_option maxHeartbeats 8000000
/-! Pv18: the compiler for statements, and that it is sound. -/
namespace Pv
open PySem PySem.Spec PyProof.Rows L2
/-- an expression that makes a new list -/
def freshE : Expr → Bool
  | .List _ _ => true
  | .ListComp _ _ _ _ => true
  | .BinOp _ .Mult _ _ => true
  | .BinOp _ .Add _ _ => true
  | _ => false
def isLc : Expr → Bool
  | .ListComp _ _ _ _ => true
  | .SetComp _ _ _ _ => true
  | .DictComp _ _ _ _ _ => true
  | _ => false
/-- the line of a list comprehension and its own names -/
def lcSwap (sc : Scope) (x : Str) (p : Pos) : Expr → Bool
  | .ListComp _ _ scope pos => (match sc.names.lookup x with | some .local => true | _ => false) && (p.line == pos.line) && !(scope.names.any fun (n, k) => n == x && (k == .local || k == .cell))
  | _ => false
def cellS (sc : Scope) (x : Str) : Bool := match sc.names.lookup x with | some .cell => true | _ => false
def cR (f : Expr → Option X) (mu : List Nat) : List Nat → List Expr → Option Rs
  | [], [] => some .nil
  | i :: is, e :: es => match f e, cR f mu is es with
    | some x, some r => some (if mu.contains i && freshE e then .own x r else .val x r)
    | _, _ => none
  | _, _ => none
def cSs (f : Stmt → Option Stm) : List Stmt → Option Stms
  | [] => some .nil
  | s :: r => match f s, cSs f r with
    | some a, some b => some (.cons a b)
    | _, _ => none
def cAsgN (n : Nat) (cs : Cs) (mu : List Nat) (x : Str) (p : Pos) (e : Expr) : Option Stm :=
  match nmIx cs.N cs.sc x, cX n cs e with
  | some i, some xe =>
    if !isLc e || lcSwap cs.sc x p e || cellS cs.sc x then some (if mu.contains i && freshE e then .own i xe else .set i xe) else none
  | _, _ => none
def cAsgT (n : Nat) (cs : Cs) (mu : List Nat) (ts : List Expr) (k : Nat) (p : Pos) (e : Expr) : Option Stm :=
  match e with
  | .Tuple vs k2 p2 => (match swR cs.sc ts vs with
    | .names _ => (match ts, vs with
      | [.Name x px, .Name y py], [a, b] => (match nmIx cs.N cs.sc x, nmIx cs.N cs.sc y with
        | some i, some j => if i ≠ j then (cR (cX n cs) mu [i, j] [a, b]).map (.par [i, j]) else none
        | _, _ => none)
      | [.Name x px, .Name y py, .Name z pz], [a, b, d] => (match nmIx cs.N cs.sc x, nmIx cs.N cs.sc y, nmIx cs.N cs.sc z with
        | some i, some j, some k => if i ≠ j ∧ i ≠ k ∧ j ≠ k then (cR (cX n cs) mu [i, j, k] [a, b, d]).map (.par [i, j, k]) else none
        | _, _, _ => none)
      | _, _ => none)
    | .none => (match cTg cs.N cs.sc (.Tuple ts k p), cX n cs e with
      | some g, some x => some (.tg g x)
      | _, _ => none)
    | .bad => none)
  | e => (match cTg cs.N cs.sc (.Tuple ts k p), cX n cs e with
      | some g, some x => some (.tg g x)
      | _, _ => none)
def cS : Nat → Nat → Cs → List Nat → Stmt → Option Stm
  | 0, _, _, _, _ => none
  | m + 1, n, cs, mu, s => match s with
    | .Assign [.Name x p] e _ => cAsgN n cs mu x p e
    | .Assign [.Tuple ts k p] e _ => cAsgT n cs mu ts k p e
    | .Expr (.Call (.Attribute (.Name y _) a p2) [e] [] p3) _ =>
      if (p2.endLine == p3.line) = true then (match cs.slot y, cX n cs e with
        | some i, some x => if a = "append" then some (.app i x) else if a = "extend" then some (.ext i x) else none
        | _, _ => none) else none
    | .Expr (.Call f es ks p) _ => (cX n cs (.Call f es ks p)).map .expr
    | .Return (some e) _ => (cX n cs e).map .ret
    | .Return none _ => some .retN
    | .If c a b _ => match cX n cs c, cSs (cS m n cs mu) a, cSs (cS m n cs mu) b with
      | some xc, some a', some b' => some (.ife xc a' b')
      | _, _, _ => none
    | .For tg iter body [] _ => match cTg cs.N cs.sc tg, cIt cs (cX n cs) (isTupE tg) iter, cSs (cS m n cs mu) body with
      | some g, some it, some b => some (.for_ g it b)
      | _, _, _ => none
    | .While c body [] _ => match cX n cs c, cSs (cS m n cs mu) body with
      | some xc, some b => some (.while_ xc b)
      | _, _ => none
    | .Pass _ => some .pass
    | .Break _ => some .brk
    | .Continue _ => some .cont
    | .Raise .. => some .raise
    | _ => none
section
variable {S : Type} {Γ : Nat → Ct S} {c : Set S} {W : WX}
variable {X : Cx} {cs : Cs} {F0 F H : Hp} {ρ te : Env} {st : S} {σ τ : List (Option V)}
theorem fok_of (n : Nat) (G : Good X cs c Γ) (tk : Takes X W) : Fok X Γ c W (cX n cs) := ⟨fun e x h => (cX_ok n X cs W G tk e x h).1, fun e x h => (cX_ok n X cs W G tk e x h).2, fun e x h => (cX_pl h).ns⟩
/-- the pieces of a compiled comprehension -/
theorem lc_parts {n : Nat} {elt : Expr} {gs : List Comprehension} {scope : Scope} {pos : Pos} {x : Pv.X} (h : cX (n + 1) cs (.ListComp elt gs scope pos) = some x) : ∃ tg iter ifs g it xe l fz, gs = [⟨tg, iter, ifs, 0⟩] ∧ cTg cs.N scope tg = some g ∧ blkC cs.N cs.sc scope (ownOf cs.N g) = true ∧
    cIt cs (cX n cs) (isTupE tg) iter = some it ∧ cX n { cs with sc := relS scope cs.sc } elt = some xe ∧ cAs (cX n { cs with sc := relS scope cs.sc }) ifs = some l ∧ ifs.length ≤ 1 ∧ x = .comp fz ((ownOf cs.N g).map (·.2)) g it l xe := by
  rcases gs with _ | ⟨⟨tg, iter, ifs, a⟩, _ | ⟨g2, gr⟩⟩
  · cases h
  · unfold cX at h
    split at h <;> rename_i he <;> first | (cases he; done) | skip
    · cases he
      split at h
      · cases h
      · rename_i g hgt
        split at h
        · rename_i ok
          split at h
          · rename_i it x l h1 h2 h3
            split at h
            · rename_i hl
              cases h
              exact ⟨tg, iter, ifs, g, it, x, l, _, rfl, hgt, ok, h1, h2, h3, hl, rfl⟩
            · cases h
          · cases h
        · cases h
    · cases h
  · unfold cX at h
    split at h <;> rename_i he <;> first | (cases he; done) | (cases h; done)
theorem pe_fresh {n : Nat} (G : Good X cs c Γ) (tk : Takes X W) {e : Expr} {x : Pv.X} (h : cX n cs e = some x) (hf : freshE e = true) : PE X e (uF Γ c W x) := by
  cases n with
  | zero => cases h
  | succ n =>
    have fk := fok_of n G tk
    cases e with
    | List es pos =>
      unfold cX at h
      obtain ⟨l, hl, rfl⟩ := mapS h
      exact PE.weaken (pe_lstN G fk (cAs_as hl)) fun _ _ _ => uN_F
    | BinOp a o b pos =>
      unfold cX at h
      cases o <;> first | (cases hf; done) | skip
      · obtain ⟨o, ho, h⟩ := bindS h
        cases ho
        obtain ⟨l, hl, rfl⟩ := mapS h
        obtain ⟨ta, tb, ha, hb, k⟩ := opnd2 G fk (cOs_of hl)
        exact PE.weaken (pe_op f_add ha hb) fun σ H Q hw => k σ H _ ((op_uF hw).imp fun vs H1 q x y e => by subst e; exact q)
      · obtain ⟨o, ho, h⟩ := bindS h
        cases ho
        obtain ⟨l, hl, rfl⟩ := mapS h
        obtain ⟨ta, tb, ha, hb, k⟩ := opnd2 G fk (cOs_of hl)
        exact PE.weaken (pe_op f_mul ha hb) fun σ H Q hw => k σ H _ ((op_uF hw).imp fun vs H1 q x y e => by subst e; exact q)
    | ListComp elt gs scope pos =>
      obtain ⟨tg, iter, ifs, g, it, xe, l, fz, rfl, hgt, ok, h1, h2, h3, hl, rfl⟩ := lc_parts h
      exact PE.weaken (comp_F G fk (fun s H C cl fp => fok_of n (G.blk s H C cl fp) takesF) hgt ok h1 h2 h3 hl (cIt_fs h1 _)) fun _ _ _ => uN_F
    | _ => cases hf
theorem cR_of {n : Nat} (G : GoodS X cs c Γ W) {mu : List Nat} : ∀ {is : List Nat} {es : List Expr} {r : Rs}, cR (cX n cs) mu is es = some r → RsOf X Γ c W es r
  | [], [], r, h => by cases h; exact .nil
  | i :: is, e :: es, r, h => by
    unfold cR at h
    split at h
    · rename_i x r h1 h2
      cases h
      split
      · rename_i z
        rw [Bool.and_eq_true] at z
        exact .own (pe_fresh G.g G.tk h1 z.2) (cX_pl h1).ns (cR_of G h2)
      · exact .val ((fok_of n G.g G.tk).e _ _ h1) (cX_pl h1).ns (cR_of G h2)
    · cases h
  | [], _ :: _, _, h => by cases h
  | _ :: _, [], _, h => by cases h
theorem sw_not {e : Expr} {t : Option Expr} {l : Nat} {env : PySem.Env} (h : isLc e = false) : swapsWith e t l env = pure false := by
  cases e <;> first | rfl | cases h
theorem sw_tup {e : Expr} {ts : List Expr} {k : Nat} {p : Pos} {l : Nat} {env : PySem.Env} : swapsWith e (some (.Tuple ts k p)) l env = pure false := by
  cases e <;> rfl
theorem sws_tup {e : Expr} {ts : List Expr} {k : Nat} {p : Pos} {l : Nat} {env : PySem.Env} : swapsWithSole [.Tuple ts k p] e l env = pure false := sw_tup (e := e) (ts := ts) (k := k) (p := p) (l := l) (env := env)
theorem sw_cell {e : Expr} {x : Str} {p : Pos} {l : Nat} {env : PySem.Env} (h : cellS env.scope x = true) : swapsWith e (some (.Name x p)) l env = pure false := by
  have e2 : env.kindOf x = some .cell := by
    unfold cellS at h
    split at h
    · assumption
    · cases h
  have e3 : (env.kindOf x == some .local) = false := by rw [e2]; rfl
  cases e <;> first | rfl | (unfold swapsWith; simp only [e3, Bool.and_false, Bool.false_and])
theorem asgN_ok {n : Nat} (G : GoodS X cs c Γ W) {mu : List Nat} {x : Str} {p pos : Pos} {e : Expr} {s : Stm} (h : cAsgN n cs mu x p e = some s) : PS X (.Assign [.Name x p] e pos) (uS Γ c W s) := by
  unfold cAsgN at h
  split at h
  · rename_i i xe h1 h2
    obtain ⟨hN, hloc⟩ := nmIx_ok h1
    have hloc' := G.sto.loc x hloc
    have hnd : X.N.Nodup := by rw [G.g.N]; exact G.g.nd
    have hN' : X.N[i]? = some x := by rw [G.g.N]; exact hN
    split at h
    · rename_i hc
      cases h
      by_cases hs : (!isLc e || cellS cs.sc x) = true
      · have sw : swapsWith e (some (.Name x p)) pos.line X.env = pure false := by
          rw [Bool.or_eq_true] at hs
          rcases hs with z | z
          · exact sw_not (by simpa using z)
          · exact sw_cell (by rw [G.g.sc]; exact z)
        split
        · rename_i z
          rw [Bool.and_eq_true] at z
          exact PS.weaken (ps_set hnd hN' hloc'.1 (pe_fresh G.g G.tk h2 z.2) sw hloc'.2) fun D σ H h => asg_ownF h
        · exact PS.weaken (ps_set hnd hN' hloc'.1 ((fok_of n G.g G.tk).e _ _ h2) sw hloc'.2) fun D σ H h => asg_set h
      · rw [Bool.or_eq_true, not_or] at hs
        have hc : lcSwap cs.sc x p e = true := by
          rw [Bool.or_eq_true, Bool.or_eq_true] at hc
          rcases hc with (z | z) | z
          · exact absurd z hs.1
          · exact z
          · exact absurd z hs.2
        cases n with
        | zero => cases h2
        | succ n =>
          cases e with
          | ListComp elt gs scope lpos =>
            obtain ⟨tg, iter, ifs, g, it, x2, l, fz, rfl, hgt, ok, h3, h4, h5, hl, rfl⟩ := lc_parts h2
            have hc : ((match cs.sc.names.lookup x with | some .local => true | _ => false) && (p.line == lpos.line) && !(scope.names.any fun (n, k) => n == x && (k == .local || k == .cell))) = true := hc
            rw [Bool.and_eq_true, Bool.and_eq_true, Bool.not_eq_true'] at hc
            obtain ⟨⟨c1, c2⟩, c3⟩ := hc
            have hyl : cs.sc.names.lookup x = some .local := by
              split at c1
              · assumption
              · cases c1
            have key := comp_S (pos := lpos) (spos := pos) (py := p) (fz := fz) G.g (fok_of n G.g G.tk) G.kind hN hyl c2 c3 (fun s H C cl fp => fok_of n (G.g.blk s H C cl fp) takesF) hgt ok h3 h4 h5 hl (cIt_fs h3 _)
            split
            · exact PS.weaken key fun D σ H h => by
                have z := asg_ownF h
                exact uN_F z
            · exact PS.weaken key fun D σ H h => by
                have z := asg_set h
                exact uN_E z
          | _ => cases hc
    · cases h
  · cases h
theorem nm1_or (sc : Scope) (l : Nat) (x : Str) (p : Pos) : (nm1 sc l (.Name x p) = some x ∧ sc.names.lookup x = some .local) ∨ nm1 sc l (.Name x p) = none := by
  unfold nm1
  dsimp only
  split
  · rename_i h
    rw [Bool.and_eq_true] at h
    exact .inl ⟨rfl, eq_of_beq h.1⟩
  · exact .inr rfl
theorem swR_names {sc : Scope} {ts vs : List Expr} {l : List Str} (h : swR sc ts vs = .names l) : l = ts.filterMap (nm1 sc ((ts.head?.map (·.pos.line)).getD 0)) ∧ l.length = ts.length := by
  unfold swR at h
  dsimp only at h
  split at h
  · cases h
  split at h
  · cases h
  split at h
  · cases h
  rename_i hn
  split at h
  · cases h
  split at h
  · cases h
  cases h
  refine ⟨rfl, ?_⟩
  rw [Bool.or_eq_true, not_or] at hn
  have h1 := hn.1
  rw [bne_iff_ne, ne_eq, Decidable.not_not] at h1
  exact h1
theorem swR2 {sc : Scope} {x y : Str} {px py : Pos} {vs : List Expr} {l : List Str} (h : swR sc [.Name x px, .Name y py] vs = .names l) : l = [x, y] ∧ sc.names.lookup x = some .local ∧ sc.names.lookup y = some .local := by
  obtain ⟨e, hl⟩ := swR_names h
  generalize ((List.head? [Expr.Name x px, Expr.Name y py]).map (·.pos.line)).getD 0 = ln at e
  subst e
  rcases nm1_or sc ln x px with ⟨a1, a2⟩ | a1 <;> rcases nm1_or sc ln y py with ⟨b1, b2⟩ | b1 <;> simp [List.filterMap_cons, a1, b1] at hl ⊢
  exact ⟨a2, b2⟩
theorem swR3 {sc : Scope} {x y z : Str} {px py pz : Pos} {vs : List Expr} {l : List Str} (h : swR sc [.Name x px, .Name y py, .Name z pz] vs = .names l) : l = [x, y, z] ∧ sc.names.lookup x = some .local ∧ sc.names.lookup y = some .local ∧ sc.names.lookup z = some .local := by
  obtain ⟨e, hl⟩ := swR_names h
  generalize ((List.head? [Expr.Name x px, Expr.Name y py, Expr.Name z pz]).map (·.pos.line)).getD 0 = ln at e
  subst e
  rcases nm1_or sc ln x px with ⟨a1, a2⟩ | a1 <;> rcases nm1_or sc ln y py with ⟨b1, b2⟩ | b1 <;> rcases nm1_or sc ln z pz with ⟨c1, c2⟩ | c1 <;> simp [List.filterMap_cons, a1, b1, c1] at hl ⊢
  exact ⟨a2, b2, c2⟩
theorem asgT_ok {n : Nat} (G : GoodS X cs c Γ W) {mu : List Nat} {ts : List Expr} {k : Nat} {p pos : Pos} {e : Expr} {s : Stm} (h : cAsgT n cs mu ts k p e = some s) : PS X (.Assign [.Tuple ts k p] e pos) (uS Γ c W s) := by
  have fk := fok_of n G.g G.tk
  have gen : ∀ {g : Tg} {x : Pv.X}, cTg cs.N cs.sc (.Tuple ts k p) = some g → cX n cs e = some x → swappedStores [.Tuple ts k p] e X.env = pure none → PS X (.Assign [.Tuple ts k p] e pos) (uS Γ c W (.tg g x)) := fun hg hx hw =>
    PS.weaken (ps_asg (fk.e _ _ hx) (pg_of G.sto G.g.K hg) sws_tup hw rfl) fun D σ H h => asg_tg h
  unfold cAsgT at h
  split at h
  · rename_i vs k2 p2
    split at h
    · rename_i nms hsw
      split at h
      · rename_i x px y py a b
        split at h
        · rename_i i j h1 h2
          split at h
          · rename_i hij
            obtain ⟨r, hr, rfl⟩ := mapS h
            obtain ⟨rfl, l1, l2⟩ := swR2 hsw
            exact ps_par2U G (nmIx_ok h1).1 (nmIx_ok h2).1 hij l1 l2 hsw (cR_of G hr)
          · cases h
        · cases h
      · rename_i x px y py z pz a b d
        split at h
        · rename_i i j k h1 h2 h3
          split at h
          · rename_i hij
            obtain ⟨r, hr, rfl⟩ := mapS h
            obtain ⟨rfl, l1, l2, l3⟩ := swR3 hsw
            exact ps_par3U G (nmIx_ok h1).1 (nmIx_ok h2).1 (nmIx_ok h3).1 hij.1 hij.2.1 hij.2.2 l1 l2 l3 hsw (cR_of G hr)
          · cases h
        · cases h
      · cases h
    · rename_i hsw
      split at h
      · rename_i g x h1 h2
        cases h
        exact gen h1 h2 ((swR_ok G.kind _ _).1 (by rw [G.g.sc]; exact hsw))
      · cases h
    · cases h
  · rename_i hne
    split at h
    · rename_i g x h1 h2
      cases h
      exact gen h1 h2 (sw_noTup (by cases e <;> first | rfl | exact absurd rfl (hne _ _ _)))
    · cases h
theorem pss_of {f : Stmt → Option Stm} (hf : ∀ s s', f s = some s' → PS X s (uS Γ c W s')) : ∀ {ss : List Stmt} {ss' : Stms}, cSs f ss = some ss' → PSs X ss (uSs Γ c W ss')
  | [], _, h => by cases h; exact pss_nilU
  | s :: r, _, h => by
    unfold cSs at h
    split at h
    · rename_i a b h1 h2
      cases h
      exact pss_consU (hf _ _ h1) (pss_of hf h2)
    · cases h
theorem cS_ok (G : GoodS X cs c Γ W) : ∀ {m n : Nat} {mu : List Nat} (s : Stmt) (s' : Stm), cS m n cs mu s = some s' → PS X s (uS Γ c W s')
  | 0, _, _, _, _, h => by cases h
  | m + 1, n, mu, s, s', h => by
    have fk := fok_of n G.g G.tk
    have ih : ∀ s s', cS m n cs mu s = some s' → PS X s (uS Γ c W s') := fun s s' h => cS_ok G s s' h
    unfold cS at h
    split at h
    · exact asgN_ok G h
    · exact asgT_ok G h
    · split at h
      · rename_i hl
        split at h
        · rename_i i x h1 h2
          split at h
          · rename_i e; subst e; cases h; exact ps_appU G h1 (fk.e _ _ h2) (cX_pl h2).ns hl
          · split at h
            · rename_i e; subst e; cases h; exact ps_extU G h1 (fk.e _ _ h2) (cX_pl h2).ns hl
            · cases h
        · cases h
      · cases h
    · obtain ⟨x, hx, rfl⟩ := mapS h
      exact ps_exprU (fk.e _ _ hx) rfl
    · obtain ⟨x, hx, rfl⟩ := mapS h
      exact ps_retU (fk.e _ _ hx)
    · cases h; exact ps_retNU
    · split at h
      · rename_i xc a' b' h1 h2 h3
        cases h
        exact ps_ifU (fk.t _ _ h1) (pss_of ih h2) (pss_of ih h3)
      · cases h
    · split at h
      · rename_i g it b h1 h2 h3
        cases h
        exact ps_forU G fk h1 h2 (pss_of ih h3) (cIt_fs h2 _)
      · cases h
    · split at h
      · rename_i xc b h1 h2
        cases h
        exact ps_whileU G (fk.t _ _ h1) (pss_of ih h2)
      · cases h
    · cases h; exact ps_passU
    · cases h; exact ps_breakU
    · cases h; exact ps_contU
    · cases h; exact ps_raiseU
    · cases h
end
end Pv

end
section
set_option linter.all false
set_option maxRecDepth 100000
set_option maxHeartbeats 4000000
/-! Pv19: a def keeps its contract, by its compiled body. -/
namespace Pv
open PySem PySem.Spec PyProof.Rows L2
section
variable {S : Type}
def startE (N : List Str) (ds : List D) : Env := ds.map .val ++ List.replicate (N.length - ds.length) .un
theorem DenL.slots {rc : Rc} {F : Hp} {c : Set S} (hc : c.rc = rc) {H : Hp} : ∀ {ds : List D} {vs : List V}, DenL rc F ds vs → ∀ (i : Nat) (s : Sl) (x : Option V), (ds.map Sl.val)[i]? = some s → (vs.map some)[i]? = some x → SlOk c F H s x
  | [], _, h, i, s, x, h1, _ => by simp at h1
  | d :: ds, _, ⟨v, r, rfl, h1, h2⟩, 0, s, x, e1, e2 => by
    simp at e1 e2
    subst e1; subst e2; subst hc
    exact ⟨v, rfl, h1⟩
  | d :: ds, _, ⟨v, r, rfl, h1, h2⟩, i + 1, s, x, e1, e2 => DenL.slots hc h2 i s x (by simpa using e1) (by simpa using e2)
theorem cur_start {c : Set S} {F H : Hp} {st : S} {N : List Str} {ds : List D} {vs : List V} (h0 : c.H0 = H) (s : Sub F H) (hM : ∀ a, c.R.M a → F a = none) (ok : c.R.ok st H) (d : DenL c.rc F ds vs) : Cur c F F (startE N ds) st [] (start N vs) [] H := by
  have hl := d.length
  have own : ∀ (i : Nat) (xs : List D), (startE N ds)[i]? ≠ some (.own xs) := fun i xs e => by
    unfold startE at e
    by_cases hi : i < (ds.map Sl.val).length
    · rw [List.getElem?_append_left hi, List.getElem?_map] at e
      cases z : ds[i]? with
      | none => rw [z] at e; cases e
      | some a => rw [z] at e; cases e
    · rw [List.getElem?_append_right (by omega), List.getElem?_replicate] at e
      split at e <;> cases e
  have len : (startE N ds).length = (start N vs).length := by
    unfold startE L2.start
    simp [hl]
  refine ⟨len, ⟨fun a o e _ => h0 ▸ e, Sub.refl _, s, fun a o e => .inl e, hM, ok, by simpa using len, fun i sl x e1 e2 => ?_, fun i j xs ys p e1 _ _ _ => ?_⟩⟩
  · rw [List.append_nil] at e1 e2
    unfold startE at e1
    unfold L2.start at e2
    by_cases hi : i < ds.length
    · rw [List.getElem?_append_left (by simpa using hi)] at e1
      rw [List.getElem?_append_left (by simpa [hl] using hi)] at e2
      exact d.slots rfl i sl x e1 e2
    · rw [List.getElem?_append_right (by simpa using Nat.le_of_not_lt hi), List.getElem?_replicate] at e1
      split at e1
      · cases e1; trivial
      · cases e1
  · rw [List.append_nil] at e1
    exact absurd e1 (own i xs)
/-- what is wanted behind a def's body -/
def knOf (Qd : D → S → Prop) : Kn S := ⟨fun _ st => Qd .non st, Qd, fun _ _ => False, fun _ _ => False⟩
theorem Cur.post {c : Set S} {F0 F H : Hp} {ρ te : Env} {st : S} {σ τ : List (Option V)} (C : Cur c F0 F ρ st te σ τ H) : Post c.R F0 c.H0 st F H :=
  ⟨C.sim.f0, C.sim.fh, C.sim.keep, C.sim.fnew, C.sim.fM, C.sim.reg⟩
/-- the facts about names that a body's compiler is given -/
structure Nms (P : Program) (w : World) (K : PySem.W.Frag) (mg : Str → Option Value) (base : Heap) (RC : Reg S → Prop) (Γ : Nat → Ct S) (k : Nat) (cs : Cs) : Prop where
  cons : ∀ x d, cs.cons.lookup x = some d → ∃ v u, scalD d = some v ∧ mg x = some u ∧ RelV v u
  blt : ∀ x, cs.blt.contains x = true → mg x = none
  funs : ∀ f id m, cs.funs.lookup f = some (id, m) → ∃ fa fd j ps, mg f = some (.ref fa) ∧ PySem.W.keepIn K (.ref fa) = true ∧ Binds K fd ps [] ∧ ps.length = m ∧ j ≤ k ∧ FnG P w K mg base j fa fd ps (spOf K mg RC m (Γ id))
  kfs : ∀ q ∈ cs.kf, ∃ fa fd j ps g gV, mg q.f = some (.ref fa) ∧ PySem.W.keepIn K (.ref fa) = true ∧ KBn K fd ps q.n q.ks g gV ∧ (∀ vs zs : List V, vs.length = q.n → zs.length = q.ks.length → gV vs zs = vs ++ fillV q.fill zs) ∧ ps.length = q.n + q.fill.length ∧
    (q.fill.filter Option.isNone).length = q.ks.length ∧ (∀ d, some d ∈ q.fill → (scalD d).isSome = true) ∧ j ≤ k ∧ FnG P w K mg base j fa fd ps (spOf K mg RC ps.length (Γ q.id))
theorem goodS_of {P : Program} {w : World} {K : PySem.W.Frag} {mg : Str → Option Value} {base : Heap} {RC : Reg S → Prop} {Γ : Nat → Ct S} {k : Nat} {cs : Cs} {ps : List Str} {qual : Str} {scope : Scope} {f : Addr} {cd : Value} {A : Around} {outer : List PySem.Env} {s : Shared} {H : Hp} {E : XK} {R : Reg S} {okR : RC R}
    (n : Nms P w K mg base RC Γ k cs) (Sc : FnScope cs.N ps scope) (hsc : cs.sc = scope) (hr : Room k (A.deeper (envOfC qual scope s.heap.objs.size f cd))) (hg : A.guards = some []) :
    GoodS (cxOf (L2.CX P w) P w K mg base cs.N qual scope f cd A outer s H E) cs (⟨R, K, mg, H, RC, okR⟩ : Set S) Γ (fun cls d _ H' => E cls d H') :=
  ⟨⟨rfl, hsc.symm, Sc.nd, rfl, rfl, rfl, by have := hr.un; show (A.deeper _).units + 70 < cLine; omega, hg, n.cons, n.blt, fun f id m h => by
      obtain ⟨fa, fd, j, ps, h1, h2, h3, h4, h5, h6⟩ := n.funs f id m h
      exact ⟨fa, fd, j, ps, h1, h2, h3, h4, hr.mono h5, h6⟩, fun q hq => by
      obtain ⟨fa, fd, j, ps, g, gV, h1, h2, h3, h4, h5, h6, h7, h8, h9⟩ := n.kfs q hq
      exact ⟨fa, fd, j, ps, g, gV, h1, h2, h3, h4, h5, h6, h7, hr.mono h8, h9⟩⟩,
    takes_of rfl rfl rfl rfl, Sc.kind, passes_of rfl, fun _ => .inl rfl⟩
/-- a def by any reading of its body -/
theorem fnG_body {P : Program} {w : World} {K : PySem.W.Frag} {mg : Str → Option Value} {base : Heap} {k : Nat} {N : List Str} {f : Addr} {name qual : Str} {params : Arguments} {body : List Stmt} {scope : Scope} {dV kV doc pm cdv ctv oc : Value} {an od : Option Addr}
    {osl : Array (Option Value)} {ps : List Str} {sp : Sp}
    (lk : K.lookup f = some ⟨oc, od, .func (PySem.W.fnOf name qual params body scope dV kV doc pm an cdv ctv), osl⟩) (hcd : PySem.W.codeIn K cdv qual = true) (Sc : FnScope N ps scope) (len : ∀ vs H Q E, sp vs H Q E → vs.length = ps.length)
    (hbody : ∀ (A : Around) (outer : List PySem.Env) (s : Shared) (H : Hp) (vs : List V) (Q : VK) (E : XK), Room k (A.deeper (envOfC qual scope s.heap.objs.size f cdv)) → A.guards = some [] → sp vs H Q E →
      ∃ t, PSs (cxOf (L2.CX P w) P w K mg base N qual scope f cdv A outer s H E) body t ∧ t { nx := fun _ H' => Q .non H', rt := Q } (start N vs) H) :
    FnG P w K mg base (k + 1) f (PySem.W.fnOf name qual params body scope dV kV doc pm an cdv ctv) ps sp := by
  refine ⟨len, fun A outer s H args us vs Q E hr hgd e0 hb r hsp => ?_⟩
  have hvl := len _ _ _ _ hsp
  have Kin : K.In s.heap := e0.mod.kin.keeps fun a u z => (e0.bs a u z).1
  have hkd : ∀ q ∈ ps.zip us, scope.names.lookup q.1 = some .local ∨ (scope.names.lookup q.1 = some .cell ∧ ((cellsFrom (s.heap.objs.size + 1) scope.names []).lookup q.1).isSome = true) := fun ⟨p, u⟩ hq => by
    rcases Sc.par p (List.of_mem_zip hq).1 with z | z
    · exact .inl z
    · exact .inr ⟨z, PySem.W.cellsFrom_some _ _ _ (.inl z)⟩
  refine codeAny_call_function hr.depth (Kin _ _ lk) rfl Sc.co Sc.gen rfl (PySem.W.codeRec_of Kin hcd) (hb _ _ _ _ ?_)
  refine wpAny_newFunctionEnv_cells Sc.kind hkd fun env he s1 x => ?_
  subst he
  refine ⟨(e0.mod.nolimit.keeps fun a u z => (e0.bs a u z).1).keeps x.toInCall.keep, codeAny_func ?_⟩
  have I : Inv (cxOf (L2.CX P w) P w K mg base N qual scope f cdv A outer s H E) [] (start N vs) H s1 := inv_start Sc hr.hd e0 hvl r x
  obtain ⟨t, hp, ht⟩ := hbody A outer s H vs Q E (hr.deeper _) hgd hsp
  refine wpAny_mono (hp.run [] s1 (start N vs) H _ I ht) (fun fl s' hs => ?_) fun e s' hs => hs
  cases fl with
  | ret u =>
    obtain ⟨v, σ', H', J, rv, q⟩ := hs
    exact ⟨v, H', J.os, J.bare, J.base, J.hok, rv, q⟩
  | next =>
    obtain ⟨σ', H', J, q⟩ := hs
    exact ⟨.non, H', J.os, J.bare, J.base, J.hok, rfl, q⟩
  | brk => obtain ⟨_, _, _, q⟩ := hs; exact False.elim q
  | cont => obtain ⟨_, _, _, q⟩ := hs; exact False.elim q
/-- a def by its compiled body -/
theorem fnG_of {P : Program} {w : World} {K : PySem.W.Frag} {mg : Str → Option Value} {base : Heap} {RC : Reg S → Prop} {Γ : Nat → Ct S} {k : Nat} {cs : Cs} {f : Addr} {name qual : Str} {params : Arguments} {body : List Stmt} {scope : Scope} {dV kV doc pm cdv ctv oc : Value} {an od : Option Addr}
    {osl : Array (Option Value)} {ps : List Str} {ct : Ct S} {m n : Nat} {mu : List Nat} {body' : Stms}
    (lk : K.lookup f = some ⟨oc, od, .func (PySem.W.fnOf name qual params body scope dV kV doc pm an cdv ctv), osl⟩) (hcd : PySem.W.codeIn K cdv qual = true) (Sc : FnScope cs.N ps scope) (hsc : cs.sc = scope)
    (nm : Nms P w K mg base RC Γ k cs) (hc : cSs (cS m n cs mu) body = some body')
    (hct : ∀ (ds : List D) (st : S) (Qd Ed : D → S → Prop), ds.length = ps.length → ct ds st Qd Ed → wpSs Γ body' (startE cs.N ds) st (knOf Qd) fun e _ st => Ed e st) :
    FnG P w K mg base (k + 1) f (PySem.W.fnOf name qual params body scope dV kV doc pm an cdv ctv) ps (spOf K mg RC ps.length ct) := by
  refine fnG_body lk hcd Sc (fun vs H Q E ⟨R, F, st, ds, Qd, Ed, _, _, _, _, dn, hl, _⟩ => dn.length.trans hl) fun A outer s H vs Q E hr hgd hsp => ?_
  obtain ⟨R, F, st, ds, Qd, Ed, hRC, sF, hM, ok, dn, hl, hw, kq, ke⟩ := hsp
  have G := goodS_of (S := S) (okR := hRC) (qual := qual) (f := f) (cd := cdv) (outer := outer) (s := s) (H := H) (E := E) nm Sc hsc hr hgd
  have C : Cur (⟨R, K, mg, H, RC, hRC⟩ : Set S) F F (startE cs.N ds) st [] (start cs.N vs) [] H := cur_start rfl sF hM ok dn
  have fin : ∀ {d : D} {ρ : Env} {st' : S} {σ : L2.St} {F' H' : Hp} {v : V}, Qd d st' → Cur (⟨R, K, mg, H, RC, hRC⟩ : Set S) F F' ρ st' [] σ [] H' → Den ⟨K, R.η⟩ F' d v → Q v H' := fun q C' d' => kq _ _ _ _ _ q C'.post d'
  exact ⟨_, pss_of (cS_ok G) hc, F, F, _, st, _, _, C, hct ds st Qd Ed hl hw,
    ⟨fun ρ st' σ F' H' q C' _ => fin q C' rfl, fun d ρ st' σ F' H' v q C' _ dn' => fin q C' dn', fun _ _ _ _ _ z _ _ => z.elim, fun _ _ _ _ _ z _ _ => z.elim⟩,
    fun σ e ρ st' F' H' cls dx q C' dx' => ke e st' cls dx F' H' q C'.post dx'⟩
end
end Pv

end
section
set_option linter.all false
set_option maxRecDepth 100000
set_option maxHeartbeats 4000000
/-! Pv20: from the law's contract to the head's goal. -/
namespace Pv
open PySem PySem.Spec PyProof.Rows L2
/-- the heap that tells of the script alone -/
def oneH (a : Addr) (vs : List Value) (ns : List Int) : Hp := fun c => if c = a then some (.frz { cls := .type "list", data := .seq vs.toArray } (.lst (ns.map V.int))) else none
theorem no_frs : ∀ c ∈ frs [], False := fun c h => absurd (show c ∈ ([] : List Addr) from h) (by simp)
theorem law_callG {P : Program} {w : World} {K : PySem.W.Frag} {mg mb : Str → Option Value} {k : Nat} {fa a : Addr} {fd : FuncData} {x : Str} {sp : Sp} {z : Shared} {vs : List Value} {ns : List Int}
    (hK : K.In z.heap) (hm : z.heap.Ns mainGlobals mg) (hbn : z.heap.Ns builtinsNs mb) (hbt : ∀ y : Str, y ≠ "__name__" → mb y = bootBuiltins y) (hno : z.heap.NoLimit) (hge : z.gens = #[])
    (hob : z.heap.get? a = some { cls := .type "list", data := .seq vs.toArray }) (hin : IntsAre vs ns) (hle : ns.length ≤ sizeLine) (hrm : Room k callerA)
    (F : ∀ base : Heap, K.In base → base.Ns mainGlobals mg → FnG P w K mg base k fa fd [x] sp) (hbi : ∀ (s : Shared) (u : Value), BindsTo s fd ⟨[u], []⟩ [(x, u)])
    (hsp : ∀ H : Hp, Only H → SqL K H a (ns.map V.int) → sp [.ref a] H (fun v _ => v = .bl true) fun _ _ _ => False) (hcx : ∀ H e s', L2.CX P w [] H z (fun _ _ _ => False) e s' → False) :
    codeAny (model P w) callerA (.call (.ref fa) ⟨[.ref a], []⟩) (fun r s' => r = .ok (.ret (.bool true)) ∧ OldK z.heap s'.heap ∧ s'.os = z.os ∧ AllBare s'.gens) z := by
  have nv := hin.length
  suffices main : ∀ H : Hp, Only H → SqL K H a (ns.map V.int) → HOk P w H z.heap → (∀ c, H c ≠ none → c = a ∧ K.lookup a = none) →
      codeAny (model P w) callerA (.call (.ref fa) ⟨[.ref a], []⟩) (fun r s' => r = .ok (.ret (.bool true)) ∧ OldK z.heap s'.heap ∧ s'.os = z.os ∧ AllBare s'.gens) z by
    cases hk : K.lookup a with
    | some o =>
      have e := hK a o hk
      rw [hob] at e
      cases e
      exact main (fun _ => none) (fun _ => .inl rfl) (.inr ⟨_, vs.toArray, _, hk, rfl, rfl, rfl, by rw [List.size_toArray, nv]; exact hle, by simpa using vals_ints hin⟩) (fun c u e => nomatch e) fun c e => absurd rfl e
    | none =>
      have at_a : oneH a vs ns a = some (.frz { cls := .type "list", data := .seq vs.toArray } (.lst (ns.map V.int))) := if_pos rfl
      have off : ∀ c, c ≠ a → oneH a vs ns c = none := fun c h => if_neg h
      refine main (oneH a vs ns) (fun c => ?_) (.inl (.inr ⟨_, at_a⟩)) (fun c u e => ?_) fun c e => ⟨Classical.byContradiction fun h => e (off c h), hk⟩
      · by_cases h : c = a
        · subst h; exact .inr ⟨_, _, at_a⟩
        · exact .inl (off c h)
      · by_cases h : c = a
        · subst h
          rw [at_a] at e
          cases e
          exact ⟨hob, by rw [List.length_map]; exact hle, vs, _, vals_ints hin, hob⟩
        · rw [off c h] at e; cases e
  intro H only sq ok own
  have dict_out : ∀ {c : Addr} {o : Obj} {es : Array DictEntry} {ep : Nat}, z.heap.get? c = some o → o.data = .dict es ep → H c = none := fun {c o es ep} e d => Classical.byContradiction fun n => by
    obtain ⟨rfl, _⟩ := own c n
    rw [hob] at e
    cases e
    exact nomatch (show Data.seq vs.toArray _ = Data.dict es ep from d)
  have ns_in : ∀ {c : Addr} {m : Str → Option Value}, z.heap.Ns c m → (hidT z.heap H).Ns c m := fun {c m} ⟨o, es, ep, e, d, r⟩ => ⟨o, es, ep, hidT_get e (dict_out e d), d, r⟩
  have k_in : K.In (hidT z.heap H) := fun c o e => hidT_get (hK c o e) (Classical.byContradiction fun n => by
    obtain ⟨rfl, q⟩ := own c n
    rw [q] at e; cases e)
  have md : Mod K mg (hidT z.heap H) := ⟨k_in, ns_in hm, ⟨mb, ns_in hbn, hbt⟩, let ⟨mc, p1, p2⟩ := hno; ⟨mc, ns_in p1, p2⟩⟩
  have en : Env0 P w K mg (hidT z.heap H) callerA [] z H := ⟨rfl, md, fun c o e => of_hidT e, Nat.le_of_eq (hidT_size _ _), trivial, fun c h => (no_frs c h).elim, ok, .of_eq hge⟩
  refine codeAny_mono ((F _ k_in (ns_in hm)).run callerA [] z H ⟨[.ref a], []⟩ [.ref a] [.ref a] _ _ hrm rfl en (hbi z (.ref a)) (.cons rfl .nil) (hsp H only sq)) fun r s' h => ?_
  match r, h with
  | .error e, h => exact (hcx H e s' h).elim
  | .ok .next, h => exact (show False from h).elim
  | .ok .brk, h => exact (show False from h).elim
  | .ok .cont, h => exact (show False from h).elim
  | .ok (.ret u), ⟨v, H', os, bare, un, ok', rv, q⟩ =>
    subst q
    obtain rfl : u = Value.bool true := rv
    refine ⟨rfl, OldK.of_keep fun c o e => ?_, os, bare⟩
    rcases only c with n | ⟨ob, xs, n⟩
    · exact un.keep c o e n (no_frs c) (by simp)
    · obtain ⟨e1, _⟩ := ok c _ n
      obtain ⟨e2, _⟩ := ok' c _ (un.frzs c ob _ n)
      rw [e] at e1; cases e1
      exact e2
theorem walk_ofG {l : PySem.W.OpenLaw} {n k : Nat} {q : Program} {loose : List Str} {XP : (Str → Option Value) → Heap → Prop} {YP : World → Heap → Prop} {d : DefRec} {K : Params → PySem.W.Frag} {sp : World → (Str → Option Value) → Sp} {x : Str}
    (hn : l.most = some n) (hn2 : n ≤ sizeLine) (hdf : d.params.defaults = []) (hr : Room k callerA) (hY : ∀ (w : World) (h : Heap), YP w h → (K w.params).In h)
    (F : ∀ (w : World) (mg : Str → Option Value) (fa : Addr) (h : Heap), (K w.params).In h → h.Ns mainGlobals mg → mg d.name = some (.ref fa) →
      ∃ fd : FuncData, (∀ (s : Shared) (u : Value), BindsTo s fd ⟨[u], []⟩ [(x, u)]) ∧ ∀ base : Heap, (K w.params).In base → base.Ns mainGlobals mg → FnG l.prog w (K w.params) mg base k fa fd [x] (sp w mg))
    (hsp : ∀ (w : World) (mg : Str → Option Value) (H : Hp) (a : Addr) (ns : List Int), ns.length ≤ n → Only H → SqL (K w.params) H a (ns.map V.int) → sp w mg [.ref a] H (fun v _ => v = .bl true) fun _ _ _ => False)
    (hcx : ∀ (w : World) (H : Hp) (s : Shared) (e : Value) (s' : Shared), L2.CX l.prog w [] H s (fun _ _ _ => False) e s' → False) :
    PySem.W.WalkO q loose XP YP l.row.toRowW d [] (fun f vs => PySem.call f vs) := by
  refine Att.attach_call hn hdf fun w z₀ z mg mb fa o pm cd doc a vs ns G Y ho hd hcd hmg hobj hints hlen hg => ?_
  obtain ⟨fd, hb, hF⟩ := F w mg fa _ (hY w _ Y) G.T.g hmg
  exact law_callG (hY w _ Y) G.T.g G.T.b G.T.builtins G.T.nolimit hg hobj hints (Nat.le_trans hlen hn2) hr hF hb (fun H h1 h2 => hsp w mg H a ns hlen h1 h2) fun H e s' => hcx w H z e s'
end Pv

end
section
set_option linter.all false
set_option maxRecDepth 100000
set_option maxHeartbeats 4000000
/-! Pv21: rules for loops and comprehensions on pure data. -/
namespace Pv
open PySem PySem.Spec PyProof.Rows L2
section
variable {S : Type}
theorem forW_ind {tg : Tg} {body : Env → S → (Env → S → Prop) → Prop} {Q : Env → S → Prop} (P : List D → Env → S → Prop) (h0 : ∀ ρ st, P [] ρ st → Q ρ st)
    (hs : ∀ d ds ρ st, P (d :: ds) ρ st → ∃ ρ1, tg.bind d ρ = some ρ1 ∧ ∀ nx : Env → S → Prop, (∀ ρ2 st2, P ds ρ2 st2 → nx ρ2 st2) → body ρ1 st nx) : ∀ ds ρ st, P ds ρ st → forW tg body ds ρ st Q
  | [], ρ, st, h => h0 ρ st h
  | d :: ds, ρ, st, h => by
    obtain ⟨ρ1, e, k⟩ := hs d ds ρ st h
    unfold forW
    rw [e]
    exact k _ fun ρ2 st2 h2 => forW_ind P h0 hs ds ρ2 st2 h2
theorem compW_ind {turn : Env → S → (Env → S → Prop) → (D → S → Prop) → Prop} {tg : Tg} {ρ : Env} {Q : List D → S → Prop} (P : List D → List D → S → Prop) (h0 : ∀ acc st, P [] acc st → Q acc st)
    (hs : ∀ d ds acc st, P (d :: ds) acc st → ∃ ρ1, tg.bind d ρ = some ρ1 ∧ ∀ (skip : Env → S → Prop) (keep : D → S → Prop), (∀ st2, P ds acc st2 → skip ρ1 st2) → (∀ y st2, acc.length < sizeLine → P ds (acc ++ [y]) st2 → keep y st2) → turn ρ1 st skip keep) :
    ∀ ds st acc, P ds acc st → compW turn tg ρ ds st acc Q
  | [], st, acc, h => h0 acc st h
  | d :: ds, st, acc, h => by
    obtain ⟨ρ1, e, k⟩ := hs d ds acc st h
    unfold compW
    rw [e]
    exact k _ _ (fun st2 h2 => ⟨rfl, compW_ind P h0 hs ds st2 acc h2⟩) fun y st2 hl h2 => ⟨hl, compW_ind P h0 hs ds st2 (acc ++ [y]) h2⟩
/-- a comprehension each of whose turns has one answer -/
theorem compW_map {turn : Env → S → (Env → S → Prop) → (D → S → Prop) → Prop} {tg : Tg} {ρ : Env} {Q : List D → S → Prop} (f : D → Option D) {st : S} : ∀ (ds acc : List D),
    (∀ d ∈ ds, ∃ ρ1, tg.bind d ρ = some ρ1 ∧ ∀ (skip : Env → S → Prop) (keep : D → S → Prop), (match f d with | some y => keep y st | none => skip ρ1 st) → turn ρ1 st skip keep) →
    acc.length + ds.length ≤ sizeLine → Q (acc ++ ds.filterMap f) st → compW turn tg ρ ds st acc Q
  | [], acc, _, _, h => by rw [List.filterMap_nil, List.append_nil] at h; exact h
  | d :: ds, acc, hs, hl, h => by
    obtain ⟨ρ1, e, k⟩ := hs d List.mem_cons_self
    have hs' := fun x hx => hs x (List.mem_cons_of_mem d hx)
    rw [List.length_cons] at hl
    unfold compW
    rw [e]
    refine k _ _ ?_
    cases z : f d with
    | none =>
      rw [List.filterMap_cons, z] at h
      exact ⟨rfl, compW_map f ds acc hs' (by omega) h⟩
    | some y =>
      rw [List.filterMap_cons, z] at h
      refine ⟨by omega, compW_map f ds (acc ++ [y]) hs' (by rw [List.length_append, List.length_singleton]; omega) ?_⟩
      rw [List.append_assoc]
      exact h
theorem b64_pos : (0 : Int) < b64 := by unfold b64; decide
theorem small64 {i : Int} (h1 : -1000000000000000000 ≤ i) (h2 : i ≤ 1000000000000000000) : -b64 < i ∧ i < b64 := by unfold b64; omega
theorem inB62_small {i : Int} (h1 : -1000000000000000000 ≤ i) (h2 : i ≤ 1000000000000000000) : inB62 i := by unfold inB62 b62; omega
theorem b30_eq : b30 = 1073741824 := by unfold b30; rfl
theorem line_big : 16000000 < sizeLine := by rw [sizeLine_eq]; decide
end
end Pv

end
section
set_option linter.all false
set_option maxRecDepth 100000
set_option maxHeartbeats 1000000
/-! Pv22: what repr shows of small data. -/
namespace Pv
open PySem PySem.Spec PyProof.Rows L2
structure RpB (p : PyData) (n w : Nat) : Prop where
  nd : p.hasDict = false
  sh : p.showable = true
  lf : p.leavesShort 24 = true
  dp : p.depth ≤ n
  wt : p.weight ≤ w
structure RpBs (ps : List PyData) (n w : Nat) : Prop where
  nd : PyData.hasDictAll ps = false
  sh : PyData.showableAll ps = true
  lf : PyData.leavesShortAll 24 ps = true
  dp : PyData.depthAll ps ≤ n
  wt : PyData.weightAll ps ≤ ps.length * (w + 1)
/-- small data: depth, size -/
def Rp (d : D) (n w : Nat) : Prop := ∃ p, d.py = some p ∧ RpB p n w
theorem Rp.non {n w : Nat} : Rp .non n w := ⟨_, rfl, ⟨rfl, rfl, rfl, Nat.zero_le _, Nat.zero_le _⟩⟩
theorem Rp.bl {n w : Nat} {b : Bool} : Rp (.bl b) n w := ⟨_, rfl, ⟨rfl, rfl, rfl, Nat.zero_le _, Nat.zero_le _⟩⟩
theorem Rp.up {n w n' w' : Nat} {d : D} (h : Rp d n w) (hn : n ≤ n') (hw : w ≤ w') : Rp d n' w' := by
  obtain ⟨p, e, h⟩ := h
  exact ⟨p, e, ⟨h.nd, h.sh, h.lf, Nat.le_trans h.dp hn, Nat.le_trans h.wt hw⟩⟩
theorem log_small {i : Int} (h1 : -1000000000000000000 ≤ i) (h2 : i ≤ 1000000000000000000) : i.natAbs.log2 < 60 := by
  by_cases h : i.natAbs = 0
  · rw [h]; decide
  · refine (Nat.log2_lt h).mpr ?_
    have : (2 : Nat) ^ 60 = 1152921504606846976 := by decide
    omega
theorem Rp.int {n : Nat} {i : Int} (h1 : -999999999999 ≤ i) (h2 : i ≤ 999999999999) : Rp (.int i) n 60 := by
  have hl := log_small (i := i) (by omega) (by omega)
  refine ⟨_, rfl, ⟨rfl, ?_, ?_, Nat.zero_le _, ?_⟩⟩
  · simp only [PyData.showable, decide_eq_true_eq]; omega
  · have : (PyData.shown (.int i)).length ≤ 13 := PyData.shown_int_le2 (by omega) (by omega)
    simp only [PyData.leavesShort, decide_eq_true_eq]
    omega
  · simp only [PyData.weight]
    split <;> omega
theorem Rp.str {n : Nat} {x : Str} (h : PyData.strOk x = true) : Rp (.str x) n x.cps.size := by
  refine ⟨_, rfl, ⟨rfl, rfl, ?_, Nat.zero_le _, Nat.le_refl _⟩⟩
  simp only [PyData.leavesShort]
  unfold PyData.strOk at h
  rw [List.all_eq_true]
  intro c hc
  rw [Array.all_eq_true_iff_forall_mem] at h
  have := h c (Array.mem_toList_iff.mp hc)
  simp only [decide_eq_true_eq] at this ⊢
  have e : (16 : Nat) ^ 8 = 4294967296 := by decide
  omega
theorem RpBs.of {n w : Nat} : ∀ {ds : List D}, (∀ d ∈ ds, Rp d n w) → ∃ ps, pyL ds = some ps ∧ ps.length = ds.length ∧ RpBs ps n w
  | [], _ => ⟨[], rfl, rfl, ⟨rfl, rfl, rfl, Nat.zero_le _, Nat.zero_le _⟩⟩
  | d :: ds, h => by
    obtain ⟨p, e, hp⟩ := h d List.mem_cons_self
    obtain ⟨ps, es, hl, hs⟩ := RpBs.of (ds := ds) fun x hx => h x (List.mem_cons_of_mem _ hx)
    refine ⟨p :: ps, ?_, by simp [hl], ⟨?_, ?_, ?_, ?_, ?_⟩⟩
    · unfold pyL; rw [e, es]
    · unfold PyData.hasDictAll; rw [hp.nd, hs.nd]; rfl
    · unfold PyData.showableAll; rw [hp.sh, hs.sh]; rfl
    · unfold PyData.leavesShortAll; rw [hp.lf, hs.lf]; rfl
    · unfold PyData.depthAll
      exact Nat.max_le.mpr ⟨hp.dp, hs.dp⟩
    · unfold PyData.weightAll
      have h1 := hp.wt
      have h2 := hs.wt
      rw [List.length_cons, Nat.succ_mul]
      omega
theorem Rp.lst {n w m : Nat} {ds : List D} (h : ∀ d ∈ ds, Rp d n w) (hm : ds.length ≤ m) : Rp (.lst ds) (n + 1) (m * (w + 1)) := by
  obtain ⟨ps, e, hl, hs⟩ := RpBs.of h
  refine ⟨.list ps, ?_, ⟨?_, ?_, ?_, ?_, ?_⟩⟩
  · unfold D.py; rw [e]; rfl
  · unfold PyData.hasDict; exact hs.nd
  · unfold PyData.showable; exact hs.sh
  · unfold PyData.leavesShort; exact hs.lf
  · unfold PyData.depth; exact Nat.succ_le_succ hs.dp
  · unfold PyData.weight
    exact Nat.le_trans hs.wt (Nat.mul_le_mul_right _ (by omega))
theorem Rp.tup {n w m : Nat} {ds : List D} (h : ∀ d ∈ ds, Rp d n w) (hm : ds.length ≤ m) : Rp (.tup ds) (n + 1) (m * (w + 1)) := by
  obtain ⟨ps, e, hl, hs⟩ := RpBs.of h
  refine ⟨.tuple ps, ?_, ⟨?_, ?_, ?_, ?_, ?_⟩⟩
  · unfold D.py; rw [e]; rfl
  · unfold PyData.hasDict; exact hs.nd
  · unfold PyData.showable; exact hs.sh
  · unfold PyData.leavesShort; exact hs.lf
  · unfold PyData.depth; exact Nat.succ_le_succ hs.dp
  · unfold PyData.weight
    exact Nat.le_trans hs.wt (Nat.mul_le_mul_right _ (by omega))
def shO (d : D) : Str := match d.py with
  | some p => p.shown
  | none => ""
theorem Rp.rep {d : D} {n w : Nat} (h : Rp d n w) (hn : n ≤ 60) (hw : w ≤ 600000) : Op.repr.sem [d] (.str (shO d)) := by
  obtain ⟨p, e, h⟩ := h
  have h1 := PyData.shown_le 24 (by decide) p h.lf
  have h2 := h.wt
  have big := line_big
  refine ⟨p, e, h.nd, h.sh, Nat.le_trans h.dp hn, by omega, ?_⟩
  unfold shO
  rw [e]
end Pv

end
section
set_option linter.all false
set_option maxRecDepth 100000
set_option maxHeartbeats 4000000
/-! Pv23: the draws that all laws share; a law's own def; defs by name. -/
namespace Pv
open PySem PySem.Spec PyProof.Rows L2
def dkOf (gr : Addr) (m t : Int) : List (Key × V) := [(.inr "mixed", .int m), (.inr "great", .ref gr), (.inr "turn", .int t)]
/-- the draw at dx, its great numbers at gr -/
def drawR (dx gr : Addr) : Reg Unit where
  η := fun n => if n = 0 then some dx else none
  M := fun a => a = dx ∨ a = gr
  ok := fun _ H => dx ≠ gr ∧ ∃ m t gs, H dx = some (.dK (dkOf gr m t)) ∧ H gr = some (.lst ((gs : List Int).map V.int)) ∧ 0 ≤ t
  loc := fun _ H H' ⟨n, m, t, gs, h1, h2, h3⟩ h => ⟨n, m, t, gs, (h dx (.inl rfl)).trans h1, (h gr (.inr rfl)).trans h2, h3⟩
  live := fun _ H a ⟨n, m, t, gs, h1, h2, h3⟩ ha => by
    rcases ha with rfl | rfl
    · rw [h1]; simp
    · rw [h2]; simp
def IsDraw (R : Reg Unit) : Prop := ∃ dx gr, R = drawR dx gr
theorem lay_ints : ∀ zs : List Int, PyData.canLayAll0 (zs.map .int) = true ∧ PyData.depthAll (zs.map .int) = 0
  | [] => ⟨rfl, rfl⟩
  | z :: zs => by
    obtain ⟨a, b⟩ := lay_ints zs
    refine ⟨?_, ?_⟩
    · show ((PyData.int z).canLay0 && PyData.canLayAll0 (zs.map .int)) = true
      rw [a]; rfl
    · show max (PyData.int z).depth (PyData.depthAll (zs.map .int)) = 0
      rw [b]; rfl
theorem shaped_ints (zs : List Int) : SeqAt.shaped (.list (zs.map .int)) = true := by
  obtain ⟨a, b⟩ := lay_ints zs
  refine shaped_of (n := 1) (by decide) a ?_
  show PyData.depthAll (zs.map .int) + 1 ≤ 1
  rw [b]
  exact Nat.le_refl _
def ctNext : Ct Unit := fun ds st Q _ => ∃ b : Int, ds = [.hdl 0, .int b] ∧ 0 < b ∧ b < b30 ∧ ∀ r : Int, 0 ≤ r → r < b → Q (.int r) st
section
variable {P : Program} {w : World} {K : PySem.W.Frag} {mg : Str → Option Value} {base : Heap}
theorem val_mixed (gr : Addr) (m t : Int) : valV (dkOf gr m t) (.inr "mixed") = some (.int m) := rfl
theorem val_great (gr : Addr) (m t : Int) : valV (dkOf gr m t) (.inr "great") = some (.ref gr) := rfl
theorem val_turn (gr : Addr) (m t : Int) : valV (dkOf gr m t) (.inr "turn") = some (.int t) := rfl
theorem put_turn (gr : Addr) (m t x : Int) : putK (dkOf gr m t) (.inr "turn") (.int x) = dkOf gr m x := rfl
theorem put_mixed (gr : Addr) (m t x : Int) : putK (dkOf gr m t) (.inr "mixed") (.int x) = dkOf gr x t := rfl
theorem get_mixed {H : Hp} {dx gr : Addr} {m t : Int} (h : H dx = some (.dK (dkOf gr m t))) : DGet H dx (.str "mixed") (some (.int m)) := DGet.k (k := .inr "mixed") h
theorem get_great {H : Hp} {dx gr : Addr} {m t : Int} (h : H dx = some (.dK (dkOf gr m t))) : DGet H dx (.str "great") (some (.ref gr)) := DGet.k (k := .inr "great") h
theorem get_turn {H : Hp} {dx gr : Addr} {m t : Int} (h : H dx = some (.dK (dkOf gr m t))) : DGet H dx (.str "turn") (some (.int t)) := DGet.k (k := .inr "turn") h
theorem set_turn {H : Hp} {dx gr : Addr} {m t x : Int} (h : H dx = some (.dK (dkOf gr m t))) : DPut H dx (.str "turn") (.int x) (upd H dx (.dK (dkOf gr m x))) := DPut.k (k := .inr "turn") (v := .int x) h (show 3 < sizeLine by decide)
theorem set_mixed {H : Hp} {dx gr : Addr} {m t x : Int} (h : H dx = some (.dK (dkOf gr m t))) : DPut H dx (.str "mixed") (.int x) (upd H dx (.dK (dkOf gr x t))) := DPut.k (k := .inr "mixed") (v := .int x) h (show 3 < sizeLine by decide)
theorem ixN_of {n j : Nat} (h : j < n) : ixN n (j : Int) = some j := by
  unfold ixN
  rw [if_pos (by omega), if_pos (by omega), Int.toNat_natCast]
end
def noΓ : Nat → Ct Unit := fun _ _ _ _ _ => False
def spBegun (K : PySem.W.Frag) : Sp := fun vs H Q _ => ∃ (a : Addr) (ns : List Int), vs = [.ref a] ∧ SqL K H a (ns.map V.int) ∧ ns.length ≤ 1000 ∧
  ∀ (H' : Hp) (dx gr : Addr) (m : Int) (gs : List Int), (∀ c o, H c = some o → H' c = some o) → H dx = none → H gr = none → dx ≠ gr → H' dx = some (.dK (dkOf gr m 0)) → H' gr = some (.lst (gs.map V.int)) → Q (.ref dx) H'
def triv : Reg Unit := ⟨fun _ => none, fun _ => False, fun _ _ => True, fun _ _ _ _ _ => trivial, fun _ _ _ _ h => h.elim⟩

section
variable {P : Program} {w : World} {K : PySem.W.Frag} {mg : Str → Option Value} {base : Heap}
/-! ### defs by name -/
structure DefAt (K : PySem.W.Frag) (mg : Str → Option Value) (x : Str) (st : Stmt) (f : Addr) (fd : FuncData) : Prop where
  nm : mg x = some (.ref f)
  fn : Fun K x x st f fd
section
variable {S : Type}
def Ent (P : Program) (w : World) (K : PySem.W.Frag) (mg : Str → Option Value) (base : Heap) (RC : Reg S → Prop) (Γ : Nat → Ct S) (k : Nat) (x : Str) (id m : Nat) : Prop :=
  ∃ fa fd j ps, mg x = some (.ref fa) ∧ PySem.W.keepIn K (.ref fa) = true ∧ Binds K fd ps [] ∧ ps.length = m ∧ j ≤ k ∧ FnG P w K mg base j fa fd ps (spOf K mg RC m (Γ id))
theorem Ent.up {RC : Reg S → Prop} {Γ : Nat → Ct S} {k k' : Nat} {x : Str} {id m : Nat} (h : Ent P w K mg base RC Γ k x id m) (hk : k ≤ k' := by decide) : Ent P w K mg base RC Γ k' x id m := by
  obtain ⟨fa, fd, j, ps, h1, h2, h3, h4, h5, h6⟩ := h
  exact ⟨fa, fd, j, ps, h1, h2, h3, h4, Nat.le_trans h5 hk, h6⟩
def FunsOk (P : Program) (w : World) (K : PySem.W.Frag) (mg : Str → Option Value) (base : Heap) (RC : Reg S → Prop) (Γ : Nat → Ct S) (k : Nat) (l : List (Str × Nat × Nat)) : Prop :=
  ∀ f id m, l.lookup f = some (id, m) → Ent P w K mg base RC Γ k f id m
theorem FunsOk.nil {RC : Reg S → Prop} {Γ : Nat → Ct S} {k : Nat} : FunsOk P w K mg base RC Γ k [] := fun _ _ _ h => nomatch h
theorem FunsOk.cons {RC : Reg S → Prop} {Γ : Nat → Ct S} {k : Nat} {x : Str} {id m : Nat} {l : List (Str × Nat × Nat)} (h : Ent P w K mg base RC Γ k x id m) (r : FunsOk P w K mg base RC Γ k l) : FunsOk P w K mg base RC Γ k ((x, id, m) :: l) := fun f i n e => by
  rw [List.lookup_cons] at e
  split at e
  · rename_i hb
    cases e
    obtain rfl := eq_of_beq hb
    exact h
  · exact r f i n e
def ConsOk (mg : Str → Option Value) (l : List (Str × D)) : Prop := ∀ x d, l.lookup x = some d → ∃ v u, scalD d = some v ∧ mg x = some u ∧ RelV v u
theorem ConsOk.nil : ConsOk mg [] := fun _ _ h => nomatch h
theorem ConsOk.cons {x : Str} {d : D} {v : V} {u : Value} {l : List (Str × D)} (hd : scalD d = some v) (hm : mg x = some u) (hr : RelV v u) (r : ConsOk mg l) : ConsOk mg ((x, d) :: l) := fun y e h => by
  rw [List.lookup_cons] at h
  split at h
  · rename_i hb
    cases h
    obtain rfl := eq_of_beq hb
    exact ⟨v, u, hd, hm, hr⟩
  · exact r y e h
def BltOk (mg : Str → Option Value) (l : List Str) : Prop := ∀ x, l.contains x = true → mg x = none
theorem BltOk.nil : BltOk mg [] := fun _ h => nomatch h
theorem BltOk.cons {x : Str} {l : List Str} (h : mg x = none) (r : BltOk mg l) : BltOk mg (x :: l) := fun y hy => by
  rw [List.contains_cons, Bool.or_eq_true] at hy
  rcases hy with e | e
  · rw [eq_of_beq e]; exact h
  · exact r y e
def KfEnt (P : Program) (w : World) (K : PySem.W.Frag) (mg : Str → Option Value) (base : Heap) (RC : Reg S → Prop) (Γ : Nat → Ct S) (k : Nat) (q : KF) : Prop :=
  ∃ fa fd j ps g gV, mg q.f = some (.ref fa) ∧ PySem.W.keepIn K (.ref fa) = true ∧ KBn K fd ps q.n q.ks g gV ∧ (∀ vs zs : List V, vs.length = q.n → zs.length = q.ks.length → gV vs zs = vs ++ fillV q.fill zs) ∧ ps.length = q.n + q.fill.length ∧
    (q.fill.filter Option.isNone).length = q.ks.length ∧ (∀ d, some d ∈ q.fill → (scalD d).isSome = true) ∧ j ≤ k ∧ FnG P w K mg base j fa fd ps (spOf K mg RC ps.length (Γ q.id))
theorem KfEnt.up {RC : Reg S → Prop} {Γ : Nat → Ct S} {k k' : Nat} {q : KF} (h : KfEnt P w K mg base RC Γ k q) (hk : k ≤ k' := by decide) : KfEnt P w K mg base RC Γ k' q := by
  obtain ⟨fa, fd, j, ps, g, gV, h1, h2, h3, h4, h5, h6, h7, h8, h9⟩ := h
  exact ⟨fa, fd, j, ps, g, gV, h1, h2, h3, h4, h5, h6, h7, Nat.le_trans h8 hk, h9⟩
def KfsOk (P : Program) (w : World) (K : PySem.W.Frag) (mg : Str → Option Value) (base : Heap) (RC : Reg S → Prop) (Γ : Nat → Ct S) (k : Nat) (l : List KF) : Prop := ∀ q ∈ l, KfEnt P w K mg base RC Γ k q
theorem KfsOk.nil {RC : Reg S → Prop} {Γ : Nat → Ct S} {k : Nat} : KfsOk P w K mg base RC Γ k [] := fun _ h => nomatch h
theorem KfsOk.cons {RC : Reg S → Prop} {Γ : Nat → Ct S} {k : Nat} {q : KF} {l : List KF} (h : KfEnt P w K mg base RC Γ k q) (r : KfsOk P w K mg base RC Γ k l) : KfsOk P w K mg base RC Γ k (q :: l) := fun x hx => by
  rcases List.mem_cons.mp hx with rfl | hx
  · exact h
  · exact r x hx
theorem nms {RC : Reg S → Prop} {Γ : Nat → Ct S} {k : Nat} {cs : Cs} (a : ConsOk mg cs.cons) (b : BltOk mg cs.blt) (c : FunsOk P w K mg base RC Γ k cs.funs) (d : KfsOk P w K mg base RC Γ k cs.kf) : Nms P w K mg base RC Γ k cs := ⟨a, b, c, d⟩
/-! defs with keyword-only parameters -/
structure DefK (K : PySem.W.Frag) (mg : Str → Option Value) (x : Str) (st : Stmt) (kws : List (Str × V)) (f : Addr) (fd : FuncData) : Prop where
  nm : mg x = some (.ref f)
  fn : FunD K x x (defArgs st) (defBody st) (defScope st) [] kws f fd
theorem defK_mk {x : Str} {st : Stmt} {f D : Addr} {oc : Value} {od an : Option Addr} {osl : Array (Option Value)} {doc pm cdv ct : Value} {kws : List (Str × V)} (hm : mg x = some (.ref f))
    (l : K.lookup f = some ⟨oc, od, .func (PySem.W.fnOf x x (defArgs st) (defBody st) (defScope st) .none (.ref D) doc pm an cdv ct), osl⟩) (c : PySem.W.codeIn K cdv x = true) (k : PySem.W.keepIn K (.ref f) = true)
    (hk : ∀ q ∈ kws, ∃ u, PySem.W.nsIn K D q.1 = some (some u) ∧ RelV q.2 u) : DefK K mg x st kws f (PySem.W.fnOf x x (defArgs st) (defBody st) (defScope st) .none (.ref D) doc pm an cdv ct) :=
  ⟨hm, ⟨oc, od, .none, .ref D, doc, pm, an, cdv, ct, osl, rfl, l, c, .inl ⟨rfl, rfl⟩, .inr ⟨D, rfl, hk⟩⟩, k⟩
def mixV {α : Type} : List (Option D) → List α → List α → List α
  | [], _, _ => []
  | some _ :: r, m :: ms, ws => m :: mixV r ms ws
  | some _ :: r, [], ws => []
  | none :: r, ms, w :: ws => w :: mixV r ms ws
  | none :: r, ms, [] => []
theorem mix_rel : ∀ {fl : List (Option D)} {mz zs : List V} {mv ws : List Value}, Vals mz mv → Vals zs ws → Vals (mixV fl mz zs) (mixV fl mv ws)
  | [], _, _, _, _, _, _ => .nil
  | some _ :: r, _, _, _, _, .cons a b, h => .cons a (mix_rel b h)
  | some _ :: r, _, _, _, _, .nil, h => .nil
  | none :: r, _, _, _, _, h, .cons a b => .cons a (mix_rel h b)
  | none :: r, _, _, _, _, h, .nil => .nil
def dflV (fl : List (Option D)) : List V := fl.filterMap fun o => o.map fun d => (scalD d).getD .non
theorem mix_fill : ∀ (fl : List (Option D)) (zs : List V), mixV fl (dflV fl) zs = fillV fl zs
  | [], zs => rfl
  | some d :: r, zs => by
    show _ :: mixV r (dflV r) zs = _
    rw [mix_fill r zs]; rfl
  | none :: r, [] => rfl
  | none :: r, z :: zs => by
    show z :: mixV r (dflV r) zs = _
    rw [mix_fill r zs]; rfl
theorem kf_of {RC : Reg S → Prop} {Γ : Nat → Ct S} {k : Nat} {cs : Cs} {x : Str} {st : Stmt} {kws : List (Str × V)} {f : Addr} {fd : FuncData} {ps : List Str} {id m n : Nat} {mu : List Nat} {b : Stms} (D : DefK K mg x st kws f fd) (Sc : FnScope cs.N ps (defScope st)) (hsc : cs.sc = defScope st)
    (nm : Nms P w K mg base RC Γ k cs) (hc : cSs (cS m n cs mu) (defBody st) = some b)
    (hct : ∀ (ds : List Pv.D) (st : S) (Qd Ed : Pv.D → S → Prop), Γ id ds st Qd Ed → wpSs Γ b (startE cs.N ds) st (knOf Qd) fun e _ st => Ed e st)
    (np : Nat) (ks : List Str) (fl : List (Option Pv.D)) (ms : List (Str × V)) (hk : kws ≠ []) (hms : ∀ q ∈ ms, q ∈ kws) (hd : ms.map (·.2) = dflV fl) (hl : ps.length = np + fl.length) (hn : (fl.filter Option.isNone).length = ks.length) (hs : ∀ d, some d ∈ fl → (scalD d).isSome = true)
    (h : ∀ (D : Addr) (doc pm : Value) (an : Option Addr) (cdv ct : Value) (us mv ws : List Value), us.length = np → mv.length = ms.length → ws.length = ks.length →
      KwChain D ((ms.map (·.1)).zip mv) (bindArgs (PySem.W.fnOf x x (defArgs st) (defBody st) (defScope st) .none (.ref D) doc pm an cdv ct) ⟨us, ks.zip ws⟩) (ps.zip (us ++ mixV fl mv ws))) :
    KfEnt P w K mg base RC Γ (k + 1) ⟨x, np, ks, id, fl⟩ := by
  obtain ⟨mv, B⟩ := FunD.kbinds0 D.fn np ks ms (fun us mv ws => us ++ mixV fl mv ws) hk hms (fun r1 r2 r3 => r1.append (mix_rel r2 r3)) h
  refine ⟨f, fd, k + 1, ps, _, _, D.nm, D.fn.kp, B, fun vs zs _ _ => ?_, hl, hn, hs, Nat.le_refl _, ?_⟩
  · show vs ++ mixV fl (ms.map (·.2)) zs = _
    rw [hd, mix_fill]
  · obtain ⟨oc, od, dV, kV, doc, pm, an, cdv, ct, osl, rfl, lk, hcd, _, _⟩ := D.fn.ex
    exact fnG_of lk hcd Sc hsc nm hc fun ds st Qd Ed _ h => hct ds st Qd Ed h
/-- a def of the text, by its contract -/
theorem ent_of {RC : Reg S → Prop} {Γ : Nat → Ct S} {k : Nat} {cs : Cs} {x : Str} {st : Stmt} {f : Addr} {fd : FuncData} {ps : List Str} {id m n : Nat} {mu : List Nat} {b : Stms} (D : DefAt K mg x st f fd) (Sc : FnScope cs.N ps (defScope st)) (hsc : cs.sc = defScope st)
    (nm : Nms P w K mg base RC Γ k cs) (hc : cSs (cS m n cs mu) (defBody st) = some b) (hb : Binds K fd ps [])
    (hct : ∀ (ds : List Pv.D) (st : S) (Qd Ed : Pv.D → S → Prop), Γ id ds st Qd Ed → wpSs Γ b (startE cs.N ds) st (knOf Qd) fun e _ st => Ed e st) : Ent P w K mg base RC Γ (k + 1) x id ps.length := by
  refine ⟨f, fd, k + 1, ps, D.nm, D.fn.kp, hb, rfl, Nat.le_refl _, ?_⟩
  obtain ⟨oc, od, kV, doc, pm, an, cdv, ct, osl, rfl, lk, hcd⟩ := D.fn.ex
  exact fnG_of lk hcd Sc hsc nm hc fun ds st Qd Ed _ h => hct ds st Qd Ed h
end
/-! ### a call of a def by its promise -/
def tCallS (sp : Sp) (n : Nat) (W : WX) (ta : TA) : TE := fun σ H Q => ta σ H fun vs H1 => vs.length = n ∧ sp vs H1 Q fun cls d H2 => W cls d σ H2
theorem pe_callS {X : Cx} {W : WX} (tk : Takes X W) (hgd : X.A.guards = some []) {x : Str} {fa : Addr} {fd : FuncData} {ps : List Str} {sp : Sp} {k : Nat} {e : Expr} {es : List Expr} {ta : TA} {p pos : Pos} (hg : Gl X x) (hdb : (x == ("__debug__" : Str)) = false)
    (h1 : X.mg x = some (.ref fa)) (h2 : PySem.W.keepIn X.K (.ref fa) = true) (h3 : Binds X.K fd ps []) (h5 : Room k X.A) (h6 : FnG X.prog X.w X.K X.mg X.base k fa fd ps sp) (pa : PA X (e :: es) ta) (hns : ∀ a ∈ e :: es, NS a) :
    PE X (.Call (.Name x p) (e :: es) [] pos) (tCallS sp ps.length W ta) := by
  refine ⟨fun pins s σ H Q I hw => ?_⟩
  refine wpAny_Call_Name_kw (ld_glob I hg h1 ?_ hdb)
  refine PySem.W.callWith_K (h₀ := X.base) I.ok.mod.kin h2 (thn (pa.run pos pins s σ H _ I hw) fun us s1 ⟨vs, H1, I1, r, q⟩ => ⟨I1.kIn, ?_⟩) (hns e List.mem_cons_self _ _) (plain_of _ _ fun a ha => hns a (List.mem_cons_of_mem _ ha))
  obtain ⟨hl, q⟩ := q
  have lu : (us ++ ([] : List Value)).length = ps.length := by rw [List.append_nil, ← r.length, hl]
  have hb := h3 s1 us I1.kIn lu
  rw [List.append_nil] at hb
  refine wpAny_call (codeAny_mono (h6.run X.A X.stack s1 H1 ⟨us, []⟩ us vs Q _ h5 hgd I1.env0 hb r q) fun res s2 hq => ?_)
  cases res with
  | error er => exact tk er s2 (XE.of_call I1 (fun _ _ _ z => z) hq)
  | ok fl =>
    cases fl with
    | ret u => exact I1.after hq
    | _ => exact False.elim hq
end
end Pv

end
section
set_option linter.all false
set_option maxRecDepth 100000
set_option maxHeartbeats 4000000
/-! Pv24: a law's own def: the draw begun, then the rest by its compiled body. -/
namespace Pv
open PySem PySem.Spec PyProof.Rows L2
section
variable {P : Program} {w : World} {K : PySem.W.Frag} {mg : Str → Option Value} {base : Heap}
def spLaw (K : PySem.W.Frag) (n : Nat) : Sp := fun vs H Q _ => ∃ (a : Addr) (ns : List Int), vs = [.ref a] ∧ SqL K H a (ns.map V.int) ∧ ns.length ≤ n ∧ ∀ H', Q (.bl true) H'
theorem lawfn_ok {Γ : Nat → Ct Unit} {k j n0 m n : Nat} {cs : Cs} {st : Stmt} {f fb : Addr} {fd fdb : FuncData} {mu : List Nat} {b : Stms} {rest : List Stmt} {r : List Str} {p1 p2 p3 p4 p5 : Pos} (D : DefAt K mg "law" st f fd) (Sc : FnScope cs.N ["_law_script"] (defScope st)) (hsc : cs.sc = defScope st)
    (nm : Nms P w K mg base IsDraw Γ k cs) (hbody : defBody st = .Assign [.Name "_law_draw" p1] (.Call (.Name "_law_begun" p2) [.Name "_law_script" p3] [] p4) p5 :: rest) (hN : cs.N = ("_law_script" : Str) :: ("_law_draw" : Str) :: r)
    (l1 : Loc (defScope st) "_law_draw") (l2 : Vis (defScope st) "_law_script") (l3 : (defScope st).names.lookup ("_law_begun" : Str) = some NameKind.globalImplicit) (l4 : (defScope st).names.lookup ("_law_draw" : Str) = some NameKind.local)
    (hc : cSs (cS m n cs mu) rest = some b) (hb1 : mg "_law_begun" = some (.ref fb)) (hb2 : PySem.W.keepIn K (.ref fb) = true) (hb3 : Binds K fdb ["_law_script"] []) (hb4 : FnG P w K mg base j fb fdb ["_law_script"] (spBegun K)) (hj : j ≤ k) (hn0 : n0 ≤ 1000)
    (hct : ∀ ns : List Int, ns.length ≤ n0 → wpSs Γ b (.val (.scr ns) :: .val (.hdl 0) :: List.replicate r.length .un) () (knOf fun d _ => d = .bl true) (fun _ _ _ => False)) :
    FnG P w K mg base (k + 1) f fd ["_law_script"] (spLaw K n0) := by
  obtain ⟨oc, od, kV, doc, pm, an, cdv, ct, osl, rfl, lk, hcd⟩ := D.fn.ex
  refine fnG_body lk hcd Sc (fun vs H Q E ⟨a, ns, e, _⟩ => by rw [e]; rfl) fun A outer s H vs Q E hr hg h => ?_
  obtain ⟨a, ns, rfl, hS, hl, hq⟩ := h
  have G : ∀ (R : Reg Unit) (okR : IsDraw R), GoodS (cxOf (L2.CX P w) P w K mg base cs.N "law" (defScope st) f cdv A outer s H E) cs (⟨R, K, mg, H, IsDraw, okR⟩ : Set Unit) Γ (fun cls d _ H' => E cls d H') := fun R okR => goodS_of nm Sc hsc hr hg
  have tk : Takes (cxOf (L2.CX P w) P w K mg base cs.N "law" (defScope st) f cdv A outer s H E) (fun cls d _ H' => E cls d H') := takes_of rfl rfl rfl rfl
  have hrest : PSs (cxOf (L2.CX P w) P w K mg base cs.N "law" (defScope st) f cdv A outer s H E) rest (fun D σ H1 => ∃ (R : Reg Unit) (okR : IsDraw R), uSs Γ (⟨R, K, mg, H, IsDraw, okR⟩ : Set Unit) (fun cls d _ H' => E cls d H') b D σ H1) :=
    ⟨fun pins s σ H D I ⟨R, okR, q⟩ => (pss_of (cS_ok (G R okR)) hc).run pins s σ H D I q⟩
  rw [hbody]
  refine ⟨_, pss_cons (ps_set (i := 1) Sc.nd (by show cs.N[1]? = _; rw [hN]; rfl) l1 (pe_callS tk hg l3 (by decide) hb1 hb2 hb3 (hr.mono hj) hb4 (pa_cons (pv 0 (by show cs.N[0]? = _; rw [hN]; rfl) l2) pa_nil) (fun e he => by
    rw [List.mem_singleton] at he
    rw [he]; exact ns_name)) (hf := .inr l4)) hrest, ?_⟩
  have hst : L2.start cs.N [.ref a] = some (.ref a) :: none :: List.replicate r.length none := by
    rw [hN]
    unfold L2.start
    simp [List.replicate_succ]
  rw [hst]
  refine ⟨.ref a, rfl, rfl, a, ns, rfl, hS, by omega, fun H' dx gr m gs kp n1 n2 ne e1 e2 => ?_⟩
  refine ⟨drawR dx gr, ⟨dx, gr, rfl⟩, H, H, .val (.scr ns) :: .val (.hdl 0) :: List.replicate r.length .un, (), _, _, ?_, hct ns hl, ?_, ?_⟩
  · refine ⟨by simp, ⟨fun c o e _ => kp c o e, Sub.refl _, kp, fun c o e => .inl e, fun c hc => ?_, ⟨ne, m, 0, gs, e1, e2, Int.le_refl _⟩, by simp, fun i sl x h1 h2 => ?_, fun i j xs ys p h1 _ _ _ => ?_⟩⟩
    · rcases hc with rfl | rfl
      · exact n1
      · exact n2
    · rw [List.append_nil] at h1 h2
      match i, h1, h2 with
      | 0, h1, h2 => cases h1; cases h2; exact ⟨.ref a, rfl, a, rfl, hS⟩
      | 1, h1, h2 => cases h1; cases h2; exact ⟨.ref dx, rfl, dx, rfl, rfl⟩
      | i + 2, h1, h2 =>
        have h1 : (List.replicate r.length Sl.un)[i]? = some sl := h1
        rw [List.getElem?_replicate] at h1
        split at h1
        · cases h1; trivial
        · cases h1
    · rw [List.append_nil] at h1
      match i, h1 with
      | 0, h1 => cases h1
      | 1, h1 => cases h1
      | i + 2, h1 =>
        have h1 : (List.replicate r.length Sl.un)[i]? = some (.own xs) := h1
        rw [List.getElem?_replicate] at h1
        split at h1 <;> cases h1
  · refine ⟨fun ρ st' σ F' H' q C' _ => (nomatch (show Pv.D.non = .bl true from q)), fun d ρ st' σ F' H' v q C' _ dn => ?_, fun _ _ _ _ _ z _ _ => False.elim z, fun _ _ _ _ _ z _ _ => False.elim z⟩
    obtain rfl : d = .bl true := q
    obtain rfl : v = .bl true := dn
    exact hq H'
  · exact fun _ _ _ _ _ _ _ _ z => False.elim z
theorem ent_void {S : Type} {RC : Reg S → Prop} {Γ : Nat → Ct S} {k id m : Nat} {x : Str} {f : Addr} {fd : FuncData} {ps : List Str} (h1 : mg x = some (.ref f)) (h2 : PySem.W.keepIn K (.ref f) = true) (h3 : Binds K fd ps []) (h4 : ps.length = m) (h : Γ id = fun _ _ _ _ => False) : Ent P w K mg base RC Γ k x id m := by
  have no : ∀ vs H Q E, spOf K mg RC m (Γ id) vs H Q E → False := fun vs H Q E ⟨R, F, st, ds, Qd, Ed, _, _, _, _, _, _, q, _⟩ => by rw [h] at q; exact q
  exact ⟨f, fd, k, ps, h1, h2, h3, h4, Nat.le_refl _, ⟨fun vs H Q E z => (no vs H Q E z).elim, fun A outer s H args us vs Q E _ _ _ _ _ z => (no vs H Q E z).elim⟩⟩
theorem walkL {l : PySem.W.OpenLaw} {k : Nat} {q : Program} {loose : List Str} {XP : (Str → Option Value) → Heap → Prop} {YP : World → Heap → Prop} {d : DefRec} {K : Params → PySem.W.Frag}
    (hn : l.most = some 63) (hdf : d.params.defaults = []) (hr : Room k callerA) (hY : ∀ (w : World) (h : Heap), YP w h → (K w.params).In h)
    (F : ∀ (w : World) (mg : Str → Option Value) (fa : Addr) (h : Heap), (K w.params).In h → h.Ns mainGlobals mg → mg d.name = some (.ref fa) →
      ∃ fd : FuncData, (∀ (s : Shared) (u : Value), BindsTo s fd ⟨[u], []⟩ [("_law_script", u)]) ∧ ∀ base : Heap, (K w.params).In base → base.Ns mainGlobals mg → FnG l.prog w (K w.params) mg base k fa fd ["_law_script"] (spLaw (K w.params) 63)) :
    PySem.W.WalkO q loose XP YP l.row.toRowW d [] (fun f vs => PySem.call f vs) :=
  walk_ofG (n := 63) (x := "_law_script") hn (Nat.le_trans (by decide) (Nat.le_of_lt line_big)) hdf hr hY F (fun _ _ _ a ns hl _ hS => ⟨a, ns, rfl, hS, hl, fun _ => rfl⟩) fun _ _ _ _ _ ⟨_, _, _, _, _, _, _, _, _, _, _, _, h⟩ => h
end
end Pv

end
section
set_option linter.all false
set_option maxRecDepth 100000
set_option maxHeartbeats 4000000
/-! Cm: tunes, styles, what is drawn; contracts. -/
namespace Pv
open PySem PySem.Spec PyProof.Rows L2
abbrev ct_law_next := ctNext
abbrev ct_law_next_2 := ctNext
def eN : Option Int → D
  | none => .non
  | some i => .int i
def eT (t : List (Option Int)) : D := .tup (t.map eN)
structure Sty where
  sp : Int
  B : List Int
  T : List Int
def eS (s : Sty) : D := .tup [.int s.sp, .tup (s.B.map .int), .tup (s.T.map .int)]
def okN : Option Int → Prop
  | none => True
  | some i => -60 ≤ i ∧ i ≤ 60
structure OkT (t : List (Option Int)) : Prop where
  lo : 1 ≤ t.length
  hi : t.length ≤ 48
  ok : ∀ x ∈ t, okN x
def Sty.top (s : Sty) : Int := if s.sp = 0 then 60 else s.sp - 1
structure Rising (l : List Int) (hi : Int) : Prop where
  lo : ∀ x ∈ l, 0 ≤ x
  hi : ∀ x ∈ l, x ≤ hi
  up : l.Pairwise (· < ·)
  few : l.length ≤ 100
structure OkS (s : Sty) : Prop where
  lo : 0 ≤ s.sp
  hi : s.sp ≤ 24
  b : Rising s.B s.top
  t : Rising s.T s.top
def rest (sp n : Int) : Int := if sp = 0 then n else n % sp
def gap (s : Sty) (a b : Int) : Int := rest s.sp (if a - b < 0 then -(a - b) else a - b)
def tied (s : Sty) : Option Int → Option Int → Option Int → Option Int → Bool
  | some a, some b, some x, some y => !(a == x) && !(b == y) && s.T.contains (gap s x y) && (gap s x y == gap s a b)
  | _, _, _, _ => false
def barred (s : Sty) : Option Int → Option Int → Bool
  | some x, some y => s.B.contains (gap s x y)
  | _, _ => false
def word (s : Sty) (a b x y : Option Int) : Str := if barred s x y then "barred" else if tied s a b x y then "tied" else ""
def at0 (t : List (Option Int)) (i : Int) : Option Int := (t[(i % (t.length : Int)).toNat]?).getD none
def clean (t : List (Option Int)) (s : Sty) (d : Int) : Bool := (List.range t.length).all fun (b : Nat) => word s (at0 t (b - 1)) (at0 t (b - d - 1)) (at0 t b) (at0 t (b - d)) == ""
def cd (t : List (Option Int)) (s : Sty) : List Int := ((List.range t.length).map Int.ofNat).filter fun d => clean t s d
def ct_is_whole : Ct Unit := fun ds st Q _ => ∃ i lo hi : Int, ds = [.int i, .int lo, .int hi] ∧ Q (.bl (decide (lo ≤ i) && decide (i ≤ hi))) st
def ct_is_note : Ct Unit := fun ds st Q _ => ∃ x, okN x ∧ ds = [eN x] ∧ Q (.bl true) st
def ct_need_tune : Ct Unit := fun ds st Q _ => ∃ t, OkT t ∧ ds = [eT t] ∧ Q (eT t) st
def ct_is_rising : Ct Unit := fun ds st Q _ => ∃ l hi, Rising l hi ∧ ds = [.tup (l.map .int), .int 0, .int hi] ∧ Q (.bl true) st
def ct_style_fault : Ct Unit := fun ds st Q _ => ∃ s, OkS s ∧ ds = [eS s] ∧ Q .non st
def ct_need_style : Ct Unit := fun ds st Q _ => ∃ s, OkS s ∧ ds = [eS s] ∧ Q (eS s) st
def ct_rest_by : Ct Unit := fun ds st Q _ => ∃ sp n : Int, 0 ≤ sp ∧ ds = [.int sp, .int n] ∧ Q (.int (rest sp n)) st
def ct_interval_of : Ct Unit := fun ds st Q _ => ∃ (s : Sty) (a b : Int), 0 ≤ s.sp ∧ ds = [eS s, .int a, .int b] ∧ Q (.int (gap s a b)) st
def ct_pair_fault : Ct Unit := fun ds st Q _ => ∃ (s : Sty) (a b x y : Option Int), 0 ≤ s.sp ∧ ds = [eS s, .tup [eN a, eN b], .tup [eN x, eN y]] ∧ Q (.str (word s a b x y)) st
def ct_is_tied : Ct Unit := fun ds st Q _ => ∃ (s : Sty) (a b x y : Option Int), 0 ≤ s.sp ∧ ds = [eS s, .tup [eN a, eN b], .tup [eN x, eN y]] ∧ Q (.bl (tied s a b x y)) st
def ct_is_clean_distance : Ct Unit := fun ds st Q _ => ∃ t s d, OkT t ∧ 0 ≤ s.sp ∧ 0 ≤ d ∧ d < (t.length : Int) ∧ ds = [eT t, eS s, .int d] ∧ Q (.bl (clean t s d)) st
def ct_distances_in : Ct Unit := fun ds st Q _ => ∃ t s, OkT t ∧ OkS s ∧ ds = [eT t, eS s] ∧ Q (.lst ((cd t s).map .int)) st
def ct_clean_distances : Ct Unit := fun ds st Q _ => ∃ t s, OkT t ∧ OkS s ∧ ds = [eT t, eS s] ∧ Q (.tup ((cd t s).map .int)) st
def ct_law_among : Ct Unit := fun ds st Q _ => ∃ xs : List D, xs ≠ [] ∧ xs.length ≤ 1000 ∧ ds = [.hdl 0, .lst xs] ∧ ∀ x ∈ xs, Q x st
def ct_law_rising : Ct Unit := fun ds st Q _ => ∃ below most : Int, 0 < below ∧ below ≤ 100 ∧ 0 ≤ most ∧ most ≤ 20 ∧ ds = [.hdl 0, .int below, .int most] ∧ ∀ l : List Int, Rising l (below - 1) → Q (.tup (l.map .int)) st
def ct_law_style : Ct Unit := fun ds st Q _ => ds = [.hdl 0] ∧ ∀ s, OkS s → Q (eS s) st
def ct_law_pitches : Ct Unit := fun ds st Q _ => ∃ many : Int, 0 ≤ many ∧ many ≤ 100 ∧ ds = [.hdl 0, .int many] ∧ ∀ l : List Int, (l.length : Int) = many → (∀ x ∈ l, -60 ≤ x ∧ x ≤ 60) → Q (.lst (l.map .int)) st
def ct_law_tune : Ct Unit := fun ds st Q _ => ∃ most : Int, 1 ≤ most ∧ most ≤ 48 ∧ ds = [.hdl 0, .int most] ∧ ∀ t, OkT t → (t.length : Int) ≤ most → Q (eT t) st
def ct_law_words_2 : Ct Unit := fun ds st Q _ => ∃ (s : Sty) (a b x y : Option Int), 0 ≤ s.sp ∧ ds = [eS s, .tup [eN a, eN b], .tup [eN x, eN y]] ∧ ∀ l : List D, (l = [] ↔ word s a b x y = "") → (∀ d ∈ l, ∃ z : Str, PyData.strOk z = true ∧ d = .str z) → Q (.lst l) st
theorem any_ints (g : Int) : ∀ l : List Int, ((l.map D.int).any fun y => y.eqv (.int g)) = l.contains g
  | [] => rfl
  | z :: l => by
    rw [List.map_cons, List.any_cons, any_ints g l, List.contains_cons]
    congr 1
    show (z == g) = (g == z)
    exact Bool.beq_comm
theorem flat_ints : ∀ l : List Int, (l.map D.int).all D.flat = true
  | [] => rfl
  | _ :: l => by rw [List.map_cons, List.all_cons, flat_ints l]; rfl
theorem word_b {s : Sty} {a b x y : Option Int} (h : barred s x y = true) : word s a b x y = "barred" := by unfold word; rw [h]; rfl
theorem word_t {s : Sty} {a b x y : Option Int} (h : barred s x y = false) : word s a b x y = (if tied s a b x y then ("tied" : Str) else ("" : Str)) := by unfold word; rw [h]; rfl
theorem tied_eq {s : Sty} {a b x y : Int} : tied s (some a) (some b) (some x) (some y) = (!(a == x) && !(b == y) && s.T.contains (gap s x y) && (gap s x y == gap s a b)) := rfl
theorem tied_n1 {s : Sty} {a b y : Option Int} : tied s a b none y = false := by cases a <;> cases b <;> rfl
theorem tied_n2 {s : Sty} {a b x : Option Int} : tied s a b x none = false := by cases a <;> cases b <;> cases x <;> rfl
theorem word_n1 {s : Sty} {a b y : Option Int} : word s a b none y = "" := by rw [word_t rfl, tied_n1]; rfl
theorem barred_n2 {s : Sty} {x : Option Int} : barred s x none = false := by cases x <;> rfl
theorem word_n2 {s : Sty} {a b x : Option Int} : word s a b x none = "" := by rw [word_t barred_n2, tied_n2]; rfl
theorem mem_enum : ∀ (n : Nat) (ds : List D) (d : D), d ∈ enumFrom n ds → ∃ (i : Int) (x : D), x ∈ ds ∧ d = .tup [.int i, x]
  | _, [], _, h => by cases h
  | n, e :: ds, d, h => by
    rcases List.mem_cons.mp h with rfl | h
    · exact ⟨_, e, List.mem_cons_self, rfl⟩
    · obtain ⟨i, x, h1, h2⟩ := mem_enum (n + 1) ds d h
      exact ⟨i, x, List.mem_cons_of_mem _ h1, h2⟩
theorem bls_true : ∀ xs : List D, (∀ d ∈ xs, d = .bl true) → ∃ bs, blsOf xs = some bs ∧ bs.all id = true
  | [], _ => ⟨[], rfl, rfl⟩
  | x :: xs, h => by
    obtain ⟨bs, e, a⟩ := bls_true xs fun d hd => h d (List.mem_cons_of_mem _ hd)
    obtain rfl := h x List.mem_cons_self
    refine ⟨true :: bs, ?_, ?_⟩
    · show (blsOf xs).map (true :: ·) = _
      rw [e]; rfl
    · rw [List.all_cons, a]; rfl
theorem cut_one (xs : List D) : cutL xs (some 1) none = xs.drop 1 := by
  unfold cutL
  rw [show HT.sIx xs.length 0 (some 1) = min 1 xs.length from HT.sIx_nat xs.length 0 1, HT.sIx_none]
  cases xs with
  | nil => rfl
  | cons x r =>
    rw [show min 1 (x :: r).length = 1 by rw [List.length_cons]; omega, List.take_of_length_le (by simp)]
theorem mem_zip1 : ∀ (l : List Int), l.Pairwise (· < ·) → ∀ d ∈ zipD (l.map D.int) ((l.map D.int).drop 1), ∃ a b : Int, a < b ∧ d = .tup [.int a, .int b]
  | [], _, d, h => by cases h
  | [_], _, d, h => by cases h
  | a :: b :: l, hp, d, h => by
    have h : d ∈ (.tup [.int a, .int b] : D) :: zipD ((b :: l).map D.int) (((b :: l).map D.int).drop 1) := h
    rcases List.mem_cons.mp h with rfl | h
    · exact ⟨a, b, (List.pairwise_cons.mp hp).1 b List.mem_cons_self, rfl⟩
    · exact mem_zip1 (b :: l) (List.pairwise_cons.mp hp).2 d h
theorem zipD_len : ∀ (as bs : List D), (zipD as bs).length ≤ as.length
  | [], _ => Nat.le_refl _
  | _ :: _, [] => Nat.zero_le _
  | _ :: as, _ :: bs => Nat.succ_le_succ (zipD_len as bs)
theorem snoc_true {acc : List D} (h : ∀ d ∈ acc, d = .bl true) : ∀ d ∈ acc ++ [.bl true], d = .bl true := fun d hd => by
  rcases List.mem_append.mp hd with h' | h'
  · exact h d h'
  · exact List.mem_singleton.mp h'
theorem far_eq (a b : Int) : (if b > a then b else a) - (if b < a then b else a) = if a - b < 0 then -(a - b) else a - b := by
  split <;> split <;> split <;> omega
theorem atI_mod {α : Type} (xs : List α) (i : Int) (h1 : -(xs.length : Int) ≤ i) (h2 : i < xs.length) : atI xs i = xs[(i % (xs.length : Int)).toNat]? := by
  unfold atI ixN
  by_cases h : 0 ≤ i
  · rw [if_pos h, if_pos h2, Int.emod_eq_of_lt h h2]; rfl
  · rw [if_neg h, if_pos h1]
    have e : i % (xs.length : Int) = i + xs.length := by
      rw [← Int.add_emod_right, Int.emod_eq_of_lt (by omega) (by omega)]
    rw [e]; rfl
theorem at0_get {t : List (Option Int)} (ht : 1 ≤ t.length) (i : Int) : (t.map eN)[(i % (t.length : Int)).toNat]? = some (eN (at0 t i)) := by
  have h0 := Int.emod_nonneg i (b := (t.length : Int)) (by omega)
  have h1 := Int.emod_lt_of_pos i (b := (t.length : Int)) (by omega)
  have hj : (i % (t.length : Int)).toNat < t.length := by omega
  unfold at0
  rw [List.getElem?_map, List.getElem?_eq_getElem hj]
  rfl
theorem at0_atI {t : List (Option Int)} (i : Int) (h1 : -(t.length : Int) ≤ i) (h2 : i < t.length) : atI (t.map eN) i = some (eN (at0 t i)) := by
  rw [atI_mod _ _ (by rw [List.length_map]; exact h1) (by rw [List.length_map]; exact h2), List.length_map]
  exact at0_get (by omega) i
theorem at0_mod {t : List (Option Int)} (i j : Int) (h : i % (t.length : Int) = j % (t.length : Int)) : at0 t i = at0 t j := by
  unfold at0
  rw [h]
theorem clean_iff {t : List (Option Int)} {s : Sty} {d : Int} : clean t s d = true ↔ ∀ b : Nat, b < t.length → word s (at0 t (b - 1)) (at0 t (b - d - 1)) (at0 t b) (at0 t (b - d)) = "" := by
  unfold clean
  rw [List.all_eq_true]
  refine ⟨fun h b hb => ?_, fun h b hb => ?_⟩
  · exact eq_of_beq (h b (List.mem_range.mpr hb))
  · rw [h b (List.mem_range.mp hb)]
    exact beq_self_eq_true _
theorem rangeD_eq : ∀ (m : Nat) (k : Int), rangeD k m = (List.range m).map fun (i : Nat) => D.int (k + i)
  | 0, _ => rfl
  | m + 1, k => by
    show D.int k :: rangeD (k + 1) m = _
    rw [rangeD_eq m (k + 1), List.range_succ_eq_map, List.map_cons, List.map_map]
    congr 1
    · rw [Int.ofNat_zero, Int.add_zero]
    · refine List.map_congr_left fun i _ => ?_
      show D.int (k + 1 + i) = D.int (k + ((i + 1 : Nat) : Int))
      congr 1
      omega
theorem atI_in {xs : List D} {r : Int} (h0 : 0 ≤ r) (h1 : r < xs.length) : ∃ x, x ∈ xs ∧ atI xs r = some x := by
  have hj : r.toNat < xs.length := by omega
  refine ⟨xs[r.toNat], List.getElem_mem hj, ?_⟩
  unfold atI ixN
  rw [if_pos h0, if_pos h1]
  exact List.getElem?_eq_getElem hj
theorem rangeD_many (k : Int) (m : Nat) : (rangeD k m).length = m := by
  induction m generalizing k with
  | zero => rfl
  | succ m ih => exact congrArg (· + 1) (ih (k + 1))
theorem rangeD_int {k : Int} {m : Nat} {d : D} (h : d ∈ rangeD k m) : ∃ i : Int, d = .int i := by
  induction m generalizing k with
  | zero => cases h
  | succ m ih =>
    rcases List.mem_cons.mp h with rfl | h
    · exact ⟨_, rfl⟩
    · exact ih h
theorem intsOf_ints : ∀ l : List Int, intsOf (l.map D.int) = some l
  | [] => rfl
  | z :: l => by
    show (intsOf (l.map D.int)).map (z :: ·) = _
    rw [intsOf_ints l]; rfl
theorem eqOk_ints (n : Nat) : ∀ l : List Int, eqOkL n (l.map D.int) = true
  | [] => rfl
  | z :: l => by
    show (D.eqOk n (.int z) && eqOkL n (l.map D.int)) = true
    rw [eqOk_ints n l]
    cases n <;> rfl
theorem rising_sort {l : List Int} {hi : Int} (nd : l.Nodup) (h : ∀ x ∈ l, 0 ≤ x ∧ x ≤ hi) (hl : l.length ≤ 100) : Rising (l.mergeSort (fun a b => decide (a ≤ b))) hi := by
  have pm := List.mergeSort_perm l (fun a b => decide (a ≤ b))
  have so := List.pairwise_mergeSort (le := fun (a b : Int) => decide (a ≤ b)) (fun a b c h1 h2 => by simp only [decide_eq_true_eq] at *; omega) (fun a b => by simp only [Bool.or_eq_true, decide_eq_true_eq]; omega) l
  have nd2 : (l.mergeSort (fun a b => decide (a ≤ b))).Nodup := pm.nodup_iff.mpr nd
  refine ⟨fun x hx => (h x (pm.mem_iff.mp hx)).1, fun x hx => (h x (pm.mem_iff.mp hx)).2, ?_, by rw [pm.length_eq]; exact hl⟩
  refine (List.Pairwise.and so nd2).imp fun {a b} hab => ?_
  have h1 := of_decide_eq_true hab.1
  have h2 := hab.2
  omega
def strD (d : D) : Prop := ∃ z : Str, PyData.strOk z = true ∧ d = .str z
def wd (t : List (Option Int)) (s : Sty) (d b : Int) : Str := word s (at0 t (b - 1)) (at0 t (b - d - 1)) (at0 t b) (at0 t (b - d))
theorem wd_mod {t : List (Option Int)} {s : Sty} {d b c : Int} (h : b % (t.length : Int) = c % (t.length : Int)) : wd t s d b = wd t s d c := by
  unfold wd
  rw [at0_mod b c h, at0_mod (b - 1) (c - 1) (by rw [Int.sub_emod, h, ← Int.sub_emod]), at0_mod (b - d) (c - d) (by rw [Int.sub_emod, h, ← Int.sub_emod]),
    at0_mod (b - d - 1) (c - d - 1) (by rw [show b - d - 1 = b - (d + 1) by omega, show c - d - 1 = c - (d + 1) by omega, Int.sub_emod, h, ← Int.sub_emod])]
theorem clean_all {t : List (Option Int)} {s : Sty} {d : Int} (ht : 1 ≤ t.length) : clean t s d = true ↔ ∀ b : Int, wd t s d b = "" := by
  rw [clean_iff]
  refine ⟨fun h b => ?_, fun h b _ => h b⟩
  have h0 := Int.emod_nonneg b (b := (t.length : Int)) (by omega)
  have h1 := Int.emod_lt_of_pos b (b := (t.length : Int)) (by omega)
  obtain ⟨j, hj⟩ : ∃ j : Nat, b % (t.length : Int) = (j : Int) := ⟨(b % (t.length : Int)).toNat, by omega⟩
  rw [wd_mod (c := (j : Int)) (by rw [← hj]; exact (Int.emod_emod ..).symm)]
  exact h j (by omega)
/-- the law's word at a beat: at the later voice's first one nothing was -/
def lw (t : List (Option Int)) (s : Sty) (d : Int) (k : Nat) : Str := word s (at0 t (d + k - 1)) (if k = 0 then none else at0 t (d + k - d - 1)) (at0 t (d + k)) (at0 t (d + k - d))
theorem lw_wd {t : List (Option Int)} {s : Sty} {d : Int} {k : Nat} (h : k ≠ 0) : lw t s d k = wd t s d (d + k) := by
  unfold lw wd
  rw [if_neg h]
theorem tied_n3 {s : Sty} {a x y : Option Int} : tied s a none x y = false := by cases a <;> cases x <;> cases y <;> rfl
theorem word_weak {s : Sty} {a b x y : Option Int} (h : word s a b x y = "") : word s a none x y = "" := by
  cases hb : barred s x y with
  | true => rw [word_b hb] at h; exact absurd h (by decide)
  | false => rw [word_t hb, tied_n3]; rfl
theorem lw_all {t : List (Option Int)} {s : Sty} {d : Int} (ht : 1 ≤ t.length) : clean t s d = true ↔ ∀ k : Nat, k < 2 * t.length + 1 → lw t s d k = "" := by
  rw [clean_all ht]
  refine ⟨fun h k _ => ?_, fun h b => ?_⟩
  · by_cases hk : k = 0
    · have := h (d + k)
      unfold wd at this
      unfold lw
      rw [if_pos hk]
      exact word_weak this
    · rw [lw_wd hk]; exact h _
  · have h0 := Int.emod_nonneg (b - d - 1) (b := (t.length : Int)) (by omega)
    have h1 := Int.emod_lt_of_pos (b - d - 1) (b := (t.length : Int)) (by omega)
    obtain ⟨j, hj⟩ : ∃ j : Nat, (b - d - 1) % (t.length : Int) = (j : Int) := ⟨((b - d - 1) % (t.length : Int)).toNat, by omega⟩
    rw [wd_mod (c := d + ((j + 1 : Nat) : Int)), ← lw_wd (by omega)]
    · exact h (j + 1) (by omega)
    · have e : d + ((j + 1 : Nat) : Int) = (j : Int) + (d + 1) := by omega
      rw [e, ← hj, Int.emod_add_emod]
      congr 1
      omega
theorem eqv_nil : ∀ l : List D, (D.lst l).eqv (.lst []) = decide (l = [])
  | [] => rfl
  | d :: l => by
    rw [decide_eq_false (by simp)]; rfl
theorem strs_ok (n : Nat) : ∀ l : List D, (∀ d ∈ l, strD d) → eqOkL n l = true
  | [], _ => rfl
  | d :: l, h => by
    obtain ⟨z, hz, rfl⟩ := h d List.mem_cons_self
    show (D.eqOk n (.str z) && eqOkL n l) = true
    rw [strs_ok n l fun x hx => h x (List.mem_cons_of_mem _ hx)]
    cases n <;> simp [D.eqOk, hz]
theorem at0_ix {t : List (Option Int)} (ht : 1 ≤ t.length) (i : Int) : atI (t.map eN) (i % (t.length : Int)) = some (eN (at0 t i)) := by
  have h0 := Int.emod_nonneg i (b := (t.length : Int)) (by omega)
  have h1 := Int.emod_lt_of_pos i (b := (t.length : Int)) (by omega)
  rw [at0_atI (i % (t.length : Int)) (by omega) h1, at0_mod _ i (Int.emod_emod ..)]
theorem rangeD_step {k : Nat} {d : Int} {n : Nat} {e : D} {ds : List D} (h : e :: ds = rangeD (d + k) (n - k)) : k < n ∧ e = .int (d + k) ∧ ds = rangeD (d + ((k + 1 : Nat) : Int)) (n - (k + 1)) := by
  cases z : n - k with
  | zero => rw [z] at h; cases h
  | succ m =>
    rw [z] at h
    cases h
    refine ⟨by omega, rfl, ?_⟩
    rw [show n - (k + 1) = m by omega]
    congr 1
    omega
theorem rangeD_done {k : Nat} {d : Int} {n : Nat} (h : [] = rangeD d (n - k)) : n ≤ k := by
  cases z : n - k with
  | zero => omega
  | succ m => rw [z] at h; cases h
theorem gap_comm {s : Sty} {a b : Int} : gap s a b = gap s b a := by
  unfold gap
  congr 1
  split <;> split <;> omega
theorem word_comm {s : Sty} {a b x y : Option Int} : word s a b x y = word s b a y x := by
  have hb : barred s x y = barred s y x := by
    cases x <;> cases y <;> try rfl
    unfold barred; dsimp only; rw [gap_comm]
  have ht : tied s a b x y = tied s b a y x := by
    cases x with
    | none => rw [tied_n1, tied_n2]
    | some x =>
    cases y with
    | none => rw [tied_n1, tied_n2]
    | some y =>
    cases a with
    | none => cases b <;> rfl
    | some a =>
    cases b with
    | none => rfl
    | some b =>
      rw [tied_eq, tied_eq, gap_comm (a := y), gap_comm (a := b), Bool.and_comm (!(b == y))]
  unfold word
  rw [hb, ht]
theorem clean_sym {t : List (Option Int)} {s : Sty} {d : Int} (ht : 1 ≤ t.length) (h : clean t s d = true) : clean t s (t.length - d) = true := by
  rw [clean_all ht] at h ⊢
  intro b
  have := h (b + d)
  unfold wd at this ⊢
  rw [word_comm] at this
  have e1 : at0 t (b + d - d - 1) = at0 t (b - 1) := by rw [show b + d - d - 1 = b - 1 by omega]
  have e2 : at0 t (b + d - d) = at0 t b := by rw [show b + d - d = b by omega]
  have e3 : at0 t (b - (t.length - d) - 1) = at0 t (b + d - 1) := at0_mod _ _ (by rw [show b - ((t.length : Int) - d) - 1 = (b + d - 1) - t.length by omega, Int.sub_emod_right])
  have e4 : at0 t (b - (t.length - d)) = at0 t (b + d) := at0_mod _ _ (by rw [show b - ((t.length : Int) - d) = (b + d) - t.length by omega, Int.sub_emod_right])
  rw [e3, e4, ← e1, ← e2]
  exact this
theorem mem_cd {t : List (Option Int)} {s : Sty} {d : Int} : d ∈ cd t s ↔ (0 ≤ d ∧ d < t.length) ∧ clean t s d = true := by
  unfold cd
  rw [List.mem_filter]
  refine and_congr ⟨fun h => ?_, fun h => ?_⟩ Iff.rfl
  · obtain ⟨k, hk, rfl⟩ := List.mem_map.mp h
    have := List.mem_range.mp hk
    show 0 ≤ (k : Int) ∧ (k : Int) < _
    omega
  · exact List.mem_map.mpr ⟨d.toNat, List.mem_range.mpr (by omega), by show ((d.toNat : Nat) : Int) = d; omega⟩
theorem cd_sym {t : List (Option Int)} {s : Sty} {d : Int} (ht : 1 ≤ t.length) (h : d ∈ cd t s) (h0 : 0 < d) : (cd t s).contains (t.length - d) = true := by
  rw [List.contains_iff_mem, mem_cd]
  obtain ⟨h1, h2⟩ := mem_cd.mp h
  exact ⟨by omega, clean_sym ht h2⟩
theorem cd_len {t : List (Option Int)} {s : Sty} : (cd t s).length ≤ t.length := by
  unfold cd
  refine Nat.le_trans (List.length_filter_le ..) ?_
  rw [List.length_map, List.length_range]
  exact Nat.le_refl _
theorem rp_note {x : Option Int} (h : okN x) {n : Nat} : Rp (eN x) n 60 := by
  cases x with
  | none => exact Rp.non
  | some i =>
    obtain ⟨h1, h2⟩ := h
    exact Rp.int (by omega) (by omega)
theorem rp_tune {t : List (Option Int)} (h : OkT t) : Rp (eT t) 1 (48 * 61) := by
  refine Rp.tup (n := 0) (w := 60) (m := 48) (fun d hd => ?_) (by rw [List.length_map]; exact h.hi)
  obtain ⟨x, hx, rfl⟩ := List.mem_map.mp hd
  exact rp_note (h.ok x hx)
theorem rp_ints {l : List Int} {n m : Nat} (h : ∀ x ∈ l, -999999999999 ≤ x ∧ x ≤ 999999999999) (hl : l.length ≤ m) : Rp (.tup (l.map .int)) (n + 1) (m * 61) := by
  refine Rp.tup (n := n) (w := 60) (m := m) (fun d hd => ?_) (by rw [List.length_map]; exact hl)
  obtain ⟨x, hx, rfl⟩ := List.mem_map.mp hd
  exact Rp.int (h x hx).1 (h x hx).2
theorem top_le {s : Sty} (h : OkS s) : s.top ≤ 60 := by
  unfold Sty.top
  have := h.hi
  split <;> omega
theorem rp_style {s : Sty} (h : OkS s) : Rp (eS s) 2 (3 * (100 * 61 + 1)) := by
  have ht := top_le h
  have h1 := h.lo
  have h2 := h.hi
  refine Rp.tup (n := 1) (w := 100 * 61) (m := 3) (fun d hd => ?_) (Nat.le_refl _)
  simp only [List.mem_cons, List.not_mem_nil, or_false] at hd
  rcases hd with rfl | rfl | rfl
  · exact (Rp.int (by omega) (by omega)).up (n := 0) (Nat.zero_le _) (by decide)
  · exact rp_ints (fun x hx => ⟨by have := h.b.lo x hx; omega, by have := h.b.hi x hx; omega⟩) h.b.few
  · exact rp_ints (fun x hx => ⟨by have := h.t.lo x hx; omega, by have := h.t.hi x hx; omega⟩) h.t.few
theorem rp_both {t : List (Option Int)} {s : Sty} (ht : OkT t) (hs : OkS s) : Rp (.lst [eT t, eS s]) 3 100000 := by
  refine (Rp.lst (n := 2) (w := 20000) (m := 2) (fun d hd => ?_) (Nat.le_refl _)).up (by decide) (by decide)
  simp only [List.mem_cons, List.not_mem_nil, or_false] at hd
  rcases hd with rfl | rfl
  · exact (rp_tune ht).up (by decide) (by decide)
  · exact (rp_style hs).up (by decide) (by decide)
theorem rp_cds {t : List (Option Int)} {s : Sty} (ht : OkT t) : Rp (.lst [.tup ((cd t s).map .int), .tup ((cd t s).map .int)]) 2 100000 := by
  have := ht.hi
  refine (Rp.lst (n := 1) (w := 48 * 61) (m := 2) (fun d hd => ?_) (Nat.le_refl _)).up (by decide) (by decide)
  simp only [List.mem_cons, List.not_mem_nil, or_false, or_self] at hd
  rw [hd]
  exact rp_ints (n := 0) (fun x hx => by have := (mem_cd.mp hx).1; omega) (Nat.le_trans cd_len ht.hi)
theorem rising_of {l : List Int} {hi : Int} (h : (l.all fun x => decide (0 ≤ x) && decide (x ≤ hi)) = true) (u : l.Pairwise (· < ·)) (f : l.length ≤ 100) : Rising l hi := by
  rw [List.all_eq_true] at h
  refine ⟨fun x hx => ?_, fun x hx => ?_, u, f⟩
  · have := h x hx; simp only [Bool.and_eq_true, decide_eq_true_eq] at this; exact this.1
  · have := h x hx; simp only [Bool.and_eq_true, decide_eq_true_eq] at this; exact this.2
theorem okS_of {s : Sty} (h1 : 0 ≤ s.sp) (h2 : s.sp ≤ 24) (b : (s.B.all fun x => decide (0 ≤ x) && decide (x ≤ s.top)) = true) (bu : s.B.Pairwise (· < ·)) (bf : s.B.length ≤ 100) (t : (s.T.all fun x => decide (0 ≤ x) && decide (x ≤ s.top)) = true) (tu : s.T.Pairwise (· < ·)) (tf : s.T.length ≤ 100) : OkS s :=
  ⟨h1, h2, rising_of b bu bf, rising_of t tu tf⟩
def okNb : Option Int → Bool
  | none => true
  | some i => decide (-60 ≤ i) && decide (i ≤ 60)
theorem okT_of {t : List (Option Int)} (h1 : 1 ≤ t.length) (h2 : t.length ≤ 48) (h : t.all okNb = true) : OkT t := by
  rw [List.all_eq_true] at h
  refine ⟨h1, h2, fun x hx => ?_⟩
  have := h x hx
  cases x with
  | none => trivial
  | some i => simp only [okNb, Bool.and_eq_true, decide_eq_true_eq] at this; exact this
theorem tup_eqv {l m : List Int} (h : l = m) : (D.tup (l.map .int)).eqv (.tup (m.map .int)) = true := by
  subst h
  induction l with
  | nil => rfl
  | cons z l ih =>
    show (D.eqv (.int z) (.int z) && eqvL (l.map D.int) (l.map D.int)) = true
    rw [show eqvL (l.map D.int) (l.map D.int) = true from ih]
    show ((z == z) && true) = true
    simp
theorem tup_eqOk (l : List Int) : (D.tup (l.map .int)).eqOk 60 = true := eqOk_ints 59 l
def ct_law_gap : Ct Unit := ct_interval_of
def ct_law_gap_2 : Ct Unit := ct_interval_of
def ct_law_begun : Ct Unit := fun _ _ _ _ => False
end Pv

end
section
set_option linter.all false
set_option maxRecDepth 100000
set_option maxHeartbeats 1000000
/-! Cm2: ways of following, what voices sing, faults; contracts. -/
namespace Pv
open PySem PySem.Spec PyProof.Rows L2
/-! ### loops over ranges and lists -/
theorem for_range {S : Type} {lo : Int} {i : Nat} {body : Env → S → (Env → S → Prop) → Prop} {Q : Env → S → Prop} (I : Nat → Env → S → Prop) (n : Nat)
    (hs : ∀ (k : Nat) ρ st, k < n → I k ρ st → ∀ nx : Env → S → Prop, (∀ ρ2 st2, I (k + 1) ρ2 st2 → nx ρ2 st2) → body (ρ.set i (.val (.int (lo + k)))) st nx) (hQ : ∀ ρ st, I n ρ st → Q ρ st) (ρ : Env) (st : S) (h0 : I 0 ρ st) : forW (.n i) body (rangeD lo n) ρ st Q := by
  refine forW_ind (fun ds ρ st => ∃ k : Nat, k ≤ n ∧ ds = rangeD (lo + k) (n - k) ∧ I k ρ st) (fun ρ st hP => ?_) (fun e ds ρ st hP => ?_) _ _ _ ⟨0, Nat.zero_le _, by simp, h0⟩
  · obtain ⟨k, hk, e, h⟩ := hP
    have : k = n := by have := rangeD_done e; omega
    subst this
    exact hQ ρ st h
  · obtain ⟨k, hk, e, h⟩ := hP
    obtain ⟨h1, rfl, rfl⟩ := rangeD_step e
    exact ⟨_, rfl, fun nx hn => hs k ρ st h1 h nx fun ρ2 st2 h2 => hn ρ2 st2 ⟨k + 1, h1, rfl, h2⟩⟩
theorem for_list {S : Type} {tg : Tg} {body : Env → S → (Env → S → Prop) → Prop} {Q : Env → S → Prop} (I : Nat → Env → S → Prop) (xs : List D)
    (hs : ∀ (k : Nat) d ρ st, xs[k]? = some d → I k ρ st → ∃ ρ1, tg.bind d ρ = some ρ1 ∧ ∀ nx : Env → S → Prop, (∀ ρ2 st2, I (k + 1) ρ2 st2 → nx ρ2 st2) → body ρ1 st nx) (hQ : ∀ ρ st, I xs.length ρ st → Q ρ st) (ρ : Env) (st : S) (h0 : I 0 ρ st) : forW tg body xs ρ st Q := by
  refine forW_ind (fun ds ρ st => ∃ k : Nat, ds = xs.drop k ∧ k ≤ xs.length ∧ I k ρ st) (fun ρ st hP => ?_) (fun e ds ρ st hP => ?_) _ _ _ ⟨0, rfl, Nat.zero_le _, h0⟩
  · obtain ⟨k, e, hk, h⟩ := hP
    have : k = xs.length := by
      have := congrArg List.length e
      rw [List.length_drop] at this
      have h0 : ([] : List D).length = 0 := rfl
      omega
    subst this
    exact hQ ρ st h
  · obtain ⟨k, e2, hk, h⟩ := hP
    have hk2 : k < xs.length := by
      have := congrArg List.length e2
      rw [List.length_drop, List.length_cons] at this
      omega
    rw [List.drop_eq_getElem_cons hk2] at e2
    obtain ⟨rfl, rfl⟩ := List.cons.inj e2
    obtain ⟨ρ1, h1, h2⟩ := hs k _ ρ st (List.getElem?_eq_getElem hk2) h
    exact ⟨ρ1, h1, fun nx hn => h2 nx fun ρ2 st2 h3 => hn ρ2 st2 ⟨k + 1, rfl, hk2, h3⟩⟩
/-- a while loop's turn -/
def whTurn {S : Type} (Γ : Nat → Ct S) (c : X) (b : Stms) (K : Kn S) (E : QX S) : Env → S → (Env → S → Prop) → Prop := fun ρ1 st1 nx => wpX Γ c ρ1 st1 (fun d ρ2 st2 => match d.truth with
    | some true => wpSs Γ b ρ2 st2 { K with nx := nx, ct := nx, bk := K.nx } E
    | some false => K.nx ρ2 st2
    | none => False) E
theorem while_fuel {S : Type} {Γ : Nat → Ct S} {c : X} {b : Stms} {K : Kn S} {E : QX S} (I : Nat → Env → S → Prop)
    (h : ∀ n ρ st, I n ρ st → ∀ nx : Env → S → Prop, (∀ m ρ2 st2, m < n → I m ρ2 st2 → nx ρ2 st2) → whTurn Γ c b K E ρ st nx) : ∀ (k n : Nat) (ρ : Env) (st : S), n < k → I n ρ st → whileW (whTurn Γ c b K E) k ρ st
  | 0, _, _, _, hk, _ => absurd hk (Nat.not_lt_zero _)
  | k + 1, n, ρ, st, hk, hI => h n ρ st hI _ fun m ρ2 st2 hm h2 => while_fuel I h k m ρ2 st2 (by omega) h2
theorem while_ind {S : Type} {Γ : Nat → Ct S} {c : X} {b : Stms} {K : Kn S} {E : QX S} (I : Nat → Env → S → Prop)
    (h : ∀ n ρ st, I n ρ st → ∀ nx : Env → S → Prop, (∀ m ρ2 st2, m < n → I m ρ2 st2 → nx ρ2 st2) → whTurn Γ c b K E ρ st nx) (n : Nat) {ρ : Env} {st : S} (h0 : I n ρ st) : wpS Γ (.while_ c b) ρ st K E :=
  ⟨n + 1, while_fuel I h (n + 1) n ρ st (Nat.lt_succ_self n) h0⟩
theorem range_flat {α : Type} (f : Nat → List α) (k : Nat) : (List.range (k + 1)).flatMap f = (List.range k).flatMap f ++ f k := by
  rw [List.range_succ, List.flatMap_append]; simp
theorem flat_len {α : Type} {f : Nat → List α} {b : Nat} : ∀ n : Nat, (∀ k, k < n → (f k).length ≤ b) → ((List.range n).flatMap f).length ≤ n * b
  | 0, _ => by simp
  | n + 1, h => by
    rw [range_flat, List.length_append, Nat.succ_mul]
    have h1 := flat_len n fun k hk => h k (by omega)
    have h2 := h n (by omega)
    omega
theorem map_range_get {α : Type} {f : Nat → α} {n k : Nat} (h : k < n) : ((List.range n).map f)[k]? = some (f k) := by
  rw [List.getElem?_map, List.getElem?_range h]; rfl
theorem atI_nat' {xs : List D} {k : Nat} {d : D} (h : xs[k]? = some d) : atI xs (k : Int) = some d := by
  have hk : k < xs.length := (List.getElem?_eq_some_iff.mp h).1
  unfold atI ixN
  rw [if_pos (by omega), if_pos (by omega)]
  exact h
/-! ### ways -/
inductive Way where
  | lag (l s r : Int) (b : Bool)
  | slow (f s r : Int)
def eW : Way → D
  | .lag l s r b => .tup [.str "lag", .int l, .int s, .int r, .bl b]
  | .slow f s r => .tup [.str "slow", .int f, .int s, .int r]
def Way.s : Way → Int
  | .lag _ s _ _ => s
  | .slow _ s _ => s
def Way.r : Way → Int
  | .lag _ _ r _ => r
  | .slow _ _ r => r
structure OkM (s r : Int) : Prop where
  s : s = 1 ∨ s = -1
  r1 : -60 ≤ r
  r2 : r ≤ 60
def OkW : Way → Prop
  | .lag l s r _ => (0 ≤ l ∧ l ≤ 48) ∧ OkM s r
  | .slow f s r => (2 ≤ f ∧ f ≤ 6) ∧ OkM s r
theorem OkW.m {w : Way} (h : OkW w) : OkM w.s w.r := by cases w <;> exact h.2
def mapT (w : Way) (p n : Int) : Int := if w.s = 1 then p + n * w.r else if n % 2 = 0 then p else w.r - p
def backw : Way → Int → Bool
  | .lag _ _ _ b, v => b && decide (v % 2 = 1)
  | .slow _ _ _, _ => false
def begW : Way → Int → Int
  | .lag l _ _ _, v => v * l
  | .slow _ _ _, _ => 0
def goneW : Way → Int → Int → Int
  | .lag _ _ _ _, _, x => x
  | .slow f _ _, v, x => x / f ^ v.toNat
def placeT (n : Nat) (w : Way) (v b : Int) (e : Bool) : Int :=
  if b - begW w v < 0 then -1 else
  if (n : Int) ≤ goneW w v (b - begW w v) ∧ e = false then -1 else
  if backw w v then (n : Int) - 1 - goneW w v (b - begW w v) % n else goneW w v (b - begW w v) % n
def sungT (t : List (Option Int)) (w : Way) (v b : Int) (e : Bool) : Option Int :=
  if placeT t.length w v b e < 0 then none else (at0 t (placeT t.length w v b e)).map fun p => mapT w p v
def sizeW : Way → Int → Int
  | .lag _ _ _ _, _ => 1
  | .slow f _ _, v => f ^ v.toNat
theorem goneW_size {w : Way} {v x : Int} : goneW w v x = x / sizeW w v := by
  cases w with
  | lag l s r b => show x = x / 1; rw [Int.ediv_one]
  | slow f s r => rfl
theorem sizeW_pos {w : Way} (h : OkW w) {v : Int} : 0 < sizeW w v := by
  cases w with
  | lag l s r b => exact Int.one_pos
  | slow f s r => exact Int.pow_pos (by have := h.1.1; omega)
theorem pow_le {f : Int} (h1 : 2 ≤ f) (h2 : f ≤ 6) : ∀ n : Nat, f ^ n ≤ 6 ^ n
  | 0 => by rw [Int.pow_zero, Int.pow_zero]; exact Int.le_refl 1
  | n + 1 => by
    rw [Int.pow_succ, Int.pow_succ]
    exact Int.mul_le_mul (pow_le h1 h2 n) h2 (by omega) (Int.le_of_lt (Int.pow_pos (by decide)))
theorem pow_mono6 {n m : Nat} (h : n ≤ m) : (6 : Int) ^ n ≤ 6 ^ m := by
  obtain ⟨k, rfl⟩ := Nat.le.dest h
  induction k with
  | zero => exact Int.le_refl _
  | succ k ih =>
    have := ih (Nat.le_add_right n k)
    rw [← Nat.add_assoc, Int.pow_succ]
    have h0 : (0 : Int) < 6 ^ (n + k) := Int.pow_pos (by decide)
    omega
theorem sizeW_small {w : Way} (h : OkW w) {v : Int} (hv : v ≤ 10) : sizeW w v < 1073741824 := by
  cases w with
  | lag l s r b => show (1 : Int) < _; decide
  | slow f s r =>
    have h1 := pow_le h.1.1 h.1.2 v.toNat
    have h2 := pow_mono6 (n := v.toNat) (m := 10) (by omega)
    have h3 : (6 : Int) ^ 10 = 60466176 := by decide
    show f ^ v.toNat < _
    omega
theorem mapT_zero {w : Way} {p : Int} : mapT w p 0 = p := by
  unfold mapT
  split
  · omega
  · rfl
theorem mapT_succ {w : Way} (h : OkW w) {p k : Int} : mapT w p (k + 1) = w.s * mapT w p k + w.r := by
  unfold mapT
  rcases h.m.s with e | e
  · rw [if_pos e, if_pos e, e, Int.add_mul, Int.one_mul, Int.one_mul]; omega
  · have e1 : ¬ w.s = 1 := by rw [e]; decide
    rw [if_neg e1, if_neg e1, e]
    by_cases h2 : k % 2 = 0
    · rw [if_pos h2, if_neg (by omega)]; omega
    · rw [if_neg h2, if_pos (by omega)]; omega
/-! ### faults -/
def wordsL (s : Sty) (a b x y : Option Int) : List Str := (if barred s x y then [("barred" : Str)] else []) ++ (if tied s a b x y then [("tied" : Str)] else [])
theorem wordsL_len {s : Sty} {a b x y : Option Int} : (wordsL s a b x y).length ≤ 2 := by
  unfold wordsL
  split <;> split <;> simp
def fAt (s : Sty) (bf nw : List (Option Int)) (beat : Int) (i j : Nat) : List D :=
  (wordsL s (bf[i]?.getD none) (bf[j]?.getD none) (nw[i]?.getD none) (nw[j]?.getD none)).map fun w => .tup [.int beat, .int i, .int j, .str w]
def fRow (s : Sty) (bf nw : List (Option Int)) (beat : Int) (i : Nat) : List D := (List.range (nw.length - (i + 1))).flatMap fun k => fAt s bf nw beat i (i + 1 + k)
def faultsAt (s : Sty) (bf nw : List (Option Int)) (beat : Int) : List D := (List.range nw.length).flatMap fun i => fRow s bf nw beat i
def rowT (t : List (Option Int)) (w : Way) (many : Nat) (b : Int) (e : Bool) : List (Option Int) := (List.range many).map fun (v : Nat) => sungT t w v b e
def befT (t : List (Option Int)) (w : Way) (many : Nat) (b : Nat) (e : Bool) : List (Option Int) := if b = 0 then List.replicate many none else rowT t w many ((b : Int) - 1) e
def faultsT (t : List (Option Int)) (s : Sty) (w : Way) (many beats : Nat) (e : Bool) : List D :=
  (List.range beats).flatMap fun b => faultsAt s (befT t w many b e) (rowT t w many b e) b
theorem fAt_len {s : Sty} {bf nw : List (Option Int)} {beat : Int} {i j : Nat} : (fAt s bf nw beat i j).length ≤ 2 := by
  unfold fAt; rw [List.length_map]; exact wordsL_len
theorem fRow_len {s : Sty} {bf nw : List (Option Int)} {beat : Int} {i : Nat} : (fRow s bf nw beat i).length ≤ nw.length * 2 := by
  unfold fRow
  refine Nat.le_trans (flat_len _ fun k _ => fAt_len) (Nat.mul_le_mul_right 2 (Nat.sub_le _ _))
theorem faultsAt_len {s : Sty} {bf nw : List (Option Int)} {beat : Int} : (faultsAt s bf nw beat).length ≤ nw.length * (nw.length * 2) := flat_len _ fun k _ => fRow_len
theorem rowT_len {t : List (Option Int)} {w : Way} {many : Nat} {b : Int} {e : Bool} : (rowT t w many b e).length = many := by unfold rowT; rw [List.length_map, List.length_range]
theorem befT_len {t : List (Option Int)} {w : Way} {many b : Nat} {e : Bool} : (befT t w many b e).length = many := by
  unfold befT; split
  · exact List.length_replicate
  · exact rowT_len
theorem gd {l : List (Option Int)} {k : Nat} (h : k < l.length) : atI (l.map eN) (k : Int) = some (eN (l[k]?.getD none)) := by
  refine atI_nat' ?_
  rw [List.getElem?_map, List.getElem?_eq_getElem h]; rfl
theorem range_fm {f : D → Option D} {g : Nat → D} {lo : Int} {n : Nat} (h : ∀ k, k < n → f (.int (lo + k)) = some (g k)) : (rangeD lo n).filterMap f = (List.range n).map g := by
  rw [rangeD_eq, List.filterMap_map]
  have : ∀ l : List Nat, (∀ k ∈ l, k < n) → l.filterMap (f ∘ fun (i : Nat) => D.int (lo + i)) = l.map g := fun l => by
    induction l with
    | nil => intro _; rfl
    | cons a l ih =>
      intro hl
      rw [List.filterMap_cons, List.map_cons]
      have : (f ∘ fun (i : Nat) => D.int (lo + i)) a = some (g a) := h a (hl a List.mem_cons_self)
      rw [this]
      exact congrArg _ (ih fun k hk => hl k (List.mem_cons_of_mem _ hk))
  exact this _ fun k hk => List.mem_range.mp hk
theorem strs_fm {f : D → Option D} {g : Str → D} (h : ∀ w, f (.str w) = some (g w)) : ∀ l : List Str, (l.map D.str).filterMap f = l.map g
  | [] => rfl
  | w :: l => by
    rw [List.map_cons, List.filterMap_cons, h w, List.map_cons]
    exact congrArg _ (strs_fm h l)
theorem nones (n : Nat) : (List.replicate n [D.non]).flatten = (List.replicate n (none : Option Int)).map eN := by
  induction n with
  | zero => rfl
  | succ n ih =>
    rw [List.replicate_succ, List.flatten_cons, ih, List.replicate_succ, List.map_cons]; rfl
theorem placeT_lo {n : Nat} {w : Way} {v b : Int} {e : Bool} (hn : 1 ≤ n) : -1 ≤ placeT n w v b e := by
  unfold placeT
  have h0 := Int.emod_nonneg (goneW w v (b - begW w v)) (b := (n : Int)) (by omega)
  have h1 := Int.emod_lt_of_pos (goneW w v (b - begW w v)) (b := (n : Int)) (by omega)
  split
  · omega
  split
  · omega
  split <;> omega
theorem placeT_hi {n : Nat} {w : Way} {v b : Int} {e : Bool} (hn : 1 ≤ n) : placeT n w v b e < n := by
  unfold placeT
  have h0 := Int.emod_nonneg (goneW w v (b - begW w v)) (b := (n : Int)) (by omega)
  have h1 := Int.emod_lt_of_pos (goneW w v (b - begW w v)) (b := (n : Int)) (by omega)
  split
  · omega
  split
  · omega
  split <;> omega
theorem sungT_early {t : List (Option Int)} {w : Way} {v b : Int} {e : Bool} (h : b < begW w v) : sungT t w v b e = none := by
  have e1 : placeT t.length w v b e = -1 := if_pos (by omega)
  unfold sungT
  rw [e1]; rfl
theorem sungT_late {t : List (Option Int)} {w : Way} (hw : OkW w) {v b : Int} (h0 : ¬ b < begW w v) (h : begW w v + sizeW w v * t.length ≤ b) : sungT t w v b false = none := by
  have e1 : placeT t.length w v b false = -1 := by
    unfold placeT
    rw [if_neg (by omega), if_pos]
    refine ⟨?_, rfl⟩
    rw [goneW_size]
    refine (Int.le_ediv_iff_mul_le (sizeW_pos hw)).mpr ?_
    rw [Int.mul_comm]; omega
  unfold sungT
  rw [e1]; rfl
/-- the row that is sung, and the place in it -/
def rowOf (t : List (Option Int)) (w : Way) (v : Int) : List (Option Int) := if backw w v then t.reverse else t
theorem sungT_on {t : List (Option Int)} {w : Way} (hw : OkW w) (ht : 1 ≤ t.length) {v b : Int} {e : Bool} (h0 : ¬ b < begW w v) (h : e = true ∨ ¬ begW w v + sizeW w v * t.length ≤ b) :
    sungT t w v b e = (((rowOf t w v)[((b - begW w v) / sizeW w v % t.length).toNat]?).getD none).map fun p => mapT w p v := by
  have o0 := Int.emod_nonneg ((b - begW w v) / sizeW w v) (b := (t.length : Int)) (by omega)
  have o1 := Int.emod_lt_of_pos ((b - begW w v) / sizeW w v) (b := (t.length : Int)) (by omega)
  have e1 : placeT t.length w v b e = if backw w v then (t.length : Int) - 1 - (b - begW w v) / sizeW w v % t.length else (b - begW w v) / sizeW w v % t.length := by
    unfold placeT
    rw [if_neg (by omega), if_neg, goneW_size]
    rintro ⟨z1, z2⟩
    rcases h with h | h
    · rw [z2] at h; cases h
    · rw [goneW_size] at z1
      have := (Int.le_ediv_iff_mul_le (sizeW_pos hw)).mp z1
      rw [Int.mul_comm] at this
      omega
  have e2 : ¬ placeT t.length w v b e < 0 := by rw [e1]; split <;> omega
  unfold sungT
  rw [if_neg e2, e1]
  congr 1
  unfold rowOf at0
  cases hb : backw w v with
  | true =>
    rw [if_pos rfl, if_pos rfl, Int.emod_eq_of_lt (by omega) (by omega), List.getElem?_reverse (by omega)]
    congr 2
    omega
  | false =>
    rw [if_neg Bool.false_ne_true, if_neg Bool.false_ne_true, Int.emod_eq_of_lt o0 o1]
theorem rowOf_get {t : List (Option Int)} {w : Way} (ht : 1 ≤ t.length) {v x : Int} : atI ((rowOf t w v).map eN) (x % t.length) = some (eN (((rowOf t w v)[(x % t.length).toNat]?).getD none)) := by
  have o0 := Int.emod_nonneg x (b := (t.length : Int)) (by omega)
  have o1 := Int.emod_lt_of_pos x (b := (t.length : Int)) (by omega)
  have hl : (rowOf t w v).length = t.length := by unfold rowOf; split <;> simp
  have := gd (l := rowOf t w v) (k := (x % t.length).toNat) (by omega)
  rw [Int.toNat_of_nonneg o0] at this
  exact this
/-! ### contracts -/
def ct_need_whole : Ct Unit := fun ds st Q _ => ∃ i lo hi : Int, lo ≤ i ∧ i ≤ hi ∧ ds = [.int i, .int lo, .int hi] ∧ Q (.int i) st
def ct_is_barred_by : Ct Unit := fun ds st Q _ => ∃ (s : Sty) (a b : Int), 0 ≤ s.sp ∧ ds = [eS s, .int a, .int b] ∧ Q (.bl (barred s (some a) (some b))) st
def ct_pair_faults : Ct Unit := fun ds st Q _ => ∃ (s : Sty) (a b x y : Option Int), 0 ≤ s.sp ∧ ds = [eS s, .tup [eN a, eN b], .tup [eN x, eN y]] ∧ Q (.lst ((wordsL s a b x y).map .str)) st
def ct_law_words : Ct Unit := ct_pair_faults
def ct_is_map : Ct Unit := fun ds st Q _ => ∃ s r : Int, OkM s r ∧ ds = [.int s, .int r] ∧ Q (.bl true) st
def ct_way_fault : Ct Unit := fun ds st Q _ => ∃ w, OkW w ∧ ds = [eW w] ∧ Q .non st
def ct_need_way : Ct Unit := fun ds st Q _ => ∃ w, OkW w ∧ ds = [eW w] ∧ Q (eW w) st
def ct_need_endless : Ct Unit := fun ds st Q _ => ∃ b : Bool, ds = [.bl b] ∧ Q .non st
def ct_map_times : Ct Unit := fun ds st Q _ => ∃ (w : Way) (p n : Int), OkW w ∧ ds = [eW w, .int p, .int n] ∧ Q (.int (mapT w p n)) st
def ct_is_backwards : Ct Unit := fun ds st Q _ => ∃ (w : Way) (v : Int), ds = [eW w, .int v] ∧ Q (.bl (backw w v)) st
def ct_begin_of : Ct Unit := fun ds st Q _ => ∃ (w : Way) (v : Int), OkW w ∧ ds = [eW w, .int v] ∧ Q (.int (begW w v)) st
def ct_notes_gone : Ct Unit := fun ds st Q _ => ∃ (w : Way) (v x : Int), OkW w ∧ 0 ≤ x ∧ 0 ≤ v ∧ ds = [eW w, .int v, .int x] ∧ Q (.int (goneW w v x)) st
def ct_place_at : Ct Unit := fun ds st Q _ => ∃ (t : List (Option Int)) (w : Way) (v b : Int) (e : Bool), 1 ≤ t.length ∧ OkW w ∧ 0 ≤ v ∧ ds = [eT t, eW w, .int v, .int b, .bl e] ∧ Q (.int (placeT t.length w v b e)) st
def ct_sung : Ct Unit := fun ds st Q _ => ∃ (t : List (Option Int)) (w : Way) (v b : Int) (e : Bool), 1 ≤ t.length ∧ OkW w ∧ 0 ≤ v ∧ ds = [eT t, eW w, .int v, .int b, .bl e] ∧ Q (eN (sungT t w v b e)) st
def ct_need_all : Ct Unit := fun ds st Q _ => ∃ t s w, OkT t ∧ OkS s ∧ OkW w ∧ ds = [eT t, eS s, eW w] ∧ Q .non st
def ct_faults_at : Ct Unit := fun ds st Q _ => ∃ (s : Sty) (bf nw : List (Option Int)) (beat : Int), 0 ≤ s.sp ∧ bf.length = nw.length ∧ nw.length ≤ 100 ∧ ds = [eS s, .lst (bf.map eN), .lst (nw.map eN), .int beat] ∧ Q (.lst (faultsAt s bf nw beat)) st
def ct_faults : Ct Unit := fun ds st Q _ => ∃ t s w, ∃ (many beats : Nat) (e : Bool), OkT t ∧ OkS s ∧ OkW w ∧ 1 ≤ many ∧ many ≤ 20 ∧ beats ≤ 500 ∧ ds = [eT t, eS s, eW w, .int many, .int beats, .bl e] ∧ Q (.tup (faultsT t s w many beats e)) st
def ct_law_rise : Ct Unit := fun ds st Q _ => ds = [.hdl 0] ∧ ∀ r : Int, -60 ≤ r → r ≤ 60 → Q (.int r) st
def ct_law_way : Ct Unit := fun ds st Q _ => ds = [.hdl 0] ∧ ∀ w, OkW w → Q (eW w) st
def ct_law_power : Ct Unit := fun ds st Q _ => ∃ f v : Int, 2 ≤ f ∧ f ≤ 6 ∧ 0 ≤ v ∧ v ≤ 1000000 ∧ ds = [.int f, .int v] ∧ Q (.int (f ^ v.toNat)) st
def ct_law_note : Ct Unit := fun ds st Q _ => ∃ (t : List (Option Int)) (w : Way) (v b : Int) (e : Bool), OkT t ∧ OkW w ∧ 0 ≤ v ∧ v ≤ 10 ∧ 0 ≤ b ∧ ds = [eT t, eW w, .int v, .int b, .bl e] ∧ Q (eN (sungT t w v b e)) st
def ct_law_all : Ct Unit := fun ds st Q _ => ∃ t s w, ∃ (many beats : Nat) (e : Bool), OkT t ∧ OkS s ∧ OkW w ∧ many ≤ 10 ∧ beats ≤ 100 ∧ ds = [eT t, eS s, eW w, .int many, .int beats, .bl e] ∧ Q (.tup (faultsT t s w many beats e)) st
/-! ### what repr shows of them -/
theorem Rp.intk {i : Int} {n k : Nat} (h0 : 0 ≤ i) (h1 : i < 2 ^ k) (hk : k ≤ 39) : Rp (.int i) n k := by
  have h2 : (2 : Int) ^ k ≤ 2 ^ 39 := by
    obtain ⟨m, hm⟩ := Nat.le.dest hk
    rw [← hm]
    clear hm
    induction m with
    | zero => exact Int.le_refl _
    | succ m ih =>
      rw [← Nat.add_assoc, Int.pow_succ]
      have : (0 : Int) < 2 ^ (k + m) := Int.pow_pos (by decide)
      omega
  have h39 : (2 : Int) ^ 39 = 549755813888 := by decide
  obtain ⟨p, e, h⟩ := Rp.int (n := n) (i := i) (by omega) (by omega)
  refine ⟨p, e, h.nd, h.sh, h.lf, h.dp, ?_⟩
  cases e
  have hn : i.natAbs < 2 ^ k := by
    have : ((i.natAbs : Nat) : Int) < ((2 ^ k : Nat) : Int) := by
      rw [Int.natCast_pow]
      have : ((i.natAbs : Nat) : Int) = i := by omega
      rw [this]; exact h1
    omega
  simp only [PyData.weight]
  split
  · exact Nat.zero_le _
  · rename_i hz
    have : i.natAbs ≠ 0 := by
      intro z
      exact hz (by simpa using z)
    have := (Nat.log2_lt this).mpr hn
    omega
theorem rp_way {w : Way} (h : OkW w) : Rp (eW w) 1 (5 * 61) := by
  have m := h.m
  have ms : -999999999999 ≤ w.s ∧ w.s ≤ 999999999999 := by rcases m.s with e | e <;> rw [e] <;> decide
  have mr : -999999999999 ≤ w.r ∧ w.r ≤ 999999999999 := ⟨by have := m.r1; omega, by have := m.r2; omega⟩
  cases w with
  | lag l s r b =>
    obtain ⟨⟨a1, a2⟩, _⟩ := h
    refine Rp.tup (n := 0) (w := 60) (m := 5) (fun d hd => ?_) (Nat.le_refl 5)
    simp only [List.mem_cons, List.not_mem_nil, or_false] at hd
    rcases hd with rfl | rfl | rfl | rfl | rfl
    · exact (Rp.str (n := 0) (x := "lag") (by decide +kernel)).up (Nat.le_refl _) (by decide +kernel)
    · exact Rp.int (by omega) (by omega)
    · exact Rp.int ms.1 ms.2
    · exact Rp.int mr.1 mr.2
    · exact Rp.bl
  | slow f s r =>
    obtain ⟨⟨a1, a2⟩, _⟩ := h
    refine (Rp.tup (ds := [.str "slow", .int f, .int s, .int r]) (n := 0) (w := 60) (m := 4) (fun d hd => ?_) (Nat.le_refl 4)).up (Nat.le_refl _) (by decide)
    simp only [List.mem_cons, List.not_mem_nil, or_false] at hd
    rcases hd with rfl | rfl | rfl | rfl
    · exact (Rp.str (n := 0) (x := "slow") (by decide +kernel)).up (Nat.le_refl _) (by decide +kernel)
    · exact Rp.int (by omega) (by omega)
    · exact Rp.int ms.1 ms.2
    · exact Rp.int mr.1 mr.2
theorem rp_three {t : List (Option Int)} {s : Sty} {w : Way} (ht : OkT t) (hs : OkS s) (hw : OkW w) : Rp (.lst [eT t, eS s, eW w]) 3 100000 := by
  refine (Rp.lst (n := 2) (w := 20000) (m := 3) (fun d hd => ?_) (Nat.le_refl _)).up (by decide) (by decide)
  simp only [List.mem_cons, List.not_mem_nil, or_false] at hd
  rcases hd with rfl | rfl | rfl
  · exact (rp_tune ht).up (by decide) (by decide)
  · exact (rp_style hs).up (by decide) (by decide)
  · exact (rp_way hw).up (by decide) (by decide)
theorem mem_faultsT {t : List (Option Int)} {s : Sty} {w : Way} {many beats : Nat} {e : Bool} {d : D} (h : d ∈ faultsT t s w many beats e) :
    ∃ (b i j : Nat) (x : Str), b < beats ∧ i < many ∧ j < many ∧ (x = "barred" ∨ x = "tied") ∧ d = .tup [.int b, .int i, .int j, .str x] := by
  unfold faultsT at h
  obtain ⟨b, hb, h⟩ := List.mem_flatMap.mp h
  unfold faultsAt at h
  obtain ⟨i, hi, h⟩ := List.mem_flatMap.mp h
  unfold fRow at h
  obtain ⟨j, hj, h⟩ := List.mem_flatMap.mp h
  unfold fAt at h
  obtain ⟨x, hx, rfl⟩ := List.mem_map.mp h
  rw [rowT_len] at hi hj
  have hb := List.mem_range.mp hb
  have hi := List.mem_range.mp hi
  have hj := List.mem_range.mp hj
  refine ⟨b, i, i + 1 + j, x, hb, hi, by omega, ?_, rfl⟩
  unfold wordsL at hx
  rcases List.mem_append.mp hx with h | h
  · split at h
    · exact .inl (List.mem_singleton.mp h)
    · cases h
  · split at h
    · exact .inr (List.mem_singleton.mp h)
    · cases h
theorem faultsT_len {t : List (Option Int)} {s : Sty} {w : Way} {many beats : Nat} {e : Bool} : (faultsT t s w many beats e).length ≤ beats * (many * (many * 2)) :=
  flat_len _ fun k _ => Nat.le_trans faultsAt_len (by rw [rowT_len]; exact Nat.le_refl _)
theorem rp_faults {t : List (Option Int)} {s : Sty} {w : Way} {many beats : Nat} {e : Bool} (h1 : many ≤ 6) (h2 : beats ≤ 60) : Rp (.tup (faultsT t s w many beats e)) 2 (4320 * (4 * 8 + 1)) := by
  refine Rp.tup (n := 1) (w := 4 * 8) (m := 4320) (fun d hd => ?_) ?_
  · obtain ⟨b, i, j, x, hb, hi, hj, hx, rfl⟩ := mem_faultsT hd
    refine Rp.tup (n := 0) (w := 7) (m := 4) (fun d hd => ?_) (Nat.le_refl _)
    simp only [List.mem_cons, List.not_mem_nil, or_false] at hd
    rcases hd with rfl | rfl | rfl | rfl
    · exact Rp.intk (by omega) (by have : (2 : Int) ^ 7 = 128 := by decide
                                   omega) (by decide)
    · exact Rp.intk (by omega) (by have : (2 : Int) ^ 7 = 128 := by decide
                                   omega) (by decide)
    · exact Rp.intk (by omega) (by have : (2 : Int) ^ 7 = 128 := by decide
                                   omega) (by decide)
    · rcases hx with rfl | rfl
      · exact (Rp.str (n := 0) (x := "barred") (by decide +kernel)).up (Nat.le_refl _) (by decide +kernel)
      · exact (Rp.str (n := 0) (x := "tied") (by decide +kernel)).up (Nat.le_refl _) (by decide +kernel)
  · refine Nat.le_trans faultsT_len ?_
    have a : many * (many * 2) ≤ 6 * (6 * 2) := Nat.mul_le_mul h1 (Nat.mul_le_mul_right 2 h1)
    exact Nat.mul_le_mul h2 a
theorem rp_faults2 {t : List (Option Int)} {s : Sty} {w : Way} {many beats : Nat} {e : Bool} (h1 : many ≤ 6) (h2 : beats ≤ 60) : Rp (.lst [.tup (faultsT t s w many beats e), .tup (faultsT t s w many beats e)]) 3 600000 := by
  refine (Rp.lst (n := 2) (w := 4320 * (4 * 8 + 1)) (m := 2) (fun d hd => ?_) (Nat.le_refl _)).up (by decide) (by decide)
  simp only [List.mem_cons, List.not_mem_nil, or_false, or_self] at hd
  rw [hd]
  exact rp_faults h1 h2
theorem faults_one {t : List (Option Int)} {s : Sty} {w : Way} {beats : Nat} {e : Bool} : faultsT t s w 1 beats e = [] := by
  unfold faultsT
  rw [List.flatMap_eq_nil_iff]
  intro b _
  unfold faultsAt fRow
  rw [rowT_len]
  rfl
end Pv

end
section
set_option linter.all false
set_option maxRecDepth 100000
set_option maxHeartbeats 1000000
/-! Cm3: pairs of voices that follow at a lag; the first of faults; how far to look. -/
namespace Pv
open PySem PySem.Spec PyProof.Rows L2
/-! ### numbers -/
def gcdI (a b : Int) : Int := (Int.gcd a b : Nat)
def overI (n l : Int) : Int := (n + l - 1) / l
def jointI (a b : Int) : Int := a / gcdI a b * b
theorem gcdI_pos {a b : Int} (h : 0 < a ∨ 0 < b) : 0 < gcdI a b := by
  unfold gcdI
  have : 0 < Int.gcd a b := Int.gcd_pos_iff.mpr (by omega)
  omega
theorem gcdI_step {a b : Int} (ha : 0 ≤ a) (hb : 0 < b) : gcdI b (a % b) = gcdI a b := by
  obtain ⟨m, rfl⟩ : ∃ m : Nat, a = (m : Int) := ⟨a.toNat, by omega⟩
  obtain ⟨n, rfl⟩ : ∃ n : Nat, b = (n : Int) := ⟨b.toNat, by omega⟩
  unfold gcdI
  rw [← Int.natCast_emod, Int.gcd_natCast_natCast, Int.gcd_natCast_natCast, Nat.gcd_comm m n, Nat.gcd_rec n m, Nat.gcd_comm]
theorem gcdI_zero {a : Int} (ha : 0 ≤ a) : gcdI a 0 = a := by
  unfold gcdI
  rw [Int.gcd_zero_right]
  omega
theorem joint_both {a b : Int} : a * b / gcdI a b = jointI a b := by
  unfold jointI gcdI
  have h : ((Int.gcd a b : Nat) : Int) ∣ a := Int.gcd_dvd_left ..
  rw [Int.mul_comm a b, Int.mul_ediv_assoc b h, Int.mul_comm]
theorem gcdI_le {a b : Int} (hb : 0 < b) : gcdI a b ≤ b := by
  unfold gcdI
  exact Int.le_of_dvd hb (Int.gcd_dvd_right ..)
theorem gcdI_leL {a b : Int} (ha : 0 < a) : gcdI a b ≤ a := by
  unfold gcdI
  exact Int.le_of_dvd ha (Int.gcd_dvd_left ..)
theorem jointI_pos {a b : Int} (ha : 0 < a) (hb : 0 < b) : 0 < jointI a b := by
  unfold jointI
  have h1 := gcdI_pos (a := a) (b := b) (.inl ha)
  have h2 := gcdI_leL (a := a) (b := b) ha
  exact Int.mul_pos (Int.ediv_pos_of_pos_of_dvd ha (Int.le_of_lt h1) (by unfold gcdI; exact Int.gcd_dvd_left ..)) hb
theorem jointI_le {a b : Int} (ha : 0 < a) (hb : 0 < b) : jointI a b ≤ a * b := by
  unfold jointI
  have h1 := gcdI_pos (a := a) (b := b) (.inl ha)
  have : a / gcdI a b ≤ a := Int.ediv_le_self _ (by omega)
  exact Int.mul_le_mul_of_nonneg_right this (by omega)
/-! ### one pair -/
/-- the word of two voices at a beat -/
def wdT (t : List (Option Int)) (s : Sty) (w : Way) (e : Bool) (near far b : Int) : Str :=
  word s (sungT t w near (b - 1) e) (sungT t w far (b - 1) e) (sungT t w near b e) (sungT t w far b e)
def endT (n : Nat) (w : Way) (e : Bool) (near far : Int) : Int := match w with
  | .lag l sg r b => if e then begW (.lag l sg r b) far + n + 1 else begW (.lag l sg r b) near + n
  | .slow f _ _ => if e then (n : Int) * f ^ far.toNat + 1 else n
def lagF (t : List (Option Int)) (s : Sty) (w : Way) (e : Bool) (near far : Int) : Option (Int × Str) :=
  ((List.range (endT t.length w e near far - begW w far).toNat).find? fun (k : Nat) => wdT t s w e near far (begW w far + k) != "").map fun k => (begW w far + k, wdT t s w e near far (begW w far + k))
theorem word_none2 {s : Sty} {a b x y : Option Int} : word s a none x y = word s none none x y := by
  unfold word
  rw [tied_n3, show tied s none none x y = false by cases x <;> cases y <;> rfl]
/-- the word, where nothing counts of the beat before the first -/
def wd0 (t : List (Option Int)) (s : Sty) (w : Way) (e : Bool) (near far b : Int) (first : Bool) : Str :=
  word s (if first then none else sungT t w near (b - 1) e) (if first then none else sungT t w far (b - 1) e) (sungT t w near b e) (sungT t w far b e)
theorem wd0_eq {t : List (Option Int)} {s : Sty} {w : Way} {e : Bool} {near far : Int} {k : Nat} : wd0 t s w e near far (begW w far + k) (k == 0) = wdT t s w e near far (begW w far + k) := by
  unfold wd0 wdT
  cases k with
  | zero =>
    have : sungT t w far (begW w far + ((0 : Nat) : Int) - 1) e = none := sungT_early (by omega)
    rw [this, word_none2 (a := sungT t w near (begW w far + ((0 : Nat) : Int) - 1) e) (b := none)]
    rfl
  | succ k =>
    rw [show (k + 1 == 0) = false from rfl]
    rfl
theorem wordsL_head {s : Sty} {a b x y : Option Int} : (wordsL s a b x y = [] ↔ word s a b x y = "") ∧ ∀ z r, wordsL s a b x y = z :: r → z = word s a b x y := by
  unfold wordsL word
  cases hb : barred s x y <;> cases ht : tied s a b x y
  · exact ⟨⟨fun _ => rfl, fun _ => rfl⟩, fun z r h => by cases h⟩
  · exact ⟨⟨fun h => by simp at h, fun h => absurd h (by decide)⟩, fun z r h => by cases h; rfl⟩
  · exact ⟨⟨fun h => by simp at h, fun h => absurd h (by decide)⟩, fun z r h => by cases h; rfl⟩
  · exact ⟨⟨fun h => by simp at h, fun h => absurd h (by decide)⟩, fun z r h => by cases h; rfl⟩
theorem word_cases {s : Sty} {a b x y : Option Int} : word s a b x y = "" ∨ word s a b x y = "barred" ∨ word s a b x y = "tied" := by
  unfold word
  split
  · exact .inr (.inl rfl)
  · split
    · exact .inr (.inr rfl)
    · exact .inl rfl
/-! ### faults as data, and the first of them -/
structure Fl where
  b : Int
  n : Int
  f : Int
  x : Str
def eF : Option Fl → D
  | none => .non
  | some q => .tup [.int q.b, .int q.n, .int q.f, .str q.x]
def Fl.ltb (p q : Fl) : Bool := (D.ltT (eF (some p)) (eF (some q)))
def Fl.ok (p : Fl) : Prop := p.x = "barred" ∨ p.x = "tied"
def accM : Option Fl → Option Fl → Option Fl
  | none, q => q
  | some p, none => some p
  | some p, some q => if q.ltb p then some q else some p
def pairF (t : List (Option Int)) (s : Sty) (w : Way) (e : Bool) (q : Int × Int) : Option Fl := (lagF t s w e q.1 (q.1 + q.2)).map fun y => ⟨y.1, q.1, q.1 + q.2, y.2⟩
theorem find_sat {α : Type} {p : α → Bool} {l : List α} {a : α} (h : l.find? p = some a) : p a = true := List.find?_some h
theorem lagF_ok {t : List (Option Int)} {s : Sty} {w : Way} {e : Bool} {near far b : Int} {x : Str} (h : lagF t s w e near far = some (b, x)) : (x = "barred" ∨ x = "tied") ∧ begW w far ≤ b := by
  unfold lagF at h
  cases z : (List.range (endT t.length w e near far - begW w far).toNat).find? fun (k : Nat) => wdT t s w e near far (begW w far + k) != "" with
  | none => rw [z] at h; cases h
  | some k =>
    rw [z] at h
    cases h
    have := List.find?_some z
    rw [bne_iff_ne] at this
    refine ⟨?_, by omega⟩
    unfold wdT at this ⊢
    rcases word_cases (s := s) (a := sungT t w near (begW w far + k - 1) e) (b := sungT t w far (begW w far + k - 1) e) (x := sungT t w near (begW w far + k) e) (y := sungT t w far (begW w far + k) e) with z | z | z
    · exact absurd z this
    · exact .inl z
    · exact .inr z
theorem pairF_ok {t : List (Option Int)} {s : Sty} {w : Way} {e : Bool} {q : Int × Int} {p : Fl} (h : pairF t s w e q = some p) : p.ok ∧ begW w (q.1 + q.2) ≤ p.b ∧ p.n = q.1 ∧ p.f = q.1 + q.2 := by
  unfold pairF at h
  cases z : lagF t s w e q.1 (q.1 + q.2) with
  | none => rw [z] at h; cases h
  | some y =>
    rw [z] at h
    cases h
    obtain ⟨h1, h2⟩ := lagF_ok (b := y.1) (x := y.2) z
    exact ⟨h1, h2, rfl, rfl⟩
theorem str_row {x : Str} (h : x = "barred" ∨ x = "tied") : PyData.strOk x = true := by rcases h with rfl | rfl <;> decide +kernel
theorem fl_tups {p q : Fl} (h1 : p.ok) (h2 : q.ok) : tupsOk (eF (some p)) (eF (some q)) = true := by
  have a := str_row h1
  have b := str_row h2
  unfold tupsOk eF
  simp [cmpOkL, D.cmpOk, D.rowOk, a, b]
theorem fl_lt_beat {p q : Fl} (h : q.b < p.b) : p.ltb q = false := by
  have e : (D.int p.b).same (.int q.b) = false := by
    show (p.b == q.b) = false
    simp; omega
  show (if (D.int p.b).same (.int q.b) = true then ltL [.int p.n, .int p.f, .str p.x] [.int q.n, .int q.f, .str q.x] else (D.int p.b).ltA (.int q.b)) = false
  rw [e, if_neg Bool.false_ne_true]
  show decide (p.b < q.b) = false
  simp; omega
/-! the least of a list, as min tells it -/
theorem minT_acc : ∀ (r : List Fl) (p : Fl), minT (eF (some p)) (r.map fun q => eF (some q)) = eF (r.foldl (fun a q => accM a (some q)) (some p))
  | [], p => rfl
  | q :: r, p => by
    show minT (if (eF (some q)).ltT (eF (some p)) then eF (some q) else eF (some p)) (r.map fun q => eF (some q)) = eF (r.foldl (fun a q => accM a (some q)) (accM (some p) (some q)))
    have e : accM (some p) (some q) = some (if q.ltb p then q else p) := by
      show (if q.ltb p then some q else some p) = _
      split <;> rfl
    rw [e]
    have e2 : (if (eF (some q)).ltT (eF (some p)) then eF (some q) else eF (some p)) = eF (some (if q.ltb p then q else p)) := by
      show (if q.ltb p then eF (some q) else eF (some p)) = _
      split <;> rfl
    rw [e2]
    exact minT_acc r _
theorem acc_filter : ∀ (l : List (Option Fl)) (a : Option Fl), l.foldl accM a = (l.filterMap id).foldl (fun a q => accM a (some q)) a
  | [], a => rfl
  | none :: l, a => by
    show l.foldl accM (accM a none) = _
    rw [show accM a none = a by cases a <;> rfl]
    exact acc_filter l a
  | some q :: l, a => acc_filter l (accM a (some q))
/-! ### how far to look (lag) -/
def absI (i : Int) : Int := if i < 0 then -i else i
theorem absI_pos {i : Int} (h : i ≠ 0) : 0 < absI i := by unfold absI; split <;> omega
theorem absI_le {i : Int} (h1 : -60 ≤ i) (h2 : i ≤ 60) : absI i ≤ 60 := by unfold absI; split <;> omega
def p0L (sg : Int) (b : Bool) : Int := if sg = -1 ∨ b = true then 2 else 1
def climbL (sg r : Int) : Bool := decide (sg = 1) && decide (r ≠ 0)
/-- first, period in the plain case -/
def plainL (n : Int) (sp l sg r : Int) (b e : Bool) : Int × Int :=
  let fp := if climbL sg r then (overI 120 (absI r), jointI (p0L sg b) (sp / gcdI sp (absI r))) else (0, p0L sg b)
  (fp.1, if e then jointI fp.2 (n / gcdI n l) else fp.2)
def reachL (n : Int) (sp l sg r : Int) (b e : Bool) : Int × Int :=
  if e = false ∧ 0 < l then (overI n l, 1) else if climbL sg r = true ∧ sp = 0 then (180 / absI r + 1, 1) else plainL n sp l sg r b e
def farL (n : Int) (sp l sg r : Int) (b e : Bool) : Int × Int :=
  if e = false ∧ 0 < l then (overI n l, 0) else if climbL sg r = true ∧ sp = 0 then (180 / absI r + 1, 0) else plainL n sp l sg r b e
theorem p0L_pos {sg : Int} {b : Bool} : 0 < p0L sg b ∧ p0L sg b ≤ 2 := by unfold p0L; split <;> decide
theorem div_gcd {n l : Int} (hn : 0 < n) : 0 < n / gcdI n l ∧ n / gcdI n l ≤ n := by
  have h1 := gcdI_pos (a := n) (b := l) (.inl hn)
  exact ⟨Int.ediv_pos_of_pos_of_dvd hn (Int.le_of_lt h1) (by unfold gcdI; exact Int.gcd_dvd_left ..), Int.ediv_le_self _ (by omega)⟩
theorem plainL_b {n sp l sg r : Int} {b e : Bool} (hn : 1 ≤ n) (hn2 : n ≤ 48) (hs : climbL sg r = true → 0 < sp) (hs2 : sp ≤ 24) (hr : -60 ≤ r ∧ r ≤ 60) :
    0 ≤ (plainL n sp l sg r b e).1 ∧ (plainL n sp l sg r b e).1 ≤ 200 ∧ 1 ≤ (plainL n sp l sg r b e).2 ∧ (plainL n sp l sg r b e).2 ≤ 5000 := by
  have hp := p0L_pos (sg := sg) (b := b)
  have fp : ∃ f p : Int, (if climbL sg r then (overI 120 (absI r), jointI (p0L sg b) (sp / gcdI sp (absI r))) else (0, p0L sg b)) = (f, p) ∧ 0 ≤ f ∧ f ≤ 200 ∧ 1 ≤ p ∧ p ≤ 48 := by
    by_cases hc : climbL sg r = true
    · rw [if_pos hc]
      have hs := hs hc
      have hr0 : r ≠ 0 := by unfold climbL at hc; simp at hc; exact hc.2
      have ha := absI_pos hr0
      have ha2 := absI_le hr.1 hr.2
      obtain ⟨d1, d2⟩ := div_gcd (n := sp) (l := absI r) hs
      have j1 := jointI_pos (a := p0L sg b) hp.1 d1
      have j2 := jointI_le (a := p0L sg b) hp.1 d1
      have j3 : p0L sg b * (sp / gcdI sp (absI r)) ≤ 2 * 24 := Int.mul_le_mul hp.2 (by omega) (by omega) (by omega)
      refine ⟨_, _, rfl, ?_, ?_, by omega, by omega⟩
      · unfold overI; exact Int.ediv_nonneg (by omega) (by omega)
      · unfold overI
        have : (120 + absI r - 1) / absI r ≤ 120 + absI r - 1 := Int.ediv_le_self _ (by omega)
        omega
    · rw [if_neg hc]
      exact ⟨_, _, rfl, by omega, by omega, by omega, by omega⟩
  obtain ⟨f, p, e1, f0, f1, q0, q1⟩ := fp
  unfold plainL
  rw [e1]
  dsimp only
  refine ⟨f0, f1, ?_, ?_⟩
  · split
    · obtain ⟨d1, d2⟩ := div_gcd (n := n) (l := l) (by omega)
      have := jointI_pos (a := p) (by omega) d1
      omega
    · exact q0
  · split
    · obtain ⟨d1, d2⟩ := div_gcd (n := n) (l := l) (by omega)
      have j2 := jointI_le (a := p) (by omega) d1
      have j3 : p * (n / gcdI n l) ≤ 48 * 48 := Int.mul_le_mul q1 (by omega) (by omega) (by omega)
      omega
    · omega
theorem overI_b {n l : Int} (hn : 1 ≤ n) (hn2 : n ≤ 48) (hl : 0 < l) (hl2 : l ≤ 48) : 0 ≤ overI n l ∧ overI n l ≤ 200 := by
  unfold overI
  have h1 : (n + l - 1) / l ≤ n + l - 1 := Int.ediv_le_self _ (by omega)
  have h2 : 0 ≤ (n + l - 1) / l := Int.ediv_nonneg (by omega) (by omega)
  omega
theorem div180 {r : Int} (h : 0 < r) : 0 ≤ 180 / r ∧ 180 / r ≤ 180 := ⟨Int.ediv_nonneg (by omega) (by omega), Int.ediv_le_self _ (by omega)⟩
theorem reachL_b {n sp l sg r : Int} {b e : Bool} (hn : 1 ≤ n) (hn2 : n ≤ 48) (hl : 0 ≤ l) (hl2 : l ≤ 48) (hs : 0 ≤ sp) (hs2 : sp ≤ 24) (hr : -60 ≤ r ∧ r ≤ 60) :
    0 ≤ (reachL n sp l sg r b e).1 ∧ (reachL n sp l sg r b e).1 ≤ 200 ∧ 1 ≤ (reachL n sp l sg r b e).2 ∧ (reachL n sp l sg r b e).2 ≤ 5000 := by
  unfold reachL
  split
  · rename_i h
    have := overI_b hn hn2 h.2 hl2
    exact ⟨this.1, this.2, Int.le_refl 1, (by show (1 : Int) ≤ 5000; decide)⟩
  · split
    · rename_i h
      have hr0 : r ≠ 0 := by have := h.1; unfold climbL at this; simp at this; exact this.2
      have := div180 (absI_pos hr0)
      dsimp only
      omega
    · rename_i h1 h2
      exact plainL_b hn hn2 (fun hc => by
        rcases Int.lt_or_lt_of_ne (show sp ≠ 0 from fun z => h2 ⟨hc, z⟩) with z | z
        · omega
        · exact z) hs2 hr
theorem farL_b {n sp l sg r : Int} {b e : Bool} (hn : 1 ≤ n) (hn2 : n ≤ 48) (hl : 0 ≤ l) (hl2 : l ≤ 48) (hs : 0 ≤ sp) (hs2 : sp ≤ 24) (hr : -60 ≤ r ∧ r ≤ 60) :
    0 ≤ (farL n sp l sg r b e).1 ∧ (farL n sp l sg r b e).1 ≤ 200 ∧ 0 ≤ (farL n sp l sg r b e).2 ∧ (farL n sp l sg r b e).2 ≤ 5000 := by
  unfold farL
  split
  · rename_i h
    have := overI_b hn hn2 h.2 hl2
    exact ⟨this.1, this.2, Int.le_refl 0, (by show (0 : Int) ≤ 5000; decide)⟩
  · split
    · rename_i h
      have hr0 : r ≠ 0 := by have := h.1; unfold climbL at this; simp at this; exact this.2
      have := div180 (absI_pos hr0)
      dsimp only
      omega
    · rename_i h1 h2
      have := plainL_b (n := n) (sp := sp) (l := l) (sg := sg) (r := r) (b := b) (e := e) hn hn2 (fun hc => by
        rcases Int.lt_or_lt_of_ne (show sp ≠ 0 from fun z => h2 ⟨hc, z⟩) with z | z
        · omega
        · exact z) hs2 hr
      omega
/-! ### the pairs that are looked at -/
def nearsL (b : Bool) : List Int := if b then [0, 1] else [0]
def inVo : Option Int → Int → Bool
  | none, _ => true
  | some v, x => decide (x < v)
def rowPairs (vo : Option Int) (b : Bool) (a : Nat) : List (Int × Int) := ((nearsL b).filter fun n => inVo vo (n + a)).map fun n => (n, (a : Int))
def lookPairs (vo : Option Int) (b : Bool) (m : Nat) : List (Int × Int) := (List.range m).flatMap fun k => rowPairs vo b (k + 1)
def eP (q : Int × Int) : D := .tup [.int q.1, .int q.2]
def firstF (t : List (Option Int)) (s : Sty) (w : Way) (e : Bool) (l : List (Int × Int)) : Option Fl := (l.map (pairF t s w e)).foldl accM none
theorem rowPairs_len {vo : Option Int} {b : Bool} {a : Nat} : (rowPairs vo b a).length ≤ 2 := by
  unfold rowPairs
  rw [List.length_map]
  refine Nat.le_trans (List.length_filter_le ..) ?_
  unfold nearsL; split <;> decide
theorem mem_look {vo : Option Int} {b : Bool} {m : Nat} {q : Int × Int} (h : q ∈ lookPairs vo b m) : (q.1 = 0 ∨ q.1 = 1) ∧ 1 ≤ q.2 ∧ q.2 ≤ m := by
  unfold lookPairs at h
  obtain ⟨k, hk, h⟩ := List.mem_flatMap.mp h
  unfold rowPairs at h
  obtain ⟨n, hn, rfl⟩ := List.mem_map.mp h
  have hn := (List.mem_filter.mp hn).1
  have hk := List.mem_range.mp hk
  refine ⟨?_, by show (1 : Int) ≤ ((k + 1 : Nat) : Int); omega, by show ((k + 1 : Nat) : Int) ≤ m; omega⟩
  unfold nearsL at hn
  split at hn
  · rcases List.mem_cons.mp hn with h | h
    · exact .inl h
    · exact .inr (List.mem_singleton.mp h)
  · exact .inl (List.mem_singleton.mp hn)
/-- skipping a pair that begins too late changes nothing -/
theorem acc_skip {t : List (Option Int)} {s : Sty} {w : Way} {e : Bool} {q : Int × Int} {p : Fl} (h : p.b < begW w (q.1 + q.2)) : accM (some p) (pairF t s w e q) = some p := by
  cases z : pairF t s w e q with
  | none => rfl
  | some x =>
    obtain ⟨_, h2, _, _⟩ := pairF_ok z
    show (if x.ltb p then some x else some p) = some p
    rw [fl_lt_beat (p := x) (q := p) (by omega)]
    rfl
theorem acc_inv {t : List (Option Int)} {s : Sty} {w : Way} {e : Bool} : ∀ (l : List (Int × Int)) (a : Option Fl), (∀ p, a = some p → p.ok ∧ 0 ≤ p.b) → (∀ q ∈ l, 0 ≤ begW w (q.1 + q.2)) → ∀ p, (l.map (pairF t s w e)).foldl accM a = some p → p.ok ∧ 0 ≤ p.b
  | [], a, h, _, p, e1 => h p e1
  | q :: l, a, h, hq, p, e1 => by
    refine acc_inv l (accM a (pairF t s w e q)) (fun x hx => ?_) (fun q' h' => hq q' (List.mem_cons_of_mem _ h')) p e1
    have hb := hq q List.mem_cons_self
    cases a with
    | none =>
      obtain ⟨h1, h2, _, _⟩ := pairF_ok (show pairF t s w e q = some x from hx)
      exact ⟨h1, by omega⟩
    | some y =>
      cases z : pairF t s w e q with
      | none => rw [z] at hx; exact h x hx
      | some y2 =>
        rw [z] at hx
        obtain ⟨h1, h2, _, _⟩ := pairF_ok z
        have hx : (if y2.ltb y then some y2 else some y) = some x := hx
        split at hx
        · cases hx; exact ⟨h1, by omega⟩
        · exact h x hx
theorem begW_nonneg {w : Way} (hw : OkW w) {v : Int} (hv : 0 ≤ v) : 0 ≤ begW w v := by
  cases w with
  | lag l s r b => exact Int.mul_nonneg hv hw.1.1
  | slow f s r => exact Int.le_refl 0
/-! ### what is beyond -/
theorem over_ge {n l : Int} (hl : 0 < l) : n ≤ overI n l * l := by
  unfold overI
  have h1 := Int.emod_lt_of_pos (n + l - 1) hl
  have h2 := Int.mul_ediv_add_emod (n + l - 1) l
  rw [Int.mul_comm] at h2
  omega
theorem lag_beyond {t : List (Option Int)} {s : Sty} {l sg r : Int} {b : Bool} {near a : Int} (hl : 0 < l) (ha : overI t.length l ≤ a) : lagF t s (.lag l sg r b) false near (near + a) = none := by
  have h1 := over_ge (n := (t.length : Int)) hl
  have h2 : overI t.length l * l ≤ a * l := Int.mul_le_mul_of_nonneg_right ha (by omega)
  unfold lagF
  have e0 : (endT t.length (.lag l sg r b) false near (near + a) - begW (.lag l sg r b) (near + a)).toNat = 0 := by
    show (near * l + (t.length : Int) - (near + a) * l).toNat = 0
    rw [Int.add_mul]
    omega
  rw [e0]
  rfl
theorem at0_ok {t : List (Option Int)} (ht : OkT t) {i : Int} {p : Int} (h : at0 t i = some p) : -60 ≤ p ∧ p ≤ 60 := by
  unfold at0 at h
  cases z : t[(i % (t.length : Int)).toNat]? with
  | none => rw [z] at h; cases h
  | some x =>
    rw [z] at h
    have h : x = some p := h
    subst h
    exact ht.ok _ (List.mem_of_getElem? z)
theorem sung_climb {t : List (Option Int)} (ht : OkT t) {l r : Int} {b e : Bool} {v c y : Int} (h : sungT t (.lag l 1 r b) v c e = some y) : ∃ p : Int, -60 ≤ p ∧ p ≤ 60 ∧ y = p + v * r := by
  unfold sungT at h
  split at h
  · cases h
  · cases z : at0 t (placeT t.length (.lag l 1 r b) v c e) with
    | none => rw [z] at h; cases h
    | some p =>
      rw [z] at h
      obtain ⟨h1, h2⟩ := at0_ok ht z
      have h : mapT (.lag l 1 r b) p v = y := Option.some.inj h
      exact ⟨p, h1, h2, h.symm.trans (if_pos rfl)⟩
theorem far_gap {s : Sty} (hs : OkS s) (h0 : s.sp = 0) {x y : Int} (h : 60 < x - y ∨ 60 < y - x) : s.B.contains (gap s x y) = false ∧ s.T.contains (gap s x y) = false := by
  have hg : 60 < gap s x y := by
    unfold gap rest
    rw [if_pos h0]
    split <;> omega
  have ht : s.top = 60 := if_pos h0
  refine ⟨?_, ?_⟩
  · rw [← Bool.not_eq_true, List.contains_iff_mem]
    intro z
    have := hs.b.hi _ z
    omega
  · rw [← Bool.not_eq_true, List.contains_iff_mem]
    intro z
    have := hs.t.hi _ z
    omega
theorem word_far {s : Sty} (hs : OkS s) (h0 : s.sp = 0) {a b : Option Int} {x y : Int} (h : 60 < x - y ∨ 60 < y - x) : word s a b (some x) (some y) = "" := by
  obtain ⟨h1, h2⟩ := far_gap hs h0 h
  rw [word_t (show barred s (some x) (some y) = false from h1)]
  cases a with
  | none => cases b <;> rfl
  | some a =>
    cases b with
    | none => rfl
    | some b =>
      rw [tied_eq, h2]; simp
theorem climb_beyond {t : List (Option Int)} {s : Sty} (ht : OkT t) (hs : OkS s) (h0 : s.sp = 0) {l r : Int} {b e : Bool} (hr : r ≠ 0) {near a : Int} (ha : 180 / absI r + 1 ≤ a) : lagF t s (.lag l 1 r b) e near (near + a) = none := by
  have hp := absI_pos hr
  have big : 180 < a * absI r := by
    have h1 := Int.emod_lt_of_pos 180 hp
    have h2 := Int.mul_ediv_add_emod 180 (absI r)
    have h3 : (180 / absI r + 1) * absI r ≤ a * absI r := Int.mul_le_mul_of_nonneg_right ha (by omega)
    rw [Int.add_mul, Int.one_mul, Int.mul_comm] at h3
    omega
  have no : ∀ c : Int, wdT t s (.lag l 1 r b) e near (near + a) c = "" := fun c => by
    unfold wdT
    cases hx : sungT t (.lag l 1 r b) near c e with
    | none => exact word_n1
    | some x =>
      cases hy : sungT t (.lag l 1 r b) (near + a) c e with
      | none => exact word_n2
      | some y =>
        obtain ⟨p, p1, p2, rfl⟩ := sung_climb ht hx
        obtain ⟨q, q1, q2, rfl⟩ := sung_climb ht hy
        refine word_far hs h0 ?_
        rw [Int.add_mul]
        unfold absI at big
        split at big
        · rw [Int.mul_neg] at big; omega
        · omega
  unfold lagF
  have : (List.range (endT t.length (.lag l 1 r b) e near (near + a) - begW (.lag l 1 r b) (near + a)).toNat).find? (fun (k : Nat) => wdT t s (.lag l 1 r b) e near (near + a) (begW (.lag l 1 r b) (near + a) + k) != "") = none := by
    rw [List.find?_eq_none]
    intro k _
    rw [no]
    decide
  rw [this]
  rfl
/-! ### the least voice that has a fault -/
def accV : Option Int → Option Fl → Option Int
  | a, none => a
  | none, some q => some q.f
  | some v, some q => some (if q.f < v then q.f else v)
def mostF (t : List (Option Int)) (s : Sty) (w : Way) (e : Bool) (l : List (Int × Int)) : Option Int := (l.map (pairF t s w e)).foldl accV none
theorem rowPairs_none {b : Bool} {a : Nat} : rowPairs none b a = (List.range (if b then 2 else 1)).map fun (i : Nat) => ((i : Int), (a : Int)) := by cases b <;> rfl
/-! ### one row more -/
theorem row_none {t : List (Option Int)} {s : Sty} {w : Way} {e : Bool} : ∀ (l : List (Int × Int)) {α : Type} (f : α → Option Fl → α) (a : α), (∀ a, f a none = a) → (∀ q ∈ l, pairF t s w e q = none) → (l.map (pairF t s w e)).foldl f a = a
  | [], _, f, a, _, _ => rfl
  | q :: l, _, f, a, h0, h => by
    rw [List.map_cons, List.foldl_cons, h q List.mem_cons_self, h0]
    exact row_none l f a h0 fun q' h' => h q' (List.mem_cons_of_mem _ h')
theorem look_succ {vo : Option Int} {b : Bool} {m : Nat} : lookPairs vo b (m + 1) = lookPairs vo b m ++ rowPairs vo b (m + 1) := range_flat _ _
theorem firstF_succ {t : List (Option Int)} {s : Sty} {w : Way} {e b : Bool} {m : Nat} (h : ∀ q ∈ rowPairs none b (m + 1), pairF t s w e q = none) : firstF t s w e (lookPairs none b (m + 1)) = firstF t s w e (lookPairs none b m) := by
  unfold firstF
  rw [look_succ, List.map_append, List.foldl_append]
  exact row_none _ _ _ (fun a => by cases a <;> rfl) h
theorem mostF_succ {t : List (Option Int)} {s : Sty} {w : Way} {e b : Bool} {m : Nat} (h : ∀ q ∈ rowPairs none b (m + 1), pairF t s w e q = none) : mostF t s w e (lookPairs none b (m + 1)) = mostF t s w e (lookPairs none b m) := by
  unfold mostF
  rw [look_succ, List.map_append, List.foldl_append]
  exact row_none _ _ _ (fun a => by cases a <;> rfl) h
theorem mem_row {vo : Option Int} {b : Bool} {a : Nat} {q : Int × Int} (h : q ∈ rowPairs vo b a) : q.2 = a := by
  unfold rowPairs at h
  obtain ⟨n, _, rfl⟩ := List.mem_map.mp h
  rfl
theorem extra_row {t : List (Option Int)} {s : Sty} {l sg r : Int} {b e : Bool} (ht : OkT t) (hs : OkS s) (hw : OkW (.lag l sg r b)) :
    reachL t.length s.sp l sg r b e = farL t.length s.sp l sg r b e ∨ ((reachL t.length s.sp l sg r b e).1 + (reachL t.length s.sp l sg r b e).2 = (farL t.length s.sp l sg r b e).1 + (farL t.length s.sp l sg r b e).2 + 1 ∧
      0 ≤ (farL t.length s.sp l sg r b e).1 + (farL t.length s.sp l sg r b e).2 ∧
      ∀ a : Nat, (a : Int) = (farL t.length s.sp l sg r b e).1 + (farL t.length s.sp l sg r b e).2 + 1 → ∀ q ∈ rowPairs none b a, pairF t s (.lag l sg r b) e q = none) := by
  have hw1 : 0 ≤ l ∧ l ≤ 48 := hw.1
  have h1 := ht.lo
  have h2 := ht.hi
  unfold reachL farL
  by_cases c1 : e = false ∧ 0 < l
  · rw [if_pos c1, if_pos c1]
    obtain ⟨rfl, hl⟩ := c1
    have hb := overI_b (n := (t.length : Int)) (l := l) (by omega) (by omega) hl hw1.2
    refine .inr ⟨by show overI t.length l + 1 = overI t.length l + 0 + 1; omega, by show 0 ≤ overI t.length l + 0; omega, fun a ha q hq => ?_⟩
    have ha : (a : Int) = overI t.length l + 0 + 1 := ha
    have hq2 := mem_row hq
    unfold pairF
    rw [lag_beyond (a := q.2) hl (by omega)]
    rfl
  · rw [if_neg c1, if_neg c1]
    by_cases c2 : climbL sg r = true ∧ s.sp = 0
    · rw [if_pos c2, if_pos c2]
      have c3 := c2.1
      unfold climbL at c3
      simp at c3
      obtain ⟨rfl, hr0⟩ := c3
      have hb := div180 (absI_pos hr0)
      refine .inr ⟨by show 180 / absI r + 1 + 1 = 180 / absI r + 1 + 0 + 1; omega, by show 0 ≤ 180 / absI r + 1 + 0; omega, fun a ha q hq => ?_⟩
      have ha : (a : Int) = 180 / absI r + 1 + 0 + 1 := ha
      have hq2 := mem_row hq
      unfold pairF
      rw [climb_beyond ht hs c2.2 hr0 (a := q.2) (by omega)]
      rfl
    · rw [if_neg c2, if_neg c2]
      exact .inl rfl
end Pv

end
section
set_option linter.all false
set_option maxRecDepth 100000
set_option maxHeartbeats 4000000
/-! Cm3a: of first faults, least voices -/
namespace Pv
open PySem PySem.Spec PyProof.Rows L2
theorem accM_none : ∀ (l : List (Option Fl)) (a : Option Fl), l.foldl accM a = none ↔ a = none ∧ ∀ o ∈ l, o = none
  | [], a => ⟨fun h => ⟨h, fun o ho => nomatch ho⟩, fun h => h.1⟩
  | o :: l, a => by
    rw [List.foldl_cons, accM_none l]
    have e : accM a o = none ↔ a = none ∧ o = none := by
      cases a with
      | none => exact ⟨fun h => ⟨rfl, h⟩, fun h => h.2⟩
      | some p =>
        refine ⟨fun h => ?_, fun h => by cases h.1⟩
        cases o with
        | none => cases h
        | some q =>
          have h : (if q.ltb p then some q else some p) = none := h
          split at h <;> cases h
    rw [e]
    exact ⟨fun ⟨⟨h1, h2⟩, h3⟩ => ⟨h1, fun x hx => by rcases List.mem_cons.mp hx with rfl | hx; exact h2; exact h3 x hx⟩, fun ⟨h1, h2⟩ => ⟨⟨h1, h2 o List.mem_cons_self⟩, fun x hx => h2 x (List.mem_cons_of_mem _ hx)⟩⟩
theorem accV_spec : ∀ (l : List (Option Fl)) (a : Option Int), (l.foldl accV a = none ↔ a = none ∧ ∀ o ∈ l, o = none) ∧
    (∀ m, l.foldl accV a = some m → (a = some m ∨ ∃ q, some q ∈ l ∧ q.f = m) ∧ (∀ v, a = some v → m ≤ v) ∧ ∀ q, some q ∈ l → m ≤ q.f)
  | [], a => ⟨⟨fun h => ⟨h, fun o ho => nomatch ho⟩, fun h => h.1⟩, fun m h => ⟨.inl h, fun v hv => by have : a = some m := h; rw [this] at hv; cases hv; exact Int.le_refl _, fun q hq => nomatch hq⟩⟩
  | o :: l, a => by
    rw [List.foldl_cons]
    obtain ⟨h1, h2⟩ := accV_spec l (accV a o)
    refine ⟨?_, fun m hm => ?_⟩
    · rw [h1]
      have e : accV a o = none ↔ a = none ∧ o = none := by
        cases o with
        | none => cases a <;> exact ⟨fun h => ⟨h, rfl⟩, fun h => h.1⟩
        | some q => cases a <;> exact ⟨fun h => (nomatch h), fun h => (nomatch h.2)⟩
      rw [e]
      exact ⟨fun ⟨⟨h1, h2⟩, h3⟩ => ⟨h1, fun x hx => by rcases List.mem_cons.mp hx with rfl | hx; exact h2; exact h3 x hx⟩, fun ⟨h1, h2⟩ => ⟨⟨h1, h2 o List.mem_cons_self⟩, fun x hx => h2 x (List.mem_cons_of_mem _ hx)⟩⟩
    · obtain ⟨g1, g2, g3⟩ := h2 m hm
      cases o with
      | none =>
        have e : accV a none = a := by cases a <;> rfl
        rw [e] at g1 g2
        refine ⟨?_, g2, fun q hq => ?_⟩
        · rcases g1 with g | ⟨q, hq, e⟩
          · exact .inl g
          · exact .inr ⟨q, List.mem_cons_of_mem _ hq, e⟩
        · rcases List.mem_cons.mp hq with h | h
          · cases h
          · exact g3 q h
      | some q =>
        cases a with
        | none =>
          refine ⟨?_, fun v hv => (nomatch hv), fun q' hq' => ?_⟩
          · rcases g1 with g | ⟨q', hq', e⟩
            · exact .inr ⟨q, List.mem_cons_self, Option.some.inj g⟩
            · exact .inr ⟨q', List.mem_cons_of_mem _ hq', e⟩
          · rcases List.mem_cons.mp hq' with h | h
            · cases h
              exact g2 _ rfl
            · exact g3 q' h
        | some v =>
          have e : accV (some v) (some q) = some (if q.f < v then q.f else v) := rfl
          have g := g2 _ e
          refine ⟨?_, fun u hu => ?_, fun q' hq' => ?_⟩
          · rcases g1 with g1 | ⟨q', hq', e'⟩
            · rw [e] at g1
              have g1 := Option.some.inj g1
              split at g1
              · exact .inr ⟨q, List.mem_cons_self, g1⟩
              · exact .inl (by rw [g1])
            · exact .inr ⟨q', List.mem_cons_of_mem _ hq', e'⟩
          · cases hu
            split at g <;> omega
          · rcases List.mem_cons.mp hq' with h | h
            · cases h
              split at g <;> omega
            · exact g3 q' h
theorem firstF_none {t : List (Option Int)} {s : Sty} {w : Way} {e : Bool} {L : List (Int × Int)} : firstF t s w e L = none ↔ ∀ q ∈ L, pairF t s w e q = none := by
  unfold firstF
  rw [accM_none]
  exact ⟨fun h q hq => h.2 _ (List.mem_map_of_mem hq), fun h => ⟨rfl, fun o ho => by obtain ⟨q, hq, rfl⟩ := List.mem_map.mp ho; exact h q hq⟩⟩
theorem mem_rowV {v : Int} {b : Bool} {a : Nat} {q : Int × Int} : q ∈ rowPairs (some v) b a ↔ q ∈ rowPairs none b a ∧ q.1 + q.2 < v := by
  unfold rowPairs
  constructor
  · intro h
    obtain ⟨n, hn, rfl⟩ := List.mem_map.mp h
    obtain ⟨h1, h2⟩ := List.mem_filter.mp hn
    exact ⟨List.mem_map.mpr ⟨n, List.mem_filter.mpr ⟨h1, rfl⟩, rfl⟩, of_decide_eq_true h2⟩
  · rintro ⟨h, hv⟩
    obtain ⟨n, hn, rfl⟩ := List.mem_map.mp h
    obtain ⟨h1, h2⟩ := List.mem_filter.mp hn
    exact List.mem_map.mpr ⟨n, List.mem_filter.mpr ⟨h1, decide_eq_true hv⟩, rfl⟩
theorem mem_lookV {v : Int} {b : Bool} {m : Nat} {q : Int × Int} : q ∈ lookPairs (some v) b m ↔ q ∈ lookPairs none b m ∧ q.1 + q.2 < v := by
  unfold lookPairs
  rw [List.mem_flatMap, List.mem_flatMap]
  constructor
  · rintro ⟨k, hk, h⟩
    obtain ⟨h1, h2⟩ := mem_rowV.mp h
    exact ⟨⟨k, hk, h1⟩, h2⟩
  · rintro ⟨⟨k, hk, h1⟩, h2⟩
    exact ⟨k, hk, mem_rowV.mpr ⟨h1, h2⟩⟩
/-- how the least voice tells who is clean -/
theorem most_clean {t : List (Option Int)} {s : Sty} {w : Way} {e b : Bool} {N : Nat} {m : Int} (h : mostF t s w e (lookPairs none b N) = some m) :
    1 ≤ m ∧ firstF t s w e (lookPairs (some m) b N) = none ∧ firstF t s w e (lookPairs (some (m + 1)) b N) ≠ none := by
  unfold mostF at h
  obtain ⟨_, h2⟩ := accV_spec ((lookPairs none b N).map (pairF t s w e)) none
  obtain ⟨g1, _, g3⟩ := h2 m h
  rcases g1 with g | ⟨q, hq, hf⟩
  · cases g
  · obtain ⟨x, hx, ex⟩ := List.mem_map.mp hq
    obtain ⟨_, _, _, e4⟩ := pairF_ok ex
    obtain ⟨k1, k2, k3⟩ := mem_look hx
    refine ⟨by omega, firstF_none.mpr fun y hy => ?_, fun z => ?_⟩
    · obtain ⟨y1, y2⟩ := mem_lookV.mp hy
      cases zz : pairF t s w e y with
      | none => rfl
      | some f =>
        obtain ⟨_, _, _, e5⟩ := pairF_ok zz
        have := g3 f (List.mem_map.mpr ⟨y, y1, zz⟩)
        omega
    · have := firstF_none.mp z x (mem_lookV.mpr ⟨hx, by omega⟩)
      rw [ex] at this
      cases this
/-! ### the law's list -/
def fdL (t : List (Option Int)) (s : Sty) (w : Way) (e : Bool) (L : List (Int × Int)) : List Fl := L.filterMap (pairF t s w e)
theorem fdL_ok {t : List (Option Int)} {s : Sty} {w : Way} {e : Bool} {L : List (Int × Int)} {q : Fl} (h : q ∈ fdL t s w e L) : q.ok := by
  obtain ⟨x, _, hx⟩ := List.mem_filterMap.mp h
  exact (pairF_ok hx).1
theorem fdL_fold {t : List (Option Int)} {s : Sty} {w : Way} {e : Bool} {L : List (Int × Int)} : firstF t s w e L = (fdL t s w e L).foldl (fun a q => accM a (some q)) none := by
  unfold firstF fdL
  rw [acc_filter, List.filterMap_map]
  rfl
theorem fls_eqOk : ∀ l : List Fl, (∀ q ∈ l, q.ok) → eqOkL 59 (l.map fun q => eF (some q)) = true
  | [], _ => rfl
  | q :: l, h => by
    show (D.eqOk 59 (eF (some q)) && eqOkL 59 (l.map fun q => eF (some q))) = true
    rw [fls_eqOk l fun x hx => h x (List.mem_cons_of_mem _ hx)]
    have := str_row (h q List.mem_cons_self)
    show (eqOkL 58 [.int q.b, .int q.n, .int q.f, .str q.x] && true) = true
    simp [eqOkL, D.eqOk, this]
theorem fls_eqv : ∀ l : List Fl, (D.lst (l.map fun q => eF (some q))).eqv (.lst []) = decide (l = [])
  | [] => rfl
  | q :: l => by rw [decide_eq_false (by simp)]; rfl
theorem fls_min {q : Fl} {l : List Fl} (h : ∀ x ∈ q :: l, x.ok) : Op.minL.sem [.lst ((q :: l).map fun q => eF (some q))] (eF ((q :: l).foldl (fun a q => accM a (some q)) none)) := by
  refine .inr ⟨eF (some q), l.map fun q => eF (some q), rfl, fun y hy z hz => ?_, ?_⟩
  · obtain ⟨a, ha, rfl⟩ := List.mem_map.mp hy
    obtain ⟨b, hb, rfl⟩ := List.mem_map.mp hz
    exact fl_tups (h a ha) (h b hb)
  · rw [minT_acc]; rfl
theorem rp_fl {o : Option Fl} (h : ∀ q, o = some q → q.ok ∧ -999999999999 ≤ q.b ∧ q.b ≤ 999999999999 ∧ -999999999999 ≤ q.n ∧ q.n ≤ 999999999999 ∧ -999999999999 ≤ q.f ∧ q.f ≤ 999999999999) : Rp (eF o) 1 (4 * 61) := by
  cases o with
  | none => exact Rp.non
  | some q =>
    obtain ⟨h0, h1, h2, h3, h4, h5, h6⟩ := h q rfl
    refine Rp.tup (n := 0) (w := 60) (m := 4) (fun d hd => ?_) (Nat.le_refl 4)
    simp only [List.mem_cons, List.not_mem_nil, or_false] at hd
    rcases hd with rfl | rfl | rfl | rfl
    · exact Rp.int h1 h2
    · exact Rp.int h3 h4
    · exact Rp.int h5 h6
    · rcases h0 with e | e
      · rw [e]; exact (Rp.str (n := 0) (x := "barred") (by decide +kernel)).up (Nat.le_refl _) (by decide +kernel)
      · rw [e]; exact (Rp.str (n := 0) (x := "tied") (by decide +kernel)).up (Nat.le_refl _) (by decide +kernel)
theorem lagF_hi {t : List (Option Int)} {s : Sty} {w : Way} {e : Bool} {near far b : Int} {x : Str} (h : lagF t s w e near far = some (b, x)) : b < endT t.length w e near far ∨ b < begW w far + 0 + 1 := by
  unfold lagF at h
  cases z : (List.range (endT t.length w e near far - begW w far).toNat).find? fun (k : Nat) => wdT t s w e near far (begW w far + k) != "" with
  | none => rw [z] at h; cases h
  | some k =>
    rw [z] at h
    cases h
    have := List.mem_range.mp (List.mem_of_find?_eq_some z)
    omega
theorem acc_pick : ∀ (l : List (Option Fl)) (a : Option Fl) (q : Fl), l.foldl accM a = some q → a = some q ∨ some q ∈ l
  | [], a, q, h => .inl h
  | o :: l, a, q, h => by
    rcases acc_pick l (accM a o) q h with e | e
    · cases a with
      | none => exact .inr (by rw [show accM none o = o from rfl] at e; rw [e]; exact List.mem_cons_self)
      | some p =>
        cases o with
        | none => exact .inl e
        | some x =>
          have e : (if x.ltb p then some x else some p) = some q := e
          split at e
          · exact .inr (by rw [e]; exact List.mem_cons_self)
          · exact .inl e
    · exact .inr (List.mem_cons_of_mem _ e)
theorem first_rp {t : List (Option Int)} {s : Sty} {l sg r : Int} {b e : Bool} {vo : Option Int} {N : Nat} (ht : OkT t) (hw : OkW (.lag l sg r b)) (hN : N ≤ 5200) : Rp (eF (firstF t s (.lag l sg r b) e (lookPairs vo b N))) 1 (4 * 61) := by
  refine rp_fl fun q hq => ?_
  rcases acc_pick _ _ _ hq with z | z
  · cases z
  · obtain ⟨x, hx, ex⟩ := List.mem_map.mp z
    obtain ⟨h1, h2, h3, h4⟩ := pairF_ok ex
    obtain ⟨k1, k2, k3⟩ := mem_look hx
    have hl : 0 ≤ l ∧ l ≤ 48 := hw.1
    have t2 := ht.hi
    have c1 : 0 ≤ (x.1 + x.2) * l ∧ (x.1 + x.2) * l ≤ 6000 * 48 := ⟨Int.mul_nonneg (by omega) hl.1, Int.mul_le_mul (by omega) hl.2 hl.1 (by decide)⟩
    have c2 : 0 ≤ x.1 * l ∧ x.1 * l ≤ 6000 * 48 := ⟨Int.mul_nonneg (by omega) hl.1, Int.mul_le_mul (by omega) hl.2 hl.1 (by decide)⟩
    have h2 : (x.1 + x.2) * l ≤ q.b := h2
    have hb : q.b ≤ 1000000 := by
      unfold pairF at ex
      cases zz : lagF t s (.lag l sg r b) e x.1 (x.1 + x.2) with
      | none => rw [zz] at ex; cases ex
      | some y =>
        rw [zz] at ex
        cases ex
        have := lagF_hi (b := y.1) (x := y.2) zz
        have e1 : begW (.lag l sg r b) (x.1 + x.2) = (x.1 + x.2) * l := rfl
        have e2 : endT t.length (.lag l sg r b) e x.1 (x.1 + x.2) = if e then (x.1 + x.2) * l + t.length + 1 else x.1 * l + t.length := rfl
        rw [e1, e2] at this
        show y.1 ≤ 1000000
        split at this <;> omega
    exact ⟨h1, by omega, by omega, by omega, by omega, by omega, by omega⟩
end Pv

end
section
set_option linter.all false
set_option maxRecDepth 100000
set_option maxHeartbeats 1000000
/-! Cm4: slow voices, and the contracts of pairs of both kinds. -/
namespace Pv
open PySem PySem.Spec PyProof.Rows L2
def bkW : Way → Bool
  | .lag _ _ _ b => b
  | .slow _ _ _ => false
/-! ### slow voices -/
def hiS (t : List (Option Int)) (w : Way) (a i : Int) : Option Int := (at0 t i).map fun p => mapT w p a
theorem at0_lo {t : List (Option Int)} {i : Int} : at0 t (i % (t.length : Int)) = at0 t i := at0_mod _ _ (Int.emod_emod_of_dvd _ (Int.dvd_refl _))
theorem sung_lo {t : List (Option Int)} {f sg r : Int} (ht : 1 ≤ t.length) {c : Int} {e : Bool} (h0 : 0 ≤ c) (h : e = true ∨ c < t.length) : sungT t (.slow f sg r) 0 c e = at0 t c := by
  have e1 : goneW (.slow f sg r) 0 (c - begW (.slow f sg r) 0) = c := by
    show (c - 0) / f ^ (0 : Int).toNat = c
    rw [show (0 : Int).toNat = 0 from rfl, Int.pow_zero, Int.ediv_one]
    omega
  have ep : placeT t.length (.slow f sg r) 0 c e = c % t.length := by
    unfold placeT
    rw [e1, if_neg (show ¬ c - begW (.slow f sg r) 0 < 0 by show ¬ c - 0 < 0; omega), if_neg (by rintro ⟨x, y⟩; rcases h with z | z; rw [z] at y; cases y; omega)]
    rfl
  unfold sungT
  have := Int.emod_nonneg c (show (t.length : Int) ≠ 0 by omega)
  rw [ep, if_neg (by omega), at0_lo]
  cases at0 t c with
  | none => rfl
  | some p => exact congrArg some mapT_zero
theorem sung_hi {t : List (Option Int)} {f sg r : Int} (ht : 1 ≤ t.length) (hf : 2 ≤ f) {a c : Int} {e : Bool} (h0 : 0 ≤ c) (h : e = true ∨ c < t.length) : sungT t (.slow f sg r) a c e = hiS t (.slow f sg r) a (c / f ^ a.toNat) := by
  have hF : 0 < f ^ a.toNat := Int.pow_pos (by omega)
  have e1 : goneW (.slow f sg r) a (c - begW (.slow f sg r) a) = c / f ^ a.toNat := by
    show (c - 0) / f ^ a.toNat = _
    rw [Int.sub_zero]
  have hl : c / f ^ a.toNat ≤ c := Int.ediv_le_self _ h0
  have ep : placeT t.length (.slow f sg r) a c e = c / f ^ a.toNat % t.length := by
    unfold placeT
    rw [e1, if_neg (show ¬ c - begW (.slow f sg r) a < 0 by show ¬ c - 0 < 0; omega), if_neg (by rintro ⟨x, y⟩; rcases h with z | z; rw [z] at y; cases y; omega)]
    rfl
  unfold sungT hiS
  have := Int.emod_nonneg (c / f ^ a.toNat) (show (t.length : Int) ≠ 0 by omega)
  rw [ep, if_neg (by omega), at0_lo]
/-- barred at a beat; tied at a beat -/
def bdS (t : List (Option Int)) (s : Sty) (w : Way) (F a c : Int) : Bool := barred s (at0 t c) (hiS t w a (c / F))
def tdS (t : List (Option Int)) (s : Sty) (w : Way) (F a c : Int) : Bool := decide (0 < c) && tied s (at0 t (c - 1)) (hiS t w a ((c - 1) / F)) (at0 t c) (hiS t w a (c / F))
def wdS (t : List (Option Int)) (s : Sty) (w : Way) (F a c : Int) : Str := if bdS t s w F a c then "barred" else if tdS t s w F a c then "tied" else ""
theorem wdT_slow {t : List (Option Int)} {s : Sty} {f sg r : Int} (ht : 1 ≤ t.length) (hf : 2 ≤ f) {a c : Int} {e : Bool} (h0 : 0 ≤ c) (h : e = true ∨ c < t.length) :
    wdT t s (.slow f sg r) e 0 a c = wdS t s (.slow f sg r) (f ^ a.toNat) a c := by
  unfold wdT wdS
  rw [sung_lo ht h0 h, sung_hi ht hf h0 h]
  by_cases hc : 0 < c
  · have h' : e = true ∨ c - 1 < (t.length : Int) := h.imp id (by omega)
    rw [sung_lo ht (by omega) h', sung_hi ht hf (by omega) h']
    unfold word bdS tdS
    rw [decide_eq_true hc, Bool.true_and]
  · have e1 : sungT t (.slow f sg r) 0 (c - 1) e = none := sungT_early (by show c - 1 < 0; omega)
    have e2 : sungT t (.slow f sg r) a (c - 1) e = none := sungT_early (by show c - 1 < 0; omega)
    rw [e1, e2]
    unfold word bdS tdS
    rw [decide_eq_false hc, Bool.false_and, tied_n3]
def endS (n : Nat) (F : Int) (e : Bool) : Nat := if e then n * F.toNat + 1 else n
def faS (t : List (Option Int)) (s : Sty) (w : Way) (F a : Int) (e : Bool) : Option (Int × Str) :=
  ((List.range (endS t.length F e)).find? fun (k : Nat) => wdS t s w F a k != "").map fun (k : Nat) => ((k : Int), wdS t s w F a (k : Int))
theorem find_congr {p q : Nat → Bool} : ∀ {l : List Nat}, (∀ k ∈ l, p k = q k) → l.find? p = l.find? q
  | [], _ => rfl
  | x :: l, h => by
    rw [List.find?_cons, List.find?_cons, h x List.mem_cons_self, find_congr fun k hk => h k (List.mem_cons_of_mem _ hk)]
theorem lagF_slow {t : List (Option Int)} {s : Sty} {f sg r : Int} (ht : 1 ≤ t.length) (hf : 2 ≤ f) {a : Int} {e : Bool} :
    lagF t s (.slow f sg r) e 0 a = faS t s (.slow f sg r) (f ^ a.toNat) a e := by
  have hF : 0 < f ^ a.toNat := Int.pow_pos (by omega)
  have eN : (endT t.length (.slow f sg r) e 0 a - begW (.slow f sg r) a).toNat = endS t.length (f ^ a.toNat) e := by
    show ((if e then (t.length : Int) * f ^ a.toNat + 1 else t.length) - 0).toNat = _
    unfold endS
    cases e with
    | true =>
      rw [if_pos rfl, if_pos rfl]
      obtain ⟨F, hF2⟩ : ∃ F : Nat, f ^ a.toNat = (F : Int) := ⟨(f ^ a.toNat).toNat, by omega⟩
      rw [hF2, Int.toNat_natCast]
      have : (t.length : Int) * (F : Int) = ((t.length * F : Nat) : Int) := (Int.natCast_mul ..).symm
      rw [this]
      omega
    | false => rw [if_neg Bool.false_ne_true, if_neg Bool.false_ne_true]; omega
  unfold lagF faS
  rw [eN]
  have e0 : ∀ k : Nat, begW (.slow f sg r) a + (k : Int) = k := fun k => Int.zero_add _
  have hw : ∀ k ∈ List.range (endS t.length (f ^ a.toNat) e), wdT t s (.slow f sg r) e 0 a (begW (.slow f sg r) a + (k : Int)) = wdS t s (.slow f sg r) (f ^ a.toNat) a k := fun k hk => by
    rw [e0]
    refine wdT_slow ht hf (by omega) ?_
    cases e with
    | true => exact .inl rfl
    | false =>
      have := List.mem_range.mp hk
      unfold endS at this
      rw [if_neg Bool.false_ne_true] at this
      exact .inr (by omega)
  rw [find_congr (q := fun (k : Nat) => wdS t s (.slow f sg r) (f ^ a.toNat) a k != "") fun k hk => by rw [hw k hk]]
  cases z : (List.range (endS t.length (f ^ a.toNat) e)).find? fun (k : Nat) => wdS t s (.slow f sg r) (f ^ a.toNat) a k != "" with
  | none => rfl
  | some k =>
    have := hw k (List.mem_of_find?_eq_some z)
    show some (begW (.slow f sg r) a + (k : Int), wdT t s (.slow f sg r) e 0 a (begW (.slow f sg r) a + (k : Int))) = some ((k : Int), wdS t s (.slow f sg r) (f ^ a.toNat) a (k : Int))
    rw [this, e0]
/-! the first of a range -/
theorem find_at {p : Nat → Bool} {n k : Nat} (hk : k < n) (hp : ∀ j, j < k → p j = false) (h : p k = true) : (List.range n).find? p = some k := by
  rw [List.find?_range_eq_some]
  refine ⟨h, List.mem_range.mpr hk, fun j hj => ?_⟩
  rw [hp j hj]; rfl
theorem find_no {p : Nat → Bool} {n : Nat} (hp : ∀ j, j < n → p j = false) : (List.range n).find? p = none := by
  rw [List.find?_eq_none]
  intro k hk
  rw [hp k (List.mem_range.mp hk)]
  exact Bool.false_ne_true
theorem find_some {p : Nat → Bool} {n k : Nat} (h : (List.range n).find? p = some k) : k < n ∧ p k = true ∧ ∀ j, j < k → p j = false := by
  rw [List.find?_range_eq_some] at h
  obtain ⟨h1, h2, h3⟩ := h
  refine ⟨List.mem_range.mp h2, h1, fun j hj => ?_⟩
  have := h3 j hj
  simpa using this
theorem find_none {p : Nat → Bool} {n : Nat} (h : (List.range n).find? p = none) : ∀ j, j < n → p j = false := fun j hj => by
  rw [List.find?_eq_none] at h
  simpa using h j (List.mem_range.mpr hj)
def brS (t : List (Option Int)) (s : Sty) (w : Way) (F a : Int) (e : Bool) : Option Int := ((List.range (endS t.length F e)).find? fun (k : Nat) => bdS t s w F a k).map fun (k : Nat) => (k : Int)
def tiS (t : List (Option Int)) (s : Sty) (w : Way) (F a : Int) (e : Bool) : Option Int := ((List.range (endS t.length F e)).find? fun (k : Nat) => tdS t s w F a k).map fun (k : Nat) => (k : Int)
theorem wdS_ne {t : List (Option Int)} {s : Sty} {w : Way} {F a c : Int} : (wdS t s w F a c != "") = (bdS t s w F a c || tdS t s w F a c) := by
  unfold wdS
  cases bdS t s w F a c <;> cases tdS t s w F a c <;> decide
theorem fa_join {t : List (Option Int)} {s : Sty} {w : Way} {F a : Int} {e : Bool} : faS t s w F a e = match brS t s w F a e, tiS t s w F a e with
    | none, none => none
    | some b, none => some (b, "barred")
    | none, some c => some (c, "tied")
    | some b, some c => if b ≤ c then some (b, "barred") else some (c, "tied") := by
  unfold faS brS tiS
  simp only [wdS_ne]
  cases hb : (List.range (endS t.length F e)).find? fun (k : Nat) => bdS t s w F a k with
  | none =>
    have nb := find_none hb
    cases hc : (List.range (endS t.length F e)).find? fun (k : Nat) => tdS t s w F a k with
    | none =>
      have nc := find_none hc
      rw [find_no fun j hj => by rw [nb j hj, nc j hj]; rfl]
      rfl
    | some c =>
      obtain ⟨c1, c2, c3⟩ := find_some hc
      rw [find_at (p := fun (k : Nat) => bdS t s w F a k || tdS t s w F a k) c1 (fun j hj => by rw [nb j (by omega), c3 j hj]; rfl) (by rw [c2, Bool.or_true])]
      show some ((c : Int), wdS t s w F a (c : Int)) = some ((c : Int), ("tied" : Str))
      unfold wdS
      rw [nb c c1, c2]; rfl
  | some b =>
    obtain ⟨b1, b2, b3⟩ := find_some hb
    have eb : wdS t s w F a b = "barred" := by unfold wdS; rw [b2]; rfl
    cases hc : (List.range (endS t.length F e)).find? fun (k : Nat) => tdS t s w F a k with
    | none =>
      have nc := find_none hc
      rw [find_at (p := fun (k : Nat) => bdS t s w F a k || tdS t s w F a k) b1 (fun j hj => by rw [b3 j hj, nc j (by omega)]; rfl) (by rw [b2, Bool.true_or])]
      show some ((b : Int), wdS t s w F a (b : Int)) = some ((b : Int), ("barred" : Str))
      rw [eb]
    | some c =>
      obtain ⟨c1, c2, c3⟩ := find_some hc
      by_cases h : b ≤ c
      · rw [find_at (p := fun (k : Nat) => bdS t s w F a k || tdS t s w F a k) b1 (fun j hj => by rw [b3 j hj, c3 j (by omega)]; rfl) (by rw [b2, Bool.true_or])]
        show some ((b : Int), wdS t s w F a (b : Int)) = if (b : Int) ≤ c then some ((b : Int), ("barred" : Str)) else some ((c : Int), ("tied" : Str))
        rw [if_pos (by omega), eb]
      · rw [find_at (p := fun (k : Nat) => bdS t s w F a k || tdS t s w F a k) c1 (fun j hj => by rw [c3 j hj, b3 j (by omega)]; rfl) (by rw [c2, Bool.or_true])]
        show some ((c : Int), wdS t s w F a (c : Int)) = if (b : Int) ≤ c then some ((b : Int), ("barred" : Str)) else some ((c : Int), ("tied" : Str))
        rw [if_neg (by omega)]
        unfold wdS
        rw [b3 c (by omega), c2]; rfl
/-! what comes again -/
theorem at0_add {t : List (Option Int)} {i : Int} : at0 t (i + t.length) = at0 t i := at0_mod _ _ (by rw [Int.add_emod_right])
theorem hiS_add {t : List (Option Int)} {w : Way} {a i : Int} : hiS t w a (i + t.length) = hiS t w a i := by unfold hiS; rw [at0_add]
theorem blk {F i m : Int} (hF : 0 < F) (h0 : 0 ≤ m) (h1 : m < F) : (i * F + m) / F = i := by
  rw [Int.add_comm, Int.add_mul_ediv_right _ _ (by omega), Int.ediv_eq_zero_of_lt h0 h1, Int.zero_add]
theorem bdS_blk {t : List (Option Int)} {s : Sty} {w : Way} {F a i m : Int} (hF : 0 < F) (h0 : 0 ≤ m) (h1 : m < F) : bdS t s w F a (i * F + m) = barred s (at0 t (i * F + m)) (hiS t w a i) := by
  unfold bdS
  rw [blk hF h0 h1]
/-- barred at a place n beats back in the same block -/
theorem bdS_back {t : List (Option Int)} {s : Sty} {w : Way} {F a i m : Int} (hF : 0 < F) (h0 : (t.length : Int) ≤ m) (h1 : m < F) : bdS t s w F a (i * F + m) = bdS t s w F a (i * F + (m - t.length)) := by
  rw [bdS_blk hF (by omega) h1, bdS_blk hF (by omega) (by omega)]
  rw [show i * F + m = i * F + (m - t.length) + t.length by omega, at0_add]
/-- tied only where the slow one goes on -/
theorem tdS_off {t : List (Option Int)} {s : Sty} {w : Way} {F a i m : Int} (hF : 0 < F) (h0 : 0 < m) (h1 : m < F) : tdS t s w F a (i * F + m) = false := by
  unfold tdS
  rw [show i * F + m - 1 = i * F + (m - 1) by omega, blk hF (by omega) h1, blk hF (by omega) (by omega)]
  have : tied s (at0 t (i * F + (m - 1))) (hiS t w a i) (at0 t (i * F + m)) (hiS t w a i) = false := by
    cases at0 t (i * F + (m - 1)) with
    | none => cases hiS t w a i <;> cases at0 t (i * F + m) <;> rfl
    | some x =>
      cases hiS t w a i with
      | none => exact tied_n3
      | some y =>
        cases at0 t (i * F + m) with
        | none => rfl
        | some z => rw [tied_eq]; simp
  rw [this, Bool.and_false]
/-- the end of the beats -/
def endI (n : Nat) (F : Int) (e : Bool) : Int := if e then (n : Int) * F + 1 else n
theorem endS_eq {n : Nat} {F : Int} {e : Bool} (hF : 0 < F) : ((endS n F e : Nat) : Int) = endI n F e := by
  unfold endS endI
  cases e with
  | true =>
    rw [if_pos rfl, if_pos rfl]
    obtain ⟨G, hG⟩ : ∃ G : Nat, F = (G : Int) := ⟨F.toNat, by omega⟩
    subst hG
    rw [Int.toNat_natCast]
    omega
  | false => rfl
theorem brS_at {t : List (Option Int)} {s : Sty} {w : Way} {F a : Int} {e : Bool} (hF : 0 < F) {c : Int} (h0 : 0 ≤ c) (hN : c < endI t.length F e) (hp : ∀ j : Int, 0 ≤ j → j < c → bdS t s w F a j = false) (h : bdS t s w F a c = true) : brS t s w F a e = some c := by
  have he := endS_eq (n := t.length) (e := e) hF
  obtain ⟨k, rfl⟩ : ∃ k : Nat, c = (k : Int) := ⟨c.toNat, by omega⟩
  unfold brS
  rw [find_at (p := fun (k : Nat) => bdS t s w F a k) (k := k) (by omega) (fun j hj => hp j (by omega) (by omega)) h]
  rfl
theorem brS_no {t : List (Option Int)} {s : Sty} {w : Way} {F a : Int} {e : Bool} (hF : 0 < F) (hp : ∀ j : Int, 0 ≤ j → j < endI t.length F e → bdS t s w F a j = false) : brS t s w F a e = none := by
  have he := endS_eq (n := t.length) (e := e) hF
  unfold brS
  rw [find_no fun j hj => hp j (by omega) (by omega)]
  rfl
theorem tiS_at {t : List (Option Int)} {s : Sty} {w : Way} {F a : Int} {e : Bool} (hF : 0 < F) {c : Int} (h0 : 0 ≤ c) (hN : c < endI t.length F e) (hp : ∀ j : Int, 0 ≤ j → j < c → tdS t s w F a j = false) (h : tdS t s w F a c = true) : tiS t s w F a e = some c := by
  have he := endS_eq (n := t.length) (e := e) hF
  obtain ⟨k, rfl⟩ : ∃ k : Nat, c = (k : Int) := ⟨c.toNat, by omega⟩
  unfold tiS
  rw [find_at (p := fun (k : Nat) => tdS t s w F a k) (k := k) (by omega) (fun j hj => hp j (by omega) (by omega)) h]
  rfl
theorem tiS_no {t : List (Option Int)} {s : Sty} {w : Way} {F a : Int} {e : Bool} (hF : 0 < F) (hp : ∀ j : Int, 0 ≤ j → j < endI t.length F e → tdS t s w F a j = false) : tiS t s w F a e = none := by
  have he := endS_eq (n := t.length) (e := e) hF
  unfold tiS
  rw [find_no fun j hj => hp j (by omega) (by omega)]
  rfl
/-- a block whose first beats are not barred is not barred -/
theorem blk_all {t : List (Option Int)} {s : Sty} {w : Way} {F a i : Int} (hF : 0 < F) (h1 : 1 ≤ t.length) (h : ∀ m : Int, 0 ≤ m → m < F → m < t.length → bdS t s w F a (i * F + m) = false) : ∀ (k : Nat) (m : Int), m.toNat < k → 0 ≤ m → m < F → bdS t s w F a (i * F + m) = false
  | 0, m, hk, _, _ => absurd hk (Nat.not_lt_zero _)
  | k + 1, m, hk, m0, m1 => by
    by_cases hm : m < t.length
    · exact h m m0 m1 hm
    · rw [bdS_back hF (by omega) m1]
      exact blk_all hF h1 h k (m - t.length) (by omega) (by omega) (by omega)
/-- the block of a beat -/
theorem blk_of {F c : Int} (hF : 0 < F) (h0 : 0 ≤ c) : ∃ i m : Int, 0 ≤ i ∧ 0 ≤ m ∧ m < F ∧ c = i * F + m ∧ i = c / F :=
  ⟨c / F, c % F, Int.ediv_nonneg h0 (by omega), Int.emod_nonneg _ (by omega), Int.emod_lt_of_pos _ hF, by rw [Int.mul_comm]; exact (Int.mul_ediv_add_emod c F).symm, rfl⟩
theorem bdS_end {t : List (Option Int)} {s : Sty} {w : Way} {F a : Int} (hF : 0 < F) : bdS t s w F a (t.length * F) = bdS t s w F a 0 := by
  have h1 := bdS_blk (t := t) (s := s) (w := w) (F := F) (a := a) (i := t.length) (m := 0) hF (Int.le_refl _) hF
  have h2 := bdS_blk (t := t) (s := s) (w := w) (F := F) (a := a) (i := 0) (m := 0) hF (Int.le_refl _) hF
  rw [Int.add_zero] at h1
  rw [Int.zero_mul, Int.add_zero] at h2
  rw [h1, h2]
  have e1 : at0 t (t.length * F) = at0 t 0 := at0_mod _ _ (by rw [Int.mul_emod_right, Int.zero_emod])
  have e2 : hiS t w a t.length = hiS t w a 0 := by
    have := hiS_add (t := t) (w := w) (a := a) (i := 0)
    rw [Int.zero_add] at this
    exact this
  rw [e1, e2]
/-! ### the law's list of the faults of slow voices -/
theorem fl_lt_of {c c' n a : Int} {x y : Str} (h : c < c') : Fl.ltb ⟨c, n, a, x⟩ ⟨c', n, a, y⟩ = true := by
  have e : (D.int c).same (.int c') = false := by
    show (c == c') = false
    simp; omega
  show (if (D.int c).same (.int c') = true then ltL [.int n, .int a, .str x] [.int n, .int a, .str y] else (D.int c).ltA (.int c')) = true
  rw [e, if_neg Bool.false_ne_true]
  show decide (c < c') = true
  simpa using h
theorem fl_same {c n a : Int} {x y : Str} : Fl.ltb ⟨c, n, a, x⟩ ⟨c, n, a, y⟩ = ltL [.str x] [.str y] := by
  have s : ∀ i : Int, (D.int i).same (.int i) = true := fun i => by show (i == i) = true; simp
  show (if (D.int c).same (.int c) = true then (if (D.int n).same (.int n) = true then (if (D.int a).same (.int a) = true then ltL [.str x] [.str y] else (D.int a).ltA (.int a)) else (D.int n).ltA (.int n)) else (D.int c).ltA (.int c)) = _
  rw [s, s, s, if_pos rfl, if_pos rfl, if_pos rfl]
theorem acc_least {m : Fl} : ∀ (r : List Fl) (p : Fl), (p = m ∨ m ∈ r) → (∀ q, q = p ∨ q ∈ r → q = m ∨ (m.ltb q = true ∧ q.ltb m = false)) → r.foldl (fun a q => accM a (some q)) (some p) = some m
  | [], p, h, _ => by rcases h with h | h; rw [h]; rfl; cases h
  | q :: r, p, h, hl => by
    rw [List.foldl_cons]
    have e : accM (some p) (some q) = some (if q.ltb p then q else p) := by
      show (if q.ltb p then some q else some p) = _
      split <;> rfl
    rw [e]
    refine acc_least r _ ?_ fun z hz => ?_
    · by_cases hp : p = m
      · left
        subst hp
        rcases hl q (.inr List.mem_cons_self) with z | z
        · rw [z]; split <;> rfl
        · rw [z.2]; rfl
      · rcases h with h | h
        · exact absurd h hp
        · rcases List.mem_cons.mp h with h | h
          · left
            subst h
            rcases hl p (.inl rfl) with z | z
            · exact absurd z hp
            · rw [z.1]; rfl
          · exact .inr h
    · rcases hz with hz | hz
      · split at hz
        · exact hl z (.inr (by rw [hz]; exact List.mem_cons_self))
        · exact hl z (.inl hz)
      · exact hl z (.inr (List.mem_cons_of_mem _ hz))
section
variable (t : List (Option Int)) (s : Sty) (w : Way) (F a : Int)
def plF (i p : Nat) : List Fl := if barred s (at0 t p) (hiS t w a i) then [⟨i * F + ((p : Int) - i * F) % t.length, 0, a, "barred"⟩] else []
def tiF (i : Nat) : List Fl := if tdS t s w F a (i * F) then [⟨i * F, 0, a, "tied"⟩] else []
def rowB (i m : Nat) : List Fl := (List.range m).flatMap fun p => plF t s w F a i p
def rowF (i : Nat) : List Fl := rowB t s w F a i t.length ++ tiF t s w F a i
def allF (m : Nat) : List Fl := (List.range m).flatMap fun i => rowF t s w F a i
end
section
variable {t : List (Option Int)} {s : Sty} {w : Way} {F a : Int}
theorem rowB_len {i m : Nat} : (rowB t s w F a i m).length ≤ m * 1 := flat_len _ fun k _ => by unfold plF; split <;> simp
theorem rowF_len {i : Nat} : (rowF t s w F a i).length ≤ t.length + 1 := by
  have h := rowB_len (t := t) (s := s) (w := w) (F := F) (a := a) (i := i) (m := t.length)
  have h2 : (tiF t s w F a i).length ≤ 1 := by unfold tiF; split <;> simp
  unfold rowF
  rw [List.length_append]
  omega
theorem allF_len {m : Nat} : (allF t s w F a m).length ≤ m * (t.length + 1) := flat_len _ fun k _ => rowF_len
/-- what stands in the list -/
theorem mem_allF (h1 : 1 ≤ t.length) (hF : (t.length : Int) ≤ F) {m : Nat} {q : Fl} (h : q ∈ allF t s w F a m) :
    ∃ i : Nat, i < m ∧ ((∃ o : Int, 0 ≤ o ∧ o < t.length ∧ bdS t s w F a (i * F + o) = true ∧ q = ⟨i * F + o, 0, a, "barred"⟩) ∨ (tdS t s w F a (i * F) = true ∧ q = ⟨i * F, 0, a, "tied"⟩)) := by
  unfold allF at h
  obtain ⟨i, hi, h⟩ := List.mem_flatMap.mp h
  refine ⟨i, List.mem_range.mp hi, ?_⟩
  unfold rowF at h
  rcases List.mem_append.mp h with h | h
  · left
    unfold rowB at h
    obtain ⟨p, hp, h⟩ := List.mem_flatMap.mp h
    unfold plF at h
    split at h
    · rename_i hb
      have o0 := Int.emod_nonneg ((p : Int) - i * F) (show (t.length : Int) ≠ 0 by omega)
      have o1 := Int.emod_lt_of_pos ((p : Int) - i * F) (show (0 : Int) < t.length by omega)
      refine ⟨_, o0, o1, ?_, List.mem_singleton.mp h⟩
      rw [bdS_blk (by omega) o0 (by omega)]
      have e : at0 t (i * F + ((p : Int) - i * F) % t.length) = at0 t p := at0_mod _ _ (by
        rw [Int.add_emod, Int.emod_emod_of_dvd _ (Int.dvd_refl _), ← Int.add_emod]
        congr 1
        omega)
      rw [e]
      exact hb
    · cases h
  · right
    unfold tiF at h
    split at h
    · rename_i hb
      exact ⟨hb, List.mem_singleton.mp h⟩
    · cases h
theorem allF_bd (h1 : 1 ≤ t.length) (hF : (t.length : Int) ≤ F) {m i : Nat} {o : Int} (hi : i < m) (o0 : 0 ≤ o) (o1 : o < t.length) (h : bdS t s w F a (i * F + o) = true) : (⟨i * F + o, 0, a, "barred"⟩ : Fl) ∈ allF t s w F a m := by
  unfold allF
  refine List.mem_flatMap.mpr ⟨i, List.mem_range.mpr hi, ?_⟩
  unfold rowF
  refine List.mem_append.mpr (.inl ?_)
  unfold rowB
  have p0 := Int.emod_nonneg ((i : Int) * F + o) (show (t.length : Int) ≠ 0 by omega)
  have p1 := Int.emod_lt_of_pos ((i : Int) * F + o) (show (0 : Int) < t.length by omega)
  obtain ⟨p, hp⟩ : ∃ p : Nat, ((i : Int) * F + o) % t.length = p := ⟨_, (Int.toNat_of_nonneg p0).symm⟩
  refine List.mem_flatMap.mpr ⟨p, List.mem_range.mpr (by omega), ?_⟩
  unfold plF
  rw [bdS_blk (by omega) o0 (by omega)] at h
  have e : at0 t p = at0 t (i * F + o) := by rw [← hp, at0_lo]
  have e2 : ((p : Int) - i * F) % t.length = o := by
    rw [← hp, Int.sub_emod, Int.emod_emod_of_dvd _ (Int.dvd_refl _), ← Int.sub_emod]
    rw [show (i : Int) * F + o - i * F = o by omega]
    exact Int.emod_eq_of_lt o0 o1
  rw [e, if_pos h, e2]
  exact List.mem_singleton.mpr rfl
theorem allF_td {m i : Nat} (hi : i < m) (h : tdS t s w F a (i * F) = true) : (⟨i * F, 0, a, "tied"⟩ : Fl) ∈ allF t s w F a m := by
  unfold allF
  refine List.mem_flatMap.mpr ⟨i, List.mem_range.mpr hi, ?_⟩
  unfold rowF
  refine List.mem_append.mpr (.inr ?_)
  unfold tiF
  rw [if_pos h]
  exact List.mem_singleton.mpr rfl
def cntS (n : Nat) (e : Bool) : Nat := if e then n + 1 else 1
/-- a fault of the list has one that is no later among the beats that matter -/
theorem allF_in (h1 : 1 ≤ t.length) (hF : (t.length : Int) ≤ F) {e : Bool} {q : Fl} (h : q ∈ allF t s w F a (cntS t.length e)) :
    ∃ c : Int, 0 ≤ c ∧ c ≤ q.b ∧ c < endI t.length F e ∧ (bdS t s w F a c || tdS t s w F a c) = true := by
  obtain ⟨i, hi, hd⟩ := mem_allF h1 hF h
  clear h
  have h := hd
  clear hd
  have hF0 : 0 < F := by omega
  have i0 : 0 ≤ (i : Int) * F := Int.mul_nonneg (by omega) (by omega)
  unfold cntS at hi
  unfold endI
  cases e with
  | false =>
    rw [if_neg Bool.false_ne_true] at hi ⊢
    obtain rfl : i = 0 := by omega
    rcases h with ⟨o, o0, o1, hb, rfl⟩ | ⟨hb, rfl⟩
    · refine ⟨((0 : Nat) : Int) * F + o, by omega, Int.le_refl _, ?_, by rw [hb]; rfl⟩
      rw [show ((0 : Nat) : Int) * F = 0 from Int.zero_mul F]
      omega
    · unfold tdS at hb
      rw [decide_eq_false (by rw [show ((0 : Nat) : Int) * F = 0 from Int.zero_mul F]; omega)] at hb
      cases hb
  | true =>
    rw [if_pos rfl] at hi ⊢
    have le : (i : Int) * F ≤ t.length * F := Int.mul_le_mul_of_nonneg_right (by omega) (by omega)
    rcases h with ⟨o, o0, o1, hb, rfl⟩ | ⟨hb, rfl⟩
    · by_cases hn : i < t.length
      · refine ⟨(i : Int) * F + o, by omega, Int.le_refl _, ?_, by rw [hb]; rfl⟩
        have : ((i : Int) + 1) * F ≤ t.length * F := Int.mul_le_mul_of_nonneg_right (by omega) (by omega)
        rw [Int.add_mul] at this
        omega
      · obtain rfl : i = t.length := by omega
        refine ⟨o, o0, by show o ≤ (t.length : Int) * F + o; omega, ?_, ?_⟩
        · have : (t.length : Int) * 1 ≤ t.length * F := Int.mul_le_mul_of_nonneg_left (by omega) (by omega)
          omega
        · have e1 := bdS_blk (t := t) (s := s) (w := w) (F := F) (a := a) (i := t.length) (m := o) hF0 o0 (by omega)
          have e2 := bdS_blk (t := t) (s := s) (w := w) (F := F) (a := a) (i := 0) (m := o) hF0 o0 (by omega)
          rw [Int.zero_mul, Int.zero_add] at e2
          have e3 : at0 t (t.length * F + o) = at0 t o := at0_mod _ _ (by rw [Int.add_comm, Int.add_mul_emod_self_left])
          have e4 : hiS t w a t.length = hiS t w a 0 := by
            have := hiS_add (t := t) (w := w) (a := a) (i := 0)
            rw [Int.zero_add] at this
            exact this
          rw [e2, ← e3, ← e4, ← e1, hb]
          rfl
    · exact ⟨(i : Int) * F, i0, Int.le_refl _, by omega, by rw [hb, Bool.or_true]⟩
theorem allF_nil (h1 : 1 ≤ t.length) (hF : (t.length : Int) ≤ F) {e : Bool} (h : faS t s w F a e = none) : allF t s w F a (cntS t.length e) = [] := by
  rw [List.eq_nil_iff_forall_not_mem]
  intro q hq
  obtain ⟨c, c0, _, c2, c3⟩ := allF_in h1 hF hq
  have he := endS_eq (n := t.length) (e := e) (show 0 < F by omega)
  unfold faS at h
  rw [Option.map_eq_none_iff] at h
  have := find_none h c.toNat (by omega)
  rw [Int.toNat_of_nonneg c0, wdS_ne, c3] at this
  cases this
theorem allF_min (h1 : 1 ≤ t.length) (hF : (t.length : Int) ≤ F) {e : Bool} {c : Int} {x : Str} (h : faS t s w F a e = some (c, x)) :
    (⟨c, 0, a, x⟩ : Fl) ∈ allF t s w F a (cntS t.length e) ∧ ∀ q ∈ allF t s w F a (cntS t.length e), q = ⟨c, 0, a, x⟩ ∨ (Fl.ltb ⟨c, 0, a, x⟩ q = true ∧ q.ltb ⟨c, 0, a, x⟩ = false) := by
  have hF0 : 0 < F := by omega
  have he := endS_eq (n := t.length) (e := e) hF0
  unfold faS at h
  obtain ⟨k, hk, hkx⟩ := Option.map_eq_some_iff.mp h
  obtain ⟨k1, k2, k3⟩ := find_some hk
  obtain ⟨rfl, rfl⟩ := Prod.mk.inj hkx
  rw [wdS_ne] at k2
  have k3' : ∀ c : Int, 0 ≤ c → c < k → (bdS t s w F a c || tdS t s w F a c) = false := fun c c0 c1 => by
    have := k3 c.toNat (by omega)
    rw [Int.toNat_of_nonneg c0, wdS_ne] at this
    exact this
  obtain ⟨i, o, i0, o0, o1, hc, hci⟩ := blk_of (F := F) (c := (k : Int)) hF0 (by omega)
  obtain ⟨i, rfl⟩ : ∃ i' : Nat, i = (i' : Int) := ⟨i.toNat, by omega⟩
  have iF0 : 0 ≤ (i : Int) * F := Int.mul_nonneg (by omega) (by omega)
  have hcnt : i < cntS t.length e := by
    have kk : (k : Int) < endI t.length F e := by omega
    unfold cntS
    unfold endI at kk
    cases e with
    | true =>
      rw [if_pos rfl] at kk ⊢
      have : (i : Int) * F < (t.length + 1) * F := by rw [Int.add_mul]; omega
      have := Int.lt_of_mul_lt_mul_right this (by omega)
      omega
    | false =>
      rw [if_neg Bool.false_ne_true] at kk ⊢
      have : (i : Int) * F < 1 * F := by omega
      have := Int.lt_of_mul_lt_mul_right this (by omega)
      omega
  refine ⟨?_, fun q hq => ?_⟩
  · unfold wdS
    cases hb : bdS t s w F a k with
    | true =>
      rw [if_pos rfl]
      have o2 : o < t.length := by
        rcases Int.lt_or_le o t.length with z | z
        · exact z
        · have := bdS_back (t := t) (s := s) (w := w) (F := F) (a := a) (i := i) (m := o) hF0 z o1
          rw [← hc, hb] at this
          have h3 := k3' (i * F + (o - t.length)) (by omega) (by omega)
          rw [← this] at h3
          cases h3
      rw [hc] at hb ⊢
      exact allF_bd h1 hF hcnt o0 o2 hb
    | false =>
      rw [hb, Bool.false_or] at k2
      rw [if_neg Bool.false_ne_true, k2, if_pos rfl]
      have oz : o = 0 := by
        rcases Int.lt_or_le 0 o with z | z
        · rw [hc, tdS_off hF0 z o1] at k2
          cases k2
        · omega
      subst oz
      rw [Int.add_zero] at hc
      rw [hc] at k2 ⊢
      exact allF_td hcnt k2
  · obtain ⟨c', c0, c1, c2, c3⟩ := allF_in h1 hF hq
    have kc : (k : Int) ≤ c' := by
      rcases Int.lt_or_le c' k with z | z
      · rw [k3' c' c0 z] at c3; cases c3
      · exact z
    obtain ⟨j, hj, hm⟩ := mem_allF h1 hF hq
    rcases hm with ⟨p, p0, p1, hb, rfl⟩ | ⟨hb, rfl⟩
    · have c1 : c' ≤ j * F + p := c1
      rcases Int.lt_or_le (k : Int) (j * F + p) with z | z
      · exact .inr ⟨fl_lt_of z, fl_lt_beat z⟩
      · have ek : (k : Int) = j * F + p := by omega
        left
        unfold wdS
        rw [ek, hb]
        rfl
    · have c1 : c' ≤ j * F := c1
      rcases Int.lt_or_le (k : Int) (j * F) with z | z
      · exact .inr ⟨fl_lt_of z, fl_lt_beat z⟩
      · have ek : (k : Int) = j * F := by omega
        unfold wdS
        rw [ek, hb]
        cases bdS t s w F a (j * F) with
        | true =>
          right
          rw [if_pos rfl, fl_same, fl_same]
          decide +kernel
        | false => left; rfl
end
/-! ### how far slow voices are looked at -/
def maxI (a b : Int) : Int := if b > a then b else a
def expoI (f n : Int) : Nat := ((List.range 7).find? fun (x : Nat) => decide (n ≤ f ^ x)).getD 0
theorem pow6_big {f : Int} (h1 : 2 ≤ f) (h2 : f ≤ 6) : 48 ≤ f ^ 6 := by
  have : f = 2 ∨ f = 3 ∨ f = 4 ∨ f = 5 ∨ f = 6 := by omega
  rcases this with rfl | rfl | rfl | rfl | rfl <;> decide
theorem expo_spec {f n : Int} (h1 : 2 ≤ f) (h2 : f ≤ 6) (hn : n ≤ 48) : n ≤ f ^ expoI f n ∧ (∀ y, y < expoI f n → f ^ y < n) ∧ expoI f n ≤ 6 := by
  have big := pow6_big h1 h2
  unfold expoI
  cases z : (List.range 7).find? fun (x : Nat) => decide (n ≤ f ^ x) with
  | none =>
    have := find_none z 6 (by decide)
    rw [decide_eq_false_iff_not] at this
    omega
  | some k =>
    obtain ⟨k1, k2, k3⟩ := find_some z
    rw [decide_eq_true_eq] at k2
    refine ⟨k2, fun y hy => ?_, ?_⟩
    · have := k3 y hy
      rw [decide_eq_false_iff_not] at this
      omega
    · show k ≤ 6
      omega
theorem expo_uniq {f n : Int} (h1 : 2 ≤ f) (h2 : f ≤ 6) (hn : n ≤ 48) {x : Nat} (a : n ≤ f ^ x) (b : ∀ y, y < x → f ^ y < n) : x = expoI f n := by
  obtain ⟨s1, s2, _⟩ := expo_spec h1 h2 hn
  rcases Nat.lt_trichotomy x (expoI f n) with h | h | h
  · have := s2 x h; omega
  · exact h
  · have := b _ h; omega
theorem pow_up {f : Int} (h1 : 2 ≤ f) {x y : Nat} (h : x ≤ y) : f ^ x ≤ f ^ y := by
  obtain ⟨k, rfl⟩ := Nat.le.dest h
  induction k with
  | zero => exact Int.le_refl _
  | succ k ih =>
    have := ih (Nat.le_add_right x k)
    rw [← Nat.add_assoc, Int.pow_succ]
    have h0 : (0 : Int) < f ^ (x + k) := Int.pow_pos (by omega)
    have h3 : f ^ (x + k) * 1 ≤ f ^ (x + k) * f := Int.mul_le_mul_of_nonneg_left (by omega) (by omega)
    omega
/-! the round of the rests -/
def rndGo (f n : Int) : Nat → List Int → Int → List Int × Int
  | 0, k, p => (k, p)
  | m + 1, k, p => if p ∈ k then (k, p) else rndGo f n m (k ++ [p]) (p * f % n)
def rndR (f n : Int) : List Int × Int := rndGo f n 49 [] (1 % n)
def roundI (f n : Int) : Int × Int := (((rndR f n).1.idxOf (rndR f n).2 : Nat), ((rndR f n).1.length : Int) - ((rndR f n).1.idxOf (rndR f n).2 : Nat))
theorem pigeon : ∀ (n : Nat) (k : List Int), k.Nodup → (∀ x ∈ k, 0 ≤ x ∧ x < n) → k.length ≤ n
  | 0, k, _, h => by
    cases k with
    | nil => exact Nat.le_refl _
    | cons x r => have := h x List.mem_cons_self; omega
  | n + 1, k, hd, h => by
    by_cases hm : (n : Int) ∈ k
    · have h1 := List.length_erase_of_mem hm
      have h2 : 0 < k.length := List.length_pos_of_mem hm
      have h3 := pigeon n (k.erase n) (hd.erase _) fun x hx => by
        rw [hd.mem_erase_iff] at hx
        have := h x hx.2
        have : x ≠ n := hx.1
        omega
      omega
    · have h3 := pigeon n k hd fun x hx => by
        have := h x hx
        have : x ≠ n := fun e => hm (e ▸ hx)
        omega
      omega
structure RndI (f n : Int) (k : List Int) (p : Int) : Prop where
  go : rndGo f n (49 - k.length) k p = rndR f n
  nd : k.Nodup
  rng : ∀ x ∈ k, 0 ≤ x ∧ x < n
  p0 : 0 ≤ p
  p1 : p < n
theorem RndI.len {f n : Int} {k : List Int} {p : Int} (h : RndI f n k p) (hn : n ≤ 48) : k.length ≤ n.toNat := pigeon _ _ h.nd fun x hx => by have := h.rng x hx; omega
theorem RndI.ini {f n : Int} (h1 : 1 ≤ n) : RndI f n [] (1 % n) :=
  ⟨rfl, List.nodup_nil, (fun x hx => by cases hx), Int.emod_nonneg _ (by omega), Int.emod_lt_of_pos _ (by omega)⟩
theorem RndI.next {f n : Int} {k : List Int} {p : Int} (h : RndI f n k p) (h1 : 1 ≤ n) (hn : n ≤ 48) (hp : p ∉ k) : RndI f n (k ++ [p]) (p * f % n) := by
  have hl := h.len hn
  refine ⟨?_, ?_, ?_, Int.emod_nonneg _ (by omega), Int.emod_lt_of_pos _ (by omega)⟩
  · rw [← h.go, List.length_append, List.length_singleton]
    obtain ⟨m, hm⟩ : ∃ m, 49 - k.length = m + 1 := ⟨48 - k.length, by omega⟩
    rw [hm, show 49 - (k.length + 1) = m by omega]
    show _ = if p ∈ k then (k, p) else rndGo f n m (k ++ [p]) (p * f % n)
    rw [if_neg hp]
  · rw [List.nodup_append]
    refine ⟨h.nd, List.nodup_cons.mpr ⟨List.not_mem_nil, List.nodup_nil⟩, fun x hx y hy => ?_⟩
    rw [List.mem_singleton.mp hy]
    exact fun e => hp (e ▸ hx)
  · intro x hx
    rcases List.mem_append.mp hx with z | z
    · exact h.rng x z
    · rw [List.mem_singleton.mp z]; exact ⟨h.p0, h.p1⟩
theorem RndI.fin {f n : Int} {k : List Int} {p : Int} (h : RndI f n k p) (hn : n ≤ 48) (hp : p ∈ k) : rndR f n = (k, p) := by
  have hl := h.len hn
  rw [← h.go]
  obtain ⟨m, hm⟩ : ∃ m, 49 - k.length = m + 1 := ⟨48 - k.length, by omega⟩
  rw [hm]
  show (if p ∈ k then (k, p) else rndGo f n m (k ++ [p]) (p * f % n)) = _
  rw [if_pos hp]
theorem rnd_ends {f n : Int} (h1 : 1 ≤ n) (hn : n ≤ 48) : ∀ (m : Nat) (k : List Int) (p : Int), 49 ≤ k.length + m → RndI f n k p → ∃ k p, RndI f n k p ∧ p ∈ k
  | 0, k, p, hm, h => by have := h.len hn; omega
  | m + 1, k, p, hm, h => by
    by_cases hp : p ∈ k
    · exact ⟨k, p, h, hp⟩
    · exact rnd_ends h1 hn m (k ++ [p]) (p * f % n) (by rw [List.length_append, List.length_singleton]; omega) (h.next h1 hn hp)
theorem round_b {f n : Int} (h1 : 1 ≤ n) (hn : n ≤ 48) : 0 ≤ (roundI f n).1 ∧ (roundI f n).1 ≤ 48 ∧ 1 ≤ (roundI f n).2 ∧ (roundI f n).2 ≤ 48 := by
  obtain ⟨k, p, h, hp⟩ := rnd_ends (f := f) h1 hn 49 [] (1 % n) (Nat.le_refl _) (RndI.ini h1)
  have hl := h.len hn
  have hi : k.idxOf p < k.length := List.idxOf_lt_length_of_mem hp
  unfold roundI
  rw [h.fin hn hp]
  dsimp only
  omega
def fpS (sp sg r : Int) : Int × Int := if climbL sg r then (overI 120 (absI r), jointI (p0L sg false) (sp / gcdI sp (absI r))) else (0, p0L sg false)
def slowP (n sp f sg r : Int) (e : Bool) : Int × Int :=
  if e then (maxI (maxI (fpS sp sg r).1 (expoI f n)) (roundI f n).1, jointI (fpS sp sg r).2 (roundI f n).2) else (maxI (fpS sp sg r).1 (expoI f n), (fpS sp sg r).2)
def reachW (n sp : Int) : Way → Bool → Int × Int
  | .lag l sg r b, e => reachL n sp l sg r b e
  | .slow f sg r, e => if climbL sg r = true ∧ sp = 0 then (180 / absI r + 1, 1) else slowP n sp f sg r e
def farW (n sp : Int) : Way → Bool → Int × Int
  | .lag l sg r b, e => farL n sp l sg r b e
  | .slow f sg r, e => if climbL sg r = true ∧ sp = 0 then (180 / absI r + 1, 0) else slowP n sp f sg r e
theorem reachW_slow {n sp f sg r : Int} {e : Bool} : reachW n sp (.slow f sg r) e = if climbL sg r = true ∧ sp = 0 then (180 / absI r + 1, 1) else slowP n sp f sg r e := rfl
theorem farW_slow {n sp f sg r : Int} {e : Bool} : farW n sp (.slow f sg r) e = if climbL sg r = true ∧ sp = 0 then (180 / absI r + 1, 0) else slowP n sp f sg r e := rfl
theorem fpS_b {sp sg r : Int} (hs : climbL sg r = true → 0 < sp) (hs2 : sp ≤ 24) (hr : -60 ≤ r ∧ r ≤ 60) : 0 ≤ (fpS sp sg r).1 ∧ (fpS sp sg r).1 ≤ 200 ∧ 1 ≤ (fpS sp sg r).2 ∧ (fpS sp sg r).2 ≤ 48 := by
  have hp := p0L_pos (sg := sg) (b := false)
  unfold fpS
  by_cases hc : climbL sg r = true
  · rw [if_pos hc]
    have hs := hs hc
    have hr0 : r ≠ 0 := by unfold climbL at hc; simp at hc; exact hc.2
    have ha := absI_pos hr0
    have ha2 := absI_le hr.1 hr.2
    obtain ⟨d1, d2⟩ := div_gcd (n := sp) (l := absI r) hs
    have j1 := jointI_pos (a := p0L sg false) hp.1 d1
    have j2 := jointI_le (a := p0L sg false) hp.1 d1
    have j3 : p0L sg false * (sp / gcdI sp (absI r)) ≤ 2 * 24 := Int.mul_le_mul hp.2 (by omega) (by omega) (by omega)
    refine ⟨?_, ?_, by dsimp only; omega, by dsimp only; omega⟩
    · unfold overI; exact Int.ediv_nonneg (by omega) (by omega)
    · unfold overI
      have : (120 + absI r - 1) / absI r ≤ 120 + absI r - 1 := Int.ediv_le_self _ (by omega)
      dsimp only
      omega
  · rw [if_neg hc]
    dsimp only
    omega
theorem slowP_b {n sp f sg r : Int} {e : Bool} (hn : 1 ≤ n) (hn2 : n ≤ 48) (hf : 2 ≤ f) (hf2 : f ≤ 6) (hs : climbL sg r = true → 0 < sp) (hs2 : sp ≤ 24) (hr : -60 ≤ r ∧ r ≤ 60) :
    0 ≤ (slowP n sp f sg r e).1 ∧ (slowP n sp f sg r e).1 ≤ 200 ∧ 1 ≤ (slowP n sp f sg r e).2 ∧ (slowP n sp f sg r e).2 ≤ 5000 := by
  obtain ⟨a1, a2, a3, a4⟩ := fpS_b hs hs2 hr
  obtain ⟨_, _, x3⟩ := expo_spec hf hf2 hn2
  obtain ⟨r1, r2, r3, r4⟩ := round_b (f := f) hn hn2
  have j1 := jointI_pos (a := (fpS sp sg r).2) (b := (roundI f n).2) (by omega) (by omega)
  have j2 := jointI_le (a := (fpS sp sg r).2) (b := (roundI f n).2) (by omega) (by omega)
  have j3 : (fpS sp sg r).2 * (roundI f n).2 ≤ 48 * 48 := Int.mul_le_mul a4 r4 (by omega) (by omega)
  unfold slowP maxI
  cases e with
  | true =>
    rw [if_pos rfl]
    dsimp only
    refine ⟨?_, ?_, by omega, by omega⟩ <;> (repeat' split) <;> omega
  | false =>
    rw [if_neg Bool.false_ne_true]
    dsimp only
    refine ⟨?_, ?_, by omega, by omega⟩ <;> (repeat' split) <;> omega
theorem reachW_b {n sp : Int} {w : Way} {e : Bool} (hn : 1 ≤ n) (hn2 : n ≤ 48) (hs : 0 ≤ sp) (hs2 : sp ≤ 24) (hw : OkW w) :
    0 ≤ (reachW n sp w e).1 ∧ (reachW n sp w e).1 ≤ 200 ∧ 1 ≤ (reachW n sp w e).2 ∧ (reachW n sp w e).2 ≤ 5000 := by
  cases w with
  | lag l sg r b => exact reachL_b hn hn2 hw.1.1 hw.1.2 hs hs2 ⟨hw.2.r1, hw.2.r2⟩
  | slow f sg r =>
    rw [reachW_slow]
    by_cases h : climbL sg r = true ∧ sp = 0
    · rw [if_pos h]
      have hr0 : r ≠ 0 := by have := h.1; unfold climbL at this; simp at this; exact this.2
      have := div180 (absI_pos hr0)
      dsimp only
      omega
    · rw [if_neg h]
      exact slowP_b hn hn2 hw.1.1 hw.1.2 (fun hc => by
        rcases Int.lt_or_lt_of_ne (show sp ≠ 0 from fun z => h ⟨hc, z⟩) with z | z
        · omega
        · exact z) hs2 ⟨hw.2.r1, hw.2.r2⟩
theorem farW_b {n sp : Int} {w : Way} {e : Bool} (hn : 1 ≤ n) (hn2 : n ≤ 48) (hs : 0 ≤ sp) (hs2 : sp ≤ 24) (hw : OkW w) :
    0 ≤ (farW n sp w e).1 ∧ (farW n sp w e).1 ≤ 200 ∧ 0 ≤ (farW n sp w e).2 ∧ (farW n sp w e).2 ≤ 5000 := by
  cases w with
  | lag l sg r b => exact farL_b hn hn2 hw.1.1 hw.1.2 hs hs2 ⟨hw.2.r1, hw.2.r2⟩
  | slow f sg r =>
    have h0 := reachW_b (e := e) hn hn2 hs hs2 hw
    rw [reachW_slow] at h0
    rw [farW_slow]
    by_cases h : climbL sg r = true ∧ sp = 0
    · rw [if_pos h] at h0 ⊢
      dsimp only at h0 ⊢
      omega
    · rw [if_neg h] at h0 ⊢
      omega
/-! one row more -/
theorem sung_climbW {t : List (Option Int)} (ht : OkT t) {w : Way} (hs : w.s = 1) {e : Bool} {v c y : Int} (h : sungT t w v c e = some y) : ∃ p : Int, -60 ≤ p ∧ p ≤ 60 ∧ y = p + v * w.r := by
  unfold sungT at h
  split at h
  · cases h
  · cases z : at0 t (placeT t.length w v c e) with
    | none => rw [z] at h; cases h
    | some p =>
      rw [z] at h
      obtain ⟨h1, h2⟩ := at0_ok ht z
      have h : mapT w p v = y := Option.some.inj h
      exact ⟨p, h1, h2, h.symm.trans (if_pos hs)⟩
theorem climb_beyondW {t : List (Option Int)} {s : Sty} (ht : OkT t) (hs : OkS s) (h0 : s.sp = 0) {w : Way} {e : Bool} (hw1 : w.s = 1) (hr : w.r ≠ 0) {near a : Int} (ha : 180 / absI w.r + 1 ≤ a) : lagF t s w e near (near + a) = none := by
  have hp := absI_pos hr
  have big : 180 < a * absI w.r := by
    have h1 := Int.emod_lt_of_pos 180 hp
    have h2 := Int.mul_ediv_add_emod 180 (absI w.r)
    have h3 : (180 / absI w.r + 1) * absI w.r ≤ a * absI w.r := Int.mul_le_mul_of_nonneg_right ha (by omega)
    rw [Int.add_mul, Int.one_mul, Int.mul_comm] at h3
    omega
  have no : ∀ c : Int, wdT t s w e near (near + a) c = "" := fun c => by
    unfold wdT
    cases hx : sungT t w near c e with
    | none => exact word_n1
    | some x =>
      cases hy : sungT t w (near + a) c e with
      | none => exact word_n2
      | some y =>
        obtain ⟨p, p1, p2, rfl⟩ := sung_climbW ht hw1 hx
        obtain ⟨q, q1, q2, rfl⟩ := sung_climbW ht hw1 hy
        refine word_far hs h0 ?_
        rw [Int.add_mul]
        unfold absI at big
        split at big
        · rw [Int.mul_neg] at big; omega
        · omega
  unfold lagF
  have : (List.range (endT t.length w e near (near + a) - begW w (near + a)).toNat).find? (fun (k : Nat) => wdT t s w e near (near + a) (begW w (near + a) + k) != "") = none := by
    rw [List.find?_eq_none]
    intro k _
    rw [no]
    decide
  rw [this]
  rfl
theorem extra_rowW {t : List (Option Int)} {s : Sty} {w : Way} {e : Bool} (ht : OkT t) (hs : OkS s) (hw : OkW w) :
    reachW t.length s.sp w e = farW t.length s.sp w e ∨ ((reachW t.length s.sp w e).1 + (reachW t.length s.sp w e).2 = (farW t.length s.sp w e).1 + (farW t.length s.sp w e).2 + 1 ∧
      0 ≤ (farW t.length s.sp w e).1 + (farW t.length s.sp w e).2 ∧
      ∀ a : Nat, (a : Int) = (farW t.length s.sp w e).1 + (farW t.length s.sp w e).2 + 1 → ∀ q ∈ rowPairs none (bkW w) a, pairF t s w e q = none) := by
  cases w with
  | lag l sg r b => exact extra_row ht hs hw
  | slow f sg r =>
    rw [reachW_slow, farW_slow]
    by_cases c2 : climbL sg r = true ∧ s.sp = 0
    · rw [if_pos c2, if_pos c2]
      have c3 := c2.1
      unfold climbL at c3
      simp at c3
      obtain ⟨rfl, hr0⟩ := c3
      have hb := div180 (absI_pos hr0)
      refine .inr ⟨by show 180 / absI r + 1 + 1 = 180 / absI r + 1 + 0 + 1; omega, by show 0 ≤ 180 / absI r + 1 + 0; omega, fun a ha q hq => ?_⟩
      have ha : (a : Int) = 180 / absI r + 1 + 0 + 1 := ha
      have hq2 := mem_row hq
      unfold pairF
      rw [climb_beyondW (w := .slow f 1 r) ht hs c2.2 rfl hr0 (a := q.2) (by show 180 / absI r + 1 ≤ q.2; omega)]
      rfl
    · rw [if_neg c2, if_neg c2]
      exact .inl rfl
def lookN (t : List (Option Int)) (s : Sty) (w : Way) (e : Bool) : Nat := ((reachW t.length s.sp w e).1 + (reachW t.length s.sp w e).2).toNat
def lookM (t : List (Option Int)) (s : Sty) (w : Way) (e : Bool) : Nat := ((farW t.length s.sp w e).1 + (farW t.length s.sp w e).2).toNat
theorem first_same {t : List (Option Int)} {s : Sty} {w : Way} {e : Bool} (ht : OkT t) (hs : OkS s) (hw : OkW w) :
    firstF t s w e (lookPairs none (bkW w) (lookN t s w e)) = firstF t s w e (lookPairs none (bkW w) (lookM t s w e)) ∧
    mostF t s w e (lookPairs none (bkW w) (lookN t s w e)) = mostF t s w e (lookPairs none (bkW w) (lookM t s w e)) := by
  unfold lookN lookM
  rcases extra_rowW (e := e) ht hs hw with h | ⟨h, h0, hn⟩
  · rw [h]; exact ⟨rfl, rfl⟩
  · rw [h, show ((farW t.length s.sp w e).1 + (farW t.length s.sp w e).2 + 1).toNat = ((farW t.length s.sp w e).1 + (farW t.length s.sp w e).2).toNat + 1 by omega]
    have hr := hn (((farW t.length s.sp w e).1 + (farW t.length s.sp w e).2).toNat + 1) (by omega)
    exact ⟨firstF_succ hr, mostF_succ hr⟩
theorem lookN_b {t : List (Option Int)} {s : Sty} {w : Way} {e : Bool} (ht : OkT t) (hs : OkS s) (hw : OkW w) :
    ((lookN t s w e : Nat) : Int) = (reachW t.length s.sp w e).1 + (reachW t.length s.sp w e).2 ∧ lookN t s w e ≤ 5200 := by
  have h1 := ht.lo
  have h2 := ht.hi
  have hb := reachW_b (n := (t.length : Int)) (sp := s.sp) (e := e) (by omega) (by omega) hs.lo hs.hi hw
  unfold lookN
  omega
theorem lookM_b {t : List (Option Int)} {s : Sty} {w : Way} {e : Bool} (ht : OkT t) (hs : OkS s) (hw : OkW w) :
    ((lookM t s w e : Nat) : Int) = (farW t.length s.sp w e).1 + (farW t.length s.sp w e).2 ∧ lookM t s w e ≤ 5200 := by
  have h1 := ht.lo
  have h2 := ht.hi
  have hb := farW_b (n := (t.length : Int)) (sp := s.sp) (e := e) (by omega) (by omega) hs.lo hs.hi hw
  unfold lookM
  omega
/-! ### contracts -/
def nearOk : Way → Int → Prop
  | .lag _ _ _ _, n => 0 ≤ n ∧ n ≤ 10
  | .slow _ _ _, n => n = 0
def ct_common : Ct Unit := fun ds st Q _ => ∃ a b : Int, 0 ≤ a ∧ 0 ≤ b ∧ (0 < a ∨ 0 < b) ∧ ds = [.int a, .int b] ∧ Q (.int (gcdI a b)) st
def ct_law_measure : Ct Unit := ct_common
def ct_joint : Ct Unit := fun ds st Q _ => ∃ a b : Int, 0 < a ∧ 0 < b ∧ a ≤ 1000000 ∧ b ≤ 1000000 ∧ ds = [.int a, .int b] ∧ Q (.int (jointI a b)) st
def ct_law_both : Ct Unit := ct_joint
def ct_least_over : Ct Unit := fun ds st Q _ => ∃ a b : Int, 0 < b ∧ b ≤ 1000000 ∧ ds = [.int a, .int b] ∧ Q (.int (overI a b)) st
def neverT : Way → Bool → Bool
  | .lag l _ _ _, e => !e && decide (0 < l)
  | .slow _ _ _, _ => false
def ct_never_together : Ct Unit := fun ds st Q _ => ∃ w e, ds = [eW w, .bl e] ∧ Q (.bl (neverT w e)) st
def ct_climbs : Ct Unit := fun ds st Q _ => ∃ w, ds = [eW w] ∧ Q (.bl (climbL w.s w.r)) st
def ct_rests_of : Ct Unit := fun ds st Q _ => ∃ f n : Int, 2 ≤ f ∧ f ≤ 6 ∧ 1 ≤ n ∧ n ≤ 48 ∧ ds = [.int f, .int n] ∧ Q (.tup [.int (roundI f n).1, .int (roundI f n).2]) st
def ct_law_round : Ct Unit := ct_rests_of
def ct_exponent_over : Ct Unit := fun ds st Q _ => ∃ f n : Int, 2 ≤ f ∧ f ≤ 6 ∧ 1 ≤ n ∧ n ≤ 48 ∧ ds = [.int f, .int n] ∧ Q (.int (expoI f n)) st
def ct_power_of : Ct Unit := fun ds st Q _ => ∃ f v : Int, 2 ≤ f ∧ f ≤ 6 ∧ 0 ≤ v ∧ v ≤ 1000000 ∧ ds = [.int f, .int v] ∧ Q (.int (f ^ v.toNat)) st
def ct_reach_of : Ct Unit := fun ds st Q _ => ∃ (n : Int) (s : Sty) (w : Way) (e : Bool), 1 ≤ n ∧ n ≤ 48 ∧ OkS s ∧ OkW w ∧ ds = [.int n, eS s, eW w, .bl e] ∧
  Q (.tup [.int (reachW n s.sp w e).1, .int (reachW n s.sp w e).2]) st
def ct_law_far : Ct Unit := fun ds st Q _ => ∃ (n : Int) (s : Sty) (w : Way) (e : Bool), 1 ≤ n ∧ n ≤ 48 ∧ OkS s ∧ OkW w ∧ ds = [.int n, eS s, eW w, .bl e] ∧
  Q (.tup [.int (farW n s.sp w e).1, .int (farW n s.sp w e).2]) st
def ct_lag_fault : Ct Unit := fun ds st Q _ => ∃ (t : List (Option Int)) (s : Sty) (l sg r : Int) (b : Bool) (near far : Int) (e : Bool), OkT t ∧ OkS s ∧ OkW (.lag l sg r b) ∧ 0 ≤ near ∧ near ≤ 1000000 ∧ 0 ≤ far ∧ far ≤ 1000000 ∧
  ds = [eT t, eS s, eW (.lag l sg r b), .int near, .int far, .bl e] ∧ Q (match lagF t s (.lag l sg r b) e near far with | none => .non | some y => .tup [.int y.1, .str y.2]) st
def ct_note_of : Ct Unit := fun ds st Q _ => ∃ (t : List (Option Int)) (w : Way) (i a : Int), OkW w ∧ 0 ≤ i ∧ i < t.length ∧ ds = [eT t, eW w, .int i, .int a] ∧ Q (eN (hiS t w a i)) st
def ct_slow_barred : Ct Unit := fun ds st Q _ => ∃ (t : List (Option Int)) (s : Sty) (f sg r a : Int) (e : Bool), OkT t ∧ OkS s ∧ OkW (.slow f sg r) ∧ 1 ≤ a ∧ a ≤ 100000 ∧
  ds = [eT t, eS s, eW (.slow f sg r), .int a, .bl e] ∧ Q (eN (brS t s (.slow f sg r) (f ^ a.toNat) a e)) st
def ct_slow_tied : Ct Unit := fun ds st Q _ => ∃ (t : List (Option Int)) (s : Sty) (f sg r a : Int) (e : Bool), OkT t ∧ OkS s ∧ OkW (.slow f sg r) ∧ 1 ≤ a ∧ a ≤ 100000 ∧
  ds = [eT t, eS s, eW (.slow f sg r), .int a, .bl e] ∧ Q (eN (tiS t s (.slow f sg r) (f ^ a.toNat) a e)) st
def ct_slow_fault : Ct Unit := fun ds st Q _ => ∃ (t : List (Option Int)) (s : Sty) (f sg r a : Int) (e : Bool), OkT t ∧ OkS s ∧ OkW (.slow f sg r) ∧ 1 ≤ a ∧ a ≤ 100000 ∧
  ds = [eT t, eS s, eW (.slow f sg r), .int a, .bl e] ∧ Q (match lagF t s (.slow f sg r) e 0 a with | none => .non | some y => .tup [.int y.1, .str y.2]) st
def ct_two_fault : Ct Unit := fun ds st Q _ => ∃ (t : List (Option Int)) (s : Sty) (w : Way) (near a : Int) (e : Bool), OkT t ∧ OkS s ∧ OkW w ∧ nearOk w near ∧ 1 ≤ a ∧ a ≤ 100000 ∧
  ds = [eT t, eS s, eW w, .int near, .int a, .bl e] ∧ Q (eF (pairF t s w e (near, a))) st
def ct_nears_of : Ct Unit := fun ds st Q _ => ∃ w, ds = [eW w] ∧ Q (.tup ((nearsL (bkW w)).map .int)) st
def ct_looked_at : Ct Unit := fun ds st Q _ => ∃ (t : List (Option Int)) (s : Sty) (w : Way) (e : Bool) (vo : Option Int), OkT t ∧ OkS s ∧ OkW w ∧
  ds = [eT t, eS s, eW w, eN vo, .bl e] ∧ Q (.lst ((lookPairs vo (bkW w) (lookN t s w e)).map eP)) st
def ct_first_of : Ct Unit := fun ds st Q _ => ∃ (t : List (Option Int)) (s : Sty) (w : Way) (e : Bool) (vo : Option Int), OkT t ∧ OkS s ∧ OkW w ∧
  ds = [eT t, eS s, eW w, eN vo, .bl e] ∧ Q (eF (firstF t s w e (lookPairs vo (bkW w) (lookN t s w e)))) st
def okV (vo : Option Int) : Prop := ∀ v, vo = some v → 1 ≤ v ∧ v ≤ 100
def ct_need_voices : Ct Unit := fun ds st Q _ => ∃ vo : Option Int, okV vo ∧ ds = [eN vo] ∧ Q .non st
def ct_first_fault : Ct Unit := fun ds st Q _ => ∃ (t : List (Option Int)) (s : Sty) (w : Way) (e : Bool) (vo : Option Int), OkT t ∧ OkS s ∧ OkW w ∧ okV vo ∧
  ds = [eT t, eS s, eW w, eN vo, .bl e] ∧ Q (eF (firstF t s w e (lookPairs vo (bkW w) (lookN t s w e)))) st
def ct_is_clean : Ct Unit := fun ds st Q _ => ∃ (t : List (Option Int)) (s : Sty) (w : Way) (e : Bool) (vo : Option Int), OkT t ∧ OkS s ∧ OkW w ∧ okV vo ∧
  ds = [eT t, eS s, eW w, eN vo, .bl e] ∧ Q (.bl (firstF t s w e (lookPairs vo (bkW w) (lookN t s w e))).isNone) st
def ct_most_voices : Ct Unit := fun ds st Q _ => ∃ (t : List (Option Int)) (s : Sty) (w : Way) (e : Bool), OkT t ∧ OkS s ∧ OkW w ∧
  ds = [eT t, eS s, eW w, .bl e] ∧ Q (eN (mostF t s w e (lookPairs none (bkW w) (lookN t s w e)))) st
def ct_law_map : Ct Unit := fun ds st Q _ => ∃ (w : Way) (p : Option Int) (v : Int), OkW w ∧ ds = [eW w, eN p, .int v] ∧ Q (eN (p.map fun p => mapT w p v)) st
def ct_law_at : Ct Unit := fun ds st Q _ => ∃ (t : List (Option Int)) (l sg r : Int) (b : Bool) (v c : Int) (e : Bool), OkT t ∧ OkW (.lag l sg r b) ∧ 0 ≤ v ∧ ds = [eT t, eW (.lag l sg r b), .int v, .int c, .bl e] ∧ Q (eN (sungT t (.lag l sg r b) v c e)) st
def ct_law_lag_pair : Ct Unit := fun ds st Q _ => ∃ (t : List (Option Int)) (s : Sty) (l sg r : Int) (b : Bool) (near a : Int) (e : Bool), OkT t ∧ OkS s ∧ OkW (.lag l sg r b) ∧ 0 ≤ near ∧ near ≤ 10 ∧ 0 ≤ a ∧ a ≤ 100000 ∧
  ds = [eT t, eS s, eW (.lag l sg r b), .int near, .int (near + a), .bl e] ∧ Q (.lst ((pairF t s (.lag l sg r b) e (near, a)).toList.map fun q => eF (some q))) st
def ct_law_slow_pair : Ct Unit := fun ds st Q _ => ∃ (t : List (Option Int)) (s : Sty) (f sg r a : Int) (e : Bool), OkT t ∧ OkS s ∧ OkW (.slow f sg r) ∧ 1 ≤ a ∧ a ≤ 100000 ∧
  ds = [eT t, eS s, eW (.slow f sg r), .int a, .bl e] ∧ Q (.lst ((pairF t s (.slow f sg r) e (0, a)).toList.map fun q => eF (some q))) st
def ct_law_heard : Ct Unit := fun ds st Q _ => ∃ (t : List (Option Int)) (s : Sty) (f sg r a : Int) (e : Bool), OkT t ∧ OkS s ∧ OkW (.slow f sg r) ∧ 1 ≤ a ∧ a ≤ 10 ∧
  ds = [eT t, eS s, eW (.slow f sg r), .int a, .bl e] ∧ Q (.lst ((pairF t s (.slow f sg r) e (0, a)).toList.map fun q => eF (some q))) st
def ct_law_clashes : Ct Unit := fun ds st Q _ => ∃ (t : List (Option Int)) (s : Sty) (w : Way) (e : Bool), OkT t ∧ OkS s ∧ OkW w ∧ ds = [eT t, eS s, eW w, .bl e] ∧
  Q (.lst (((lookPairs none (bkW w) (lookM t s w e)).filterMap (pairF t s w e)).map fun q => eF (some q))) st
def ct_law_slow_pair_2 : Ct Unit := ct_law_slow_pair
end Pv

end
section
set_option linter.all false
set_option maxRecDepth 100000
set_option maxHeartbeats 4000000
/-! k11: what repr shows of a slow fault -/
namespace Pv
open PySem PySem.Spec PyProof.Rows L2
theorem round_n {f n : Int} (h1 : 1 ≤ n) (hn : n ≤ 48) : (roundI f n).2 ≤ n := by
  obtain ⟨k, p, h, hp⟩ := rnd_ends (f := f) h1 hn 49 [] (1 % n) (Nat.le_refl _) (RndI.ini h1)
  have hl := h.len hn
  unfold roundI
  rw [h.fin hn hp]
  dsimp only
  omega
theorem look_ten {t : List (Option Int)} {s : Sty} {f sg r : Int} {e : Bool} (ht : OkT t) (hn : (t.length : Int) ≤ 10) (hs : OkS s) (hw : OkW (.slow f sg r)) : lookN t s (.slow f sg r) e ≤ 680 := by
  have t1 := ht.lo
  have hr : -60 ≤ r ∧ r ≤ 60 := ⟨hw.2.r1, hw.2.r2⟩
  have hs1 := hs.lo
  have hs2 := hs.hi
  unfold lookN
  rw [reachW_slow]
  by_cases h : climbL sg r = true ∧ s.sp = 0
  · rw [if_pos h]
    have hr0 : r ≠ 0 := by have := h.1; unfold climbL at this; simp at this; exact this.2
    have := div180 (absI_pos hr0)
    dsimp only
    omega
  · rw [if_neg h]
    have hc : climbL sg r = true → 0 < s.sp := fun hc => by
      rcases Int.lt_or_lt_of_ne (show s.sp ≠ 0 from fun z => h ⟨hc, z⟩) with z | z
      · omega
      · exact z
    have hb := slowP_b (n := (t.length : Int)) (e := e) (by omega) (by omega) hw.1.1 hw.1.2 hc hs2 hr
    obtain ⟨a1, a2, a3, a4⟩ := fpS_b hc hs2 hr
    have rn := round_n (f := f) (n := (t.length : Int)) (by omega) (by omega)
    obtain ⟨_, _, r3, _⟩ := round_b (f := f) (n := (t.length : Int)) (by omega) (by omega)
    have h2 : (slowP t.length s.sp f sg r e).2 ≤ 480 := by
      have j2 := jointI_le (a := (fpS s.sp sg r).2) (b := (roundI f t.length).2) (by omega) (by omega)
      have j3 : (fpS s.sp sg r).2 * (roundI f t.length).2 ≤ 48 * 10 := Int.mul_le_mul a4 (by omega) (by omega) (by omega)
      unfold slowP
      cases e with
      | true => rw [if_pos rfl]; dsimp only; omega
      | false => rw [if_neg Bool.false_ne_true]; dsimp only; omega
    omega
theorem six_big : (6 : Int) ^ 680 * 10 + 1 < 2 ^ 1900 := by decide +kernel
theorem slow_small {t : List (Option Int)} {s : Sty} {f sg r a b : Int} {x : Str} {e : Bool} (ht : OkT t) (hn : (t.length : Int) ≤ 10) (hw : OkW (.slow f sg r)) (a0 : 1 ≤ a) (a1 : a ≤ 680) (h : lagF t s (.slow f sg r) e 0 a = some (b, x)) : b < 2 ^ 1900 := by
  have t1 := ht.lo
  have hb := lagF_hi h
  have h1 := pow_le hw.1.1 hw.1.2 a.toNat
  have h2 := pow_mono6 (n := a.toNat) (m := 680) (by omega)
  have h0 : 0 < f ^ a.toNat := Int.pow_pos (by have := hw.1.1; omega)
  have h3 := six_big
  have h4 : (t.length : Int) * f ^ a.toNat ≤ 10 * f ^ a.toNat := Int.mul_le_mul_of_nonneg_right hn (by omega)
  have e1 : begW (.slow f sg r) a = 0 := rfl
  have e2 : endT t.length (.slow f sg r) e 0 a = if e then (t.length : Int) * f ^ a.toNat + 1 else t.length := rfl
  rw [e1, e2] at hb
  have h5 : (1 : Int) ≤ 6 ^ 680 := by omega
  generalize (6 : Int) ^ 680 = S at h2 h3 h5
  generalize (2 : Int) ^ 1900 = T at h3 ⊢
  rcases hb with hb | hb
  · split at hb <;> omega
  · omega
theorem big_digits : (2 : Nat) ^ 1900 < 10 ^ 599 := by decide +kernel
theorem int_short {i : Int} (h : i.natAbs < 2 ^ 1900) : (PyData.shown (.int i)).length ≤ 600 := by
  have e := int_text_length_le10 (k := 599) (by decide) (Nat.lt_trans h big_digits)
  show (Str.ofString (toString i)).length ≤ 600
  rw [PySem.ofString_length]; exact e
theorem int_log {i : Int} (h : i.natAbs < 2 ^ 1900) : i.natAbs.log2 < 1900 := by
  by_cases h0 : i.natAbs = 0
  · rw [h0]; decide
  · exact (Nat.log2_lt h0).mpr h
theorem int_sm {i : Int} (h0 : 0 ≤ i) (h1 : i < 2 ^ 1900) : i.natAbs < 2 ^ 1900 := by
  have e : ((2 ^ 1900 : Nat) : Int) = (2 : Int) ^ 1900 := by rw [Int.natCast_pow]; rfl
  rw [← e] at h1
  generalize (2 : Nat) ^ 1900 = T at h1 ⊢
  omega
theorem rep_big {q : Fl} (h0 : q.ok) (b0 : 0 ≤ q.b) (b1 : q.b < 2 ^ 1900) (n0 : 0 ≤ q.n) (n1 : q.n < 2 ^ 1900) (f0 : 0 ≤ q.f) (f1 : q.f < 2 ^ 1900) : Op.repr.sem [eF (some q)] (.str (shO (eF (some q)))) := by
  have hb := int_sm b0 b1
  have hn := int_sm n0 n1
  have hf := int_sm f0 f1
  have big := line_big
  have w : ∀ i : Int, i.natAbs < 2 ^ 1900 → PyData.weight (.int i) ≤ 1900 := fun i hi => by
    have := int_log hi
    simp only [PyData.weight]
    split <;> omega
  have hx : q.x = "barred" ∨ q.x = "tied" := h0
  have ls : PyData.leavesShort 600 (.str q.x) = true := by rcases hx with e | e <;> rw [e] <;> decide +kernel
  have ws : PyData.weight (.str q.x) ≤ 10 := by rcases hx with e | e <;> rw [e] <;> decide +kernel
  have lf : PyData.leavesShort 600 (.tuple [.int q.b, .int q.n, .int q.f, .str q.x]) = true := by
    have li : ∀ i : Int, i.natAbs < 2 ^ 1900 → PyData.leavesShort 600 (.int i) = true := fun i hi => by
      simp only [PyData.leavesShort, decide_eq_true_eq]
      exact int_short hi
    simp only [PyData.leavesShort, PyData.leavesShortAll, Bool.and_true, Bool.and_eq_true]
    exact ⟨li _ hb, li _ hn, li _ hf, ls⟩
  have sh := PyData.shown_le 600 (by decide) _ lf
  have wt : PyData.weight (.tuple [.int q.b, .int q.n, .int q.f, .str q.x]) ≤ 6000 := by
    have h1 := w _ hb
    have h2 := w _ hn
    have h3 := w _ hf
    show PyData.weight (.int q.b) + 1 + (PyData.weight (.int q.n) + 1 + (PyData.weight (.int q.f) + 1 + (PyData.weight (.str q.x) + 1 + 0))) ≤ 6000
    omega
  refine ⟨.tuple [.int q.b, .int q.n, .int q.f, .str q.x], rfl, rfl, ?_, ?_, ?_, rfl⟩
  · have l1 := int_log hb
    have l2 := int_log hn
    have l3 := int_log hf
    simp only [PyData.showable, PyData.showableAll, Bool.and_true, Bool.and_eq_true, decide_eq_true_eq]
    omega
  · simp [PyData.depth, PyData.depthAll]
  · have : (600 + 2) * PyData.weight (.tuple [.int q.b, .int q.n, .int q.f, .str q.x]) ≤ 602 * 6000 := Nat.mul_le_mul_left _ wt
    omega
theorem rep_none : Op.repr.sem [eF none] (.str (shO (eF none))) := (Rp.non (n := 0) (w := 0)).rep (by decide) (by decide)
theorem first_rep {t : List (Option Int)} {s : Sty} {f sg r : Int} {e : Bool} (ht : OkT t) (hn : (t.length : Int) ≤ 10) (hs : OkS s) (hw : OkW (.slow f sg r)) {o : Option Fl} (ho : o = firstF t s (.slow f sg r) e (lookPairs none false (lookN t s (.slow f sg r) e))) : Op.repr.sem [eF o] (.str (shO (eF o))) := by
  have hL := look_ten (e := e) ht hn hs hw
  cases o with
  | none => exact rep_none
  | some q =>
    have big : (10000 : Int) < 2 ^ 1900 := by decide +kernel
    rcases acc_pick _ _ _ ho.symm with z | z
    · cases z
    · obtain ⟨x, hx, ex⟩ := List.mem_map.mp z
      obtain ⟨h1, h2, h3, h4⟩ := pairF_ok ex
      obtain ⟨k1, k2, k3⟩ := mem_look hx
      have x0 : x.1 = 0 := by
        unfold lookPairs at hx
        obtain ⟨k, _, hk⟩ := List.mem_flatMap.mp hx
        unfold rowPairs at hk
        obtain ⟨n, hn, rfl⟩ := List.mem_map.mp hk
        exact List.mem_singleton.mp (show n ∈ [0] from (List.mem_filter.mp hn).1)
      have h2 : 0 ≤ q.b := h2
      have hb : q.b < 2 ^ 1900 := by
        unfold pairF at ex
        rw [x0, Int.zero_add] at ex
        cases zz : lagF t s (.slow f sg r) e 0 x.2 with
        | none => rw [zz] at ex; cases ex
        | some y =>
          rw [zz] at ex
          cases ex
          exact slow_small ht hn hw k2 (by omega) zz
      refine rep_big h1 h2 hb ?_ ?_ ?_ ?_ <;> omega
end Pv

end
section
set_option linter.all false
set_option maxRecDepth 100000
set_option maxHeartbeats 4000000
namespace Pv
open PySem PySem.Spec PyProof.Rows L2
def topS (i : Nat) : Stmt := PySem.Challenge.pw_lagvoices_k11_whole_slow_voices.main.body.getD i (.Pass ⟨0, 0, 0, 0⟩)
abbrev s_is_whole : Stmt := topS 13
def cs_is_whole : Cs := ⟨["thing", "least", "most"], defScope s_is_whole, [], ["bool", "int", "isinstance"], [], []⟩
abbrev s_need_whole : Stmt := topS 14
def cs_need_whole : Cs := ⟨["thing", "least", "most"], defScope s_need_whole, [], [], [("is_whole", 0, 3)], []⟩
abbrev s_is_note : Stmt := topS 15
def cs_is_note : Cs := ⟨["thing"], defScope s_is_note, [("HIGHEST", .int 60), ("LOWEST", .int (-60))], [], [("is_whole", 0, 3)], []⟩
abbrev s_need_tune : Stmt := topS 16
def cs_need_tune : Cs := ⟨["thing", "number", "note"], defScope s_need_tune, [("MOST_NOTES", .int 48)], ["enumerate", "isinstance", "len", "tuple"], [("is_note", 1, 1)], []⟩
abbrev s_is_rising : Stmt := topS 17
def cs_is_rising : Cs := ⟨["thing", "least", "most", "one", "other"], defScope s_is_rising, [], ["all", "isinstance", "tuple", "zip"], [("is_whole", 0, 3)], []⟩
abbrev s_style_fault : Stmt := topS 18
def cs_style_fault : Cs := ⟨["thing", "most", "wrong", "at"], defScope s_style_fault, [("HIGHEST", .int 60), ("MOST_SPAN", .int 24)], ["isinstance", "len", "tuple"], [("is_whole", 0, 3), ("is_rising", 5, 3)], []⟩
abbrev s_need_style : Stmt := topS 19
def cs_need_style : Cs := ⟨["thing", "place"], defScope s_need_style, [], [], [("style_fault", 6, 1)], []⟩
abbrev s_rest_by : Stmt := topS 20
def cs_rest_by : Cs := ⟨["span", "number"], defScope s_rest_by, [], ["int"], [], []⟩
abbrev s_interval_of : Stmt := topS 21
def cs_interval_of : Cs := ⟨["style", "one", "other"], defScope s_interval_of, [], ["abs"], [("rest_by", 8, 2)], []⟩
abbrev s_is_barred_by : Stmt := topS 22
def cs_is_barred_by : Cs := ⟨["style", "one", "other"], defScope s_is_barred_by, [], [], [("interval_of", 113, 3)], []⟩
abbrev s_pair_fault : Stmt := topS 23
def cs_pair_fault : Cs := ⟨["style", "before", "now", "here"], defScope s_pair_fault, [("BARRED", .str "barred"), ("TIED", .str "tied")], [], [("interval_of", 113, 3), ("is_tied", 167, 3)], []⟩
abbrev s_is_tied : Stmt := topS 24
def cs_is_tied : Cs := ⟨["style", "before", "now", "here"], defScope s_is_tied, [], [], [("interval_of", 113, 3)], []⟩
abbrev s_is_map : Stmt := topS 32
def cs_is_map : Cs := ⟨["sign", "rise"], defScope s_is_map, [("MOST_RISE", .int 60)], [], [("is_whole", 0, 3)], []⟩
abbrev s_way_fault : Stmt := topS 33
def cs_way_fault : Cs := ⟨["thing", "bounds"], defScope s_way_fault, [("LAG", .str "lag"), ("LEAST_FACTOR", .int 2), ("MOST_FACTOR", .int 6), ("MOST_LAG", .int 48), ("SLOW", .str "slow")], ["bool", "isinstance", "len", "str", "tuple"], [("is_whole", 0, 3), ("is_map", 123, 2)], []⟩
abbrev s_need_way : Stmt := topS 34
def cs_need_way : Cs := ⟨["thing", "place"], defScope s_need_way, [], [], [("way_fault", 124, 1)], []⟩
abbrev s_need_endless : Stmt := topS 35
def cs_need_endless : Cs := ⟨["endless"], defScope s_need_endless, [], ["bool", "isinstance"], [], []⟩
abbrev s_map_times : Stmt := topS 36
def cs_map_times : Cs := ⟨["way", "pitch", "times"], defScope s_map_times, [], ["int"], [], []⟩
abbrev s_power_of : Stmt := topS 37
def cs_power_of : Cs := ⟨["base", "times", "found", "turn"], defScope s_power_of, [], ["range"], [], []⟩
abbrev s_is_backwards : Stmt := topS 38
def cs_is_backwards : Cs := ⟨["way", "voice"], defScope s_is_backwards, [("LAG", .str "lag")], ["int"], [], []⟩
abbrev s_begin_of : Stmt := topS 39
def cs_begin_of : Cs := ⟨["way", "voice"], defScope s_begin_of, [("LAG", .str "lag")], [], [], []⟩
abbrev s_notes_gone : Stmt := topS 40
def cs_notes_gone : Cs := ⟨["way", "voice", "beats", "found", "laps"], defScope s_notes_gone, [("LAG", .str "lag")], [], [], []⟩
abbrev s_place_at : Stmt := topS 41
def cs_place_at : Cs := ⟨["tune", "way", "voice", "beat", "endless", "own"], defScope s_place_at, [], ["int", "len"], [("is_backwards", 137, 2), ("begin_of", 139, 2), ("notes_gone", 143, 3)], []⟩
abbrev s_sung : Stmt := topS 42
def cs_sung : Cs := ⟨["tune", "way", "voice", "beat", "endless", "place"], defScope s_sung, [], [], [("map_times", 134, 3), ("place_at", 145, 5)], []⟩
abbrev s_common : Stmt := topS 46
def cs_common : Cs := ⟨["one", "other"], defScope s_common, [], ["abs", "int"], [], []⟩
abbrev s_joint : Stmt := topS 47
def cs_joint : Cs := ⟨["one", "other"], defScope s_joint, [], [], [("common", 182, 2)], []⟩
abbrev s_least_over : Stmt := topS 48
def cs_least_over : Cs := ⟨["many", "step"], defScope s_least_over, [], [], [], []⟩
abbrev s_never_together : Stmt := topS 49
def cs_never_together : Cs := ⟨["way", "endless"], defScope s_never_together, [("LAG", .str "lag")], [], [], []⟩
abbrev s_climbs : Stmt := topS 50
def cs_climbs : Cs := ⟨["way"], defScope s_climbs, [], [], [], []⟩
abbrev s_rests_of : Stmt := topS 51
def cs_rests_of : Cs := ⟨["factor", "length", "known", "power"], defScope s_rests_of, [], ["int", "len"], [], []⟩
abbrev s_exponent_over : Stmt := topS 52
def cs_exponent_over : Cs := ⟨["factor", "length", "found", "power"], defScope s_exponent_over, [], [], [], []⟩
abbrev s_reach_of : Stmt := topS 53
def cs_reach_of : Cs := ⟨["length", "style", "way", "endless", "rise", "first", "period", "ahead", "turn"], defScope s_reach_of, [("BEYOND", .int 180), ("CROSSED", .int 120), ("LAG", .str "lag")], ["abs", "max"], [("common", 182, 2), ("joint", 183, 2), ("least_over", 184, 2), ("never_together", 185, 2), ("climbs", 187, 1), ("rests_of", 188, 2), ("exponent_over", 189, 2)], []⟩
abbrev s_need_all : Stmt := topS 56
def cs_need_all : Cs := ⟨["tune", "style", "way"], defScope s_need_all, [], [], [("need_tune", 3, 1), ("need_style", 7, 1), ("need_way", 128, 1)], []⟩
abbrev s_lag_fault : Stmt := topS 57
def cs_lag_fault : Cs := ⟨["tune", "style", "way", "near", "far", "endless", "begin", "end", "before", "beat", "now", "word"], defScope s_lag_fault, [], ["len", "range"], [("pair_fault", 180, 3), ("begin_of", 139, 2), ("sung", 146, 5)], []⟩
abbrev s_note_of : Stmt := topS 58
def cs_note_of : Cs := ⟨["tune", "way", "place", "times"], defScope s_note_of, [], [], [("map_times", 134, 3)], []⟩
abbrev s_slow_barred : Stmt := topS 59
def cs_slow_barred : Cs := ⟨["tune", "style", "way", "apart", "endless", "late", "many", "size", "far", "steps", "more", "near"], defScope s_slow_barred, [], ["int", "len", "max", "min", "range"], [("is_barred_by", 119, 3), ("power_of", 136, 2), ("note_of", 194, 4)], []⟩
abbrev s_slow_tied : Stmt := topS 60
def cs_slow_tied : Cs := ⟨["tune", "style", "way", "apart", "endless", "late", "many", "size", "beat", "now", "before", "here", "there"], defScope s_slow_tied, [], ["int", "len", "range"], [("is_tied", 167, 3), ("power_of", 136, 2), ("note_of", 194, 4)], []⟩
abbrev s_slow_fault : Stmt := topS 61
def cs_slow_fault : Cs := ⟨["tune", "style", "way", "apart", "endless", "barred", "tied"], defScope s_slow_fault, [("BARRED", .str "barred"), ("TIED", .str "tied")], [], [("slow_barred", 195, 5), ("slow_tied", 196, 5)], []⟩
abbrev s_two_fault : Stmt := topS 62
def cs_two_fault : Cs := ⟨["tune", "style", "way", "near", "apart", "endless", "found"], defScope s_two_fault, [("LAG", .str "lag")], [], [("lag_fault", 192, 6), ("slow_fault", 197, 5)], []⟩
abbrev s_nears_of : Stmt := topS 63
def cs_nears_of : Cs := ⟨["way"], defScope s_nears_of, [], [], [("is_backwards", 137, 2)], []⟩
abbrev s_looked_at : Stmt := topS 64
def cs_looked_at : Cs := ⟨["tune", "style", "way", "voices", "endless", "most", "found", "apart", "first", "period", "near"], defScope s_looked_at, [], ["len", "range"], [("reach_of", 190, 4), ("nears_of", 201, 1)], []⟩
abbrev s_first_of : Stmt := topS 65
def cs_first_of : Cs := ⟨["tune", "style", "way", "voices", "endless", "best", "near", "apart", "found"], defScope s_first_of, [], [], [("begin_of", 139, 2), ("two_fault", 199, 6), ("looked_at", 202, 5)], []⟩
abbrev s_need_voices : Stmt := topS 66
def cs_need_voices : Cs := ⟨["voices"], defScope s_need_voices, [("MOST_VOICES", .int 100)], [], [("need_whole", 112, 3)], []⟩
abbrev s_first_fault : Stmt := topS 67
def cs_first_fault : Cs := ⟨["tune", "style", "way", "voices", "endless"], defScope s_first_fault, [], [], [("need_endless", 133, 1), ("need_all", 170, 3), ("first_of", 203, 5), ("need_voices", 204, 1)], []⟩
abbrev s_is_clean : Stmt := topS 68
def cs_is_clean : Cs := ⟨["tune", "style", "way", "voices", "endless"], defScope s_is_clean, [], [], [], [⟨"first_fault", 3, ["voices", "endless"], 206, [none, none]⟩]⟩
abbrev s_most_voices : Stmt := topS 69
def cs_most_voices : Cs := ⟨["tune", "style", "way", "endless", "best", "near", "apart"], defScope s_most_voices, [], [], [("need_endless", 133, 1), ("need_all", 170, 3), ("two_fault", 199, 6), ("looked_at", 202, 5)], []⟩
abbrev s_law_begun : Stmt := topS 71
def cs_law_begun : Cs := ⟨["_law_script", "_law_mixed", "_law_k", "_law_cell"], defScope s_law_begun, [], ["enumerate", "int", "len"], [], []⟩
abbrev s_law_next_2 : Stmt := topS 72
def cs_law_next_2 : Cs := ⟨["_law_draw", "_law_below", "_law_at_here", "_law_mixed", "_law_great", "_law_found"], defScope s_law_next_2, [], ["int", "len", "max"], [], []⟩
abbrev s_law_among : Stmt := topS 73
def cs_law_among : Cs := ⟨["_law_draw", "_law_some"], defScope s_law_among, [], ["len"], [("_law_next", 13, 2)], []⟩
abbrev s_law_rising : Stmt := topS 74
def cs_law_rising : Cs := ⟨["_law_draw", "_law_below", "_law_most", "_law_found", "_law_turn", "_law_one"], defScope s_law_rising, [], ["int", "range", "sorted", "tuple"], [("_law_next", 13, 2)], []⟩
abbrev s_law_style : Stmt := topS 75
def cs_law_style : Cs := ⟨["_law_draw", "_law_span", "_law_below"], defScope s_law_style, [], [], [("_law_next", 13, 2), ("_law_among", 14, 2), ("_law_rising", 15, 3)], []⟩
abbrev s_law_pitches : Stmt := topS 76
def cs_law_pitches : Cs := ⟨["_law_draw", "_law_many", "_law_found", "_law_turn", "_law_wide", "_law_middle"], defScope s_law_pitches, [], ["max", "min", "range"], [("_law_next", 13, 2), ("_law_among", 14, 2)], []⟩
abbrev s_law_tune : Stmt := topS 77
def cs_law_tune : Cs := ⟨["_law_draw", "_law_most", "_law_many", "_law_rests", "_law_pitch"], defScope s_law_tune, [], ["tuple"], [("_law_next", 13, 2), ("_law_among", 14, 2), ("_law_pitches", 17, 2)], []⟩
abbrev s_law_rise : Stmt := topS 78
def cs_law_rise : Cs := ⟨["_law_draw"], defScope s_law_rise, [], [], [("_law_next", 13, 2), ("_law_among", 14, 2)], []⟩
abbrev s_law_way : Stmt := topS 79
def cs_law_way : Cs := ⟨["_law_draw", "_law_lag", "_law_sign", "_law_rise_here"], defScope s_law_way, [], [], [("_law_next", 13, 2), ("_law_among", 14, 2), ("_law_rise", 129, 1)], []⟩
abbrev s_law_power : Stmt := topS 80
def cs_law_power : Cs := ⟨["_law_factor", "_law_laps", "_law_found", "_law_turn"], defScope s_law_power, [], ["range"], [], []⟩
abbrev s_law_note : Stmt := topS 81
def cs_law_note : Cs := ⟨["_law_tune_here", "_law_way_here", "_law_voice", "_law_beat", "_law_for_ever", "_law_begin", "_law_size", "_law_row", "_law_pitch", "_law_turn"], defScope s_law_note, [], ["int", "len", "range"], [("_law_power", 157, 2)], []⟩
abbrev s_law_gap_2 : Stmt := topS 82
def cs_law_gap_2 : Cs := ⟨["_law_style_here", "_law_one", "_law_other", "_law_far_here"], defScope s_law_gap_2, [], ["int", "max", "min"], [], []⟩
abbrev s_law_words : Stmt := topS 83
def cs_law_words : Cs := ⟨["_law_style_here", "_law_was", "_law_now", "_law_gap_here", "_law_found"], defScope s_law_words, [], [], [("_law_gap", 117, 3)], []⟩
abbrev s_law_map : Stmt := topS 84
def cs_law_map : Cs := ⟨["_law_way_here", "_law_pitch", "_law_voice"], defScope s_law_map, [], ["int"], [], []⟩
abbrev s_law_at : Stmt := topS 85
def cs_law_at : Cs := ⟨["_law_tune_here", "_law_way_here", "_law_voice", "_law_beat", "_law_for_ever", "_law_place", "_law_row"], defScope s_law_at, [], ["int", "len"], [("_law_map", 159, 3)], []⟩
abbrev s_law_lag_pair : Stmt := topS 86
def cs_law_lag_pair : Cs := ⟨["_law_tune_here", "_law_style_here", "_law_way_here", "_law_near", "_law_far_here", "_law_for_ever", "_law_beat", "_law_begin", "_law_was", "_law_now", "_law_words_here"], defScope s_law_lag_pair, [], ["len", "range"], [("_law_words", 174, 3), ("_law_at", 160, 5)], []⟩
abbrev s_law_slow_pair_2 : Stmt := topS 87
def cs_law_slow_pair_2 : Cs := ⟨["_law_tune_here", "_law_style_here", "_law_way_here", "_law_apart", "_law_for_ever", "_law_high", "_law_found", "_law_note_here", "_law_size", "_law_far_size", "_law_was", "_law_beat", "_law_begin", "_law_place", "_law_pitch", "_law_now", "_law_words_here"], defScope s_law_slow_pair_2, [], ["int", "len", "min", "range"], [("_law_power", 157, 2), ("_law_words", 174, 3), ("_law_map", 159, 3)], []⟩
abbrev s_law_measure : Stmt := topS 88
def cs_law_measure : Cs := ⟨["_law_one", "_law_other"], defScope s_law_measure, [], ["int"], [], []⟩
abbrev s_law_both : Stmt := topS 89
def cs_law_both : Cs := ⟨["_law_one", "_law_other"], defScope s_law_both, [], [], [("_law_measure", 215, 2)], []⟩
abbrev s_law_round : Stmt := topS 90
def cs_law_round : Cs := ⟨["_law_factor", "_law_size", "_law_known", "_law_one"], defScope s_law_round, [], ["int", "len"], [], []⟩
abbrev s_law_far : Stmt := topS 91
def cs_law_far : Cs := ⟨["_law_size", "_law_style_here", "_law_way_here", "_law_for_ever", "_law_rise_here", "_law_first", "_law_period", "_law_ahead", "_law_turn"], defScope s_law_far, [], ["max"], [("_law_power", 157, 2), ("_law_measure", 215, 2), ("_law_both", 216, 2), ("_law_round", 218, 2)], []⟩
abbrev s_law_clashes : Stmt := topS 92
def cs_law_clashes : Cs := ⟨["_law_tune_here", "_law_style_here", "_law_way_here", "_law_for_ever", "_law_found", "_law_apart", "_law_first", "_law_period", "_law_near"], defScope s_law_clashes, [], ["len", "range"], [("_law_lag_pair", 212, 6), ("_law_slow_pair", 214, 5), ("_law_far", 219, 4)], []⟩
abbrev s_law_heard : Stmt := topS 93
def cs_law_heard : Cs := ⟨["_law_tune_here", "_law_style_here", "_law_way_here", "_law_apart", "_law_endless_so", "_law_beat", "_law_size", "_law_was", "_law_now", "_law_words_here"], defScope s_law_heard, [], ["len", "range"], [("_law_power", 157, 2), ("_law_note", 158, 5), ("_law_words", 174, 3)], []⟩
abbrev s_law : Stmt := topS 94
def cs_law : Cs := ⟨["_law_script", "_law_draw", "_law_turn", "_law_way_here", "_law_kept", "_law_endless_so", "_law_tune_here", "_law_style_here", "_law_found", "_law_due", "_law_most", "_law_apart", "_law_own", "_law_one"], defScope s_law, [], ["len", "min", "range", "repr"], [("_law_begun", 11, 1), ("_law_next", 13, 2), ("_law_style", 16, 1), ("_law_tune", 19, 2), ("_law_way", 130, 1), ("_law_power", 157, 2), ("_law_slow_pair", 214, 5), ("_law_clashes", 221, 4), ("_law_heard", 222, 5)], [⟨"is_clean", 3, ["endless"], 207, [some (.non), none]⟩, ⟨"first_fault", 3, ["endless"], 206, [some (.non), none]⟩, ⟨"most_voices", 3, ["endless"], 211, [none]⟩]⟩
def b_is_whole : Stms := (.cons (.ife (.or (.not (.op (.isi [.int]) (.p 0 .nil))) (.op (.isi [.bool]) (.p 0 .nil))) (.cons (.ret (.k (.bl false)))
    .nil) .nil)
    (.cons (.ret (.and (.or (.op .isN (.p 1 .nil)) (.op .ge (.p 0 (.p 1 .nil)))) (.or (.op .isN (.p 2 .nil)) (.op .le (.p 0 (.p 2 .nil))))))
    .nil))
theorem c_is_whole : cSs (cS 20 30 cs_is_whole []) (defBody s_is_whole) = some b_is_whole := by rfl
theorem sc_is_whole : FnScope cs_is_whole.N ["thing", "least", "most"] (defScope s_is_whole) := ⟨rfl, rfl, rfl, by decide +kernel, rfl, by decide +kernel, by decide +kernel⟩
def b_need_whole : Stms := (.cons (.ife (.not (.call 0 (.x (.v 0) (.x (.v 1) (.x (.v 2) .nil))))) (.cons .raise
    .nil) .nil)
    (.cons (.ret (.v 0))
    .nil))
theorem c_need_whole : cSs (cS 20 30 cs_need_whole []) (defBody s_need_whole) = some b_need_whole := by rfl
theorem sc_need_whole : FnScope cs_need_whole.N ["thing", "least", "most"] (defScope s_need_whole) := ⟨rfl, rfl, rfl, by decide +kernel, rfl, by decide +kernel, by decide +kernel⟩
def b_is_note : Stms := (.cons (.ret (.or (.op .isN (.p 0 .nil)) (.call 0 (.x (.v 0) (.x (.k (.int (-60))) (.x (.k (.int 60)) .nil))))))
    .nil)
theorem c_is_note : cSs (cS 20 30 cs_is_note []) (defBody s_is_note) = some b_is_note := by rfl
theorem sc_is_note : FnScope cs_is_note.N ["thing"] (defScope s_is_note) := ⟨rfl, rfl, rfl, by decide +kernel, rfl, by decide +kernel, by decide +kernel⟩
def b_need_tune : Stms := (.cons (.ife (.or (.not (.op (.isi [.tuple]) (.p 0 .nil))) (.not (.chain .le .le (.k (.int 1)) (.op .len (.p 0 .nil)) (.k (.int 48))))) (.cons .raise
    .nil) .nil)
    (.cons (.for_ (.t [.n 1, .n 2]) (.enum (.x (.v 0) .nil)) (.cons (.ife (.not (.call 1 (.x (.v 2) .nil))) (.cons .raise
    .nil) .nil)
    .nil))
    (.cons (.ret (.v 0))
    .nil)))
theorem c_need_tune : cSs (cS 20 30 cs_need_tune []) (defBody s_need_tune) = some b_need_tune := by rfl
theorem sc_need_tune : FnScope cs_need_tune.N ["thing"] (defScope s_need_tune) := ⟨rfl, rfl, rfl, by decide +kernel, rfl, by decide +kernel, by decide +kernel⟩
def b_is_rising : Stms := (.cons (.ife (.or (.not (.op (.isi [.tuple]) (.p 0 .nil))) (.not (.op .all (.x (.comp [3, 1, 2] [3] (.n 3) (.seq (.x (.v 0) .nil)) .nil (.call 0 (.x (.v 3) (.x (.v 1) (.x (.v 2) .nil))))) .nil)))) (.cons (.ret (.k (.bl false)))
    .nil) .nil)
    (.cons (.ret (.op .all (.x (.comp [] [3, 4] (.t [.n 3, .n 4]) (.zip (.x (.v 0) (.x (.op (.slice true false) (.p 0 (.x (.k (.int 1)) .nil))) .nil))) .nil (.op .lt (.p 3 (.p 4 .nil)))) .nil)))
    .nil))
theorem c_is_rising : cSs (cS 20 30 cs_is_rising []) (defBody s_is_rising) = some b_is_rising := by rfl
theorem sc_is_rising : FnScope cs_is_rising.N ["thing", "least", "most"] (defScope s_is_rising) := ⟨rfl, rfl, rfl, by decide +kernel, rfl, by decide +kernel, by decide +kernel⟩
def b_style_fault : Stms := (.cons (.ife (.or (.not (.op (.isi [.tuple]) (.p 0 .nil))) (.op .ne (.x (.op .len (.p 0 .nil)) (.x (.k (.int 3)) .nil)))) (.cons (.ret (.op .tup .nil))
    .nil) .nil)
    (.cons (.ife (.not (.call 0 (.x (.op .ix (.p 0 (.x (.k (.int 0)) .nil))) (.x (.k (.int 0)) (.x (.k (.int 24)) .nil))))) (.cons (.ret (.op .tup (.x (.k (.int 0)) .nil)))
    .nil) .nil)
    (.cons (.set 1 (.ife (.op .eq (.x (.op .ix (.p 0 (.x (.k (.int 0)) .nil))) (.x (.k (.int 0)) .nil))) (.k (.int 60)) (.op .sub (.x (.op .ix (.p 0 (.x (.k (.int 0)) .nil))) (.x (.k (.int 1)) .nil)))))
    (.cons (.set 2 (.comp [3, 1] [3] (.n 3) (.seq (.x (.op .tup (.x (.k (.int 1)) (.x (.k (.int 2)) .nil))) .nil)) (.x (.not (.call 5 (.x (.op .ix (.p 0 (.p 3 .nil))) (.x (.k (.int 0)) (.x (.v 1) .nil))))) .nil) (.v 3)))
    (.cons (.ret (.ife (.op .ne (.p 2 (.x (.op .lst .nil) .nil))) (.op .tup (.x (.op .ix (.p 2 (.x (.k (.int 0)) .nil))) .nil)) (.k .non)))
    .nil)))))
theorem c_style_fault : cSs (cS 20 30 cs_style_fault []) (defBody s_style_fault) = some b_style_fault := by rfl
theorem sc_style_fault : FnScope cs_style_fault.N ["thing"] (defScope s_style_fault) := ⟨rfl, rfl, rfl, by decide +kernel, rfl, by decide +kernel, by decide +kernel⟩
def b_need_style : Stms := (.cons (.set 1 (.call 6 (.x (.v 0) .nil)))
    (.cons (.ife (.op .notN (.p 1 .nil)) (.cons .raise
    .nil) .nil)
    (.cons (.ret (.v 0))
    .nil)))
theorem c_need_style : cSs (cS 20 30 cs_need_style []) (defBody s_need_style) = some b_need_style := by rfl
theorem sc_need_style : FnScope cs_need_style.N ["thing"] (defScope s_need_style) := ⟨rfl, rfl, rfl, by decide +kernel, rfl, by decide +kernel, by decide +kernel⟩
def b_rest_by : Stms := (.cons (.ret (.ife (.op .eq (.p 0 (.x (.k (.int 0)) .nil))) (.v 1) (.op .mod (.x (.op .int (.p 1 .nil)) (.p 0 .nil)))))
    .nil)
theorem c_rest_by : cSs (cS 20 30 cs_rest_by []) (defBody s_rest_by) = some b_rest_by := by rfl
theorem sc_rest_by : FnScope cs_rest_by.N ["span", "number"] (defScope s_rest_by) := ⟨rfl, rfl, rfl, by decide +kernel, rfl, by decide +kernel, by decide +kernel⟩
def b_interval_of : Stms := (.cons (.ret (.call 8 (.x (.op .ix (.p 0 (.x (.k (.int 0)) .nil))) (.x (.op .abs (.x (.op .sub (.p 1 (.p 2 .nil))) .nil)) .nil))))
    .nil)
theorem c_interval_of : cSs (cS 20 30 cs_interval_of []) (defBody s_interval_of) = some b_interval_of := by rfl
theorem sc_interval_of : FnScope cs_interval_of.N ["style", "one", "other"] (defScope s_interval_of) := ⟨rfl, rfl, rfl, by decide +kernel, rfl, by decide +kernel, by decide +kernel⟩
def b_is_barred_by : Stms := (.cons (.ret (.op .in_ (.x (.call 113 (.x (.v 0) (.x (.v 1) (.x (.v 2) .nil)))) (.x (.op .ix (.p 0 (.x (.k (.int 1)) .nil))) .nil))))
    .nil)
theorem c_is_barred_by : cSs (cS 20 30 cs_is_barred_by []) (defBody s_is_barred_by) = some b_is_barred_by := by rfl
theorem sc_is_barred_by : FnScope cs_is_barred_by.N ["style", "one", "other"] (defScope s_is_barred_by) := ⟨rfl, rfl, rfl, by decide +kernel, rfl, by decide +kernel, by decide +kernel⟩
def b_pair_fault : Stms := (.cons (.ife (.op .in_ (.x (.k .non) (.p 2 .nil))) (.cons (.ret (.k (.str "")))
    .nil) .nil)
    (.cons (.set 3 (.call 113 (.x (.v 0) (.x (.op .ix (.p 2 (.x (.k (.int 0)) .nil))) (.x (.op .ix (.p 2 (.x (.k (.int 1)) .nil))) .nil)))))
    (.cons (.ife (.op .in_ (.p 3 (.x (.op .ix (.p 0 (.x (.k (.int 1)) .nil))) .nil))) (.cons (.ret (.k (.str "barred")))
    .nil) .nil)
    (.cons (.ret (.ife (.call 167 (.x (.v 0) (.x (.v 1) (.x (.v 2) .nil)))) (.k (.str "tied")) (.k (.str ""))))
    .nil))))
theorem c_pair_fault : cSs (cS 20 30 cs_pair_fault []) (defBody s_pair_fault) = some b_pair_fault := by rfl
theorem sc_pair_fault : FnScope cs_pair_fault.N ["style", "before", "now"] (defScope s_pair_fault) := ⟨rfl, rfl, rfl, by decide +kernel, rfl, by decide +kernel, by decide +kernel⟩
def b_is_tied : Stms := (.cons (.ife (.or (.op .in_ (.x (.k .non) (.p 2 .nil))) (.or (.op .in_ (.x (.k .non) (.p 1 .nil))) (.or (.op .eq (.x (.op .ix (.p 1 (.x (.k (.int 0)) .nil))) (.x (.op .ix (.p 2 (.x (.k (.int 0)) .nil))) .nil))) (.op .eq (.x (.op .ix (.p 1 (.x (.k (.int 1)) .nil))) (.x (.op .ix (.p 2 (.x (.k (.int 1)) .nil))) .nil)))))) (.cons (.ret (.k (.bl false)))
    .nil) .nil)
    (.cons (.set 3 (.call 113 (.x (.v 0) (.x (.op .ix (.p 2 (.x (.k (.int 0)) .nil))) (.x (.op .ix (.p 2 (.x (.k (.int 1)) .nil))) .nil)))))
    (.cons (.ret (.and (.op .in_ (.p 3 (.x (.op .ix (.p 0 (.x (.k (.int 2)) .nil))) .nil))) (.op .eq (.p 3 (.x (.call 113 (.x (.v 0) (.x (.op .ix (.p 1 (.x (.k (.int 0)) .nil))) (.x (.op .ix (.p 1 (.x (.k (.int 1)) .nil))) .nil)))) .nil)))))
    .nil)))
theorem c_is_tied : cSs (cS 20 30 cs_is_tied []) (defBody s_is_tied) = some b_is_tied := by rfl
theorem sc_is_tied : FnScope cs_is_tied.N ["style", "before", "now"] (defScope s_is_tied) := ⟨rfl, rfl, rfl, by decide +kernel, rfl, by decide +kernel, by decide +kernel⟩
def b_is_map : Stms := (.cons (.ret (.and (.call 0 (.x (.v 0) (.x (.op .neg (.x (.k (.int 1)) .nil)) (.x (.k (.int 1)) .nil)))) (.and (.op .ne (.p 0 (.x (.k (.int 0)) .nil))) (.call 0 (.x (.v 1) (.x (.op .sub (.x (.k (.int 0)) (.x (.k (.int 60)) .nil))) (.x (.k (.int 60)) .nil)))))))
    .nil)
theorem c_is_map : cSs (cS 20 30 cs_is_map []) (defBody s_is_map) = some b_is_map := by rfl
theorem sc_is_map : FnScope cs_is_map.N ["sign", "rise"] (defScope s_is_map) := ⟨rfl, rfl, rfl, by decide +kernel, rfl, by decide +kernel, by decide +kernel⟩
def b_way_fault : Stms := (.cons (.ife (.or (.not (.op (.isi [.tuple]) (.p 0 .nil))) (.or (.op .notIn (.x (.op .len (.p 0 .nil)) (.x (.op .tup (.x (.k (.int 4)) (.x (.k (.int 5)) .nil))) .nil))) (.not (.op (.isi [.str]) (.x (.op .ix (.p 0 (.x (.k (.int 0)) .nil))) .nil))))) (.cons (.ret (.op .tup .nil))
    .nil) .nil)
    (.cons (.ife (.op .ne (.x (.op .ix (.p 0 (.x (.k (.int 0)) .nil))) (.x (.ife (.op .eq (.x (.op .len (.p 0 .nil)) (.x (.k (.int 4)) .nil))) (.k (.str "slow")) (.k (.str "lag"))) .nil))) (.cons (.ret (.op .tup .nil))
    .nil) .nil)
    (.cons (.set 1 (.ife (.op .eq (.x (.op .ix (.p 0 (.x (.k (.int 0)) .nil))) (.x (.k (.str "lag")) .nil))) (.op .tup (.x (.k (.int 0)) (.x (.k (.int 48)) .nil))) (.op .tup (.x (.k (.int 2)) (.x (.k (.int 6)) .nil)))))
    (.cons (.ife (.not (.call 0 (.x (.op .ix (.p 0 (.x (.k (.int 1)) .nil))) (.x (.op .ix (.p 1 (.x (.k (.int 0)) .nil))) (.x (.op .ix (.p 1 (.x (.k (.int 1)) .nil))) .nil))))) (.cons (.ret (.op .tup (.x (.k (.int 1)) .nil)))
    .nil) .nil)
    (.cons (.ife (.not (.call 123 (.x (.op .ix (.p 0 (.x (.k (.int 2)) .nil))) (.x (.k (.int 0)) .nil)))) (.cons (.ret (.op .tup (.x (.k (.int 2)) .nil)))
    .nil) .nil)
    (.cons (.ife (.not (.call 123 (.x (.k (.int 1)) (.x (.op .ix (.p 0 (.x (.k (.int 3)) .nil))) .nil)))) (.cons (.ret (.op .tup (.x (.k (.int 3)) .nil)))
    .nil) .nil)
    (.cons (.ret (.ife (.and (.op .eq (.x (.op .ix (.p 0 (.x (.k (.int 0)) .nil))) (.x (.k (.str "lag")) .nil))) (.not (.op (.isi [.bool]) (.x (.op .ix (.p 0 (.x (.k (.int 4)) .nil))) .nil)))) (.op .tup (.x (.k (.int 4)) .nil)) (.k .non)))
    .nil)))))))
theorem c_way_fault : cSs (cS 20 30 cs_way_fault []) (defBody s_way_fault) = some b_way_fault := by rfl
theorem sc_way_fault : FnScope cs_way_fault.N ["thing"] (defScope s_way_fault) := ⟨rfl, rfl, rfl, by decide +kernel, rfl, by decide +kernel, by decide +kernel⟩
def b_need_way : Stms := (.cons (.set 1 (.call 124 (.x (.v 0) .nil)))
    (.cons (.ife (.op .notN (.p 1 .nil)) (.cons .raise
    .nil) .nil)
    (.cons (.ret (.v 0))
    .nil)))
theorem c_need_way : cSs (cS 20 30 cs_need_way []) (defBody s_need_way) = some b_need_way := by rfl
theorem sc_need_way : FnScope cs_need_way.N ["thing"] (defScope s_need_way) := ⟨rfl, rfl, rfl, by decide +kernel, rfl, by decide +kernel, by decide +kernel⟩
def b_need_endless : Stms := (.cons (.ife (.not (.op (.isi [.bool]) (.p 0 .nil))) (.cons .raise
    .nil) .nil)
    .nil)
theorem c_need_endless : cSs (cS 20 30 cs_need_endless []) (defBody s_need_endless) = some b_need_endless := by rfl
theorem sc_need_endless : FnScope cs_need_endless.N ["endless"] (defScope s_need_endless) := ⟨rfl, rfl, rfl, by decide +kernel, rfl, by decide +kernel, by decide +kernel⟩
def b_map_times : Stms := (.cons (.ife (.op .eq (.x (.op .ix (.p 0 (.x (.k (.int 2)) .nil))) (.x (.k (.int 1)) .nil))) (.cons (.ret (.op .add (.p 1 (.x (.op .mul (.p 2 (.x (.op .ix (.p 0 (.x (.k (.int 3)) .nil))) .nil))) .nil))))
    .nil) .nil)
    (.cons (.ret (.ife (.op .eq (.x (.op .mod (.x (.op .int (.p 2 .nil)) (.x (.k (.int 2)) .nil))) (.x (.k (.int 0)) .nil))) (.v 1) (.op .sub (.x (.op .ix (.p 0 (.x (.k (.int 3)) .nil))) (.p 1 .nil)))))
    .nil))
theorem c_map_times : cSs (cS 20 30 cs_map_times []) (defBody s_map_times) = some b_map_times := by rfl
theorem sc_map_times : FnScope cs_map_times.N ["way", "pitch", "times"] (defScope s_map_times) := ⟨rfl, rfl, rfl, by decide +kernel, rfl, by decide +kernel, by decide +kernel⟩
def b_power_of : Stms := (.cons (.set 2 (.k (.int 1)))
    (.cons (.for_ (.n 3) (.rng (.x (.v 1) .nil)) (.cons (.set 2 (.op .mul (.p 2 (.p 0 .nil))))
    .nil))
    (.cons (.ret (.v 2))
    .nil)))
theorem c_power_of : cSs (cS 20 30 cs_power_of []) (defBody s_power_of) = some b_power_of := by rfl
theorem sc_power_of : FnScope cs_power_of.N ["base", "times"] (defScope s_power_of) := ⟨rfl, rfl, rfl, by decide +kernel, rfl, by decide +kernel, by decide +kernel⟩
def b_is_backwards : Stms := (.cons (.ret (.and (.op .eq (.x (.op .ix (.p 0 (.x (.k (.int 0)) .nil))) (.x (.k (.str "lag")) .nil))) (.and (.op .ix (.p 0 (.x (.k (.int 4)) .nil))) (.op .eq (.x (.op .mod (.x (.op .int (.p 1 .nil)) (.x (.k (.int 2)) .nil))) (.x (.k (.int 1)) .nil))))))
    .nil)
theorem c_is_backwards : cSs (cS 20 30 cs_is_backwards []) (defBody s_is_backwards) = some b_is_backwards := by rfl
theorem sc_is_backwards : FnScope cs_is_backwards.N ["way", "voice"] (defScope s_is_backwards) := ⟨rfl, rfl, rfl, by decide +kernel, rfl, by decide +kernel, by decide +kernel⟩
def b_begin_of : Stms := (.cons (.ret (.ife (.op .eq (.x (.op .ix (.p 0 (.x (.k (.int 0)) .nil))) (.x (.k (.str "lag")) .nil))) (.op .mul (.p 1 (.x (.op .ix (.p 0 (.x (.k (.int 1)) .nil))) .nil))) (.k (.int 0))))
    .nil)
theorem c_begin_of : cSs (cS 20 30 cs_begin_of []) (defBody s_begin_of) = some b_begin_of := by rfl
theorem sc_begin_of : FnScope cs_begin_of.N ["way", "voice"] (defScope s_begin_of) := ⟨rfl, rfl, rfl, by decide +kernel, rfl, by decide +kernel, by decide +kernel⟩
def b_notes_gone : Stms := (.cons (.par [3, 4] (.val (.v 2) (.val (.ife (.op .eq (.x (.op .ix (.p 0 (.x (.k (.int 0)) .nil))) (.x (.k (.str "lag")) .nil))) (.k (.int 0)) (.v 1)) .nil)))
    (.cons (.while_ (.and (.op .gt (.p 4 (.x (.k (.int 0)) .nil))) (.op .gt (.p 3 (.x (.k (.int 0)) .nil)))) (.cons (.par [3, 4] (.val (.op .fdiv (.p 3 (.x (.op .ix (.p 0 (.x (.k (.int 1)) .nil))) .nil))) (.val (.op .sub (.p 4 (.x (.k (.int 1)) .nil))) .nil)))
    .nil))
    (.cons (.ret (.v 3))
    .nil)))
theorem c_notes_gone : cSs (cS 20 30 cs_notes_gone []) (defBody s_notes_gone) = some b_notes_gone := by rfl
theorem sc_notes_gone : FnScope cs_notes_gone.N ["way", "voice", "beats"] (defScope s_notes_gone) := ⟨rfl, rfl, rfl, by decide +kernel, rfl, by decide +kernel, by decide +kernel⟩
def b_place_at : Stms := (.cons (.set 5 (.op .sub (.p 3 (.x (.call 139 (.x (.v 1) (.x (.v 2) .nil))) .nil))))
    (.cons (.ife (.op .lt (.p 5 (.x (.k (.int 0)) .nil))) (.cons (.ret (.op .neg (.x (.k (.int 1)) .nil)))
    .nil) .nil)
    (.cons (.set 5 (.call 143 (.x (.v 1) (.x (.v 2) (.x (.v 5) .nil)))))
    (.cons (.ife (.and (.op .ge (.p 5 (.x (.op .len (.p 0 .nil)) .nil))) (.not (.v 4))) (.cons (.ret (.op .neg (.x (.k (.int 1)) .nil)))
    .nil) .nil)
    (.cons (.set 5 (.op .mod (.x (.op .int (.p 5 .nil)) (.x (.op .len (.p 0 .nil)) .nil))))
    (.cons (.ret (.ife (.call 137 (.x (.v 1) (.x (.v 2) .nil))) (.op .sub (.x (.op .sub (.x (.op .len (.p 0 .nil)) (.x (.k (.int 1)) .nil))) (.p 5 .nil))) (.v 5)))
    .nil))))))
theorem c_place_at : cSs (cS 20 30 cs_place_at []) (defBody s_place_at) = some b_place_at := by rfl
theorem sc_place_at : FnScope cs_place_at.N ["tune", "way", "voice", "beat", "endless"] (defScope s_place_at) := ⟨rfl, rfl, rfl, by decide +kernel, rfl, by decide +kernel, by decide +kernel⟩
def b_sung : Stms := (.cons (.set 5 (.call 145 (.x (.v 0) (.x (.v 1) (.x (.v 2) (.x (.v 3) (.x (.v 4) .nil)))))))
    (.cons (.ife (.or (.op .lt (.p 5 (.x (.k (.int 0)) .nil))) (.op .isN (.x (.op .ix (.p 0 (.p 5 .nil))) .nil))) (.cons (.ret (.k .non))
    .nil) .nil)
    (.cons (.ret (.call 134 (.x (.v 1) (.x (.op .ix (.p 0 (.p 5 .nil))) (.x (.v 2) .nil)))))
    .nil)))
theorem c_sung : cSs (cS 20 30 cs_sung []) (defBody s_sung) = some b_sung := by rfl
theorem sc_sung : FnScope cs_sung.N ["tune", "way", "voice", "beat", "endless"] (defScope s_sung) := ⟨rfl, rfl, rfl, by decide +kernel, rfl, by decide +kernel, by decide +kernel⟩
def b_common : Stms := (.cons (.while_ (.op .ne (.p 1 (.x (.k (.int 0)) .nil))) (.cons (.par [0, 1] (.val (.v 1) (.val (.op .mod (.x (.op .int (.p 0 .nil)) (.p 1 .nil))) .nil)))
    .nil))
    (.cons (.ret (.op .abs (.p 0 .nil)))
    .nil))
theorem c_common : cSs (cS 20 30 cs_common []) (defBody s_common) = some b_common := by rfl
theorem sc_common : FnScope cs_common.N ["one", "other"] (defScope s_common) := ⟨rfl, rfl, rfl, by decide +kernel, rfl, by decide +kernel, by decide +kernel⟩
def b_joint : Stms := (.cons (.ret (.op .mul (.x (.op .fdiv (.p 0 (.x (.call 182 (.x (.v 0) (.x (.v 1) .nil))) .nil))) (.p 1 .nil))))
    .nil)
theorem c_joint : cSs (cS 20 30 cs_joint []) (defBody s_joint) = some b_joint := by rfl
theorem sc_joint : FnScope cs_joint.N ["one", "other"] (defScope s_joint) := ⟨rfl, rfl, rfl, by decide +kernel, rfl, by decide +kernel, by decide +kernel⟩
def b_least_over : Stms := (.cons (.ret (.op .fdiv (.x (.op .sub (.x (.op .add (.p 0 (.p 1 .nil))) (.x (.k (.int 1)) .nil))) (.p 1 .nil))))
    .nil)
theorem c_least_over : cSs (cS 20 30 cs_least_over []) (defBody s_least_over) = some b_least_over := by rfl
theorem sc_least_over : FnScope cs_least_over.N ["many", "step"] (defScope s_least_over) := ⟨rfl, rfl, rfl, by decide +kernel, rfl, by decide +kernel, by decide +kernel⟩
def b_never_together : Stms := (.cons (.ret (.and (.op .eq (.x (.op .ix (.p 0 (.x (.k (.int 0)) .nil))) (.x (.k (.str "lag")) .nil))) (.and (.not (.v 1)) (.op .gt (.x (.op .ix (.p 0 (.x (.k (.int 1)) .nil))) (.x (.k (.int 0)) .nil))))))
    .nil)
theorem c_never_together : cSs (cS 20 30 cs_never_together []) (defBody s_never_together) = some b_never_together := by rfl
theorem sc_never_together : FnScope cs_never_together.N ["way", "endless"] (defScope s_never_together) := ⟨rfl, rfl, rfl, by decide +kernel, rfl, by decide +kernel, by decide +kernel⟩
def b_climbs : Stms := (.cons (.ret (.and (.op .eq (.x (.op .ix (.p 0 (.x (.k (.int 2)) .nil))) (.x (.k (.int 1)) .nil))) (.op .ne (.x (.op .ix (.p 0 (.x (.k (.int 3)) .nil))) (.x (.k (.int 0)) .nil)))))
    .nil)
theorem c_climbs : cSs (cS 20 30 cs_climbs []) (defBody s_climbs) = some b_climbs := by rfl
theorem sc_climbs : FnScope cs_climbs.N ["way"] (defScope s_climbs) := ⟨rfl, rfl, rfl, by decide +kernel, rfl, by decide +kernel, by decide +kernel⟩
def b_rests_of : Stms := (.cons (.par [2, 3] (.own (.op .lst .nil) (.val (.op .mod (.x (.op .int (.x (.k (.int 1)) .nil)) (.p 1 .nil))) .nil)))
    (.cons (.while_ (.op .notIn (.p 3 (.p 2 .nil))) (.cons (.app 2 (.v 3))
    (.cons (.set 3 (.op .mod (.x (.op .int (.x (.op .mul (.p 3 (.p 0 .nil))) .nil)) (.p 1 .nil))))
    .nil)))
    (.cons (.ret (.op .tup (.x (.on .list (.v 2) .index (.x (.v 3) .nil)) (.x (.op .sub (.x (.op .len (.p 2 .nil)) (.x (.on .list (.v 2) .index (.x (.v 3) .nil)) .nil))) .nil))))
    .nil)))
theorem c_rests_of : cSs (cS 20 30 cs_rests_of [2]) (defBody s_rests_of) = some b_rests_of := by rfl
theorem sc_rests_of : FnScope cs_rests_of.N ["factor", "length"] (defScope s_rests_of) := ⟨rfl, rfl, rfl, by decide +kernel, rfl, by decide +kernel, by decide +kernel⟩
def b_exponent_over : Stms := (.cons (.tg (.t [.n 2, .n 3]) (.op .tup (.x (.k (.int 0)) (.x (.k (.int 1)) .nil))))
    (.cons (.while_ (.op .lt (.p 3 (.p 1 .nil))) (.cons (.par [2, 3] (.val (.op .add (.p 2 (.x (.k (.int 1)) .nil))) (.val (.op .mul (.p 3 (.p 0 .nil))) .nil)))
    .nil))
    (.cons (.ret (.v 2))
    .nil)))
theorem c_exponent_over : cSs (cS 20 30 cs_exponent_over []) (defBody s_exponent_over) = some b_exponent_over := by rfl
theorem sc_exponent_over : FnScope cs_exponent_over.N ["factor", "length"] (defScope s_exponent_over) := ⟨rfl, rfl, rfl, by decide +kernel, rfl, by decide +kernel, by decide +kernel⟩
def b_reach_of : Stms := (.cons (.set 4 (.op .abs (.x (.op .ix (.p 2 (.x (.k (.int 3)) .nil))) .nil)))
    (.cons (.ife (.call 185 (.x (.v 2) (.x (.v 3) .nil))) (.cons (.ret (.op .tup (.x (.call 184 (.x (.v 0) (.x (.op .ix (.p 2 (.x (.k (.int 1)) .nil))) .nil))) (.x (.k (.int 1)) .nil))))
    .nil) .nil)
    (.cons (.ife (.and (.call 187 (.x (.v 2) .nil)) (.op .eq (.x (.op .ix (.p 1 (.x (.k (.int 0)) .nil))) (.x (.k (.int 0)) .nil)))) (.cons (.ret (.op .tup (.x (.op .add (.x (.op .fdiv (.x (.k (.int 180)) (.p 4 .nil))) (.x (.k (.int 1)) .nil))) (.x (.k (.int 1)) .nil))))
    .nil) .nil)
    (.cons (.par [5, 6] (.val (.k (.int 0)) (.val (.ife (.or (.op .eq (.x (.op .ix (.p 2 (.x (.k (.int 2)) .nil))) (.x (.op .neg (.x (.k (.int 1)) .nil)) .nil))) (.and (.op .eq (.x (.op .ix (.p 2 (.x (.k (.int 0)) .nil))) (.x (.k (.str "lag")) .nil))) (.op .ix (.p 2 (.x (.k (.int 4)) .nil))))) (.k (.int 2)) (.k (.int 1))) .nil)))
    (.cons (.ife (.call 187 (.x (.v 2) .nil)) (.cons (.par [5, 6] (.val (.call 184 (.x (.k (.int 120)) (.x (.v 4) .nil))) (.val (.call 183 (.x (.v 6) (.x (.op .fdiv (.x (.op .ix (.p 1 (.x (.k (.int 0)) .nil))) (.x (.call 182 (.x (.op .ix (.p 1 (.x (.k (.int 0)) .nil))) (.x (.v 4) .nil))) .nil))) .nil))) .nil)))
    .nil) .nil)
    (.cons (.ife (.and (.op .eq (.x (.op .ix (.p 2 (.x (.k (.int 0)) .nil))) (.x (.k (.str "lag")) .nil))) (.v 3)) (.cons (.set 6 (.call 183 (.x (.v 6) (.x (.op .fdiv (.p 0 (.x (.call 182 (.x (.v 0) (.x (.op .ix (.p 2 (.x (.k (.int 1)) .nil))) .nil))) .nil))) .nil))))
    .nil) .nil)
    (.cons (.ife (.op .ne (.x (.op .ix (.p 2 (.x (.k (.int 0)) .nil))) (.x (.k (.str "lag")) .nil))) (.cons (.set 5 (.op .max2 (.p 5 (.x (.call 189 (.x (.op .ix (.p 2 (.x (.k (.int 1)) .nil))) (.x (.v 0) .nil))) .nil))))
    (.cons (.ife (.v 3) (.cons (.tg (.t [.n 7, .n 8]) (.call 188 (.x (.op .ix (.p 2 (.x (.k (.int 1)) .nil))) (.x (.v 0) .nil))))
    (.cons (.par [5, 6] (.val (.op .max2 (.p 5 (.p 7 .nil))) (.val (.call 183 (.x (.v 6) (.x (.v 8) .nil))) .nil)))
    .nil)) .nil)
    .nil)) .nil)
    (.cons (.ret (.op .tup (.x (.v 5) (.x (.v 6) .nil))))
    .nil))))))))
theorem c_reach_of : cSs (cS 20 30 cs_reach_of []) (defBody s_reach_of) = some b_reach_of := by rfl
theorem sc_reach_of : FnScope cs_reach_of.N ["length", "style", "way", "endless"] (defScope s_reach_of) := ⟨rfl, rfl, rfl, by decide +kernel, rfl, by decide +kernel, by decide +kernel⟩
def b_need_all : Stms := (.cons (.expr (.call 3 (.x (.v 0) .nil)))
    (.cons (.expr (.call 7 (.x (.v 1) .nil)))
    (.cons (.expr (.call 128 (.x (.v 2) .nil)))
    .nil)))
theorem c_need_all : cSs (cS 20 30 cs_need_all []) (defBody s_need_all) = some b_need_all := by rfl
theorem sc_need_all : FnScope cs_need_all.N ["tune", "style", "way"] (defScope s_need_all) := ⟨rfl, rfl, rfl, by decide +kernel, rfl, by decide +kernel, by decide +kernel⟩
def b_lag_fault : Stms := (.cons (.set 6 (.call 139 (.x (.v 2) (.x (.v 4) .nil))))
    (.cons (.set 7 (.ife (.v 5) (.op .add (.x (.op .add (.p 6 (.x (.op .len (.p 0 .nil)) .nil))) (.x (.k (.int 1)) .nil))) (.op .add (.x (.call 139 (.x (.v 2) (.x (.v 3) .nil))) (.x (.op .len (.p 0 .nil)) .nil)))))
    (.cons (.set 8 (.op .tup (.x (.k .non) (.x (.k .non) .nil))))
    (.cons (.for_ (.n 9) (.rng (.x (.v 6) (.x (.v 7) .nil))) (.cons (.set 10 (.op .tup (.x (.call 146 (.x (.v 0) (.x (.v 2) (.x (.v 3) (.x (.v 9) (.x (.v 5) .nil)))))) (.x (.call 146 (.x (.v 0) (.x (.v 2) (.x (.v 4) (.x (.v 9) (.x (.v 5) .nil)))))) .nil))))
    (.cons (.set 11 (.call 180 (.x (.v 1) (.x (.v 8) (.x (.v 10) .nil)))))
    (.cons (.ife (.op .ne (.p 11 (.x (.k (.str "")) .nil))) (.cons (.ret (.op .tup (.x (.v 9) (.x (.v 11) .nil))))
    .nil) .nil)
    (.cons (.set 8 (.v 10))
    .nil)))))
    (.cons (.ret (.k .non))
    .nil)))))
theorem c_lag_fault : cSs (cS 20 30 cs_lag_fault []) (defBody s_lag_fault) = some b_lag_fault := by rfl
theorem sc_lag_fault : FnScope cs_lag_fault.N ["tune", "style", "way", "near", "far", "endless"] (defScope s_lag_fault) := ⟨rfl, rfl, rfl, by decide +kernel, rfl, by decide +kernel, by decide +kernel⟩
def b_note_of : Stms := (.cons (.ret (.ife (.op .isN (.x (.op .ix (.p 0 (.p 2 .nil))) .nil)) (.k .non) (.call 134 (.x (.v 1) (.x (.op .ix (.p 0 (.p 2 .nil))) (.x (.v 3) .nil))))))
    .nil)
theorem c_note_of : cSs (cS 20 30 cs_note_of []) (defBody s_note_of) = some b_note_of := by rfl
theorem sc_note_of : FnScope cs_note_of.N ["tune", "way", "place", "times"] (defScope s_note_of) := ⟨rfl, rfl, rfl, by decide +kernel, rfl, by decide +kernel, by decide +kernel⟩
def b_slow_barred : Stms := (.cons (.par [6, 7] (.val (.op .len (.p 0 .nil)) (.val (.call 136 (.x (.op .ix (.p 2 (.x (.k (.int 1)) .nil))) (.x (.v 3) .nil))) .nil)))
    (.cons (.for_ (.n 5) (.rng (.x (.v 6) .nil)) (.cons (.set 8 (.call 194 (.x (.v 0) (.x (.v 2) (.x (.v 5) (.x (.v 3) .nil))))))
    (.cons (.set 9 (.ife (.v 4) (.op .min2 (.p 7 (.p 6 .nil))) (.op .max2 (.x (.k (.int 0)) (.x (.op .min2 (.p 7 (.x (.op .sub (.p 6 (.x (.op .mul (.p 5 (.p 7 .nil))) .nil))) .nil))) .nil)))))
    (.cons (.for_ (.n 10) (.rng (.x (.ife (.op .notN (.p 8 .nil)) (.v 9) (.k (.int 0))) .nil)) (.cons (.set 11 (.op .ix (.p 0 (.x (.op .mod (.x (.op .int (.x (.op .add (.x (.op .mul (.p 5 (.p 7 .nil))) (.p 10 .nil))) .nil)) (.p 6 .nil))) .nil))))
    (.cons (.ife (.and (.op .notN (.p 11 .nil)) (.call 119 (.x (.v 1) (.x (.v 11) (.x (.v 8) .nil))))) (.cons (.ret (.op .add (.x (.op .mul (.p 5 (.p 7 .nil))) (.p 10 .nil))))
    .nil) .nil)
    .nil)))
    .nil))))
    (.cons (.ret (.k .non))
    .nil)))
theorem c_slow_barred : cSs (cS 20 30 cs_slow_barred []) (defBody s_slow_barred) = some b_slow_barred := by rfl
theorem sc_slow_barred : FnScope cs_slow_barred.N ["tune", "style", "way", "apart", "endless"] (defScope s_slow_barred) := ⟨rfl, rfl, rfl, by decide +kernel, rfl, by decide +kernel, by decide +kernel⟩
def b_slow_tied : Stms := (.cons (.par [6, 7] (.val (.op .len (.p 0 .nil)) (.val (.call 136 (.x (.op .ix (.p 2 (.x (.k (.int 1)) .nil))) (.x (.v 3) .nil))) .nil)))
    (.cons (.for_ (.n 5) (.rng (.x (.k (.int 1)) (.x (.op .add (.p 6 (.x (.k (.int 1)) .nil))) .nil))) (.cons (.set 8 (.op .mul (.p 5 (.p 7 .nil))))
    (.cons (.ife (.and (.not (.v 4)) (.op .ge (.p 8 (.p 6 .nil)))) (.cons (.ret (.k .non))
    .nil) .nil)
    (.cons (.par [11, 12] (.val (.op .mod (.x (.op .int (.p 8 .nil)) (.p 6 .nil))) (.val (.op .mod (.x (.op .int (.p 5 .nil)) (.p 6 .nil))) .nil)))
    (.cons (.set 9 (.op .tup (.x (.op .ix (.p 0 (.p 11 .nil))) (.x (.call 194 (.x (.v 0) (.x (.v 2) (.x (.v 12) (.x (.v 3) .nil))))) .nil))))
    (.cons (.set 10 (.op .tup (.x (.op .ix (.p 0 (.x (.op .mod (.x (.op .int (.x (.op .sub (.p 8 (.x (.k (.int 1)) .nil))) .nil)) (.p 6 .nil))) .nil))) (.x (.call 194 (.x (.v 0) (.x (.v 2) (.x (.op .sub (.p 5 (.x (.k (.int 1)) .nil))) (.x (.v 3) .nil))))) .nil))))
    (.cons (.ife (.call 167 (.x (.v 1) (.x (.v 10) (.x (.v 9) .nil)))) (.cons (.ret (.v 8))
    .nil) .nil)
    .nil)))))))
    (.cons (.ret (.k .non))
    .nil)))
theorem c_slow_tied : cSs (cS 20 30 cs_slow_tied []) (defBody s_slow_tied) = some b_slow_tied := by rfl
theorem sc_slow_tied : FnScope cs_slow_tied.N ["tune", "style", "way", "apart", "endless"] (defScope s_slow_tied) := ⟨rfl, rfl, rfl, by decide +kernel, rfl, by decide +kernel, by decide +kernel⟩
def b_slow_fault : Stms := (.cons (.par [5, 6] (.val (.call 195 (.x (.v 0) (.x (.v 1) (.x (.v 2) (.x (.v 3) (.x (.v 4) .nil)))))) (.val (.call 196 (.x (.v 0) (.x (.v 1) (.x (.v 2) (.x (.v 3) (.x (.v 4) .nil)))))) .nil)))
    (.cons (.ife (.and (.op .notN (.p 5 .nil)) (.or (.op .isN (.p 6 .nil)) (.op .le (.p 5 (.p 6 .nil))))) (.cons (.ret (.op .tup (.x (.v 5) (.x (.k (.str "barred")) .nil))))
    .nil) .nil)
    (.cons (.ret (.ife (.op .isN (.p 6 .nil)) (.k .non) (.op .tup (.x (.v 6) (.x (.k (.str "tied")) .nil)))))
    .nil)))
theorem c_slow_fault : cSs (cS 20 30 cs_slow_fault []) (defBody s_slow_fault) = some b_slow_fault := by rfl
theorem sc_slow_fault : FnScope cs_slow_fault.N ["tune", "style", "way", "apart", "endless"] (defScope s_slow_fault) := ⟨rfl, rfl, rfl, by decide +kernel, rfl, by decide +kernel, by decide +kernel⟩
def b_two_fault : Stms := (.cons (.ife (.op .eq (.x (.op .ix (.p 2 (.x (.k (.int 0)) .nil))) (.x (.k (.str "lag")) .nil))) (.cons (.set 6 (.call 192 (.x (.v 0) (.x (.v 1) (.x (.v 2) (.x (.v 3) (.x (.op .add (.p 3 (.p 4 .nil))) (.x (.v 5) .nil))))))))
    .nil) (.cons (.set 6 (.call 197 (.x (.v 0) (.x (.v 1) (.x (.v 2) (.x (.v 4) (.x (.v 5) .nil)))))))
    .nil))
    (.cons (.ret (.ife (.op .isN (.p 6 .nil)) (.k .non) (.op .tup (.x (.op .ix (.p 6 (.x (.k (.int 0)) .nil))) (.x (.v 3) (.x (.op .add (.p 3 (.p 4 .nil))) (.x (.op .ix (.p 6 (.x (.k (.int 1)) .nil))) .nil)))))))
    .nil))
theorem c_two_fault : cSs (cS 20 30 cs_two_fault []) (defBody s_two_fault) = some b_two_fault := by rfl
theorem sc_two_fault : FnScope cs_two_fault.N ["tune", "style", "way", "near", "apart", "endless"] (defScope s_two_fault) := ⟨rfl, rfl, rfl, by decide +kernel, rfl, by decide +kernel, by decide +kernel⟩
def b_nears_of : Stms := (.cons (.ret (.ife (.call 137 (.x (.v 0) (.x (.k (.int 1)) .nil))) (.op .tup (.x (.k (.int 0)) (.x (.k (.int 1)) .nil))) (.op .tup (.x (.k (.int 0)) .nil))))
    .nil)
theorem c_nears_of : cSs (cS 20 30 cs_nears_of []) (defBody s_nears_of) = some b_nears_of := by rfl
theorem sc_nears_of : FnScope cs_nears_of.N ["way"] (defScope s_nears_of) := ⟨rfl, rfl, rfl, by decide +kernel, rfl, by decide +kernel, by decide +kernel⟩
def b_looked_at : Stms := (.cons (.tg (.t [.n 8, .n 9]) (.call 190 (.x (.op .len (.p 0 .nil)) (.x (.v 1) (.x (.v 2) (.x (.v 4) .nil))))))
    (.cons (.set 5 (.op .add (.p 8 (.p 9 .nil))))
    (.cons (.own 6 (.op .lst .nil))
    (.cons (.for_ (.n 7) (.rng (.x (.k (.int 1)) (.x (.op .add (.p 5 (.x (.k (.int 1)) .nil))) .nil))) (.cons (.ext 6 (.comp [10, 7] [10] (.n 10) (.seq (.x (.call 201 (.x (.v 2) .nil)) .nil)) (.x (.or (.op .isN (.p 3 .nil)) (.op .lt (.x (.op .add (.p 10 (.p 7 .nil))) (.p 3 .nil)))) .nil) (.op .tup (.x (.v 10) (.x (.v 7) .nil)))))
    .nil))
    (.cons (.ret (.v 6))
    .nil)))))
theorem c_looked_at : cSs (cS 20 30 cs_looked_at [6]) (defBody s_looked_at) = some b_looked_at := by rfl
theorem sc_looked_at : FnScope cs_looked_at.N ["tune", "style", "way", "voices", "endless"] (defScope s_looked_at) := ⟨rfl, rfl, rfl, by decide +kernel, rfl, by decide +kernel, by decide +kernel⟩
def b_first_of : Stms := (.cons (.set 5 (.k .non))
    (.cons (.for_ (.t [.n 6, .n 7]) (.seq (.x (.call 202 (.x (.v 0) (.x (.v 1) (.x (.v 2) (.x (.v 3) (.x (.v 4) .nil)))))) .nil)) (.cons (.ife (.or (.op .isN (.p 5 .nil)) (.op .le (.x (.call 139 (.x (.v 2) (.x (.op .add (.p 6 (.p 7 .nil))) .nil))) (.x (.op .ix (.p 5 (.x (.k (.int 0)) .nil))) .nil)))) (.cons (.set 8 (.call 199 (.x (.v 0) (.x (.v 1) (.x (.v 2) (.x (.v 6) (.x (.v 7) (.x (.v 4) .nil))))))))
    (.cons (.set 5 (.ife (.or (.op .isN (.p 5 .nil)) (.and (.op .notN (.p 8 .nil)) (.op .lt (.p 8 (.p 5 .nil))))) (.v 8) (.v 5)))
    .nil)) .nil)
    .nil))
    (.cons (.ret (.v 5))
    .nil)))
theorem c_first_of : cSs (cS 20 30 cs_first_of []) (defBody s_first_of) = some b_first_of := by rfl
theorem sc_first_of : FnScope cs_first_of.N ["tune", "style", "way", "voices", "endless"] (defScope s_first_of) := ⟨rfl, rfl, rfl, by decide +kernel, rfl, by decide +kernel, by decide +kernel⟩
def b_need_voices : Stms := (.cons (.ife (.op .notN (.p 0 .nil)) (.cons (.expr (.call 112 (.x (.v 0) (.x (.k (.int 1)) (.x (.k (.int 100)) .nil)))))
    .nil) .nil)
    .nil)
theorem c_need_voices : cSs (cS 20 30 cs_need_voices []) (defBody s_need_voices) = some b_need_voices := by rfl
theorem sc_need_voices : FnScope cs_need_voices.N ["voices"] (defScope s_need_voices) := ⟨rfl, rfl, rfl, by decide +kernel, rfl, by decide +kernel, by decide +kernel⟩
def b_first_fault : Stms := (.cons (.expr (.call 170 (.x (.v 0) (.x (.v 1) (.x (.v 2) .nil)))))
    (.cons (.expr (.call 204 (.x (.v 3) .nil)))
    (.cons (.expr (.call 133 (.x (.v 4) .nil)))
    (.cons (.ret (.call 203 (.x (.v 0) (.x (.v 1) (.x (.v 2) (.x (.v 3) (.x (.v 4) .nil)))))))
    .nil))))
theorem c_first_fault : cSs (cS 20 30 cs_first_fault []) (defBody s_first_fault) = some b_first_fault := by rfl
theorem sc_first_fault : FnScope cs_first_fault.N ["tune", "style", "way", "voices", "endless"] (defScope s_first_fault) := ⟨rfl, rfl, rfl, by decide +kernel, rfl, by decide +kernel, by decide +kernel⟩
def b_is_clean : Stms := (.cons (.ret (.op .isN (.x (.call 206 (.x (.v 0) (.x (.v 1) (.x (.v 2) (.x (.v 3) (.x (.v 4) .nil)))))) .nil)))
    .nil)
theorem c_is_clean : cSs (cS 20 30 cs_is_clean []) (defBody s_is_clean) = some b_is_clean := by rfl
theorem sc_is_clean : FnScope cs_is_clean.N ["tune", "style", "way", "voices", "endless"] (defScope s_is_clean) := ⟨rfl, rfl, rfl, by decide +kernel, rfl, by decide +kernel, by decide +kernel⟩
def b_most_voices : Stms := (.cons (.expr (.call 170 (.x (.v 0) (.x (.v 1) (.x (.v 2) .nil)))))
    (.cons (.expr (.call 133 (.x (.v 3) .nil)))
    (.cons (.set 4 (.k .non))
    (.cons (.for_ (.t [.n 5, .n 6]) (.seq (.x (.call 202 (.x (.v 0) (.x (.v 1) (.x (.v 2) (.x (.k .non) (.x (.v 3) .nil)))))) .nil)) (.cons (.ife (.or (.op .isN (.p 4 .nil)) (.op .lt (.x (.op .add (.p 5 (.p 6 .nil))) (.p 4 .nil)))) (.cons (.ife (.op .notN (.x (.call 199 (.x (.v 0) (.x (.v 1) (.x (.v 2) (.x (.v 5) (.x (.v 6) (.x (.v 3) .nil))))))) .nil)) (.cons (.set 4 (.op .add (.p 5 (.p 6 .nil))))
    .nil) .nil)
    .nil) .nil)
    .nil))
    (.cons (.ret (.v 4))
    .nil)))))
theorem c_most_voices : cSs (cS 20 30 cs_most_voices []) (defBody s_most_voices) = some b_most_voices := by rfl
theorem sc_most_voices : FnScope cs_most_voices.N ["tune", "style", "way", "endless"] (defScope s_most_voices) := ⟨rfl, rfl, rfl, by decide +kernel, rfl, by decide +kernel, by decide +kernel⟩
def b_begun1 : Stm := (.set 1 (.op .add (.x (.k (.int 32452843)) (.x (.op .mul (.x (.k (.int 41)) (.x (.op .len (.p 0 .nil)) .nil))) .nil))))
def b_begun2 : Stm := (.for_ (.t [.n 2, .n 3]) (.enum (.x (.v 0) .nil)) (.cons (.set 1 (.op .mod (.x (.op .int (.x (.op .add (.x (.op .add (.x (.op .mul (.p 1 (.x (.k (.int 998244353)) .nil))) (.p 3 .nil))) (.x (.op .mul (.x (.k (.int 104723)) (.p 2 .nil))) .nil))) .nil)) (.x (.k (.int 2305843009213693951)) .nil))))
    .nil))
def x_begun : X := (.comp [3] [3] (.n 3) (.seq (.x (.v 0) .nil)) (.x (.op .ge (.p 3 (.x (.op .pow (.x (.k (.int 10)) (.x (.k (.int 18)) .nil))) .nil))) .nil) (.v 3))
theorem sc_begun : FnScope cs_law_begun.N ["_law_script"] (defScope s_law_begun) := ⟨rfl, rfl, rfl, by decide +kernel, rfl, by decide +kernel, by decide +kernel⟩
def b_law_among : Stms := (.cons (.ret (.op .ix (.p 1 (.x (.call 13 (.x (.v 0) (.x (.op .len (.p 1 .nil)) .nil))) .nil))))
    .nil)
theorem c_law_among : cSs (cS 20 30 cs_law_among []) (defBody s_law_among) = some b_law_among := by rfl
theorem sc_law_among : FnScope cs_law_among.N ["_law_draw", "_law_some"] (defScope s_law_among) := ⟨rfl, rfl, rfl, by decide +kernel, rfl, by decide +kernel, by decide +kernel⟩
def b_law_rising : Stms := (.cons (.set 3 (.op .lst .nil))
    (.cons (.for_ (.n 4) (.rng (.x (.call 13 (.x (.v 0) (.x (.op .add (.p 2 (.x (.k (.int 1)) .nil))) .nil))) .nil)) (.cons (.set 5 (.call 13 (.x (.v 0) (.x (.v 1) .nil))))
    (.cons (.set 3 (.op .add (.p 3 (.x (.op .mul (.x (.op .lst (.x (.v 5) .nil)) (.x (.op .int (.x (.op .notIn (.p 5 (.p 3 .nil))) .nil)) .nil))) .nil))))
    .nil)))
    (.cons (.ret (.op .tuple (.x (.op .sorted (.p 3 .nil)) .nil)))
    .nil)))
theorem c_law_rising : cSs (cS 20 30 cs_law_rising []) (defBody s_law_rising) = some b_law_rising := by rfl
theorem sc_law_rising : FnScope cs_law_rising.N ["_law_draw", "_law_below", "_law_most"] (defScope s_law_rising) := ⟨rfl, rfl, rfl, by decide +kernel, rfl, by decide +kernel, by decide +kernel⟩
def b_law_style : Stms := (.cons (.set 1 (.call 14 (.x (.v 0) (.x (.op .lst (.x (.k (.int 12)) (.x (.k (.int 12)) (.x (.k (.int 7)) (.x (.k (.int 5)) (.x (.k (.int 0)) (.x (.k (.int 0)) (.x (.op .add (.x (.k (.int 1)) (.x (.call 13 (.x (.v 0) (.x (.k (.int 24)) .nil))) .nil))) .nil)))))))) .nil))))
    (.cons (.set 2 (.ife (.op .gt (.p 1 (.x (.k (.int 0)) .nil))) (.v 1) (.call 14 (.x (.v 0) (.x (.op .lst (.x (.k (.int 13)) (.x (.k (.int 13)) (.x (.k (.int 61)) .nil)))) .nil)))))
    (.cons (.ret (.op .tup (.x (.v 1) (.x (.call 15 (.x (.v 0) (.x (.v 2) (.x (.call 14 (.x (.v 0) (.x (.op .lst (.x (.k (.int 1)) (.x (.k (.int 2)) (.x (.k (.int 3)) (.x (.k (.int 6)) .nil))))) .nil))) .nil)))) (.x (.call 15 (.x (.v 0) (.x (.v 2) (.x (.k (.int 3)) .nil)))) .nil)))))
    .nil)))
theorem c_law_style : cSs (cS 20 30 cs_law_style []) (defBody s_law_style) = some b_law_style := by rfl
theorem sc_law_style : FnScope cs_law_style.N ["_law_draw"] (defScope s_law_style) := ⟨rfl, rfl, rfl, by decide +kernel, rfl, by decide +kernel, by decide +kernel⟩
def b_law_pitches : Stms := (.cons (.par [4, 5] (.val (.call 14 (.x (.v 0) (.x (.op .lst (.x (.k (.int 3)) (.x (.k (.int 8)) (.x (.k (.int 8)) (.x (.k (.int 61)) .nil))))) .nil))) (.val (.call 14 (.x (.v 0) (.x (.op .lst (.x (.k (.int 0)) (.x (.k (.int 0)) (.x (.k (.int 5)) (.x (.op .neg (.x (.k (.int 40)) .nil)) (.x (.k (.int 52)) .nil)))))) .nil))) .nil)))
    (.cons (.own 2 (.op .lst .nil))
    (.cons (.for_ (.n 3) (.rng (.x (.v 1) .nil)) (.cons (.app 2 (.op .max2 (.x (.op .neg (.x (.k (.int 60)) .nil)) (.x (.op .min2 (.x (.k (.int 60)) (.x (.op .sub (.x (.op .add (.p 5 (.x (.call 13 (.x (.v 0) (.x (.op .add (.x (.op .mul (.x (.k (.int 2)) (.p 4 .nil))) (.x (.k (.int 1)) .nil))) .nil))) .nil))) (.p 4 .nil))) .nil))) .nil))))
    .nil))
    (.cons (.ret (.v 2))
    .nil))))
theorem c_law_pitches : cSs (cS 20 30 cs_law_pitches [2]) (defBody s_law_pitches) = some b_law_pitches := by rfl
theorem sc_law_pitches : FnScope cs_law_pitches.N ["_law_draw", "_law_many"] (defScope s_law_pitches) := ⟨rfl, rfl, rfl, by decide +kernel, rfl, by decide +kernel, by decide +kernel⟩
def b_law_tune : Stms := (.cons (.tg (.t [.n 2, .n 3]) (.op .tup (.x (.op .add (.x (.k (.int 1)) (.x (.call 13 (.x (.v 0) (.x (.v 1) .nil))) .nil))) (.x (.call 14 (.x (.v 0) (.x (.op .lst (.x (.k (.int 0)) (.x (.k (.int 0)) (.x (.k (.int 1)) (.x (.k (.int 3)) .nil))))) .nil))) .nil))))
    (.cons (.ret (.op .tuple (.x (.comp [0, 4] [4] (.n 4) (.seq (.x (.call 17 (.x (.v 0) (.x (.v 2) .nil))) .nil)) .nil (.ife (.op .lt (.x (.call 13 (.x (.v 0) (.x (.k (.int 8)) .nil))) (.p 3 .nil))) (.k .non) (.v 4))) .nil)))
    .nil))
theorem c_law_tune : cSs (cS 20 30 cs_law_tune []) (defBody s_law_tune) = some b_law_tune := by rfl
theorem sc_law_tune : FnScope cs_law_tune.N ["_law_draw", "_law_most"] (defScope s_law_tune) := ⟨rfl, rfl, rfl, by decide +kernel, rfl, by decide +kernel, by decide +kernel⟩
def b_law_rise : Stms := (.cons (.ret (.call 14 (.x (.v 0) (.x (.op .lst (.x (.k (.int 0)) (.x (.k (.int 0)) (.x (.k (.int 12)) (.x (.op .neg (.x (.k (.int 12)) .nil)) (.x (.k (.int 7)) (.x (.k (.int 1)) (.x (.op .neg (.x (.k (.int 1)) .nil)) (.x (.op .sub (.x (.call 13 (.x (.v 0) (.x (.k (.int 121)) .nil))) (.x (.k (.int 60)) .nil))) .nil))))))))) .nil))))
    .nil)
theorem c_law_rise : cSs (cS 20 30 cs_law_rise []) (defBody s_law_rise) = some b_law_rise := by rfl
theorem sc_law_rise : FnScope cs_law_rise.N ["_law_draw"] (defScope s_law_rise) := ⟨rfl, rfl, rfl, by decide +kernel, rfl, by decide +kernel, by decide +kernel⟩
def b_law_way : Stms := (.cons (.par [2, 3] (.val (.call 14 (.x (.v 0) (.x (.op .lst (.x (.k (.int 1)) (.x (.k (.int 1)) (.x (.k (.int 1)) (.x (.op .neg (.x (.k (.int 1)) .nil)) .nil))))) .nil))) (.val (.call 129 (.x (.v 0) .nil)) .nil)))
    (.cons (.ife (.op .eq (.x (.call 13 (.x (.v 0) (.x (.k (.int 4)) .nil))) (.x (.k (.int 0)) .nil))) (.cons (.ret (.op .tup (.x (.k (.str "slow")) (.x (.call 14 (.x (.v 0) (.x (.op .lst (.x (.k (.int 2)) (.x (.k (.int 2)) (.x (.k (.int 3)) (.x (.k (.int 4)) (.x (.k (.int 5)) (.x (.k (.int 6)) .nil))))))) .nil))) (.x (.v 2) (.x (.v 3) .nil))))))
    .nil) .nil)
    (.cons (.set 1 (.call 14 (.x (.v 0) (.x (.op .lst (.x (.k (.int 1)) (.x (.k (.int 2)) (.x (.k (.int 2)) (.x (.k (.int 3)) (.x (.k (.int 4)) (.x (.k (.int 0)) (.x (.call 13 (.x (.v 0) (.x (.k (.int 49)) .nil))) .nil)))))))) .nil))))
    (.cons (.ret (.op .tup (.x (.k (.str "lag")) (.x (.v 1) (.x (.v 2) (.x (.v 3) (.x (.op .eq (.x (.call 13 (.x (.v 0) (.x (.k (.int 3)) .nil))) (.x (.k (.int 0)) .nil))) .nil)))))))
    .nil))))
theorem c_law_way : cSs (cS 20 30 cs_law_way []) (defBody s_law_way) = some b_law_way := by rfl
theorem sc_law_way : FnScope cs_law_way.N ["_law_draw"] (defScope s_law_way) := ⟨rfl, rfl, rfl, by decide +kernel, rfl, by decide +kernel, by decide +kernel⟩
def b_law_power : Stms := (.cons (.set 2 (.k (.int 1)))
    (.cons (.for_ (.n 3) (.rng (.x (.v 1) .nil)) (.cons (.set 2 (.op .mul (.p 2 (.p 0 .nil))))
    .nil))
    (.cons (.ret (.v 2))
    .nil)))
theorem c_law_power : cSs (cS 20 30 cs_law_power []) (defBody s_law_power) = some b_law_power := by rfl
theorem sc_law_power : FnScope cs_law_power.N ["_law_factor", "_law_laps"] (defScope s_law_power) := ⟨rfl, rfl, rfl, by decide +kernel, rfl, by decide +kernel, by decide +kernel⟩
def b_law_note : Stms := (.cons (.set 5 (.ife (.op .eq (.x (.op .ix (.p 1 (.x (.k (.int 0)) .nil))) (.x (.k (.str "lag")) .nil))) (.op .mul (.p 2 (.x (.op .ix (.p 1 (.x (.k (.int 1)) .nil))) .nil))) (.k (.int 0))))
    (.cons (.set 6 (.ife (.op .eq (.x (.op .ix (.p 1 (.x (.k (.int 0)) .nil))) (.x (.k (.str "lag")) .nil))) (.k (.int 1)) (.call 157 (.x (.op .ix (.p 1 (.x (.k (.int 1)) .nil))) (.x (.v 2) .nil)))))
    (.cons (.ife (.or (.op .lt (.p 3 (.p 5 .nil))) (.and (.not (.v 4)) (.op .ge (.p 3 (.x (.op .add (.p 5 (.x (.op .mul (.p 6 (.x (.op .len (.p 0 .nil)) .nil))) .nil))) .nil))))) (.cons (.ret (.k .non))
    .nil) .nil)
    (.cons (.set 7 (.ife (.and (.op .eq (.x (.op .ix (.p 1 (.x (.k (.int 0)) .nil))) (.x (.k (.str "lag")) .nil))) (.and (.op .ix (.p 1 (.x (.k (.int 4)) .nil))) (.op .eq (.x (.op .mod (.x (.op .int (.p 2 .nil)) (.x (.k (.int 2)) .nil))) (.x (.k (.int 1)) .nil))))) (.op .rev (.p 0 .nil)) (.v 0)))
    (.cons (.set 8 (.op .ix (.p 7 (.x (.op .mod (.x (.op .int (.x (.op .fdiv (.x (.op .sub (.p 3 (.p 5 .nil))) (.p 6 .nil))) .nil)) (.x (.op .len (.p 0 .nil)) .nil))) .nil))))
    (.cons (.ife (.op .isN (.p 8 .nil)) (.cons (.ret (.k .non))
    .nil) .nil)
    (.cons (.for_ (.n 9) (.rng (.x (.v 2) .nil)) (.cons (.set 8 (.op .add (.x (.op .mul (.x (.op .ix (.p 1 (.x (.k (.int 2)) .nil))) (.p 8 .nil))) (.x (.op .ix (.p 1 (.x (.k (.int 3)) .nil))) .nil))))
    .nil))
    (.cons (.ret (.v 8))
    .nil))))))))
theorem c_law_note : cSs (cS 20 30 cs_law_note []) (defBody s_law_note) = some b_law_note := by rfl
theorem sc_law_note : FnScope cs_law_note.N ["_law_tune_here", "_law_way_here", "_law_voice", "_law_beat", "_law_for_ever"] (defScope s_law_note) := ⟨rfl, rfl, rfl, by decide +kernel, rfl, by decide +kernel, by decide +kernel⟩
def b_law_gap_2 : Stms := (.cons (.set 3 (.op .sub (.x (.op .max2 (.p 1 (.p 2 .nil))) (.x (.op .min2 (.p 1 (.p 2 .nil))) .nil))))
    (.cons (.ret (.ife (.op .eq (.x (.op .ix (.p 0 (.x (.k (.int 0)) .nil))) (.x (.k (.int 0)) .nil))) (.v 3) (.op .mod (.x (.op .int (.p 3 .nil)) (.x (.op .ix (.p 0 (.x (.k (.int 0)) .nil))) .nil)))))
    .nil))
theorem c_law_gap_2 : cSs (cS 20 30 cs_law_gap_2 []) (defBody s_law_gap_2) = some b_law_gap_2 := by rfl
theorem sc_law_gap_2 : FnScope cs_law_gap_2.N ["_law_style_here", "_law_one", "_law_other"] (defScope s_law_gap_2) := ⟨rfl, rfl, rfl, by decide +kernel, rfl, by decide +kernel, by decide +kernel⟩
def b_law_words : Stms := (.cons (.ife (.or (.op .isN (.x (.op .ix (.p 2 (.x (.k (.int 0)) .nil))) .nil)) (.op .isN (.x (.op .ix (.p 2 (.x (.k (.int 1)) .nil))) .nil))) (.cons (.ret (.op .lst .nil))
    .nil) .nil)
    (.cons (.set 3 (.call 117 (.x (.v 0) (.x (.op .ix (.p 2 (.x (.k (.int 0)) .nil))) (.x (.op .ix (.p 2 (.x (.k (.int 1)) .nil))) .nil)))))
    (.cons (.set 4 (.ife (.op .in_ (.p 3 (.x (.op .ix (.p 0 (.x (.k (.int 1)) .nil))) .nil))) (.op .lst (.x (.k (.str "barred")) .nil)) (.op .lst .nil)))
    (.cons (.ife (.or (.op .isN (.x (.op .ix (.p 1 (.x (.k (.int 0)) .nil))) .nil)) (.or (.op .isN (.x (.op .ix (.p 1 (.x (.k (.int 1)) .nil))) .nil)) (.or (.op .eq (.x (.op .ix (.p 1 (.x (.k (.int 0)) .nil))) (.x (.op .ix (.p 2 (.x (.k (.int 0)) .nil))) .nil))) (.op .eq (.x (.op .ix (.p 1 (.x (.k (.int 1)) .nil))) (.x (.op .ix (.p 2 (.x (.k (.int 1)) .nil))) .nil)))))) (.cons (.ret (.v 4))
    .nil) .nil)
    (.cons (.ife (.or (.op .notIn (.p 3 (.x (.op .ix (.p 0 (.x (.k (.int 2)) .nil))) .nil))) (.op .ne (.x (.call 117 (.x (.v 0) (.x (.op .ix (.p 1 (.x (.k (.int 0)) .nil))) (.x (.op .ix (.p 1 (.x (.k (.int 1)) .nil))) .nil)))) (.p 3 .nil)))) (.cons (.ret (.v 4))
    .nil) .nil)
    (.cons (.ret (.op .add (.p 4 (.x (.op .lst (.x (.k (.str "tied")) .nil)) .nil))))
    .nil))))))
theorem c_law_words : cSs (cS 20 30 cs_law_words []) (defBody s_law_words) = some b_law_words := by rfl
theorem sc_law_words : FnScope cs_law_words.N ["_law_style_here", "_law_was", "_law_now"] (defScope s_law_words) := ⟨rfl, rfl, rfl, by decide +kernel, rfl, by decide +kernel, by decide +kernel⟩
def b_law_map : Stms := (.cons (.ife (.op .isN (.p 1 .nil)) (.cons (.ret (.k .non))
    .nil) .nil)
    (.cons (.ife (.op .eq (.x (.op .ix (.p 0 (.x (.k (.int 2)) .nil))) (.x (.k (.int 1)) .nil))) (.cons (.ret (.op .add (.p 1 (.x (.op .mul (.p 2 (.x (.op .ix (.p 0 (.x (.k (.int 3)) .nil))) .nil))) .nil))))
    .nil) .nil)
    (.cons (.ret (.ife (.op .eq (.x (.op .mod (.x (.op .int (.p 2 .nil)) (.x (.k (.int 2)) .nil))) (.x (.k (.int 0)) .nil))) (.v 1) (.op .sub (.x (.op .ix (.p 0 (.x (.k (.int 3)) .nil))) (.p 1 .nil)))))
    .nil)))
theorem c_law_map : cSs (cS 20 30 cs_law_map []) (defBody s_law_map) = some b_law_map := by rfl
theorem sc_law_map : FnScope cs_law_map.N ["_law_way_here", "_law_pitch", "_law_voice"] (defScope s_law_map) := ⟨rfl, rfl, rfl, by decide +kernel, rfl, by decide +kernel, by decide +kernel⟩
def b_law_at : Stms := (.cons (.set 5 (.op .sub (.p 3 (.x (.op .mul (.p 2 (.x (.op .ix (.p 1 (.x (.k (.int 1)) .nil))) .nil))) .nil))))
    (.cons (.ife (.or (.op .lt (.p 5 (.x (.k (.int 0)) .nil))) (.and (.not (.v 4)) (.op .ge (.p 5 (.x (.op .len (.p 0 .nil)) .nil))))) (.cons (.ret (.k .non))
    .nil) .nil)
    (.cons (.set 6 (.ife (.and (.op .ix (.p 1 (.x (.k (.int 4)) .nil))) (.op .eq (.x (.op .mod (.x (.op .int (.p 2 .nil)) (.x (.k (.int 2)) .nil))) (.x (.k (.int 1)) .nil)))) (.op .rev (.p 0 .nil)) (.v 0)))
    (.cons (.ret (.call 159 (.x (.v 1) (.x (.op .ix (.p 6 (.x (.op .mod (.x (.op .int (.p 5 .nil)) (.x (.op .len (.p 0 .nil)) .nil))) .nil))) (.x (.v 2) .nil)))))
    .nil))))
theorem c_law_at : cSs (cS 20 30 cs_law_at []) (defBody s_law_at) = some b_law_at := by rfl
theorem sc_law_at : FnScope cs_law_at.N ["_law_tune_here", "_law_way_here", "_law_voice", "_law_beat", "_law_for_ever"] (defScope s_law_at) := ⟨rfl, rfl, rfl, by decide +kernel, rfl, by decide +kernel, by decide +kernel⟩
def b_law_lag_pair : Stms := (.cons (.par [7, 8] (.val (.op .mul (.p 4 (.x (.op .ix (.p 2 (.x (.k (.int 1)) .nil))) .nil))) (.val (.op .tup (.x (.k .non) (.x (.k .non) .nil))) .nil)))
    (.cons (.for_ (.n 6) (.rng (.x (.v 7) (.x (.ife (.v 5) (.op .add (.x (.op .add (.p 7 (.x (.op .len (.p 0 .nil)) .nil))) (.x (.k (.int 1)) .nil))) (.op .add (.x (.op .mul (.p 3 (.x (.op .ix (.p 2 (.x (.k (.int 1)) .nil))) .nil))) (.x (.op .len (.p 0 .nil)) .nil)))) .nil))) (.cons (.set 9 (.op .tup (.x (.call 160 (.x (.v 0) (.x (.v 2) (.x (.v 3) (.x (.v 6) (.x (.v 5) .nil)))))) (.x (.call 160 (.x (.v 0) (.x (.v 2) (.x (.v 4) (.x (.v 6) (.x (.v 5) .nil)))))) .nil))))
    (.cons (.set 10 (.call 174 (.x (.v 1) (.x (.v 8) (.x (.v 9) .nil)))))
    (.cons (.ife (.op .ne (.p 10 (.x (.op .lst .nil) .nil))) (.cons (.ret (.op .lst (.x (.op .tup (.x (.v 6) (.x (.v 3) (.x (.v 4) (.x (.op .ix (.p 10 (.x (.k (.int 0)) .nil))) .nil))))) .nil)))
    .nil) .nil)
    (.cons (.set 8 (.v 9))
    .nil)))))
    (.cons (.ret (.op .lst .nil))
    .nil)))
theorem c_law_lag_pair : cSs (cS 20 30 cs_law_lag_pair []) (defBody s_law_lag_pair) = some b_law_lag_pair := by rfl
theorem sc_law_lag_pair : FnScope cs_law_lag_pair.N ["_law_tune_here", "_law_style_here", "_law_way_here", "_law_near", "_law_far_here", "_law_for_ever"] (defScope s_law_lag_pair) := ⟨rfl, rfl, rfl, by decide +kernel, rfl, by decide +kernel, by decide +kernel⟩
def b_law_slow_pair_2 : Stms := (.cons (.par [8, 9] (.val (.op .len (.p 0 .nil)) (.val (.call 157 (.x (.op .ix (.p 2 (.x (.k (.int 1)) .nil))) (.x (.v 3) .nil))) .nil)))
    (.cons (.set 5 (.comp [2, 14, 3] [14] (.n 14) (.seq (.x (.v 0) .nil)) .nil (.call 159 (.x (.v 2) (.x (.v 14) (.x (.v 3) .nil))))))
    (.cons (.ife (.op .lt (.p 9 (.p 8 .nil))) (.cons (.set 10 (.op .tup (.x (.k .non) (.x (.k .non) .nil))))
    (.cons (.for_ (.n 11) (.rng (.x (.ife (.v 4) (.op .add (.x (.op .mul (.p 8 (.p 9 .nil))) (.x (.k (.int 1)) .nil))) (.v 8)) .nil)) (.cons (.set 15 (.op .tup (.x (.op .ix (.p 0 (.x (.op .mod (.x (.op .int (.p 11 .nil)) (.p 8 .nil))) .nil))) (.x (.op .ix (.p 5 (.x (.op .mod (.x (.op .int (.x (.op .fdiv (.p 11 (.p 9 .nil))) .nil)) (.p 8 .nil))) .nil))) .nil))))
    (.cons (.set 16 (.call 174 (.x (.v 1) (.x (.v 10) (.x (.v 15) .nil)))))
    (.cons (.ife (.op .ne (.p 16 (.x (.op .lst .nil) .nil))) (.cons (.ret (.op .lst (.x (.op .tup (.x (.v 11) (.x (.k (.int 0)) (.x (.v 3) (.x (.op .ix (.p 16 (.x (.k (.int 0)) .nil))) .nil))))) .nil)))
    .nil) .nil)
    (.cons (.set 10 (.v 15))
    .nil)))))
    (.cons (.ret (.op .lst .nil))
    .nil))) .nil)
    (.cons (.own 6 (.op .lst .nil))
    (.cons (.for_ (.n 7) (.rng (.x (.ife (.v 4) (.op .add (.p 8 (.x (.k (.int 1)) .nil))) (.k (.int 1))) .nil)) (.cons (.set 12 (.op .mul (.p 7 (.p 9 .nil))))
    (.cons (.for_ (.n 13) (.rng (.x (.v 8) .nil)) (.cons (.set 11 (.op .add (.p 12 (.x (.op .mod (.x (.op .int (.x (.op .sub (.p 13 (.p 12 .nil))) .nil)) (.p 8 .nil))) .nil))))
    (.cons (.ife (.op .ne (.x (.call 174 (.x (.v 1) (.x (.op .tup (.x (.k .non) (.x (.k .non) .nil))) (.x (.op .tup (.x (.op .ix (.p 0 (.p 13 .nil))) (.x (.op .ix (.p 5 (.x (.op .mod (.x (.op .int (.p 7 .nil)) (.p 8 .nil))) .nil))) .nil))) .nil)))) (.x (.op .lst .nil) .nil))) (.cons (.app 6 (.op .tup (.x (.v 11) (.x (.k (.int 0)) (.x (.v 3) (.x (.k (.str "barred")) .nil))))))
    .nil) .nil)
    .nil)))
    (.cons (.set 10 (.ife (.op .gt (.p 7 (.x (.k (.int 0)) .nil))) (.op .tup (.x (.op .ix (.p 0 (.x (.op .mod (.x (.op .int (.x (.op .sub (.p 12 (.x (.k (.int 1)) .nil))) .nil)) (.p 8 .nil))) .nil))) (.x (.op .ix (.p 5 (.x (.op .sub (.p 7 (.x (.k (.int 1)) .nil))) .nil))) .nil))) (.op .tup (.x (.k .non) (.x (.k .non) .nil)))))
    (.cons (.ife (.op .in_ (.x (.k (.str "tied")) (.x (.call 174 (.x (.v 1) (.x (.v 10) (.x (.op .tup (.x (.op .ix (.p 0 (.x (.op .mod (.x (.op .int (.p 12 .nil)) (.p 8 .nil))) .nil))) (.x (.op .ix (.p 5 (.x (.op .mod (.x (.op .int (.p 7 .nil)) (.p 8 .nil))) .nil))) .nil))) .nil)))) .nil))) (.cons (.app 6 (.op .tup (.x (.v 12) (.x (.k (.int 0)) (.x (.v 3) (.x (.k (.str "tied")) .nil))))))
    .nil) .nil)
    .nil)))))
    (.cons (.ret (.ife (.op .ne (.p 6 (.x (.op .lst .nil) .nil))) (.op .lst (.x (.op .minL (.p 6 .nil)) .nil)) (.op .lst .nil)))
    .nil))))))
theorem c_law_slow_pair_2 : cSs (cS 20 30 cs_law_slow_pair_2 [6]) (defBody s_law_slow_pair_2) = some b_law_slow_pair_2 := by rfl
theorem sc_law_slow_pair_2 : FnScope cs_law_slow_pair_2.N ["_law_tune_here", "_law_style_here", "_law_way_here", "_law_apart", "_law_for_ever"] (defScope s_law_slow_pair_2) := ⟨rfl, rfl, rfl, by decide +kernel, rfl, by decide +kernel, by decide +kernel⟩
def b_law_measure : Stms := (.cons (.while_ (.op .gt (.p 1 (.x (.k (.int 0)) .nil))) (.cons (.par [0, 1] (.val (.v 1) (.val (.op .mod (.x (.op .int (.p 0 .nil)) (.p 1 .nil))) .nil)))
    .nil))
    (.cons (.ret (.v 0))
    .nil))
theorem c_law_measure : cSs (cS 20 30 cs_law_measure []) (defBody s_law_measure) = some b_law_measure := by rfl
theorem sc_law_measure : FnScope cs_law_measure.N ["_law_one", "_law_other"] (defScope s_law_measure) := ⟨rfl, rfl, rfl, by decide +kernel, rfl, by decide +kernel, by decide +kernel⟩
def b_law_both : Stms := (.cons (.ret (.op .fdiv (.x (.op .mul (.p 0 (.p 1 .nil))) (.x (.call 215 (.x (.v 0) (.x (.v 1) .nil))) .nil))))
    .nil)
theorem c_law_both : cSs (cS 20 30 cs_law_both []) (defBody s_law_both) = some b_law_both := by rfl
theorem sc_law_both : FnScope cs_law_both.N ["_law_one", "_law_other"] (defScope s_law_both) := ⟨rfl, rfl, rfl, by decide +kernel, rfl, by decide +kernel, by decide +kernel⟩
def b_law_round : Stms := (.cons (.par [2, 3] (.own (.op .lst .nil) (.val (.op .mod (.x (.op .int (.x (.k (.int 1)) .nil)) (.p 1 .nil))) .nil)))
    (.cons (.while_ (.op .notIn (.p 3 (.p 2 .nil))) (.cons (.app 2 (.v 3))
    (.cons (.set 3 (.op .mod (.x (.op .int (.x (.op .mul (.p 3 (.p 0 .nil))) .nil)) (.p 1 .nil))))
    .nil)))
    (.cons (.ret (.op .tup (.x (.on .list (.v 2) .index (.x (.v 3) .nil)) (.x (.op .sub (.x (.op .len (.p 2 .nil)) (.x (.on .list (.v 2) .index (.x (.v 3) .nil)) .nil))) .nil))))
    .nil)))
theorem c_law_round : cSs (cS 20 30 cs_law_round [2]) (defBody s_law_round) = some b_law_round := by rfl
theorem sc_law_round : FnScope cs_law_round.N ["_law_factor", "_law_size"] (defScope s_law_round) := ⟨rfl, rfl, rfl, by decide +kernel, rfl, by decide +kernel, by decide +kernel⟩
def b_law_far : Stms := (.cons (.set 4 (.ife (.op .eq (.x (.op .ix (.p 2 (.x (.k (.int 2)) .nil))) (.x (.k (.int 1)) .nil))) (.op .max2 (.x (.op .ix (.p 2 (.x (.k (.int 3)) .nil))) (.x (.op .sub (.x (.k (.int 0)) (.x (.op .ix (.p 2 (.x (.k (.int 3)) .nil))) .nil))) .nil))) (.k (.int 0))))
    (.cons (.ife (.and (.op .eq (.x (.op .ix (.p 2 (.x (.k (.int 0)) .nil))) (.x (.k (.str "lag")) .nil))) (.and (.not (.v 3)) (.op .gt (.x (.op .ix (.p 2 (.x (.k (.int 1)) .nil))) (.x (.k (.int 0)) .nil))))) (.cons (.ret (.op .tup (.x (.op .fdiv (.x (.op .sub (.x (.op .add (.p 0 (.x (.op .ix (.p 2 (.x (.k (.int 1)) .nil))) .nil))) (.x (.k (.int 1)) .nil))) (.x (.op .ix (.p 2 (.x (.k (.int 1)) .nil))) .nil))) (.x (.k (.int 0)) .nil))))
    .nil) .nil)
    (.cons (.ife (.and (.op .gt (.p 4 (.x (.k (.int 0)) .nil))) (.op .eq (.x (.op .ix (.p 1 (.x (.k (.int 0)) .nil))) (.x (.k (.int 0)) .nil)))) (.cons (.ret (.op .tup (.x (.op .add (.x (.op .fdiv (.x (.k (.int 180)) (.p 4 .nil))) (.x (.k (.int 1)) .nil))) (.x (.k (.int 0)) .nil))))
    .nil) .nil)
    (.cons (.par [5, 6] (.val (.k (.int 0)) (.val (.ife (.or (.op .eq (.x (.op .ix (.p 2 (.x (.k (.int 2)) .nil))) (.x (.op .neg (.x (.k (.int 1)) .nil)) .nil))) (.and (.op .eq (.x (.op .ix (.p 2 (.x (.k (.int 0)) .nil))) (.x (.k (.str "lag")) .nil))) (.op .ix (.p 2 (.x (.k (.int 4)) .nil))))) (.k (.int 2)) (.k (.int 1))) .nil)))
    (.cons (.ife (.op .gt (.p 4 (.x (.k (.int 0)) .nil))) (.cons (.set 5 (.op .fdiv (.x (.op .add (.x (.k (.int 119)) (.p 4 .nil))) (.p 4 .nil))))
    (.cons (.set 6 (.call 216 (.x (.v 6) (.x (.op .fdiv (.x (.op .ix (.p 1 (.x (.k (.int 0)) .nil))) (.x (.call 215 (.x (.op .ix (.p 1 (.x (.k (.int 0)) .nil))) (.x (.v 4) .nil))) .nil))) .nil))))
    .nil)) .nil)
    (.cons (.ife (.op .eq (.x (.op .ix (.p 2 (.x (.k (.int 0)) .nil))) (.x (.k (.str "lag")) .nil))) (.cons (.ret (.op .tup (.x (.v 5) (.x (.ife (.and (.v 3) (.op .gt (.x (.op .ix (.p 2 (.x (.k (.int 1)) .nil))) (.x (.k (.int 0)) .nil)))) (.call 216 (.x (.v 6) (.x (.op .fdiv (.p 0 (.x (.call 215 (.x (.v 0) (.x (.op .ix (.p 2 (.x (.k (.int 1)) .nil))) .nil))) .nil))) .nil))) (.v 6)) .nil))))
    .nil) .nil)
    (.cons (.while_ (.op .lt (.x (.call 157 (.x (.op .ix (.p 2 (.x (.k (.int 1)) .nil))) (.x (.v 5) .nil))) (.p 0 .nil))) (.cons (.set 5 (.op .add (.p 5 (.x (.k (.int 1)) .nil))))
    .nil))
    (.cons (.tg (.t [.n 7, .n 8]) (.ife (.v 3) (.call 218 (.x (.op .ix (.p 2 (.x (.k (.int 1)) .nil))) (.x (.v 0) .nil))) (.op .tup (.x (.k (.int 0)) (.x (.k (.int 1)) .nil)))))
    (.cons (.ret (.op .tup (.x (.op .max2 (.p 5 (.p 7 .nil))) (.x (.call 216 (.x (.v 6) (.x (.v 8) .nil))) .nil))))
    .nil)))))))))
theorem c_law_far : cSs (cS 20 30 cs_law_far []) (defBody s_law_far) = some b_law_far := by rfl
theorem sc_law_far : FnScope cs_law_far.N ["_law_size", "_law_style_here", "_law_way_here", "_law_for_ever"] (defScope s_law_far) := ⟨rfl, rfl, rfl, by decide +kernel, rfl, by decide +kernel, by decide +kernel⟩
def b_law_clashes : Stms := (.cons (.tg (.t [.n 6, .n 7]) (.call 219 (.x (.op .len (.p 0 .nil)) (.x (.v 1) (.x (.v 2) (.x (.v 3) .nil))))))
    (.cons (.set 4 (.op .lst .nil))
    (.cons (.for_ (.n 5) (.rng (.x (.k (.int 1)) (.x (.op .add (.x (.op .add (.p 6 (.p 7 .nil))) (.x (.k (.int 1)) .nil))) .nil))) (.cons (.ife (.op .eq (.x (.op .ix (.p 2 (.x (.k (.int 0)) .nil))) (.x (.k (.str "slow")) .nil))) (.cons (.set 4 (.op .add (.p 4 (.x (.call 214 (.x (.v 0) (.x (.v 1) (.x (.v 2) (.x (.v 5) (.x (.v 3) .nil)))))) .nil))))
    .nil) (.cons (.for_ (.n 8) (.rng (.x (.ife (.op .ix (.p 2 (.x (.k (.int 4)) .nil))) (.k (.int 2)) (.k (.int 1))) .nil)) (.cons (.set 4 (.op .add (.p 4 (.x (.call 212 (.x (.v 0) (.x (.v 1) (.x (.v 2) (.x (.v 8) (.x (.op .add (.p 8 (.p 5 .nil))) (.x (.v 3) .nil))))))) .nil))))
    .nil))
    .nil))
    .nil))
    (.cons (.ret (.v 4))
    .nil))))
theorem c_law_clashes : cSs (cS 20 30 cs_law_clashes []) (defBody s_law_clashes) = some b_law_clashes := by rfl
theorem sc_law_clashes : FnScope cs_law_clashes.N ["_law_tune_here", "_law_style_here", "_law_way_here", "_law_for_ever"] (defScope s_law_clashes) := ⟨rfl, rfl, rfl, by decide +kernel, rfl, by decide +kernel, by decide +kernel⟩
def b_law_heard : Stms := (.cons (.par [6, 7] (.val (.op .mul (.x (.call 157 (.x (.op .ix (.p 2 (.x (.k (.int 1)) .nil))) (.x (.v 3) .nil))) (.x (.op .len (.p 0 .nil)) .nil))) (.val (.op .tup (.x (.k .non) (.x (.k .non) .nil))) .nil)))
    (.cons (.for_ (.n 5) (.rng (.x (.op .add (.p 6 (.x (.k (.int 2)) .nil))) .nil)) (.cons (.set 8 (.op .tup (.x (.call 158 (.x (.v 0) (.x (.v 2) (.x (.k (.int 0)) (.x (.v 5) (.x (.v 4) .nil)))))) (.x (.call 158 (.x (.v 0) (.x (.v 2) (.x (.v 3) (.x (.v 5) (.x (.v 4) .nil)))))) .nil))))
    (.cons (.set 9 (.call 174 (.x (.v 1) (.x (.v 7) (.x (.v 8) .nil)))))
    (.cons (.ife (.op .ne (.p 9 (.x (.op .lst .nil) .nil))) (.cons (.ret (.op .lst (.x (.op .tup (.x (.v 5) (.x (.k (.int 0)) (.x (.v 3) (.x (.op .ix (.p 9 (.x (.k (.int 0)) .nil))) .nil))))) .nil)))
    .nil) .nil)
    (.cons (.set 7 (.v 8))
    .nil)))))
    (.cons (.ret (.op .lst .nil))
    .nil)))
theorem c_law_heard : cSs (cS 20 30 cs_law_heard []) (defBody s_law_heard) = some b_law_heard := by rfl
theorem sc_law_heard : FnScope cs_law_heard.N ["_law_tune_here", "_law_style_here", "_law_way_here", "_law_apart", "_law_endless_so"] (defScope s_law_heard) := ⟨rfl, rfl, rfl, by decide +kernel, rfl, by decide +kernel, by decide +kernel⟩
def b_law : Stms := (.cons (.set 1 (.call 11 (.x (.v 0) .nil)))
    (.cons (.for_ (.n 2) (.rng (.x (.op .add (.x (.k (.int 2)) (.x (.op .fdiv (.x (.op .min2 (.x (.k (.int 60)) (.x (.op .len (.p 0 .nil)) .nil))) (.x (.k (.int 15)) .nil))) .nil))) .nil)) (.cons (.par [6, 7, 3] (.val (.call 19 (.x (.v 1) (.x (.k (.int 10)) .nil))) (.val (.call 16 (.x (.v 1) .nil)) (.val (.call 130 (.x (.v 1) .nil)) .nil))))
    (.cons (.set 3 (.op .tup (.x (.k (.str "slow")) (.x (.op .add (.x (.k (.int 2)) (.x (.call 13 (.x (.v 1) (.x (.k (.int 5)) .nil))) .nil))) (.x (.op .ix (.p 3 (.x (.k (.int 2)) .nil))) (.x (.op .ix (.p 3 (.x (.k (.int 3)) .nil))) .nil))))))
    (.cons (.set 4 (.op .repr (.x (.op .lst (.x (.v 6) (.x (.v 7) (.x (.v 3) .nil)))) .nil)))
    (.cons (.for_ (.n 5) (.seq (.x (.op .tup (.x (.k (.bl false)) (.x (.k (.bl true)) .nil))) .nil)) (.cons (.set 8 (.call 221 (.x (.v 6) (.x (.v 7) (.x (.v 3) (.x (.v 5) .nil))))))
    (.cons (.set 9 (.ife (.op .ne (.p 8 (.x (.op .lst .nil) .nil))) (.op .minL (.p 8 .nil)) (.k .non)))
    (.cons (.ife (.op .ne (.x (.op .repr (.x (.call 206 (.x (.v 6) (.x (.v 7) (.x (.v 3) (.x (.k (.non)) (.x (.v 5) .nil)))))) .nil)) (.x (.op .repr (.p 9 .nil)) .nil))) (.cons (.ret (.k (.bl false)))
    .nil) .nil)
    (.cons (.ife (.op .ne (.x (.call 207 (.x (.v 6) (.x (.v 7) (.x (.v 3) (.x (.k (.non)) (.x (.v 5) .nil)))))) (.x (.op .isN (.p 9 .nil)) .nil))) (.cons (.ret (.k (.bl false)))
    .nil) .nil)
    (.cons (.set 10 (.ife (.op .ne (.p 8 (.x (.op .lst .nil) .nil))) (.op .minL (.x (.comp [] [13] (.n 13) (.seq (.x (.v 8) .nil)) .nil (.op .ix (.p 13 (.x (.k (.int 2)) .nil)))) .nil)) (.k .non)))
    (.cons (.ife (.op .ne (.x (.op .repr (.x (.call 211 (.x (.v 6) (.x (.v 7) (.x (.v 3) (.x (.v 5) .nil))))) .nil)) (.x (.op .repr (.p 10 .nil)) .nil))) (.cons (.ret (.k (.bl false)))
    .nil) .nil)
    (.cons (.set 11 (.k (.int 1)))
    (.cons (.while_ (.op .lt (.x (.call 157 (.x (.op .ix (.p 3 (.x (.k (.int 1)) .nil))) (.x (.v 11) .nil))) (.x (.k (.int 40)) .nil))) (.cons (.set 12 (.call 214 (.x (.v 6) (.x (.v 7) (.x (.v 3) (.x (.v 11) (.x (.v 5) .nil)))))))
    (.cons (.ife (.op .ne (.p 12 (.x (.call 222 (.x (.v 6) (.x (.v 7) (.x (.v 3) (.x (.v 11) (.x (.v 5) .nil)))))) .nil))) (.cons (.ret (.k (.bl false)))
    .nil) .nil)
    (.cons (.set 11 (.op .add (.p 11 (.x (.k (.int 1)) .nil))))
    .nil))))
    .nil)))))))))
    (.cons (.ife (.op .ne (.x (.op .repr (.x (.op .lst (.x (.v 6) (.x (.v 7) (.x (.v 3) .nil)))) .nil)) (.p 4 .nil))) (.cons (.ret (.k (.bl false)))
    .nil) .nil)
    .nil))))))
    (.cons (.ret (.k (.bl true)))
    .nil)))
theorem c_law : cSs (cS 20 30 cs_law []) (defBody s_law) = some b_law := by rfl
theorem sc_law : FnScope cs_law.N ["_law_script"] (defScope s_law) := ⟨rfl, rfl, rfl, by decide +kernel, rfl, by decide +kernel, by decide +kernel⟩
def ctVoid : Ct Unit := fun _ _ _ _ => False
def ΓL : Nat → Ct Unit := fun n =>
  bif n.beq 0 then ct_is_whole else
  bif n.beq 112 then ct_need_whole else
  bif n.beq 1 then ct_is_note else
  bif n.beq 3 then ct_need_tune else
  bif n.beq 5 then ct_is_rising else
  bif n.beq 6 then ct_style_fault else
  bif n.beq 7 then ct_need_style else
  bif n.beq 8 then ct_rest_by else
  bif n.beq 113 then ct_interval_of else
  bif n.beq 119 then ct_is_barred_by else
  bif n.beq 180 then ct_pair_fault else
  bif n.beq 167 then ct_is_tied else
  bif n.beq 123 then ct_is_map else
  bif n.beq 124 then ct_way_fault else
  bif n.beq 128 then ct_need_way else
  bif n.beq 133 then ct_need_endless else
  bif n.beq 134 then ct_map_times else
  bif n.beq 136 then ct_power_of else
  bif n.beq 137 then ct_is_backwards else
  bif n.beq 139 then ct_begin_of else
  bif n.beq 143 then ct_notes_gone else
  bif n.beq 145 then ct_place_at else
  bif n.beq 146 then ct_sung else
  bif n.beq 182 then ct_common else
  bif n.beq 183 then ct_joint else
  bif n.beq 184 then ct_least_over else
  bif n.beq 185 then ct_never_together else
  bif n.beq 187 then ct_climbs else
  bif n.beq 188 then ct_rests_of else
  bif n.beq 189 then ct_exponent_over else
  bif n.beq 190 then ct_reach_of else
  bif n.beq 170 then ct_need_all else
  bif n.beq 192 then ct_lag_fault else
  bif n.beq 194 then ct_note_of else
  bif n.beq 195 then ct_slow_barred else
  bif n.beq 196 then ct_slow_tied else
  bif n.beq 197 then ct_slow_fault else
  bif n.beq 199 then ct_two_fault else
  bif n.beq 201 then ct_nears_of else
  bif n.beq 202 then ct_looked_at else
  bif n.beq 203 then ct_first_of else
  bif n.beq 204 then ct_need_voices else
  bif n.beq 206 then ct_first_fault else
  bif n.beq 207 then ct_is_clean else
  bif n.beq 211 then ct_most_voices else
  bif n.beq 11 then ct_law_begun else
  bif n.beq 13 then ct_law_next_2 else
  bif n.beq 14 then ct_law_among else
  bif n.beq 15 then ct_law_rising else
  bif n.beq 16 then ct_law_style else
  bif n.beq 17 then ct_law_pitches else
  bif n.beq 19 then ct_law_tune else
  bif n.beq 129 then ct_law_rise else
  bif n.beq 130 then ct_law_way else
  bif n.beq 157 then ct_law_power else
  bif n.beq 158 then ct_law_note else
  bif n.beq 117 then ct_law_gap_2 else
  bif n.beq 174 then ct_law_words else
  bif n.beq 159 then ct_law_map else
  bif n.beq 160 then ct_law_at else
  bif n.beq 212 then ct_law_lag_pair else
  bif n.beq 214 then ct_law_slow_pair_2 else
  bif n.beq 215 then ct_law_measure else
  bif n.beq 216 then ct_law_both else
  bif n.beq 218 then ct_law_round else
  bif n.beq 219 then ct_law_far else
  bif n.beq 221 then ct_law_clashes else
  bif n.beq 222 then ct_law_heard else
  ctVoid
def Keeps (b : Stms) (N : List Str) (ct : Ct Unit) : Prop := ∀ (ds : List D) (st : Unit) (Qd Ed : D → Unit → Prop), ct ds st Qd Ed → wpSs ΓL b (startE N ds) st (knOf Qd) fun e _ st => Ed e st
theorem wps_ife {c : X} {a b r : Stms} {ρ : Env} {st : Unit} {K : Kn Unit} {E : QX Unit} (h : wpX ΓL c ρ st (fun d ρ' st' => match d.truth with
    | some true => wpSs ΓL a ρ' st' { K with nx := fun ρ' st' => wpSs ΓL r ρ' st' K E } E
    | some false => wpSs ΓL b ρ' st' { K with nx := fun ρ' st' => wpSs ΓL r ρ' st' K E } E
    | none => False) E) : wpSs ΓL (.cons (.ife c a b) r) ρ st K E := h
theorem wps_ret {x : X} {r : Stms} {ρ : Env} {st : Unit} {K : Kn Unit} {E : QX Unit} (h : wpX ΓL x ρ st (fun d _ st' => K.rt d st') E) : wpSs ΓL (.cons (.ret x) r) ρ st K E := h
theorem wps_set {x : X} {i : Nat} {r : Stms} {ρ : Env} {st : Unit} {K : Kn Unit} {E : QX Unit} (h : wpX ΓL x ρ st (fun d ρ' st' => wpSs ΓL r (ρ'.set i (.val d)) st' K E) E) : wpSs ΓL (.cons (.set i x) r) ρ st K E := h
end Pv

end
section
set_option linter.all false
set_option maxRecDepth 100000
set_option maxHeartbeats 4000000
namespace Pv
open PySem PySem.Spec PyProof.Rows L2
theorem k_is_whole : Keeps b_is_whole cs_is_whole.N ct_is_whole := by
  rintro _ st Qd Ed ⟨i, lo, hi, rfl, q⟩
  refine ⟨rfl, _, ⟨rfl, rfl⟩, _, rfl, rfl, _, ⟨rfl, rfl⟩, rfl, _, rfl, rfl, rfl, _, rfl, ?_⟩
  by_cases h1 : lo ≤ i
  · rw [decide_eq_true h1] at q ⊢
    exact ⟨rfl, _, rfl, rfl, rfl, _, rfl, q⟩
  · rw [decide_eq_false h1] at q ⊢
    exact q
theorem k_need_whole : Keeps b_need_whole cs_need_whole.N ct_need_whole := by
  rintro _ st Qd Ed ⟨i, lo, hi, h1, h2, rfl, q⟩
  refine ⟨i, lo, hi, rfl, ?_⟩
  rw [decide_eq_true h1, decide_eq_true h2]
  exact ⟨true, rfl, q⟩
theorem k_is_note : Keeps b_is_note cs_is_note.N ct_is_note := by
  rintro _ st Qd Ed ⟨x, hx, rfl, q⟩
  cases x with
  | none => exact ⟨rfl, _, rfl, q⟩
  | some i =>
    refine ⟨rfl, _, rfl, i, -60, 60, rfl, ?_⟩
    rw [decide_eq_true hx.1, decide_eq_true hx.2]
    exact q
theorem k_need_tune : Keeps b_need_tune cs_need_tune.N ct_need_tune := by
  rintro _ st Qd Ed ⟨t, ht, rfl, q⟩
  have e1 : decide ((1 : Int) ≤ ((t.map eN).length : Int)) = true := decide_eq_true (by have := ht.lo; rw [List.length_map]; omega)
  have e2 : decide (((t.map eN).length : Int) ≤ 48) = true := decide_eq_true (by have := ht.hi; rw [List.length_map]; omega)
  refine ⟨rfl, _, ⟨rfl, rfl⟩, _, rfl, rfl, _, rfl, true, (by show D.bl true = .bl _; rw [e1]), true, (by show D.bl true = .bl _; rw [e2]), true, rfl, ?_⟩
  refine ⟨_, _, rfl, rfl, ?_⟩
  refine forW_ind (fun ds ρ _ => (∀ d ∈ ds, ∃ (i : Int) (x : Option Int), okN x ∧ d = .tup [.int i, eN x]) ∧ ∃ a b : Sl, ρ = [.val (eT t), a, b]) (fun ρ st hP => ?_) (fun d ds ρ st hP => ?_) _ _ _ ⟨fun d hd => ?_, _, _, rfl⟩
  · obtain ⟨_, a, b, rfl⟩ := hP
    exact q
  · obtain ⟨hd, a, b, rfl⟩ := hP
    obtain ⟨i, x, hx, rfl⟩ := hd d List.mem_cons_self
    refine ⟨[.val (eT t), .val (.int i), .val (eN x)], rfl, fun nx hn => ?_⟩
    exact ⟨x, hx, rfl, true, rfl, hn _ _ ⟨fun d h => hd d (List.mem_cons_of_mem _ h), _, _, rfl⟩⟩
  · obtain ⟨i, x, hx, rfl⟩ := mem_enum 0 _ d hd
    obtain ⟨y, hy, rfl⟩ := List.mem_map.mp hx
    exact ⟨i, y, ht.ok y hy, rfl⟩
def rEnv (l : List Int) (hi : Int) : Env := [.val (.tup (l.map .int)), .val (.int 0), .val (.int hi), .un, .un]
def rOne : X := .comp [3, 1, 2] [3] (.n 3) (.seq (.x (.v 0) .nil)) .nil (.call 0 (.x (.v 3) (.x (.v 1) (.x (.v 2) .nil))))
def rTwo : X := .comp [] [3, 4] (.t [.n 3, .n 4]) (.zip (.x (.v 0) (.x (.op (.slice true false) (.p 0 (.x (.k (.int 1)) .nil))) .nil))) .nil (.op .lt (.p 3 (.p 4 .nil)))
theorem w_rOne {l : List Int} {hi : Int} (hl : Rising l hi) {Q E : QX Unit} (h : ∀ acc : List D, (∀ d ∈ acc, d = .bl true) → Q (.lst acc) (rEnv l hi) ()) : wpX ΓL rOne (rEnv l hi) () Q E := by
  have few := hl.few
  have big := line_big
  refine ⟨_, _, rfl, rfl, ?_⟩
  refine compW_ind (fun ds acc _ => (∀ d ∈ ds, ∃ i : Int, 0 ≤ i ∧ i ≤ hi ∧ d = .int i) ∧ (∀ d ∈ acc, d = .bl true) ∧ acc.length + ds.length ≤ 100) (fun acc st hP => h acc hP.2.1) (fun d ds acc st hP => ?_) _ _ _ ⟨fun d hd => ?_, (fun d hd => nomatch hd), ?_⟩
  · obtain ⟨hd, ha, hn⟩ := hP
    obtain ⟨i, h1, h2, rfl⟩ := hd d List.mem_cons_self
    rw [List.length_cons] at hn
    refine ⟨_, rfl, fun skip keep hs hk => ⟨i, 0, hi, rfl, rfl, ?_⟩⟩
    rw [decide_eq_true h1, decide_eq_true h2]
    exact hk _ _ (by omega) ⟨fun d h => hd d (List.mem_cons_of_mem _ h), snoc_true ha, by rw [List.length_append, List.length_singleton]; omega⟩
  · obtain ⟨i, h, rfl⟩ := List.mem_map.mp hd
    exact ⟨i, hl.lo i h, hl.hi i h, rfl⟩
  · rw [List.length_map]
    show 0 + l.length ≤ 100
    omega
theorem w_rTwo {l : List Int} {hi : Int} (hl : Rising l hi) {Q E : QX Unit} (h : ∀ acc : List D, (∀ d ∈ acc, d = .bl true) → Q (.lst acc) (rEnv l hi) ()) : wpX ΓL rTwo (rEnv l hi) () Q E := by
  have few := hl.few
  have big := line_big
  refine ⟨rfl, _, rfl, ?_⟩
  have hm := mem_zip1 l hl.up
  have hz := zipD_len (l.map D.int) ((l.map D.int).drop 1)
  rw [List.length_map] at hz
  rw [← cut_one] at hm hz
  refine compW_ind (fun ds acc _ => (∀ d ∈ ds, ∃ a b : Int, a < b ∧ d = .tup [.int a, .int b]) ∧ (∀ d ∈ acc, d = .bl true) ∧ acc.length + ds.length ≤ 100) (fun acc st hP => h acc hP.2.1) (fun d ds acc st hP => ?_) _ _ _ ⟨hm, (fun d hd => nomatch hd), Nat.le_trans (Nat.le_of_eq (Nat.zero_add _)) (Nat.le_trans hz few)⟩
  obtain ⟨hd, ha, hn⟩ := hP
  obtain ⟨i, j, h1, rfl⟩ := hd d List.mem_cons_self
  rw [List.length_cons] at hn
  refine ⟨_, rfl, fun skip keep hs hk => ⟨rfl, rfl, _, rfl, rfl, ?_⟩⟩
  rw [decide_eq_true h1]
  exact hk _ _ (by omega) ⟨fun d h => hd d (List.mem_cons_of_mem _ h), snoc_true ha, by rw [List.length_append, List.length_singleton]; omega⟩
theorem e_all {x : X} {ρ : Env} {Q E : QX Unit} (h : ∀ Q' E' : QX Unit, (∀ acc : List D, (∀ d ∈ acc, d = .bl true) → Q' (.lst acc) ρ ()) → wpX ΓL x ρ () Q' E') (q : Q (.bl true) ρ ()) : wpX ΓL (.op .all (.x x .nil)) ρ () Q E := by
  refine h _ _ fun acc ha => ?_
  obtain ⟨bs, e, a⟩ := bls_true acc ha
  exact ⟨_, ⟨bs, e, rfl⟩, by rw [a]; exact q⟩
theorem k_is_rising : Keeps b_is_rising cs_is_rising.N ct_is_rising := by
  rintro _ st Qd Ed ⟨l, hi, hl, rfl, q⟩
  have one : ∀ Q E : QX Unit, Q (.bl true) (rEnv l hi) () → wpX ΓL (.op .all (.x rOne .nil)) (rEnv l hi) () Q E := fun Q E h => e_all (fun Q' E' h' => w_rOne hl h') h
  have two : ∀ Q E : QX Unit, Q (.bl true) (rEnv l hi) () → wpX ΓL (.op .all (.x rTwo .nil)) (rEnv l hi) () Q E := fun Q E h => e_all (fun Q' E' h' => w_rTwo hl h') h
  have both : ∀ Q E : QX Unit, Q (.bl false) (rEnv l hi) () → wpX ΓL (.or (.not (.op (.isi [.tuple]) (.p 0 .nil))) (.not (.op .all (.x rOne .nil)))) (rEnv l hi) () Q E := fun Q E h => ⟨rfl, _, ⟨rfl, rfl⟩, _, rfl, one _ _ ⟨_, rfl, h⟩⟩
  refine wps_ife (both _ _ ?_)
  refine wps_ret (r := .nil) (two _ _ ?_)
  exact q

def sEnv (s : Sty) (most : Int) : Env := [.val (eS s), .val (.int most), .un, .un]
def sOne : X := .comp [3, 1] [3] (.n 3) (.seq (.x (.op .tup (.x (.k (.int 1)) (.x (.k (.int 2)) .nil))) .nil)) (.x (.not (.call 5 (.x (.op .ix (.p 0 (.p 3 .nil))) (.x (.k (.int 0)) (.x (.v 1) .nil))))) .nil) (.v 3)
theorem w_sOne {s : Sty} (hs : OkS s) {Q E : QX Unit} (h : Q (.lst []) (sEnv s s.top) ()) : wpX ΓL sOne (sEnv s s.top) () Q E := by
  have big := line_big
  refine ⟨_, ⟨(by show 2 ≤ sizeLine; omega), rfl⟩, _, _, rfl, rfl, ?_⟩
  refine compW_map (fun _ => none) _ _ (fun d hd => ?_) (by show 0 + 2 ≤ sizeLine; omega) h
  rcases List.mem_cons.mp hd with rfl | hd
  · exact ⟨_, rfl, fun skip keep hk => ⟨rfl, rfl, _, rfl, s.B, s.top, hs.b, rfl, _, rfl, hk⟩⟩
  · obtain rfl := List.mem_singleton.mp hd
    exact ⟨_, rfl, fun skip keep hk => ⟨rfl, rfl, _, rfl, s.T, s.top, hs.t, rfl, _, rfl, hk⟩⟩
theorem k_style_fault : Keeps b_style_fault cs_style_fault.N ct_style_fault := by
  rintro _ st Qd Ed ⟨s, hs, rfl, q⟩
  have e1 : decide ((0 : Int) ≤ s.sp) = true := decide_eq_true hs.lo
  have e2 : decide (s.sp ≤ 24) = true := decide_eq_true hs.hi
  refine ⟨rfl, _, ⟨rfl, rfl⟩, _, rfl, rfl, _, rfl, _, rfl, ?_⟩
  refine ⟨rfl, _, rfl, s.sp, 0, 24, rfl, ?_⟩
  rw [e1, e2]
  refine ⟨_, rfl, rfl, _, rfl, _, rfl, ?_⟩
  have tail : ∀ Q : Env → Unit → Prop, True := fun _ => trivial
  have fin : wpSs ΓL (.cons (.set 2 sOne) (.cons (.ret (.ife (.op .ne (.p 2 (.x (.op .lst .nil) .nil))) (.op .tup (.x (.op .ix (.p 2 (.x (.k (.int 0)) .nil))) .nil)) (.k .non))) .nil)) (sEnv s s.top) st (knOf Qd) fun e _ st => Ed e st := by
    refine wps_set (w_sOne hs ?_)
    exact ⟨rfl, _, ⟨Nat.zero_le _, rfl⟩, _, ⟨⟨rfl, rfl⟩, rfl⟩, q⟩
  by_cases h : s.sp = 0
  · rw [decide_eq_true h]
    have : s.top = 60 := if_pos h
    rw [this] at fin
    exact fin
  · rw [decide_eq_false h]
    have : s.top = s.sp - 1 := if_neg h
    rw [this] at fin
    exact ⟨rfl, _, rfl, _, rfl, fin⟩

theorem k_need_style : Keeps b_need_style cs_need_style.N ct_need_style := by
  rintro _ st Qd Ed ⟨s, hs, rfl, q⟩
  exact ⟨s, hs, rfl, rfl, _, rfl, q⟩
theorem k_rest_by : Keeps b_rest_by cs_rest_by.N ct_rest_by := by
  rintro _ st Qd Ed ⟨sp, n, h0, rfl, q⟩
  refine ⟨rfl, _, rfl, ?_⟩
  unfold rest at q
  by_cases h : sp = 0
  · rw [if_pos h] at q
    rw [decide_eq_true h]
    exact q
  · rw [if_neg h] at q
    rw [decide_eq_false h]
    exact ⟨rfl, _, rfl, rfl, _, ⟨by omega, rfl⟩, q⟩
theorem k_interval_of : Keeps b_interval_of cs_interval_of.N ct_interval_of := by
  rintro _ st Qd Ed ⟨s, a, b, h0, rfl, q⟩
  exact ⟨rfl, _, rfl, rfl, rfl, _, rfl, _, rfl, s.sp, _, h0, rfl, q⟩
theorem k_is_barred_by : Keeps b_is_barred_by cs_is_barred_by.N ct_is_barred_by := by
  rintro _ st Qd Ed ⟨s, a, b, h0, rfl, q⟩
  refine ⟨s, a, b, h0, rfl, rfl, _, rfl, _, ⟨⟨rfl, flat_ints s.B⟩, rfl⟩, ?_⟩
  rw [any_ints]
  exact q
theorem k_pair_fault : Keeps b_pair_fault cs_pair_fault.N ct_pair_fault := by
  rintro _ st Qd Ed ⟨s, a, b, x, y, h0, rfl, q⟩
  cases x with
  | none =>
    rw [word_n1] at q
    exact ⟨rfl, _, ⟨⟨rfl, by cases y <;> rfl⟩, rfl⟩, q⟩
  | some x =>
    cases y with
    | none =>
      rw [word_n2] at q
      exact ⟨rfl, _, ⟨⟨rfl, rfl⟩, rfl⟩, q⟩
    | some y =>
      refine ⟨rfl, _, ⟨⟨rfl, rfl⟩, rfl⟩, ?_⟩
      refine ⟨rfl, _, rfl, rfl, _, rfl, s, x, y, h0, rfl, ?_⟩
      refine ⟨rfl, rfl, _, rfl, _, ⟨⟨rfl, flat_ints s.B⟩, rfl⟩, ?_⟩
      rw [any_ints]
      by_cases h : s.B.contains (gap s x y) = true
      · rw [h]
        rw [word_b (show barred s (some x) (some y) = true from h)] at q
        exact q
      · rw [Bool.not_eq_true] at h
        rw [h]
        refine ⟨s, a, b, some x, some y, h0, rfl, ?_⟩
        rw [word_t (show barred s (some x) (some y) = false from h)] at q
        by_cases ht : tied s a b (some x) (some y) = true
        · rw [ht] at q ⊢
          exact q
        · rw [Bool.not_eq_true] at ht
          rw [ht] at q ⊢
          exact q
theorem k_is_tied : Keeps b_is_tied cs_is_tied.N ct_is_tied := by
  rintro _ st Qd Ed ⟨s, a, b, x, y, h0, rfl, q⟩
  have no : tied s a b x y = false → Qd (.bl false) st := fun e => by rw [e] at q; exact q
  cases x with
  | none => exact ⟨rfl, _, ⟨⟨rfl, by cases y <;> rfl⟩, rfl⟩, no tied_n1⟩
  | some x =>
  cases y with
  | none => exact ⟨rfl, _, ⟨⟨rfl, rfl⟩, rfl⟩, no tied_n2⟩
  | some y =>
  cases a with
  | none => exact ⟨rfl, _, ⟨⟨rfl, rfl⟩, rfl⟩, rfl, _, ⟨⟨rfl, by cases b <;> rfl⟩, rfl⟩, no rfl⟩
  | some a =>
  cases b with
  | none => exact ⟨rfl, _, ⟨⟨rfl, rfl⟩, rfl⟩, rfl, _, ⟨⟨rfl, rfl⟩, rfl⟩, no rfl⟩
  | some b =>
  refine ⟨rfl, _, ⟨⟨rfl, rfl⟩, rfl⟩, rfl, _, ⟨⟨rfl, rfl⟩, rfl⟩, rfl, _, rfl, rfl, _, rfl, _, rfl, ?_⟩
  by_cases h1 : a = x
  · rw [decide_eq_true h1]
    exact no (by rw [tied_eq]; simp [h1])
  rw [decide_eq_false h1]
  refine ⟨rfl, _, rfl, rfl, _, rfl, _, rfl, ?_⟩
  by_cases h2 : b = y
  · rw [decide_eq_true h2]
    exact no (by rw [tied_eq]; simp [h2])
  rw [decide_eq_false h2]
  refine ⟨rfl, _, rfl, rfl, _, rfl, s, x, y, h0, rfl, ?_⟩
  refine ⟨rfl, rfl, _, rfl, _, ⟨⟨rfl, flat_ints s.T⟩, rfl⟩, ?_⟩
  rw [any_ints]
  by_cases h3 : s.T.contains (gap s x y) = true
  · rw [h3]
    refine ⟨rfl, rfl, _, rfl, rfl, _, rfl, s, a, b, h0, rfl, _, rfl, ?_⟩
    have e : tied s (some a) (some b) (some x) (some y) = decide (gap s x y = gap s a b) := by
      rw [tied_eq, h3]
      simp only [beq_eq_false_iff_ne.mpr h1, beq_eq_false_iff_ne.mpr h2, Bool.not_false, Bool.true_and]
      rfl
    rw [e] at q
    exact q
  · rw [Bool.not_eq_true] at h3
    rw [h3]
    exact no (by rw [tied_eq, h3]; simp)
theorem k_is_map : Keeps b_is_map cs_is_map.N ct_is_map := by
  rintro _ st Qd Ed ⟨s, r, h, rfl, q⟩
  have h1 : -1 ≤ s ∧ s ≤ 1 ∧ s ≠ 0 := by rcases h.s with e | e <;> subst e <;> decide
  refine ⟨_, rfl, s, -1, 1, rfl, ?_⟩
  rw [decide_eq_true h1.1, decide_eq_true h1.2.1]
  refine ⟨rfl, _, rfl, ?_⟩
  rw [decide_eq_false h1.2.2]
  refine ⟨_, rfl, r, 0 - 60, 60, rfl, ?_⟩
  rw [decide_eq_true (show 0 - 60 ≤ r by have := h.r1; omega), decide_eq_true h.r2]
  exact q
theorem k_way_fault : Keeps b_way_fault cs_way_fault.N ct_way_fault := by
  rintro _ st Qd Ed ⟨w, hw, rfl, q⟩
  have big := line_big
  have l2 : 2 ≤ sizeLine := by omega
  cases w with
  | lag l s r b =>
    obtain ⟨⟨a1, a2⟩, m⟩ := hw
    have m1 : OkM s 0 := ⟨m.s, by decide, by decide⟩
    have m2 : OkM 1 r := ⟨.inl rfl, m.r1, m.r2⟩
    refine ⟨rfl, _, ⟨rfl, rfl⟩, _, rfl, rfl, _, rfl, _, ⟨l2, rfl⟩, _, ⟨⟨rfl, rfl⟩, rfl⟩, rfl, _, rfl, _, ⟨rfl, rfl⟩, _, rfl, ?_⟩
    refine ⟨rfl, _, rfl, rfl, _, rfl, _, rfl, _, rfl, ?_⟩
    refine ⟨rfl, _, rfl, _, rfl, _, ⟨l2, rfl⟩, ?_⟩
    refine ⟨rfl, _, rfl, rfl, _, rfl, rfl, _, rfl, l, 0, 48, rfl, ?_⟩
    rw [decide_eq_true a1, decide_eq_true a2]
    refine ⟨true, rfl, rfl, _, rfl, s, 0, m1, rfl, true, rfl, rfl, _, rfl, 1, r, m2, rfl, true, rfl, ?_⟩
    exact ⟨rfl, _, rfl, _, rfl, rfl, _, rfl, _, ⟨rfl, rfl⟩, _, rfl, q⟩
  | slow f s r =>
    obtain ⟨⟨a1, a2⟩, m⟩ := hw
    have m1 : OkM s 0 := ⟨m.s, by decide, by decide⟩
    have m2 : OkM 1 r := ⟨.inl rfl, m.r1, m.r2⟩
    refine ⟨rfl, _, ⟨rfl, rfl⟩, _, rfl, rfl, _, rfl, _, ⟨l2, rfl⟩, _, ⟨⟨rfl, rfl⟩, rfl⟩, rfl, _, rfl, _, ⟨rfl, rfl⟩, _, rfl, ?_⟩
    refine ⟨rfl, _, rfl, rfl, _, rfl, _, rfl, _, rfl, ?_⟩
    refine ⟨rfl, _, rfl, _, rfl, _, ⟨l2, rfl⟩, ?_⟩
    refine ⟨rfl, _, rfl, rfl, _, rfl, rfl, _, rfl, f, 2, 6, rfl, ?_⟩
    rw [decide_eq_true a1, decide_eq_true a2]
    refine ⟨true, rfl, rfl, _, rfl, s, 0, m1, rfl, true, rfl, rfl, _, rfl, 1, r, m2, rfl, true, rfl, ?_⟩
    exact ⟨rfl, _, rfl, _, rfl, q⟩
theorem k_need_way : Keeps b_need_way cs_need_way.N ct_need_way := by
  rintro _ st Qd Ed ⟨w, hw, rfl, q⟩
  exact ⟨w, hw, rfl, rfl, _, rfl, q⟩
theorem k_need_endless : Keeps b_need_endless cs_need_endless.N ct_need_endless := by
  rintro _ st Qd Ed ⟨b, rfl, q⟩
  exact ⟨rfl, _, ⟨rfl, rfl⟩, _, rfl, q⟩
theorem k_map_times : Keeps b_map_times cs_map_times.N ct_map_times := by
  rintro _ st Qd Ed ⟨w, p, n, hw, rfl, q⟩
  have m := hw.m
  have e2 : ∃ a l tl, eW w = .tup (a :: l :: .int w.s :: .int w.r :: tl) := by cases w <;> exact ⟨_, _, _, rfl⟩
  obtain ⟨a, l, tl, e⟩ := e2
  rw [e]
  unfold mapT at q
  refine ⟨rfl, _, atI_nat' (k := 2) rfl, _, rfl, ?_⟩
  by_cases h : w.s = 1
  · rw [if_pos h] at q
    rw [decide_eq_true h]
    refine ⟨rfl, rfl, rfl, _, atI_nat' (k := 3) rfl, _, ⟨.inr (small64 (by have := m.r1; omega) (by have := m.r2; omega)), rfl⟩, _, rfl, q⟩
  · rw [if_neg h] at q
    rw [decide_eq_false h]
    refine ⟨rfl, _, rfl, _, ⟨by decide, rfl⟩, _, rfl, ?_⟩
    by_cases h2 : n % 2 = 0
    · rw [if_pos h2] at q
      rw [decide_eq_true h2]
      exact q
    · rw [if_neg h2] at q
      rw [decide_eq_false h2]
      exact ⟨rfl, _, atI_nat' (k := 3) rfl, rfl, _, rfl, q⟩
theorem k_power_of : Keeps b_power_of cs_power_of.N ct_power_of := by
  rintro _ st Qd Ed ⟨f, v, f0, f1, v0, v1, rfl, q⟩
  refine ⟨inB62_small (by omega) (by omega), ?_⟩
  refine for_range (fun k ρ _ => ∃ x3 : Sl, ρ = [.val (.int f), .val (.int v), .val (.int (f ^ k)), x3]) v.toNat (fun k ρ st hk hI nx hx => ?_) (fun ρ st hI => ?_) _ _ ⟨.un, by rw [Int.pow_zero]; rfl⟩
  · obtain ⟨x3, rfl⟩ := hI
    refine ⟨rfl, rfl, _, ⟨.inr (small64 (by omega) (by omega)), rfl⟩, hx _ _ ⟨.val (.int (0 + k)), ?_⟩⟩
    rw [Int.pow_succ]; rfl
  · obtain ⟨x3, rfl⟩ := hI
    exact q
theorem k_is_backwards : Keeps b_is_backwards cs_is_backwards.N ct_is_backwards := by
  rintro _ st Qd Ed ⟨w, v, rfl, q⟩
  cases w with
  | slow f s r => exact ⟨rfl, _, rfl, _, rfl, q⟩
  | lag l s r b =>
    refine ⟨rfl, _, rfl, _, rfl, rfl, _, rfl, ?_⟩
    cases b with
    | false => exact q
    | true => exact ⟨rfl, _, rfl, _, ⟨by decide, rfl⟩, _, rfl, q⟩
theorem k_begin_of : Keeps b_begin_of cs_begin_of.N ct_begin_of := by
  rintro _ st Qd Ed ⟨w, v, hw, rfl, q⟩
  cases w with
  | slow f s r => exact ⟨rfl, _, rfl, _, rfl, q⟩
  | lag l s r b =>
    obtain ⟨⟨a1, a2⟩, m⟩ := hw
    exact ⟨rfl, _, rfl, _, rfl, rfl, rfl, _, rfl, _, ⟨.inr (small64 (by omega) (by omega)), rfl⟩, q⟩
theorem k_notes_gone : Keeps b_notes_gone cs_notes_gone.N ct_notes_gone := by
  rintro _ st Qd Ed ⟨w, v, x, hw, hx, hv, rfl, q⟩
  cases w with
  | lag l s r b =>
    refine ⟨rfl, _, rfl, _, rfl, 1, ?_⟩
    exact ⟨rfl, _, rfl, q⟩
  | slow f s r =>
    obtain ⟨⟨a1, a2⟩, m⟩ := hw
    obtain ⟨k, rfl⟩ : ∃ k : Nat, v = (k : Int) := ⟨v.toNat, by omega⟩
    refine ⟨rfl, _, rfl, _, rfl, ?_⟩
    refine while_ind (fun n ρ _ => ∃ y : Int, 0 ≤ y ∧ y / f ^ n = x / f ^ k ∧ ρ = [.val (eW (.slow f s r)), .val (.int k), .val (.int x), .val (.int y), .val (.int (n : Int))]) (fun n ρ st hI nx hn => ?_) k ⟨x, hx, rfl, rfl⟩
    obtain ⟨y, hy, he, rfl⟩ := hI
    have done : y / f ^ n = y → wpSs ΓL (.cons (.ret (.v 3)) .nil) [.val (eW (.slow f s r)), .val (.int k), .val (.int x), .val (.int y), .val (.int (n : Int))] st (knOf Qd) (fun e _ st => Ed e st) := fun e => by
      rw [e] at he
      subst he
      exact q
    refine ⟨rfl, _, rfl, ?_⟩
    cases n with
    | zero => exact done (by rw [Int.pow_zero, Int.ediv_one])
    | succ n =>
      rw [decide_eq_true (show (0 : Int) < ((n + 1 : Nat) : Int) by omega)]
      refine ⟨rfl, _, rfl, ?_⟩
      by_cases h0 : 0 < y
      · rw [decide_eq_true h0]
        refine ⟨rfl, rfl, _, rfl, _, ⟨⟨by omega, by rw [b30_eq]; omega⟩, rfl⟩, rfl, _, rfl, hn n _ _ (Nat.lt_succ_self n) ⟨y / f, Int.ediv_nonneg hy (by omega), ?_, ?_⟩⟩
        · rw [← he, Int.ediv_ediv_of_nonneg (by omega), Int.pow_succ, Int.mul_comm]
        · show [_, _, _, _, Sl.val (D.int (((n + 1 : Nat) : Int) - 1))] = _
          rw [show ((n + 1 : Nat) : Int) - 1 = (n : Int) by omega]
      · rw [decide_eq_false h0]
        have : y = 0 := by omega
        subst this
        exact done (by rw [Int.zero_ediv])
theorem k_place_at : Keeps b_place_at cs_place_at.N ct_place_at := by
  rintro _ st Qd Ed ⟨t, w, v, b, e, ht, hw, hv, rfl, q⟩
  have hm : ((t.map eN).length : Int) = t.length := by rw [List.length_map]
  refine ⟨rfl, w, v, hw, rfl, _, rfl, rfl, _, rfl, ?_⟩
  unfold placeT at q
  by_cases h : b - begW w v < 0
  · rw [if_pos h] at q
    rw [decide_eq_true h]
    exact ⟨_, rfl, q⟩
  rw [if_neg h] at q
  rw [decide_eq_false h]
  refine ⟨w, v, b - begW w v, hw, by omega, hv, rfl, ?_⟩
  refine ⟨rfl, rfl, _, rfl, _, rfl, ?_⟩
  rw [hm]
  have tail : ¬ ((t.length : Int) ≤ goneW w v (b - begW w v) ∧ e = false) → wpSs ΓL (match b_place_at with | .cons _ (.cons _ (.cons _ (.cons _ r))) => r | _ => .nil) [.val (eT t), .val (eW w), .val (.int v), .val (.int b), .val (.bl e), .val (.int (goneW w v (b - begW w v)))] st (knOf Qd) (fun e _ st => Ed e st) := fun h2 => by
    rw [if_neg h2] at q
    refine ⟨rfl, _, rfl, rfl, _, rfl, _, ⟨by rw [hm]; omega, rfl⟩, ?_⟩
    rw [hm]
    refine ⟨w, v, rfl, ?_⟩
    cases hb : backw w v with
    | true =>
      rw [hb] at q
      refine ⟨rfl, _, rfl, _, rfl, rfl, _, rfl, ?_⟩
      rw [hm]
      exact q
    | false =>
      rw [hb] at q
      exact q
  by_cases h2 : (t.length : Int) ≤ goneW w v (b - begW w v)
  · rw [decide_eq_true h2]
    cases e with
    | true => exact ⟨true, rfl, tail fun z => by cases z.2⟩
    | false =>
      rw [if_pos ⟨h2, rfl⟩] at q
      exact ⟨false, rfl, _, rfl, q⟩
  · rw [decide_eq_false h2]
    exact tail fun z => h2 z.1
theorem k_sung : Keeps b_sung cs_sung.N ct_sung := by
  rintro _ st Qd Ed ⟨t, w, v, b, e, ht, hw, hv, rfl, q⟩
  refine ⟨t, w, v, b, e, ht, hw, hv, rfl, rfl, _, rfl, ?_⟩
  unfold sungT at q
  have p0 := placeT_lo (n := t.length) (w := w) (v := v) (b := b) (e := e) ht
  have p1 := placeT_hi (n := t.length) (w := w) (v := v) (b := b) (e := e) ht
  by_cases h : placeT t.length w v b e < 0
  · rw [if_pos h] at q
    rw [decide_eq_true h]
    exact q
  rw [if_neg h] at q
  rw [decide_eq_false h]
  have ha := at0_atI (t := t) (placeT t.length w v b e) (by omega) p1
  refine ⟨rfl, rfl, _, ha, _, rfl, ?_⟩
  cases hp : at0 t (placeT t.length w v b e) with
  | none =>
    rw [hp] at q
    exact q
  | some p =>
    rw [hp] at q ha
    exact ⟨rfl, rfl, _, ha, w, p, v, hw, rfl, q⟩
theorem k_common : Keeps b_common cs_common.N ct_common := by
  rintro _ st Qd Ed ⟨a, b, ha, hb, hab, rfl, q⟩
  obtain ⟨m, rfl⟩ : ∃ m : Nat, b = (m : Int) := ⟨b.toNat, by omega⟩
  refine while_ind (fun n ρ _ => ∃ x : Int, 0 ≤ x ∧ (0 < x ∨ 0 < n) ∧ gcdI x n = gcdI a m ∧ ρ = [.val (.int x), .val (.int (n : Int))]) (fun n ρ st hI nx hn => ?_) m ⟨a, ha, by omega, rfl, rfl⟩
  obtain ⟨x, hx, hxn, hg, rfl⟩ := hI
  refine ⟨rfl, _, rfl, ?_⟩
  by_cases h0 : (n : Int) = 0
  · rw [decide_eq_true h0]
    have h0 : n = 0 := by omega
    subst h0
    refine ⟨rfl, _, rfl, ?_⟩
    have hg : gcdI x 0 = gcdI a m := hg
    rw [gcdI_zero hx] at hg
    rw [if_neg (by omega), hg]
    exact q
  · rw [decide_eq_false h0]
    have hp : (0 : Int) < n := by omega
    have r0 := Int.emod_nonneg x (b := (n : Int)) (by omega)
    have r1 := Int.emod_lt_of_pos x hp
    refine ⟨rfl, _, rfl, rfl, _, ⟨hp, rfl⟩, hn (x % n).toNat _ _ (by omega) ⟨n, by omega, by omega, ?_, ?_⟩⟩
    · rw [Int.toNat_of_nonneg r0, gcdI_step hx hp]
      exact hg
    · rw [Int.toNat_of_nonneg r0]; rfl
theorem k_joint : Keeps b_joint cs_joint.N ct_joint := by
  rintro _ st Qd Ed ⟨a, b, ha, hb, ha2, hb2, rfl, q⟩
  have g0 := gcdI_pos (a := a) (b := b) (.inl ha)
  have g1 := gcdI_leL (a := a) (b := b) ha
  exact ⟨rfl, a, b, by omega, by omega, .inl ha, rfl, _, ⟨⟨g0, by rw [b30_eq]; omega⟩, rfl⟩, rfl, _, ⟨.inr (small64 (by omega) (by omega)), rfl⟩, q⟩
theorem k_least_over : Keeps b_least_over cs_least_over.N ct_least_over := by
  rintro _ st Qd Ed ⟨a, b, hb, hb2, rfl, q⟩
  exact ⟨rfl, rfl, _, rfl, _, rfl, rfl, _, ⟨⟨hb, by rw [b30_eq]; omega⟩, rfl⟩, q⟩
theorem k_never_together : Keeps b_never_together cs_never_together.N ct_never_together := by
  rintro _ st Qd Ed ⟨w, e, rfl, q⟩
  cases w with
  | slow f sg r => exact ⟨rfl, _, rfl, _, rfl, q⟩
  | lag l sg r b =>
    refine ⟨rfl, _, rfl, _, rfl, e, rfl, ?_⟩
    cases e with
    | true => exact q
    | false => exact ⟨rfl, _, rfl, _, rfl, q⟩
theorem k_climbs : Keeps b_climbs cs_climbs.N ct_climbs := by
  rintro _ st Qd Ed ⟨w, rfl, q⟩
  obtain ⟨a, l, tl, e⟩ : ∃ a l tl, eW w = .tup (a :: l :: .int w.s :: .int w.r :: tl) := by cases w <;> exact ⟨_, _, _, rfl⟩
  rw [e]
  refine ⟨rfl, _, atI_nat' (k := 2) rfl, _, rfl, ?_⟩
  unfold climbL at q
  by_cases h : w.s = 1
  · rw [decide_eq_true h] at q ⊢
    refine ⟨rfl, _, atI_nat' (k := 3) rfl, _, rfl, ?_⟩
    have : (true && decide (w.r ≠ 0)) = !decide (w.r = 0) := by simp
    rw [this] at q
    exact q
  · rw [decide_eq_false h] at q ⊢
    exact q
theorem ro_nint (k : List Int) (p : Int) : ((k.map D.int).any fun y => y.eqv (.int p)) = decide (p ∈ k) := by
  induction k with
  | nil => rfl
  | cons x r ih =>
    rw [List.map_cons, List.any_cons, ih, show (D.int x).eqv (.int p) = (x == p) from rfl]
    by_cases h : x = p
    · subst h; simp
    · have h2 : ¬ p = x := fun e => h e.symm
      simp [h, h2]
theorem ro_pre : ∀ (k : List Int) (p : Int) (m : Nat) (x : Int), m < k.idxOf p → k[m]? = some x → x ≠ p
  | [], _, _, _, h, _ => by simp at h
  | y :: r, p, m, x, h, hx => by
    rw [List.idxOf_cons] at h
    by_cases hy : y = p
    · subst hy; simp at h
    · rw [show (y == p) = false by simpa using hy] at h
      simp only [cond_false] at h
      cases m with
      | zero => cases hx; exact hy
      | succ m => exact ro_pre r p m x (by omega) hx
theorem ro_ix {k : List Int} {p : Int} (h : p ∈ k) : Op.index.sem [.lst (k.map .int), .int p] (.int (k.idxOf p : Nat)) := by
  have hl : k.idxOf p < k.length := List.idxOf_lt_length_of_mem h
  refine ⟨⟨rfl, eqOk_ints _ _⟩, k.idxOf p, .int p, ?_, ?_, fun m z hm hz => ?_, rfl⟩
  · rw [List.getElem?_map, List.getElem?_eq_getElem hl, List.getElem_idxOf]; rfl
  · show (p == p) = true
    simp
  · rw [List.getElem?_map] at hz
    cases hk : k[m]? with
    | none => rw [hk] at hz; cases hz
    | some x =>
      rw [hk] at hz
      cases hz
      have := ro_pre k p m x hm hk
      show (x == p) = false
      simpa using this
theorem k_rests_of : Keeps b_rests_of cs_rests_of.N ct_rests_of := by
  rintro _ st Qd Ed ⟨f, n, f1, f2, n1, n2, rfl, q⟩
  have big := line_big
  refine ⟨_, ⟨Nat.zero_le _, rfl⟩, _, rfl, _, rfl, rfl, _, ⟨by omega, rfl⟩, ?_⟩
  refine while_ind (fun m ρ _ => ∃ (k : List Int) (p : Int), m + k.length = 60 ∧ RndI f n k p ∧ ρ = [.val (.int f), .val (.int n), .own (k.map .int), .val (.int p)]) (fun m ρ st hI nx hx => ?_) 60 ⟨[], 1 % n, rfl, RndI.ini n1, rfl⟩
  obtain ⟨k, p, hm, hR, rfl⟩ := hI
  have hl := hR.len n2
  refine ⟨rfl, rfl, _, ⟨⟨rfl, eqOk_ints _ _⟩, rfl⟩, ?_⟩
  rw [ro_nint]
  by_cases h : p ∈ k
  · rw [decide_eq_true h]
    have ix := ro_ix h
    have hr : roundI f n = (((k.idxOf p : Nat) : Int), (k.length : Int) - (k.idxOf p : Nat)) := by unfold roundI; rw [hR.fin n2 h]
    rw [hr] at q
    have q : Qd (.tup [.int (k.idxOf p : Nat), .int (((k.map D.int).length : Int) - (k.idxOf p : Nat))]) st := by rw [List.length_map]; exact q
    exact ⟨rfl, _, ix, rfl, _, rfl, rfl, _, ix, _, rfl, _, ⟨(by show 2 ≤ sizeLine; omega), rfl⟩, q⟩
  · rw [decide_eq_false h]
    refine ⟨⟨_, rfl⟩, _, rfl, ?_, rfl, rfl, _, ⟨.inr (small64 (by omega) (by omega)), rfl⟩, _, rfl, rfl, _, ⟨by omega, rfl⟩, hx (m - 1) _ _ (by omega) ⟨k ++ [p], p * f % n, ?_, hR.next n1 n2 h, ?_⟩⟩
    · rw [List.length_map]; omega
    · rw [List.length_append, List.length_singleton]; omega
    · rw [List.map_append]; rfl
theorem k_exponent_over : Keeps b_exponent_over cs_exponent_over.N ct_exponent_over := by
  rintro _ st Qd Ed ⟨f, n, f1, f2, n1, n2, rfl, q⟩
  have big := line_big
  obtain ⟨s1, s2, s3⟩ := expo_spec f1 f2 n2
  refine ⟨.tup [.int 0, .int 1], ⟨(by show 2 ≤ sizeLine; omega), rfl⟩, ?_⟩
  refine while_ind (fun m ρ _ => ∃ x : Nat, m + x = expoI f n ∧ ρ = [.val (.int f), .val (.int n), .val (.int x), .val (.int (f ^ x))]) (fun m ρ st hI nx hx => ?_) (expoI f n) ⟨0, by omega, by rw [Int.pow_zero]; rfl⟩
  obtain ⟨x, hm, rfl⟩ := hI
  refine ⟨rfl, rfl, _, rfl, ?_⟩
  by_cases h : f ^ x < n
  · rw [decide_eq_true h]
    have hlt : x < expoI f n := by
      rcases Nat.lt_or_ge x (expoI f n) with z | z
      · exact z
      · have := pow_up f1 z; omega
    refine ⟨rfl, _, rfl, rfl, rfl, _, ⟨.inr (small64 (by omega) (by omega)), rfl⟩, hx (m - 1) _ _ (by omega) ⟨x + 1, by omega, ?_⟩⟩
    rw [Int.pow_succ]; rfl
  · rw [decide_eq_false h]
    have : x = expoI f n := expo_uniq f1 f2 n2 (by omega) fun y hy => s2 y (by omega)
    subst this
    exact q
def rcTail : Stms := match b_reach_of with
  | .cons _ (.cons _ (.cons _ (.cons _ (.cons _ r)))) => r
  | _ => .nil
theorem w_rcTail {n : Int} {s : Sty} {l sg r : Int} {b e : Bool} (n1 : 1 ≤ n) (n2 : n ≤ 48) (hw : OkW (.lag l sg r b)) {f p rise : Int} (p1 : 1 ≤ p) (p2 : p ≤ 1000) {st : Unit} {Qd Ed : D → Unit → Prop} (q : Qd (.tup [.int f, .int (if e then jointI p (n / gcdI n l) else p)]) st) :
    wpSs ΓL rcTail [.val (.int n), .val (eS s), .val (eW (.lag l sg r b)), .val (.bl e), .val (.int rise), .val (.int f), .val (.int p), .un, .un] st (knOf Qd) (fun e _ st => Ed e st) := by
  have big := line_big
  have hl : 0 ≤ l ∧ l ≤ 48 := hw.1
  obtain ⟨d1, d2⟩ := div_gcd (n := n) (l := l) (by omega)
  have g0 := gcdI_pos (a := n) (b := l) (.inl (by omega))
  have g1 := gcdI_leL (a := n) (b := l) (by omega)
  have last : ∀ p' : Int, Qd (.tup [.int f, .int p']) st → wpSs ΓL (match rcTail with | .cons _ r => r | _ => .nil) [.val (.int n), .val (eS s), .val (eW (.lag l sg r b)), .val (.bl e), .val (.int rise), .val (.int f), .val (.int p'), .un, .un] st (knOf Qd) (fun e _ st => Ed e st) := fun p' q => by
    exact ⟨rfl, _, rfl, _, rfl, _, ⟨(by show 2 ≤ sizeLine; omega), rfl⟩, q⟩
  refine ⟨rfl, _, rfl, _, rfl, ?_⟩
  cases e with
  | true => exact ⟨rfl, rfl, _, rfl, n, l, by omega, by omega, .inl (by omega), rfl, _, ⟨⟨g0, by rw [b30_eq]; omega⟩, rfl⟩, p, n / gcdI n l, by omega, d1, by omega, by omega, rfl, last _ q⟩
  | false => exact last _ q
def rcMid : Stms := match b_reach_of with
  | .cons _ (.cons _ (.cons _ (.cons _ r))) => r
  | _ => .nil
theorem w_rcMid {n : Int} {s : Sty} {l sg r : Int} {b e : Bool} (n1 : 1 ≤ n) (n2 : n ≤ 48) (hs : OkS s) (hw : OkW (.lag l sg r b)) (hc : climbL sg r = true → 0 < s.sp) {st : Unit} {Qd Ed : D → Unit → Prop}
    (q : Qd (.tup [.int (plainL n s.sp l sg r b e).1, .int (plainL n s.sp l sg r b e).2]) st) :
    wpSs ΓL rcMid [.val (.int n), .val (eS s), .val (eW (.lag l sg r b)), .val (.bl e), .val (.int (absI r)), .val (.int 0), .val (.int (p0L sg b)), .un, .un] st (knOf Qd) (fun e _ st => Ed e st) := by
  have hr : -60 ≤ r ∧ r ≤ 60 := ⟨hw.2.r1, hw.2.r2⟩
  have hp := p0L_pos (sg := sg) (b := b)
  have hs2 := hs.hi
  refine ⟨.lag l sg r b, rfl, ?_⟩
  unfold plainL at q
  have ec : climbL (Way.lag l sg r b).s (Way.lag l sg r b).r = climbL sg r := rfl
  rw [ec]
  cases hcc : climbL sg r with
  | true =>
    have hs0 := hc hcc
    have hr0 : r ≠ 0 := by unfold climbL at hcc; simp at hcc; exact hcc.2
    have ha := absI_pos hr0
    have ha2 := absI_le hr.1 hr.2
    rw [hcc, if_pos rfl] at q
    obtain ⟨d1, d2⟩ := div_gcd (n := s.sp) (l := absI r) hs0
    have g0 := gcdI_pos (a := s.sp) (b := absI r) (.inl hs0)
    have g1 := gcdI_leL (a := s.sp) (b := absI r) hs0
    have j1 := jointI_pos (a := p0L sg b) hp.1 d1
    have j2 := jointI_le (a := p0L sg b) hp.1 d1
    have j3 : p0L sg b * (s.sp / gcdI s.sp (absI r)) ≤ 2 * 24 := Int.mul_le_mul hp.2 (by omega) (by omega) (by omega)
    refine ⟨120, absI r, ha, by omega, rfl, rfl, _, rfl, rfl, _, rfl, s.sp, absI r, by omega, by omega, .inl hs0, rfl, _, ⟨⟨g0, by rw [b30_eq]; omega⟩, rfl⟩, p0L sg b, s.sp / gcdI s.sp (absI r), hp.1, d1, by omega, by omega, rfl, ?_⟩
    exact w_rcTail n1 n2 hw (by omega) (by omega) q
  | false =>
    rw [hcc, if_neg Bool.false_ne_true] at q
    exact w_rcTail n1 n2 hw (by omega) (by omega) q
theorem w_reachL {n : Int} {s : Sty} {l sg r : Int} {b e : Bool} (n1 : 1 ≤ n) (n2 : n ≤ 48) (hs : OkS s) (hw : OkW (.lag l sg r b)) {st : Unit} {Qd Ed : D → Unit → Prop} (q : Qd (.tup [.int (reachL n s.sp l sg r b e).1, .int (reachL n s.sp l sg r b e).2]) st) :
    wpSs ΓL b_reach_of (startE cs_reach_of.N [.int n, eS s, eW (.lag l sg r b), .bl e]) st (knOf Qd) fun e _ st => Ed e st := by
  have big := line_big
  have hl : 0 ≤ l ∧ l ≤ 48 := hw.1
  have hr : -60 ≤ r ∧ r ≤ 60 := ⟨hw.2.r1, hw.2.r2⟩
  unfold reachL at q
  refine ⟨rfl, _, rfl, _, rfl, .lag l sg r b, e, rfl, ?_⟩
  have rest : ¬ (e = false ∧ 0 < l) → wpSs ΓL (match b_reach_of with | .cons _ (.cons _ r) => r | _ => .nil) [.val (.int n), .val (eS s), .val (eW (.lag l sg r b)), .val (.bl e), .val (.int (absI r)), .un, .un, .un, .un] st (knOf Qd) (fun e _ st => Ed e st) := fun h1 => by
    rw [if_neg h1] at q
    have go : ¬ (climbL sg r = true ∧ s.sp = 0) → wpSs ΓL (match b_reach_of with | .cons _ (.cons _ (.cons _ r)) => r | _ => .nil) [.val (.int n), .val (eS s), .val (eW (.lag l sg r b)), .val (.bl e), .val (.int (absI r)), .un, .un, .un, .un] st (knOf Qd) (fun e _ st => Ed e st) := fun h2 => by
      rw [if_neg h2] at q
      have fin := w_rcMid (Ed := Ed) n1 n2 hs hw (fun hc => by
        rcases Int.lt_or_lt_of_ne (show s.sp ≠ 0 from fun z => h2 ⟨hc, z⟩) with z | z
        · have := hs.lo; omega
        · exact z) q
      refine ⟨rfl, _, rfl, _, rfl, _, rfl, ?_⟩
      unfold p0L at fin
      by_cases h3 : sg = -1
      · rw [decide_eq_true h3]
        rw [if_pos (.inl h3)] at fin
        exact fin
      · rw [decide_eq_false h3]
        refine ⟨rfl, _, rfl, _, rfl, rfl, _, rfl, ?_⟩
        cases b with
        | true =>
          rw [if_pos (.inr rfl)] at fin
          exact fin
        | false =>
          rw [if_neg (by rintro (z | z); exact h3 z; cases z)] at fin
          exact fin
    refine ⟨.lag l sg r b, rfl, ?_⟩
    have ec : climbL (Way.lag l sg r b).s (Way.lag l sg r b).r = climbL sg r := rfl
    rw [ec]
    cases hcc : climbL sg r with
    | false => exact go fun z => by rw [hcc] at z; cases z.1
    | true =>
      have hr0 : r ≠ 0 := by unfold climbL at hcc; simp at hcc; exact hcc.2
      have ha := absI_pos hr0
      have ha2 := absI_le hr.1 hr.2
      refine ⟨rfl, _, rfl, _, rfl, ?_⟩
      by_cases h0 : s.sp = 0
      · rw [decide_eq_true h0]
        rw [if_pos ⟨hcc, h0⟩] at q
        exact ⟨rfl, _, ⟨⟨ha, by rw [b30_eq]; omega⟩, rfl⟩, _, rfl, _, ⟨(by show 2 ≤ sizeLine; omega), rfl⟩, q⟩
      · rw [decide_eq_false h0]
        exact go fun z => h0 z.2
  cases e with
  | true => exact rest fun z => by cases z.1
  | false =>
    have en : neverT (.lag l sg r b) false = decide (0 < l) := rfl
    rw [en]
    by_cases h : 0 < l
    · rw [if_pos ⟨rfl, h⟩] at q
      rw [decide_eq_true h]
      exact ⟨rfl, _, rfl, n, l, h, by omega, rfl, _, ⟨(by show 2 ≤ sizeLine; omega), rfl⟩, q⟩
    · rw [decide_eq_false h]
      exact rest fun z => h z.2
theorem w_rsTail {n : Int} {s : Sty} {f sg r : Int} {e : Bool} (n1 : 1 ≤ n) (n2 : n ≤ 48) (hf : 2 ≤ f ∧ f ≤ 6) {f0 p rise : Int} (p1 : 1 ≤ p) (p2 : p ≤ 1000) {st : Unit} {Qd Ed : D → Unit → Prop}
    (q : Qd (.tup [.int (if e then maxI (maxI f0 (expoI f n)) (roundI f n).1 else maxI f0 (expoI f n)), .int (if e then jointI p (roundI f n).2 else p)]) st) :
    wpSs ΓL rcTail [.val (.int n), .val (eS s), .val (eW (.slow f sg r)), .val (.bl e), .val (.int rise), .val (.int f0), .val (.int p), .un, .un] st (knOf Qd) (fun e _ st => Ed e st) := by
  have big := line_big
  have l2 : 2 ≤ sizeLine := by omega
  obtain ⟨r1, r2, r3, r4⟩ := round_b (f := f) n1 n2
  refine ⟨rfl, _, rfl, _, rfl, ?_⟩
  refine ⟨rfl, _, rfl, _, rfl, rfl, rfl, _, rfl, f, n, hf.1, hf.2, n1, n2, rfl, _, rfl, ?_⟩
  cases e with
  | true => exact ⟨rfl, _, rfl, f, n, hf.1, hf.2, n1, n2, rfl, rfl, rfl, _, rfl, p, (roundI f n).2, by omega, by omega, by omega, by omega, rfl, _, ⟨l2, rfl⟩, q⟩
  | false => exact ⟨_, ⟨l2, rfl⟩, q⟩
theorem w_rsMid {n : Int} {s : Sty} {f sg r : Int} {e : Bool} (n1 : 1 ≤ n) (n2 : n ≤ 48) (hs : OkS s) (hw : OkW (.slow f sg r)) (hc : climbL sg r = true → 0 < s.sp) {st : Unit} {Qd Ed : D → Unit → Prop}
    (q : Qd (.tup [.int (slowP n s.sp f sg r e).1, .int (slowP n s.sp f sg r e).2]) st) :
    wpSs ΓL rcMid [.val (.int n), .val (eS s), .val (eW (.slow f sg r)), .val (.bl e), .val (.int (absI r)), .val (.int 0), .val (.int (p0L sg false)), .un, .un] st (knOf Qd) (fun e _ st => Ed e st) := by
  have hr : -60 ≤ r ∧ r ≤ 60 := ⟨hw.2.r1, hw.2.r2⟩
  have hp := p0L_pos (sg := sg) (b := false)
  have hs2 := hs.hi
  have q2 : Qd (.tup [.int (if e then maxI (maxI (fpS s.sp sg r).1 (expoI f n)) (roundI f n).1 else maxI (fpS s.sp sg r).1 (expoI f n)), .int (if e then jointI (fpS s.sp sg r).2 (roundI f n).2 else (fpS s.sp sg r).2)]) st := by
    unfold slowP at q
    cases e <;> exact q
  have hb := fpS_b hc hs2 hr
  refine ⟨.slow f sg r, rfl, ?_⟩
  have ec : climbL (Way.slow f sg r).s (Way.slow f sg r).r = climbL sg r := rfl
  rw [ec]
  cases hcc : climbL sg r with
  | true =>
    have hs0 := hc hcc
    have hr0 : r ≠ 0 := by unfold climbL at hcc; simp at hcc; exact hcc.2
    have ha := absI_pos hr0
    have ha2 := absI_le hr.1 hr.2
    have ef : fpS s.sp sg r = (overI 120 (absI r), jointI (p0L sg false) (s.sp / gcdI s.sp (absI r))) := if_pos hcc
    rw [ef] at q2 hb
    obtain ⟨d1, d2⟩ := div_gcd (n := s.sp) (l := absI r) hs0
    have g0 := gcdI_pos (a := s.sp) (b := absI r) (.inl hs0)
    have g1 := gcdI_leL (a := s.sp) (b := absI r) hs0
    refine ⟨120, absI r, ha, by omega, rfl, rfl, _, rfl, rfl, _, rfl, s.sp, absI r, by omega, by omega, .inl hs0, rfl, _, ⟨⟨g0, by rw [b30_eq]; omega⟩, rfl⟩, p0L sg false, s.sp / gcdI s.sp (absI r), hp.1, d1, by omega, by omega, rfl, ?_⟩
    exact w_rsTail n1 n2 hw.1 hb.2.2.1 (by have := hb.2.2.2; dsimp only at this; omega) q2
  | false =>
    have ef : fpS s.sp sg r = (0, p0L sg false) := if_neg (by rw [hcc]; exact Bool.false_ne_true)
    rw [ef] at q2
    exact w_rsTail n1 n2 hw.1 (by omega) (by omega) q2
theorem k_reach_of : Keeps b_reach_of cs_reach_of.N ct_reach_of := by
  rintro _ st Qd Ed ⟨n, s, w, e, n1, n2, hs, hw, rfl, q⟩
  cases w with
  | lag l sg r b => exact w_reachL n1 n2 hs hw q
  | slow f sg r =>
    have big := line_big
    have hr : -60 ≤ r ∧ r ≤ 60 := ⟨hw.2.r1, hw.2.r2⟩
    rw [reachW_slow] at q
    refine ⟨rfl, _, rfl, _, rfl, .slow f sg r, e, rfl, ?_⟩
    have go : ¬ (climbL sg r = true ∧ s.sp = 0) → wpSs ΓL (match b_reach_of with | .cons _ (.cons _ (.cons _ r)) => r | _ => .nil) [.val (.int n), .val (eS s), .val (eW (.slow f sg r)), .val (.bl e), .val (.int (absI r)), .un, .un, .un, .un] st (knOf Qd) (fun e _ st => Ed e st) := fun h2 => by
      rw [if_neg h2] at q
      have fin := w_rsMid (Ed := Ed) n1 n2 hs hw (fun hc => by
        rcases Int.lt_or_lt_of_ne (show s.sp ≠ 0 from fun z => h2 ⟨hc, z⟩) with z | z
        · have := hs.lo; omega
        · exact z) q
      refine ⟨rfl, _, rfl, _, rfl, _, rfl, ?_⟩
      unfold p0L at fin
      by_cases h3 : sg = -1
      · rw [decide_eq_true h3]
        rw [if_pos (.inl h3)] at fin
        exact fin
      · rw [decide_eq_false h3]
        rw [if_neg (by rintro (z | z); exact h3 z; cases z)] at fin
        exact ⟨rfl, _, rfl, _, rfl, fin⟩
    refine ⟨.slow f sg r, rfl, ?_⟩
    have ec : climbL (Way.slow f sg r).s (Way.slow f sg r).r = climbL sg r := rfl
    rw [ec]
    cases hcc : climbL sg r with
    | false => exact go fun z => by rw [hcc] at z; cases z.1
    | true =>
      have hr0 : r ≠ 0 := by unfold climbL at hcc; simp at hcc; exact hcc.2
      have ha := absI_pos hr0
      have ha2 := absI_le hr.1 hr.2
      refine ⟨rfl, _, rfl, _, rfl, ?_⟩
      by_cases h0 : s.sp = 0
      · rw [decide_eq_true h0]
        rw [if_pos ⟨hcc, h0⟩] at q
        exact ⟨rfl, _, ⟨⟨ha, by rw [b30_eq]; omega⟩, rfl⟩, _, rfl, _, ⟨(by show 2 ≤ sizeLine; omega), rfl⟩, q⟩
      · rw [decide_eq_false h0]
        exact go fun z => h0 z.2
theorem k_need_all : Keeps b_need_all cs_need_all.N ct_need_all := by
  rintro _ st Qd Ed ⟨t, s, w, ht, hs, hw, rfl, q⟩
  exact ⟨t, ht, rfl, s, hs, rfl, w, hw, rfl, q⟩
def lgEnv (t : List (Option Int)) (s : Sty) (w : Way) (near far : Int) (e : Bool) (en : Int) (p q : Option Int) (x9 x10 x11 : Sl) : Env :=
  [.val (eT t), .val (eS s), .val (eW w), .val (.int near), .val (.int far), .val (.bl e), .val (.int (begW w far)), .val (.int en), .val (.tup [eN p, eN q]), x9, x10, x11]
theorem find_step {p : Nat → Bool} {n k : Nat} (hk : k < n) (hp : ∀ j, j < k → p j = false) : (List.range n).find? p = if p k then some k else (List.range n).find? p := by
  split
  · rename_i h
    rw [List.find?_range_eq_some]
    refine ⟨h, List.mem_range.mpr hk, fun j hj => ?_⟩
    rw [hp j hj]; rfl
  · rfl
theorem lag_at {t : List (Option Int)} {s : Sty} {w : Way} {e : Bool} {near far : Int} {k : Nat} (hk : k < (endT t.length w e near far - begW w far).toNat) (hp : ∀ j, j < k → wdT t s w e near far (begW w far + (j : Nat)) = "") (h : wdT t s w e near far (begW w far + k) ≠ "") :
    lagF t s w e near far = some (begW w far + k, wdT t s w e near far (begW w far + k)) := by
  unfold lagF
  rw [find_step hk (p := fun (k : Nat) => wdT t s w e near far (begW w far + k) != "") fun j hj => by rw [hp j hj]; decide, if_pos (by rw [bne_iff_ne]; exact h)]
  rfl
theorem lag_no {t : List (Option Int)} {s : Sty} {w : Way} {e : Bool} {near far : Int} (hp : ∀ j, j < (endT t.length w e near far - begW w far).toNat → wdT t s w e near far (begW w far + (j : Nat)) = "") : lagF t s w e near far = none := by
  unfold lagF
  have : (List.range (endT t.length w e near far - begW w far).toNat).find? (fun (k : Nat) => wdT t s w e near far (begW w far + k) != "") = none := by
    rw [List.find?_eq_none]
    intro k hk
    rw [hp k (List.mem_range.mp hk)]
    decide
  rw [this]; rfl
def lgBody : Stms := match b_lag_fault with
  | .cons _ (.cons _ (.cons _ (.cons (.for_ _ _ b) _))) => b
  | _ => .nil
def lgLoop : Stms := match b_lag_fault with
  | .cons _ (.cons _ r) => r
  | _ => .nil
theorem w_lgBody {t : List (Option Int)} {s : Sty} {w : Way} {near far : Int} {e : Bool} (ht : OkT t) (hs : OkS s) (hw : OkW w) (n0 : 0 ≤ near) (f0 : 0 ≤ far) {en : Int} {k : Nat} {x10 x11 : Sl} {K : Kn Unit} {E : QX Unit}
    (h1 : wdT t s w e near far (begW w far + k) ≠ "" → K.rt (.tup [.int (begW w far + k), .str (wdT t s w e near far (begW w far + k))]) ())
    (h2 : wdT t s w e near far (begW w far + k) = "" → ∀ y10 y11, K.nx (lgEnv t s w near far e en (sungT t w near (begW w far + k) e) (sungT t w far (begW w far + k) e) (.val (.int (begW w far + k))) y10 y11) ()) :
    wpSs ΓL lgBody (lgEnv t s w near far e en (if k == 0 then none else sungT t w near (begW w far + k - 1) e) (if k == 0 then none else sungT t w far (begW w far + k - 1) e) (.val (.int (begW w far + k))) x10 x11) () K E := by
  have big := line_big
  have l2 : 2 ≤ sizeLine := by omega
  refine ⟨t, w, near, begW w far + k, e, ht.lo, hw, n0, rfl, t, w, far, begW w far + k, e, ht.lo, hw, f0, rfl, _, ⟨l2, rfl⟩, s, _, _, _, _, hs.lo, rfl, ?_⟩
  have e0 := wd0_eq (t := t) (s := s) (w := w) (e := e) (near := near) (far := far) (k := k)
  unfold wd0 at e0
  rw [e0]
  refine ⟨rfl, _, rfl, ?_⟩
  by_cases hz : wdT t s w e near far (begW w far + k) = ""
  · rw [decide_eq_true hz]
    exact h2 hz _ _
  · rw [decide_eq_false hz]
    exact ⟨_, ⟨l2, rfl⟩, h1 hz⟩
theorem w_lgLoop {t : List (Option Int)} {s : Sty} {w : Way} {near far : Int} {e : Bool} (ht : OkT t) (hs : OkS s) (hw : OkW w) (hk0 : match w with | .lag .. => True | .slow .. => False) (n0 : 0 ≤ near) (n1 : near ≤ 1000000) (f0 : 0 ≤ far) (f1 : far ≤ 1000000) {Qd Ed : D → Unit → Prop}
    (q : Qd (match lagF t s w e near far with | none => .non | some y => .tup [.int y.1, .str y.2]) ()) :
    wpSs ΓL lgLoop [.val (eT t), .val (eS s), .val (eW w), .val (.int near), .val (.int far), .val (.bl e), .val (.int (begW w far)), .val (.int (endT t.length w e near far)), .un, .un, .un, .un] () (knOf Qd) (fun e _ st => Ed e st) := by
  have big := line_big
  have b1 : 0 ≤ begW w far ∧ begW w far ≤ 48000000 := by
    cases w with
    | slow f sg r => exact ⟨Int.le_refl 0, by show (0 : Int) ≤ _; decide⟩
    | lag l sg r b =>
      have hl := hw.1
      refine ⟨Int.mul_nonneg f0 hl.1, ?_⟩
      have : far * l ≤ 1000000 * 48 := Int.mul_le_mul f1 hl.2 hl.1 (by decide)
      exact this
  have b2 : 0 ≤ begW w near ∧ begW w near ≤ 48000000 := by
    cases w with
    | slow f sg r => exact ⟨Int.le_refl 0, by show (0 : Int) ≤ _; decide⟩
    | lag l sg r b =>
      have hl := hw.1
      refine ⟨Int.mul_nonneg n0 hl.1, ?_⟩
      have : near * l ≤ 1000000 * 48 := Int.mul_le_mul n1 hl.2 hl.1 (by decide)
      exact this
  have b3 : -100000000 ≤ endT t.length w e near far ∧ endT t.length w e near far ≤ 100000000 := by
    have := ht.hi
    cases w with
    | slow f sg r => exact absurd hk0 (fun h => h)
    | lag l sg r b =>
      show _ ≤ (if e then begW (.lag l sg r b) far + (t.length : Int) + 1 else begW (.lag l sg r b) near + t.length) ∧ (if e then begW (.lag l sg r b) far + (t.length : Int) + 1 else begW (.lag l sg r b) near + t.length) ≤ _
      split <;> omega
  refine ⟨_, ⟨(by show 2 ≤ sizeLine; omega), rfl⟩, ⟨inB62_small (by omega) (by omega), inB62_small (by omega) (by omega)⟩, ?_⟩
  refine for_range (fun k ρ _ => (∀ j, j < k → wdT t s w e near far (begW w far + (j : Nat)) = "") ∧ ∃ x9 x10 x11 : Sl, ρ = lgEnv t s w near far e (endT t.length w e near far) (if k == 0 then none else sungT t w near (begW w far + k - 1) e) (if k == 0 then none else sungT t w far (begW w far + k - 1) e) x9 x10 x11) (endT t.length w e near far - begW w far).toNat (fun k ρ st hk hI nx hx => ?_) (fun ρ st hI => ?_) _ _ ⟨fun j hj => absurd hj (Nat.not_lt_zero j), .un, .un, .un, rfl⟩
  · obtain ⟨hp, x9, x10, x11, rfl⟩ := hI
    refine w_lgBody ht hs hw n0 f0 (fun hz => ?_) (fun hz y10 y11 => hx _ _ ⟨fun j hj => ?_, .val (.int (begW w far + k)), y10, y11, ?_⟩)
    · rw [lag_at hk hp hz] at q
      exact q
    · by_cases hj2 : j < k
      · exact hp j hj2
      · obtain rfl : j = k := by omega
        exact hz
    · rw [show (k + 1 == 0) = false from rfl, if_neg Bool.false_ne_true, if_neg Bool.false_ne_true, show begW w far + ((k + 1 : Nat) : Int) - 1 = begW w far + (k : Int) by omega]
  · obtain ⟨hp, x9, x10, x11, rfl⟩ := hI
    rw [lag_no hp] at q
    exact q
theorem k_lag_fault : Keeps b_lag_fault cs_lag_fault.N ct_lag_fault := by
  rintro _ st Qd Ed ⟨t, s, l, sg, r, b, near, far, e, ht, hs, hw, n0, n1, f0, f1, rfl, q⟩
  have fin := w_lgLoop (Ed := Ed) ht hs hw trivial n0 n1 f0 f1 q
  have hm : ((t.map eN).length : Int) = t.length := by rw [List.length_map]
  have ee : endT t.length (.lag l sg r b) e near far = if e then begW (.lag l sg r b) far + t.length + 1 else begW (.lag l sg r b) near + t.length := rfl
  rw [ee] at fin
  refine ⟨.lag l sg r b, far, hw, rfl, ?_⟩
  cases e with
  | true =>
    refine ⟨rfl, rfl, _, rfl, _, rfl, _, rfl, ?_⟩
    rw [hm]
    exact fin
  | false =>
    refine ⟨.lag l sg r b, near, hw, rfl, rfl, _, rfl, _, rfl, ?_⟩
    rw [hm]
    exact fin
theorem k_note_of : Keeps b_note_of cs_note_of.N ct_note_of := by
  rintro _ st Qd Ed ⟨t, w, i, a, hw, i0, i1, rfl, q⟩
  have hg : atI (t.map eN) i = some (eN (at0 t i)) := at0_atI i (by omega) i1
  unfold hiS at q
  cases h : at0 t i with
  | none =>
    rw [h] at q hg
    exact ⟨rfl, rfl, _, hg, _, rfl, q⟩
  | some p =>
    rw [h] at q hg
    exact ⟨rfl, rfl, _, hg, _, rfl, rfl, rfl, _, hg, w, p, a, hw, rfl, q⟩
def sbEnv (t : List (Option Int)) (s : Sty) (f sg r a : Int) (e : Bool) (x5 : Sl) (F : Int) (x8 x9 x10 x11 : Sl) : Env :=
  [.val (eT t), .val (eS s), .val (eW (.slow f sg r)), .val (.int a), .val (.bl e), x5, .val (.int t.length), .val (.int F), x8, x9, x10, x11]
def sbBody : Stms := match b_slow_barred with
  | .cons _ (.cons (.for_ _ _ b) _) => b
  | _ => .nil
def sbIn : Stms := match sbBody with
  | .cons _ (.cons _ (.cons (.for_ _ _ b) _)) => b
  | _ => .nil
def sbTail : Stms := match b_slow_barred with
  | .cons _ r => r
  | _ => .nil
theorem w_sbIn {t : List (Option Int)} {s : Sty} {f sg r a : Int} {e : Bool} (ht : OkT t) (hs : OkS s) {F : Int} (hF : 0 < F) {k m : Int} (k0 : 0 ≤ k) (k1 : k ≤ 48) (m0 : 0 ≤ m) (m1 : m < F) {y : Int} (hy : hiS t (.slow f sg r) a k = some y) {x9 x11 : Sl} {K : Kn Unit} {E : QX Unit}
    (h1 : bdS t s (.slow f sg r) F a (k * F + m) = true → K.rt (.int (k * F + m)) ())
    (h2 : bdS t s (.slow f sg r) F a (k * F + m) = false → ∀ y11, K.nx (sbEnv t s f sg r a e (.val (.int k)) F (.val (.int y)) x9 (.val (.int m)) y11) ()) :
    wpSs ΓL sbIn (sbEnv t s f sg r a e (.val (.int k)) F (.val (.int y)) x9 (.val (.int m)) x11) () K E := by
  have t1 := ht.lo
  rw [bdS_blk hF m0 m1, hy] at h1 h2
  refine ⟨rfl, rfl, rfl, _, ⟨.inl (small64 (by omega) (by omega)), rfl⟩, rfl, _, rfl, _, rfl, rfl, _, ⟨by omega, rfl⟩, _, at0_ix t1 _, ?_⟩
  cases hx : at0 t (k * F + m) with
  | none =>
    rw [hx] at h2
    exact ⟨rfl, _, rfl, h2 rfl _⟩
  | some x =>
    rw [hx] at h1 h2
    refine ⟨rfl, _, rfl, s, x, y, hs.lo, rfl, ?_⟩
    cases hb : barred s (some x) (some y) with
    | true => exact ⟨rfl, rfl, _, ⟨.inl (small64 (by omega) (by omega)), rfl⟩, rfl, _, rfl, h1 hb⟩
    | false => exact h2 hb _
def sbCnt (n : Nat) (F k : Int) (e : Bool) : Int := if e then (if (n : Int) < F then n else F) else (if (if (n : Int) - k * F < F then (n : Int) - k * F else F) > 0 then (if (n : Int) - k * F < F then (n : Int) - k * F else F) else 0)
theorem w_sbBody {t : List (Option Int)} {s : Sty} {f sg r a : Int} {e : Bool} (ht : OkT t) (hs : OkS s) (hw : OkW (.slow f sg r)) {F : Int} (hF : 0 < F) {k : Nat} (k1 : k < t.length) {x8 x9 x10 x11 : Sl} {K : Kn Unit} {E : QX Unit}
    (hp : ∀ c : Int, 0 ≤ c → c < k * F → c < endI t.length F e → bdS t s (.slow f sg r) F a c = false)
    (h1 : ∀ c : Int, brS t s (.slow f sg r) F a e = some c → K.rt (.int c) ())
    (h2 : (∀ c : Int, 0 ≤ c → c < ((k + 1 : Nat) : Int) * F → c < endI t.length F e → bdS t s (.slow f sg r) F a c = false) → ∀ y8 y9 y10 y11, K.nx (sbEnv t s f sg r a e (.val (.int k)) F y8 y9 y10 y11) ()) :
    wpSs ΓL sbBody (sbEnv t s f sg r a e (.val (.int k)) F x8 x9 x10 x11) () K E := by
  have t1 := ht.lo
  have t2 := ht.hi
  have hkF : ((k + 1 : Nat) : Int) * F = k * F + F := by rw [Int.natCast_add, Int.add_mul]; show (k : Int) * F + 1 * F = _; omega
  have hkN : ((k : Nat) : Int) * F + F ≤ t.length * F := by
    rw [← hkF]
    exact Int.mul_le_mul_of_nonneg_right (by omega) (by omega)
  have hk0 : 0 ≤ (k : Int) * F := Int.mul_nonneg (by omega) (by omega)
  have nx : (∀ m : Int, 0 ≤ m → m < F → (k : Int) * F + m < endI t.length F e → bdS t s (.slow f sg r) F a (k * F + m) = false) → ∀ y8 y9 y10 y11, K.nx (sbEnv t s f sg r a e (.val (.int k)) F y8 y9 y10 y11) () := fun hm => h2 fun c c0 c1 c2 => by
    by_cases hc : c < k * F
    · exact hp c c0 hc c2
    · have := hm (c - k * F) (by omega) (by omega) (by omega)
      rw [show (k : Int) * F + (c - k * F) = c by omega] at this
      exact this
  refine ⟨t, .slow f sg r, k, a, hw, by omega, by omega, rfl, ?_⟩
  have go : ∀ cnt : Int, cnt = sbCnt t.length F k e → wpSs ΓL (match sbBody with | .cons _ (.cons _ r) => r | _ => .nil) (sbEnv t s f sg r a e (.val (.int k)) F (.val (eN (hiS t (.slow f sg r) a k))) (.val (.int cnt)) x10 x11) () K E := fun cnt hcnt => by
    have hc0 : 0 ≤ cnt ∧ cnt ≤ 48 ∧ cnt ≤ F ∧ (∀ m : Int, 0 ≤ m → m < cnt → (k : Int) * F + m < endI t.length F e) := by
      unfold sbCnt at hcnt
      unfold endI
      cases e with
      | true =>
        rw [if_pos rfl] at hcnt
        rw [if_pos rfl]
        have : cnt ≤ F := by split at hcnt <;> omega
        refine ⟨by split at hcnt <;> omega, by split at hcnt <;> omega, this, fun m m0 m1 => by omega⟩
      | false =>
        rw [if_neg Bool.false_ne_true] at hcnt
        rw [if_neg Bool.false_ne_true]
        refine ⟨by split at hcnt <;> omega, ?_, ?_, fun m m0 m1 => ?_⟩
        · split at hcnt
          · split at hcnt <;> omega
          · omega
        · split at hcnt
          · split at hcnt <;> omega
          · omega
        · split at hcnt
          · split at hcnt <;> omega
          · omega
    cases hy : hiS t (.slow f sg r) a k with
    | none =>
      refine ⟨rfl, _, rfl, inB62_small (by decide) (by decide), ?_⟩
      refine nx (fun m m0 m1 _ => ?_) _ _ _ _
      rw [bdS_blk hF m0 m1, hy]
      exact barred_n2
    | some y =>
      refine ⟨rfl, _, rfl, inB62_small (by omega) (by omega), ?_⟩
      refine for_range (fun j ρ _ => (∀ m : Int, 0 ≤ m → m < j → bdS t s (.slow f sg r) F a (k * F + m) = false) ∧ ∃ y10 y11 : Sl, ρ = sbEnv t s f sg r a e (.val (.int k)) F (.val (.int y)) (.val (.int cnt)) y10 y11) cnt.toNat (fun j ρ st hj hI nx' hx => ?_) (fun ρ st hI => ?_) _ _ ⟨fun m m0 m1 => by omega, x10, x11, rfl⟩
      · obtain ⟨hq, y10, y11, rfl⟩ := hI
        rw [Int.zero_add]
        refine w_sbIn ht hs hF (k := k) (m := j) (by omega) (by omega) (by omega) (by omega) hy (fun hz => ?_) (fun hz y11 => hx _ _ ⟨fun m m0 m1 => ?_, .val (.int j), y11, rfl⟩)
        · refine h1 _ (brS_at hF (by omega) (hc0.2.2.2 j (by omega) (by omega)) (fun c c0 c1 => ?_) hz)
          by_cases hc : c < k * F
          · refine hp c c0 hc ?_
            have := hc0.2.2.2 j (by omega) (by omega)
            omega
          · have := hq (c - k * F) (by omega) (by omega)
            rw [show (k : Int) * F + (c - k * F) = c by omega] at this
            exact this
        · by_cases hm : m < j
          · exact hq m m0 hm
          · obtain rfl : m = j := by omega
            exact hz
      · obtain ⟨hq, y10, y11, rfl⟩ := hI
        refine nx (fun m m0 m1 m2 => ?_) _ _ _ _
        unfold sbCnt at hcnt
        unfold endI at m2
        cases e with
        | true =>
          rw [if_pos rfl] at hcnt
          refine blk_all hF t1 (fun m m0 m1 m3 => hq m m0 ?_) (m.toNat + 1) m (by omega) m0 m1
          split at hcnt <;> omega
        | false =>
          rw [if_neg Bool.false_ne_true] at hcnt m2
          refine hq m m0 ?_
          by_cases hA : (t.length : Int) - k * F < F
          · rw [if_pos hA] at hcnt
            split at hcnt <;> omega
          · rw [if_neg hA] at hcnt
            split at hcnt <;> omega
  cases e with
  | true =>
    refine ⟨rfl, rfl, _, rfl, ?_⟩
    exact go _ (by unfold sbCnt; rw [if_pos rfl])
  | false =>
    refine ⟨rfl, rfl, rfl, rfl, _, ⟨.inl (small64 (by omega) (by omega)), rfl⟩, _, rfl, _, rfl, _, rfl, ?_⟩
    exact go _ (by unfold sbCnt; rw [if_neg Bool.false_ne_true])
theorem k_slow_barred : Keeps b_slow_barred cs_slow_barred.N ct_slow_barred := by
  rintro _ st Qd Ed ⟨t, s, f, sg, r, a, e, ht, hs, hw, a0, a1, rfl, q⟩
  have t1 := ht.lo
  have t2 := ht.hi
  have hf := hw.1
  have hF : 0 < f ^ a.toNat := Int.pow_pos (by omega)
  have hm : ((t.map eN).length : Int) = t.length := by rw [List.length_map]
  refine ⟨rfl, _, rfl, rfl, _, rfl, f, a, hf.1, hf.2, by omega, by omega, rfl, ?_⟩
  generalize hFe : f ^ a.toNat = F at q hF
  have fin : wpSs ΓL sbTail (sbEnv t s f sg r a e .un F .un .un .un .un) st (knOf Qd) (fun e _ st => Ed e st) := by
    refine ⟨inB62_small (by omega) (by omega), ?_⟩
    refine for_range (fun k ρ _ => (∀ c : Int, 0 ≤ c → c < k * F → c < endI t.length F e → bdS t s (.slow f sg r) F a c = false) ∧ ∃ y5 y8 y9 y10 y11 : Sl, ρ = sbEnv t s f sg r a e y5 F y8 y9 y10 y11) t.length (fun k ρ st hk hI nx hx => ?_) (fun ρ st hI => ?_) _ _ ⟨fun c c0 c1 => by omega, .un, .un, .un, .un, .un, rfl⟩
    · obtain ⟨hq, y5, y8, y9, y10, y11, rfl⟩ := hI
      rw [Int.zero_add]
      refine w_sbBody ht hs hw hF hk hq (fun c hc => ?_) (fun hq2 y8 y9 y10 y11 => hx _ _ ⟨hq2, .val (.int k), y8, y9, y10, y11, rfl⟩)
      rw [hc] at q
      exact q
    · obtain ⟨hq, y5, y8, y9, y10, y11, rfl⟩ := hI
      have hz : brS t s (.slow f sg r) F a e = none := brS_no hF fun c c0 c1 => by
        by_cases hc : c < t.length * F
        · exact hq c c0 hc c1
        · have hnF : (t.length : Int) * 1 ≤ t.length * F := Int.mul_le_mul_of_nonneg_left (by omega) (by omega)
          have h0 : bdS t s (.slow f sg r) F a 0 = false := hq 0 (Int.le_refl _) (by omega) (by omega)
          unfold endI at c1
          cases e with
          | true =>
            rw [if_pos rfl] at c1
            obtain rfl : c = t.length * F := by omega
            rw [bdS_end hF]
            exact h0
          | false =>
            rw [if_neg Bool.false_ne_true] at c1
            omega
      rw [hz] at q
      exact q
  rw [hm]
  exact fin
def stEnv (t : List (Option Int)) (s : Sty) (f sg r a : Int) (e : Bool) (x5 : Sl) (F : Int) (x8 x9 x10 x11 x12 : Sl) : Env :=
  [.val (eT t), .val (eS s), .val (eW (.slow f sg r)), .val (.int a), .val (.bl e), x5, .val (.int t.length), .val (.int F), x8, x9, x10, x11, x12]
def stBody : Stms := match b_slow_tied with
  | .cons _ (.cons (.for_ _ _ b) _) => b
  | _ => .nil
def stTail : Stms := match b_slow_tied with
  | .cons _ r => r
  | _ => .nil
theorem hiS_mod {t : List (Option Int)} {w : Way} {a i : Int} : hiS t w a (i % t.length) = hiS t w a i := by unfold hiS; rw [at0_lo]
theorem tdS_on {t : List (Option Int)} {s : Sty} {w : Way} {F a k : Int} (hF : 0 < F) (k0 : 0 < k) : tdS t s w F a (k * F) = tied s (at0 t (k * F - 1)) (hiS t w a (k - 1)) (at0 t (k * F)) (hiS t w a k) := by
  have h1 : 0 < k * F := Int.mul_pos k0 hF
  unfold tdS
  have e1 : k * F / F = k := Int.mul_ediv_cancel _ (by omega)
  have e2 : (k * F - 1) / F = k - 1 := by
    have := blk (F := F) (i := k - 1) (m := F - 1) hF (by omega) (by omega)
    rw [Int.sub_mul, Int.one_mul, show k * F - F + (F - 1) = k * F - 1 by omega] at this
    exact this
  rw [decide_eq_true h1, Bool.true_and, e1, e2]
theorem w_stBody {t : List (Option Int)} {s : Sty} {f sg r a : Int} {e : Bool} (ht : OkT t) (hs : OkS s) (hw : OkW (.slow f sg r)) {F : Int} (hF : 0 < F) {k : Nat} (k0 : 0 < k) (k1 : k ≤ t.length) {x8 x9 x10 x11 x12 : Sl} {K : Kn Unit} {E : QX Unit}
    (h0 : e = false → (t.length : Int) ≤ k * F → K.rt .non ())
    (h1 : (k : Int) * F < endI t.length F e → tdS t s (.slow f sg r) F a (k * F) = true → K.rt (.int (k * F)) ())
    (h2 : tdS t s (.slow f sg r) F a (k * F) = false → ∀ y8 y9 y10 y11 y12, K.nx (stEnv t s f sg r a e (.val (.int k)) F y8 y9 y10 y11 y12) ()) :
    wpSs ΓL stBody (stEnv t s f sg r a e (.val (.int k)) F x8 x9 x10 x11 x12) () K E := by
  have big := line_big
  have l2 : 2 ≤ sizeLine := by omega
  have t1 := ht.lo
  have t2 := ht.hi
  have go : ((k : Int) * F < endI t.length F e) → wpSs ΓL (match stBody with | .cons _ (.cons _ r) => r | _ => .nil) (stEnv t s f sg r a e (.val (.int k)) F (.val (.int (k * F))) x9 x10 x11 x12) () K E := fun hlt => by
    have m1 := Int.emod_nonneg ((k : Int)) (show (t.length : Int) ≠ 0 by omega)
    have m2 := Int.emod_lt_of_pos ((k : Int)) (show (0 : Int) < t.length by omega)
    refine ⟨rfl, _, rfl, rfl, _, ⟨by omega, rfl⟩, rfl, _, rfl, rfl, _, ⟨by omega, rfl⟩, ?_⟩
    refine ⟨rfl, rfl, _, at0_ix t1 _, t, .slow f sg r, (k : Int) % t.length, a, hw, m1, m2, rfl, _, ⟨l2, rfl⟩, ?_⟩
    rw [hiS_mod]
    refine ⟨rfl, rfl, _, rfl, _, rfl, rfl, _, ⟨by omega, rfl⟩, _, at0_ix t1 _, rfl, _, rfl, t, .slow f sg r, (k : Int) - 1, a, hw, by omega, by omega, rfl, _, ⟨l2, rfl⟩, ?_⟩
    rw [tdS_on hF (by omega)] at h1 h2
    refine ⟨s, at0 t (k * F - 1), hiS t (.slow f sg r) a (k - 1), at0 t (k * F), hiS t (.slow f sg r) a k, hs.lo, rfl, ?_⟩
    cases hb : tied s (at0 t (k * F - 1)) (hiS t (.slow f sg r) a (k - 1)) (at0 t (k * F)) (hiS t (.slow f sg r) a k) with
    | true => exact h1 hlt hb
    | false => exact h2 hb _ _ _ _ _
  refine ⟨rfl, rfl, _, ⟨.inl (small64 (by omega) (by omega)), rfl⟩, e, rfl, ?_⟩
  cases e with
  | true =>
    refine go ?_
    unfold endI
    rw [if_pos rfl]
    have : (k : Int) * F ≤ t.length * F := Int.mul_le_mul_of_nonneg_right (by omega) (by omega)
    omega
  | false =>
    refine ⟨rfl, rfl, _, rfl, ?_⟩
    by_cases hz : (t.length : Int) ≤ k * F
    · rw [decide_eq_true hz]
      exact h0 rfl hz
    · rw [decide_eq_false hz]
      refine go ?_
      unfold endI
      rw [if_neg Bool.false_ne_true]
      omega
theorem k_slow_tied : Keeps b_slow_tied cs_slow_tied.N ct_slow_tied := by
  rintro _ st Qd Ed ⟨t, s, f, sg, r, a, e, ht, hs, hw, a0, a1, rfl, q⟩
  have t1 := ht.lo
  have t2 := ht.hi
  have hf := hw.1
  have hF : 0 < f ^ a.toNat := Int.pow_pos (by omega)
  have hm : ((t.map eN).length : Int) = t.length := by rw [List.length_map]
  refine ⟨rfl, _, rfl, rfl, _, rfl, f, a, hf.1, hf.2, by omega, by omega, rfl, ?_⟩
  generalize hFe : f ^ a.toNat = F at q hF
  have off : ∀ k : Nat, (∀ i : Nat, i < k → tdS t s (.slow f sg r) F a (i * F) = false) → ∀ c : Int, 0 ≤ c → c < k * F → tdS t s (.slow f sg r) F a c = false := fun k hk c c0 c1 => by
    obtain ⟨i, m, i0, m0, m1, hc, _⟩ := blk_of (F := F) hF c0
    by_cases hmz : 0 < m
    · rw [hc]; exact tdS_off hF hmz m1
    · obtain rfl : m = 0 := by omega
      rw [Int.add_zero] at hc
      obtain ⟨i', rfl⟩ : ∃ i' : Nat, i = (i' : Int) := ⟨i.toNat, by omega⟩
      rw [hc]
      refine hk i' ?_
      rw [hc] at c1
      have := Int.lt_of_mul_lt_mul_right c1 (by omega)
      omega
  have zero : tdS t s (.slow f sg r) F a (((0 : Nat) : Int) * F) = false := by
    unfold tdS
    rw [decide_eq_false (by rw [show ((0 : Nat) : Int) * F = 0 from Int.zero_mul F]; omega)]
    rfl
  have fin : wpSs ΓL stTail (stEnv t s f sg r a e .un F .un .un .un .un .un) st (knOf Qd) (fun e _ st => Ed e st) := by
    refine ⟨rfl, _, rfl, ⟨inB62_small (by decide) (by decide), inB62_small (by omega) (by omega)⟩, ?_⟩
    rw [show ((t.length : Int) + 1 - 1).toNat = t.length by omega]
    refine for_range (fun k ρ _ => (∀ i : Nat, i < k + 1 → tdS t s (.slow f sg r) F a (i * F) = false) ∧ ∃ y5 y8 y9 y10 y11 y12 : Sl, ρ = stEnv t s f sg r a e y5 F y8 y9 y10 y11 y12) t.length (fun k ρ st hk hI nx hx => ?_) (fun ρ st hI => ?_) _ _ ⟨fun i hi => ?_, .un, .un, .un, .un, .un, .un, rfl⟩
    · obtain ⟨hq, y5, y8, y9, y10, y11, y12, rfl⟩ := hI
      rw [show (1 : Int) + (k : Int) = ((k + 1 : Nat) : Int) by omega]
      have hall := off (k + 1) hq
      refine w_stBody ht hs hw hF (k := k + 1) (by omega) (by omega) (fun he hz => ?_) (fun hlt hz => ?_) (fun hz y8 y9 y10 y11 y12 => hx _ _ ⟨fun i hi => ?_, .val (.int ((k + 1 : Nat) : Int)), y8, y9, y10, y11, y12, rfl⟩)
      · have hn : tiS t s (.slow f sg r) F a e = none := tiS_no hF fun c c0 c1 => by
          unfold endI at c1
          rw [he, if_neg Bool.false_ne_true] at c1
          exact hall c c0 (by omega)
        rw [hn] at q
        exact q
      · have hn := tiS_at (t := t) (s := s) (w := .slow f sg r) (a := a) (e := e) hF (Int.mul_nonneg (by omega) (by omega)) hlt (fun c c0 c1 => hall c c0 c1) hz
        rw [hn] at q
        exact q
      · by_cases h : i < k + 1
        · exact hq i h
        · obtain rfl : i = k + 1 := by omega
          exact hz
    · obtain ⟨hq, y5, y8, y9, y10, y11, y12, rfl⟩ := hI
      have hn : tiS t s (.slow f sg r) F a e = none := tiS_no hF fun c c0 c1 => by
        refine off (t.length + 1) hq c c0 ?_
        have hnF : (t.length : Int) * 1 ≤ t.length * F := Int.mul_le_mul_of_nonneg_left (by omega) (by omega)
        have e1 : ((t.length + 1 : Nat) : Int) * F = t.length * F + F := by rw [Int.natCast_add, Int.add_mul]; show (t.length : Int) * F + 1 * F = _; omega
        rw [e1]
        unfold endI at c1
        split at c1 <;> omega
      rw [hn] at q
      exact q
    · obtain rfl : i = 0 := by omega
      exact zero
  rw [hm]
  exact fin
theorem k_slow_fault : Keeps b_slow_fault cs_slow_fault.N ct_slow_fault := by
  rintro _ st Qd Ed ⟨t, s, f, sg, r, a, e, ht, hs, hw, a0, a1, rfl, q⟩
  have big := line_big
  have l2 : 2 ≤ sizeLine := by omega
  rw [lagF_slow ht.lo hw.1.1, fa_join] at q
  refine ⟨t, s, f, sg, r, a, e, ht, hs, hw, a0, a1, rfl, t, s, f, sg, r, a, e, ht, hs, hw, a0, a1, rfl, ?_⟩
  cases hb : brS t s (.slow f sg r) (f ^ a.toNat) a e with
  | none =>
    cases hc : tiS t s (.slow f sg r) (f ^ a.toNat) a e with
    | none => rw [hb, hc] at q; exact ⟨rfl, _, rfl, rfl, _, rfl, q⟩
    | some c => rw [hb, hc] at q; exact ⟨rfl, _, rfl, rfl, _, rfl, _, ⟨l2, rfl⟩, q⟩
  | some b =>
    cases hc : tiS t s (.slow f sg r) (f ^ a.toNat) a e with
    | none => rw [hb, hc] at q; exact ⟨rfl, _, rfl, rfl, _, rfl, _, ⟨l2, rfl⟩, q⟩
    | some c =>
      rw [hb, hc] at q
      refine ⟨rfl, _, rfl, rfl, _, rfl, rfl, rfl, _, rfl, ?_⟩
      have q : Qd (match (if b ≤ c then some (b, ("barred" : Str)) else some (c, ("tied" : Str))) with | none => .non | some y => .tup [.int y.1, .str y.2]) st := q
      by_cases h : b ≤ c
      · rw [if_pos h] at q
        rw [decide_eq_true h]
        exact ⟨_, ⟨l2, rfl⟩, q⟩
      · rw [if_neg h] at q
        rw [decide_eq_false h]
        exact ⟨rfl, _, rfl, _, ⟨l2, rfl⟩, q⟩
theorem w_tfEnd {t : List (Option Int)} {s : Sty} {w : Way} {near a : Int} {e : Bool} {st : Unit} {Qd Ed : D → Unit → Prop} (q : Qd (eF (pairF t s w e (near, a))) st) :
    wpSs ΓL (match b_two_fault with | .cons _ r => r | _ => .nil) [.val (eT t), .val (eS s), .val (eW w), .val (.int near), .val (.int a), .val (.bl e), .val (match lagF t s w e near (near + a) with | none => .non | some y => .tup [.int y.1, .str y.2])] st (knOf Qd) (fun e _ st => Ed e st) := by
  have big := line_big
  unfold pairF at q
  cases h : lagF t s w e near (near + a) with
  | none =>
    rw [h] at q
    exact ⟨rfl, _, rfl, q⟩
  | some y =>
    rw [h] at q
    exact ⟨rfl, _, rfl, rfl, _, rfl, rfl, rfl, _, rfl, rfl, _, rfl, _, ⟨(by show 4 ≤ sizeLine; omega), rfl⟩, q⟩
theorem k_two_fault : Keeps b_two_fault cs_two_fault.N ct_two_fault := by
  rintro _ st Qd Ed ⟨t, s, w, near, a, e, ht, hs, hw, hn, a0, a1, rfl, q⟩
  cases w with
  | lag l sg r b =>
    obtain ⟨n0, n1⟩ := hn
    exact ⟨rfl, _, rfl, _, rfl, rfl, rfl, _, rfl, t, s, l, sg, r, b, near, near + a, e, ht, hs, hw, n0, by omega, by omega, by omega, rfl, w_tfEnd q⟩
  | slow f sg r =>
    have hn : near = 0 := hn
    subst hn
    refine ⟨rfl, _, rfl, _, rfl, t, s, f, sg, r, a, e, ht, hs, hw, a0, a1, rfl, ?_⟩
    have fin := w_tfEnd (st := st) (Ed := Ed) q
    rw [Int.zero_add] at fin
    exact fin
theorem k_nears_of : Keeps b_nears_of cs_nears_of.N ct_nears_of := by
  rintro _ st Qd Ed ⟨w, rfl, q⟩
  have big := line_big
  refine ⟨w, 1, rfl, ?_⟩
  have e : backw w 1 = bkW w := by
    cases w with
    | slow f s r => rfl
    | lag l s r b => cases b <;> rfl
  rw [e]
  cases h : bkW w with
  | true => rw [h] at q; exact ⟨_, ⟨(by show 2 ≤ sizeLine; omega), rfl⟩, q⟩
  | false => rw [h] at q; exact ⟨_, ⟨(by show 1 ≤ sizeLine; omega), rfl⟩, q⟩
def lkX : X := .comp [10, 7] [10] (.n 10) (.seq (.x (.call 201 (.x (.v 2) .nil)) .nil)) (.x (.or (.op .isN (.p 3 .nil)) (.op .lt (.x (.op .add (.p 10 (.p 7 .nil))) (.p 3 .nil)))) .nil) (.op .tup (.x (.v 10) (.x (.v 7) .nil)))
def lkEnv (t : List (Option Int)) (s : Sty) (w : Way) (e : Bool) (vo : Option Int) (m : Int) (acc : List D) (x7 : Sl) (f p : Int) : Env :=
  [.val (eT t), .val (eS s), .val (eW w), .val (eN vo), .val (.bl e), .val (.int m), .own acc, x7, .val (.int f), .val (.int p), .un]
def lkD (vo : Option Int) (a : Nat) : D → Option D
  | .int n => if inVo vo (n + a) then some (eP (n, a)) else none
  | _ => none
theorem lkD_row {vo : Option Int} {b : Bool} {a : Nat} : ((nearsL b).map D.int).filterMap (lkD vo a) = (rowPairs vo b a).map eP := by
  unfold rowPairs
  induction nearsL b with
  | nil => rfl
  | cons n l ih =>
    rw [List.map_cons, List.filterMap_cons, List.filter_cons]
    unfold lkD at ih ⊢
    dsimp only
    by_cases h : inVo vo (n + a) = true
    · rw [if_pos h, if_pos h, List.map_cons, List.map_cons]
      exact congrArg _ ih
    · rw [if_neg h, if_neg h]
      exact ih
theorem w_lkX {t : List (Option Int)} {s : Sty} {w : Way} {e : Bool} {vo : Option Int} {m : Int} {acc : List D} {a : Nat} {f p : Int} {Q E : QX Unit}
    (h : Q (.lst ((rowPairs vo (bkW w) a).map eP)) (lkEnv t s w e vo m acc (.val (.int a)) f p) ()) : wpX ΓL lkX (lkEnv t s w e vo m acc (.val (.int a)) f p) () Q E := by
  have big := line_big
  refine ⟨w, rfl, _, _, rfl, rfl, ?_⟩
  refine compW_map (lkD vo a) _ _ (fun d hd => ?_) ?_ ?_
  · obtain ⟨n, _, rfl⟩ := List.mem_map.mp hd
    refine ⟨_, rfl, fun skip keep hk => ?_⟩
    unfold lkD at hk
    dsimp only at hk
    cases vo with
    | none =>
      have hk : keep (eP (n, a)) () := hk
      exact ⟨rfl, _, rfl, _, ⟨(by show 2 ≤ sizeLine; omega), rfl⟩, rfl, hk⟩
    | some v =>
      have hk : (match (if decide (n + (a : Int) < v) = true then some (eP (n, a)) else none) with | some y => keep y () | none => skip ((lkEnv t s w e (some v) m acc (.val (.int a)) f p).set 10 (.val (.int n))) ()) := hk
      refine ⟨rfl, _, rfl, rfl, rfl, _, rfl, rfl, _, rfl, ?_⟩
      by_cases h : n + (a : Int) < v
      · rw [if_pos (decide_eq_true h)] at hk
        rw [decide_eq_true h]
        exact ⟨_, ⟨(by show 2 ≤ sizeLine; omega), rfl⟩, rfl, hk⟩
      · rw [if_neg (by simpa using h)] at hk
        rw [decide_eq_false h]
        exact hk
  · rw [List.length_map]
    have : (nearsL (bkW w)).length ≤ 2 := by unfold nearsL; split <;> decide
    show 0 + _ ≤ _
    omega
  · rw [lkD_row, List.nil_append]
    exact h
def lkLoop : Stms := match b_looked_at with
  | .cons _ (.cons _ (.cons _ r)) => r
  | _ => .nil
theorem look_len {vo : Option Int} {b : Bool} (m : Nat) : (lookPairs vo b m).length ≤ m * 2 := flat_len _ fun k _ => rowPairs_len
theorem w_lkLoop {t : List (Option Int)} {s : Sty} {w : Way} {e : Bool} {vo : Option Int} {m : Nat} (hm : m ≤ 100000) {f p : Int} {Qd Ed : D → Unit → Prop} (q : Qd (.lst ((lookPairs vo (bkW w) m).map eP)) ()) :
    wpSs ΓL lkLoop (lkEnv t s w e vo m [] .un f p) () (knOf Qd) (fun e _ st => Ed e st) := by
  have big := line_big
  refine ⟨rfl, _, rfl, ⟨inB62_small (by decide) (by decide), inB62_small (by omega) (by omega)⟩, ?_⟩
  rw [show ((m : Int) + 1 - 1).toNat = m by omega]
  refine for_range (fun k ρ _ => ∃ x7 : Sl, ρ = lkEnv t s w e vo m ((lookPairs vo (bkW w) k).map eP) x7 f p) m (fun k ρ st hk hI nx hx => ?_) (fun ρ st hI => ?_) _ _ ⟨.un, rfl⟩
  · obtain ⟨x7, rfl⟩ := hI
    rw [show (1 : Int) + (k : Int) = ((k + 1 : Nat) : Int) by omega]
    refine ⟨⟨_, rfl⟩, w_lkX (a := k + 1) ⟨_, _, rfl, rfl, ?_, hx _ _ ⟨.val (.int ((k + 1 : Nat) : Int)), ?_⟩⟩⟩
    · rw [List.length_map, List.length_map]
      have h1 := look_len (vo := vo) (b := bkW w) k
      have h2 := rowPairs_len (vo := vo) (b := bkW w) (a := k + 1)
      omega
    · rw [look_succ, List.map_append]; rfl
  · obtain ⟨x7, rfl⟩ := hI
    exact q
theorem mem_lookW {vo : Option Int} {w : Way} {m : Nat} {q : Int × Int} (h : q ∈ lookPairs vo (bkW w) m) : nearOk w q.1 ∧ (0 ≤ q.1 ∧ q.1 ≤ 10) ∧ 1 ≤ q.2 ∧ q.2 ≤ m := by
  obtain ⟨h1, h2, h3⟩ := mem_look h
  refine ⟨?_, by omega, h2, h3⟩
  cases w with
  | lag l sg r b => exact ⟨by omega, by omega⟩
  | slow f sg r =>
    unfold lookPairs at h
    obtain ⟨k, _, hk⟩ := List.mem_flatMap.mp h
    unfold rowPairs at hk
    obtain ⟨n, hn, rfl⟩ := List.mem_map.mp hk
    have hn := (List.mem_filter.mp hn).1
    exact List.mem_singleton.mp (show n ∈ [0] from hn)
theorem k_looked_at : Keeps b_looked_at cs_looked_at.N ct_looked_at := by
  rintro _ st Qd Ed ⟨t, s, w, e, vo, ht, hs, hw, rfl, q⟩
  have h1 := ht.lo
  have h2 := ht.hi
  have hm : ((t.map eN).length : Int) = t.length := by rw [List.length_map]
  obtain ⟨eN', hN⟩ := lookN_b (e := e) ht hs hw
  refine ⟨rfl, _, rfl, t.length, s, w, e, by omega, by omega, hs, hw, by rw [hm], rfl, rfl, _, rfl, _, ⟨Nat.zero_le _, rfl⟩, _, rfl, ?_⟩
  rw [← eN']
  exact w_lkLoop (m := lookN t s w e) (by omega) q
def foEnv (t : List (Option Int)) (s : Sty) (w : Way) (e : Bool) (vo : Option Int) (best : Option Fl) (x6 x7 x8 : Sl) : Env :=
  [.val (eT t), .val (eS s), .val (eW w), .val (eN vo), .val (.bl e), .val (eF best), x6, x7, x8]
def foBody : Stms := match b_first_of with
  | .cons _ (.cons (.for_ _ _ b) _) => b
  | _ => .nil
def foIn : Stms := match foBody with
  | .cons (.ife _ b _) _ => b
  | _ => .nil
theorem w_foIn {t : List (Option Int)} {s : Sty} {w : Way} {e : Bool} {vo : Option Int} {best : Option Fl} (ht : OkT t) (hs : OkS s) (hw : OkW w) (hb : ∀ p, best = some p → p.ok ∧ 0 ≤ p.b) {n a : Int} (n0 : nearOk w n) (a0 : 1 ≤ a) (a1 : a ≤ 100000) {x8 : Sl} {K : Kn Unit} {E : QX Unit}
    (h : ∀ y8, K.nx (foEnv t s w e vo (accM best (pairF t s w e (n, a))) (.val (.int n)) (.val (.int a)) y8) ()) :
    wpSs ΓL foIn (foEnv t s w e vo best (.val (.int n)) (.val (.int a)) x8) () K E := by
  refine ⟨t, s, w, n, a, e, ht, hs, hw, n0, a0, a1, rfl, ?_⟩
  have h := h (.val (eF (pairF t s w e (n, a))))
  cases best with
  | none => exact ⟨rfl, _, rfl, h⟩
  | some p =>
    refine ⟨rfl, _, rfl, ?_⟩
    cases z : pairF t s w e (n, a) with
    | none =>
      rw [z] at h
      exact ⟨rfl, _, rfl, h⟩
    | some y =>
      rw [z] at h
      refine ⟨rfl, _, rfl, rfl, rfl, _, ⟨fl_tups (pairF_ok z).1 (hb p rfl).1, rfl⟩, ?_⟩
      have h : K.nx (foEnv t s w e vo (if y.ltb p then some y else some p) (.val (.int n)) (.val (.int a)) (.val (eF (some y)))) () := h
      have e1 : ltL [.int y.b, .int y.n, .int y.f, .str y.x] [.int p.b, .int p.n, .int p.f, .str p.x] = y.ltb p := rfl
      rw [e1]
      cases hl : y.ltb p with
      | true => rw [hl] at h; exact h
      | false => rw [hl] at h; exact h
theorem w_foBody {t : List (Option Int)} {s : Sty} {w : Way} {e : Bool} {vo : Option Int} {best : Option Fl} (ht : OkT t) (hs : OkS s) (hw : OkW w) (hb : ∀ p, best = some p → p.ok ∧ 0 ≤ p.b) {n a : Int} (n0 : nearOk w n) (a0 : 1 ≤ a) (a1 : a ≤ 100000) {x8 : Sl} {K : Kn Unit} {E : QX Unit}
    (h : ∀ y8, K.nx (foEnv t s w e vo (accM best (pairF t s w e (n, a))) (.val (.int n)) (.val (.int a)) y8) ()) :
    wpSs ΓL foBody (foEnv t s w e vo best (.val (.int n)) (.val (.int a)) x8) () K E := by
  cases best with
  | none => exact ⟨rfl, _, rfl, w_foIn ht hs hw hb n0 a0 a1 h⟩
  | some p =>
    refine ⟨rfl, _, rfl, rfl, rfl, _, rfl, w, n + a, hw, rfl, rfl, _, rfl, _, rfl, ?_⟩
    by_cases hp : begW w (n + a) ≤ p.b
    · rw [decide_eq_true hp]
      exact w_foIn ht hs hw hb n0 a0 a1 h
    · rw [decide_eq_false hp]
      rw [acc_skip (q := (n, a)) (by show p.b < begW w (n + a); omega)] at h
      exact h x8
theorem k_first_of : Keeps b_first_of cs_first_of.N ct_first_of := by
  rintro _ st Qd Ed ⟨t, s, w, e, vo, ht, hs, hw, rfl, q⟩
  refine ⟨t, s, w, e, vo, ht, hs, hw, rfl, _, _, rfl, rfl, ?_⟩
  have hbound : ∀ x ∈ lookPairs vo (bkW w) (lookN t s w e), nearOk w x.1 ∧ 0 ≤ x.1 ∧ 1 ≤ x.2 ∧ x.2 ≤ 100000 := fun x hx => by
    obtain ⟨h0, h1, h2, h3⟩ := mem_lookW hx
    obtain ⟨_, hN⟩ := lookN_b (e := e) ht hs hw
    exact ⟨h0, h1.1, h2, by omega⟩
  unfold firstF at q
  generalize lookPairs vo (bkW w) (lookN t s w e) = L at q hbound
  refine forW_ind (fun ds ρ _ => ∃ (R : List (Int × Int)) (best : Option Fl) (x6 x7 x8 : Sl), ds = R.map eP ∧ (∀ x ∈ R, nearOk w x.1 ∧ 0 ≤ x.1 ∧ 1 ≤ x.2 ∧ x.2 ≤ 100000) ∧ (∀ p, best = some p → p.ok ∧ 0 ≤ p.b) ∧ (R.map (pairF t s w e)).foldl accM best = (L.map (pairF t s w e)).foldl accM none ∧ ρ = foEnv t s w e vo best x6 x7 x8) (fun ρ st hP => ?_) (fun d ds ρ st hP => ?_) _ _ _ ⟨L, none, .un, .un, .un, rfl, hbound, (fun p hp => nomatch hp), rfl, rfl⟩
  · obtain ⟨R, best, x6, x7, x8, hR, _, _, hf, rfl⟩ := hP
    have : R = [] := List.map_eq_nil_iff.mp hR.symm
    subst this
    rw [← hf] at q
    exact q
  · obtain ⟨R, best, x6, x7, x8, hR, hbd, hb, hf, rfl⟩ := hP
    cases R with
    | nil => cases hR
    | cons x R =>
      obtain ⟨rfl, rfl⟩ := List.cons.inj hR
      obtain ⟨b0, b1, b2, b3⟩ := hbd x List.mem_cons_self
      refine ⟨foEnv t s w e vo best (.val (.int x.1)) (.val (.int x.2)) x8, rfl, fun nx hn => ?_⟩
      refine w_foBody ht hs hw hb b0 b2 b3 fun y8 => hn _ _ ⟨R, _, .val (.int x.1), .val (.int x.2), y8, rfl, fun z hz => hbd z (List.mem_cons_of_mem _ hz), fun p hp => ?_, hf, rfl⟩
      exact acc_inv [x] best hb (fun z hz => by rw [List.mem_singleton.mp hz]; exact begW_nonneg hw (by omega)) p hp
theorem k_need_voices : Keeps b_need_voices cs_need_voices.N ct_need_voices := by
  rintro _ st Qd Ed ⟨vo, hv, rfl, q⟩
  cases vo with
  | none => exact ⟨rfl, _, rfl, q⟩
  | some v =>
    obtain ⟨h1, h2⟩ := hv v rfl
    exact ⟨rfl, _, rfl, v, 1, 100, h1, h2, rfl, q⟩
theorem k_first_fault : Keeps b_first_fault cs_first_fault.N ct_first_fault := by
  rintro _ st Qd Ed ⟨t, s, w, e, vo, ht, hs, hw, hv, rfl, q⟩
  exact ⟨t, s, w, ht, hs, hw, rfl, vo, hv, rfl, e, rfl, t, s, w, e, vo, ht, hs, hw, rfl, q⟩
theorem k_is_clean : Keeps b_is_clean cs_is_clean.N ct_is_clean := by
  rintro _ st Qd Ed ⟨t, s, w, e, vo, ht, hs, hw, hv, rfl, q⟩
  refine ⟨t, s, w, e, vo, ht, hs, hw, hv, rfl, _, rfl, ?_⟩
  have : (eF (firstF t s w e (lookPairs vo (bkW w) (lookN t s w e)))).isNon = (firstF t s w e (lookPairs vo (bkW w) (lookN t s w e))).isNone := by
    cases firstF t s w e (lookPairs vo (bkW w) (lookN t s w e)) <;> rfl
  rw [this]
  exact q
def mvEnv (t : List (Option Int)) (s : Sty) (w : Way) (e : Bool) (best : Option Int) (x5 x6 : Sl) : Env :=
  [.val (eT t), .val (eS s), .val (eW w), .val (.bl e), .val (eN best), x5, x6]
def mvBody : Stms := match b_most_voices with
  | .cons _ (.cons _ (.cons _ (.cons (.for_ _ _ b) _))) => b
  | _ => .nil
def mvIn : Stms := match mvBody with
  | .cons (.ife _ b _) _ => b
  | _ => .nil
theorem w_mvIn {t : List (Option Int)} {s : Sty} {w : Way} {e : Bool} {best : Option Int} (ht : OkT t) (hs : OkS s) (hw : OkW w) {n a : Int} (n0 : nearOk w n) (a0 : 1 ≤ a) (a1 : a ≤ 100000) (hlt : ∀ v, best = some v → n + a < v) {K : Kn Unit} {E : QX Unit}
    (h : K.nx (mvEnv t s w e (accV best (pairF t s w e (n, a))) (.val (.int n)) (.val (.int a))) ()) :
    wpSs ΓL mvIn (mvEnv t s w e best (.val (.int n)) (.val (.int a))) () K E := by
  refine ⟨t, s, w, n, a, e, ht, hs, hw, n0, a0, a1, rfl, ?_⟩
  cases z : pairF t s w e (n, a) with
  | none =>
    rw [z] at h
    have : accV best none = best := by cases best <;> rfl
    rw [this] at h
    exact ⟨_, rfl, h⟩
  | some y =>
    obtain ⟨_, _, _, hf⟩ := pairF_ok z
    have hf : y.f = n + a := hf
    rw [z] at h
    have : accV best (some y) = some (n + a) := by
      cases best with
      | none => show some y.f = _; rw [hf]
      | some v =>
        have := hlt v rfl
        show some (if y.f < v then y.f else v) = _
        rw [hf, if_pos this]
    rw [this] at h
    exact ⟨_, rfl, rfl, rfl, _, rfl, h⟩
theorem w_mvBody {t : List (Option Int)} {s : Sty} {w : Way} {e : Bool} {best : Option Int} (ht : OkT t) (hs : OkS s) (hw : OkW w) {n a : Int} (n0 : nearOk w n) (a0 : 1 ≤ a) (a1 : a ≤ 100000) {K : Kn Unit} {E : QX Unit}
    (h : K.nx (mvEnv t s w e (accV best (pairF t s w e (n, a))) (.val (.int n)) (.val (.int a))) ()) :
    wpSs ΓL mvBody (mvEnv t s w e best (.val (.int n)) (.val (.int a))) () K E := by
  cases best with
  | none => exact ⟨rfl, _, rfl, w_mvIn ht hs hw n0 a0 a1 (fun v hv => by cases hv) h⟩
  | some v =>
    refine ⟨rfl, _, rfl, rfl, rfl, _, rfl, rfl, _, rfl, ?_⟩
    by_cases hv : n + a < v
    · rw [decide_eq_true hv]
      exact w_mvIn ht hs hw n0 a0 a1 (fun u hu => by cases hu; exact hv) h
    · rw [decide_eq_false hv]
      have : accV (some v) (pairF t s w e (n, a)) = some v := by
        cases z : pairF t s w e (n, a) with
        | none => rfl
        | some y =>
          obtain ⟨_, _, _, hf⟩ := pairF_ok z
          have hf : y.f = n + a := hf
          show some (if y.f < v then y.f else v) = _
          rw [hf, if_neg hv]
      rw [this] at h
      exact h
theorem k_most_voices : Keeps b_most_voices cs_most_voices.N ct_most_voices := by
  rintro _ st Qd Ed ⟨t, s, w, e, ht, hs, hw, rfl, q⟩
  refine ⟨t, s, w, ht, hs, hw, rfl, e, rfl, t, s, w, e, none, ht, hs, hw, rfl, _, _, rfl, rfl, ?_⟩
  have hbound : ∀ x ∈ lookPairs none (bkW w) (lookN t s w e), nearOk w x.1 ∧ 1 ≤ x.2 ∧ x.2 ≤ 100000 := fun x hx => by
    obtain ⟨h0, h1, h2, h3⟩ := mem_lookW hx
    obtain ⟨_, hN⟩ := lookN_b (e := e) ht hs hw
    exact ⟨h0, h2, by omega⟩
  unfold mostF at q
  generalize lookPairs none (bkW w) (lookN t s w e) = L at q hbound
  refine forW_ind (fun ds ρ _ => ∃ (R : List (Int × Int)) (best : Option Int) (x5 x6 : Sl), ds = R.map eP ∧ (∀ x ∈ R, nearOk w x.1 ∧ 1 ≤ x.2 ∧ x.2 ≤ 100000) ∧ (R.map (pairF t s w e)).foldl accV best = (L.map (pairF t s w e)).foldl accV none ∧ ρ = mvEnv t s w e best x5 x6) (fun ρ st hP => ?_) (fun d ds ρ st hP => ?_) _ _ _ ⟨L, none, .un, .un, rfl, hbound, rfl, rfl⟩
  · obtain ⟨R, best, x5, x6, hR, _, hf, rfl⟩ := hP
    have : R = [] := List.map_eq_nil_iff.mp hR.symm
    subst this
    rw [← hf] at q
    exact q
  · obtain ⟨R, best, x5, x6, hR, hbd, hf, rfl⟩ := hP
    cases R with
    | nil => cases hR
    | cons x R =>
      obtain ⟨rfl, rfl⟩ := List.cons.inj hR
      obtain ⟨b0, b2, b3⟩ := hbd x List.mem_cons_self
      refine ⟨mvEnv t s w e best (.val (.int x.1)) (.val (.int x.2)), rfl, fun nx hn => ?_⟩
      exact w_mvBody ht hs hw b0 b2 b3 (hn _ _ ⟨R, _, .val (.int x.1), .val (.int x.2), rfl, fun z hz => hbd z (List.mem_cons_of_mem _ hz), hf, rfl⟩)
theorem k_law_among : Keeps b_law_among cs_law_among.N ct_law_among := by
  rintro _ st Qd Ed ⟨xs, hx, hl, rfl, q⟩
  have h1 : 0 < xs.length := List.length_pos_iff.mpr hx
  refine ⟨rfl, rfl, _, rfl, xs.length, rfl, by omega, by rw [b30_eq]; omega, fun r r0 r1 => ?_⟩
  obtain ⟨x, hm, e⟩ := atI_in r0 r1
  exact ⟨x, e, q x hm⟩
theorem k_law_rising : Keeps b_law_rising cs_law_rising.N ct_law_rising := by
  rintro _ st Qd Ed ⟨below, most, b0, b1, m0, m1, rfl, q⟩
  have big := line_big
  refine ⟨_, ⟨Nat.zero_le _, rfl⟩, rfl, _, rfl, most + 1, rfl, by omega, by rw [b30_eq]; omega, fun r r0 r1 => ⟨inB62_small (by omega) (by omega), ?_⟩⟩
  refine forW_ind (fun ds ρ _ => ∃ (l : List Int) (x4 x5 : Sl), ρ = [.val (.hdl 0), .val (.int below), .val (.int most), .val (.lst (l.map .int)), x4, x5] ∧ l.Nodup ∧ (∀ x ∈ l, 0 ≤ x ∧ x ≤ below - 1) ∧ l.length + ds.length ≤ 20) (fun ρ st hP => ?_) (fun e ds ρ st hP => ?_) _ _ _ ⟨[], _, _, rfl, List.nodup_nil, (fun x hx => nomatch hx), ?_⟩
  · obtain ⟨l, x4, x5, rfl, nd, hl, hn⟩ := hP
    refine ⟨rfl, _, ⟨l, intsOf_ints l, rfl⟩, _, rfl, q _ (rising_sort nd hl ?_)⟩
    have : ([] : List D).length = 0 := rfl
    omega
  · obtain ⟨l, x4, x5, rfl, nd, hl, hn⟩ := hP
    rw [List.length_cons] at hn
    refine ⟨_, rfl, fun nx hnx => ⟨below, rfl, b0, by rw [b30_eq]; omega, fun z z0 z1 => ?_⟩⟩
    refine ⟨rfl, _, ⟨(by show 1 ≤ sizeLine; omega), rfl⟩, rfl, rfl, _, ⟨⟨rfl, eqOk_ints _ l⟩, rfl⟩, _, rfl, ?_⟩
    rw [any_ints]
    by_cases hz : l.contains z = true
    · rw [hz]
      refine ⟨_, ⟨⟨by unfold b62; decide, by unfold b62; decide⟩, Nat.zero_le _, rfl⟩, _, ⟨?_, rfl⟩, hnx _ _ ⟨l, .val e, .val (.int z), ?_, nd, hl, by omega⟩⟩
      · show (l.map D.int).length + 0 ≤ sizeLine
        rw [List.length_map]; omega
      · show [_, _, _, Sl.val (.lst (l.map D.int ++ [])), _, _] = _
        rw [List.append_nil]
    · rw [Bool.not_eq_true] at hz
      rw [hz]
      refine ⟨_, ⟨⟨by unfold b62; decide, by unfold b62; decide⟩, (by show 1 ≤ sizeLine; omega), rfl⟩, _, ⟨?_, rfl⟩, hnx _ _ ⟨l ++ [z], .val e, .val (.int z), ?_, ?_, ?_, ?_⟩⟩
      · show (l.map D.int).length + 1 ≤ sizeLine
        rw [List.length_map]; omega
      · rw [List.map_append]; rfl
      · refine List.nodup_append.mpr ⟨nd, by simp, fun a ha b hb => ?_⟩
        rw [List.mem_singleton.mp hb]
        intro e
        rw [e] at ha
        rw [List.contains_iff_mem.mpr ha] at hz
        cases hz
      · intro x hx
        rcases List.mem_append.mp hx with h | h
        · exact hl x h
        · rw [List.mem_singleton.mp h]; omega
      · rw [List.length_append, List.length_singleton]; omega
  · rw [rangeD_eq, List.length_map, List.length_range]
    show 0 + r.toNat ≤ 20
    omega

theorem k_law_style : Keeps b_law_style cs_law_style.N ct_law_style := by
  rintro _ st Qd Ed ⟨rfl, q⟩
  have big := line_big
  refine ⟨24, rfl, by decide, by rw [b30_eq]; decide, fun r r0 r1 => ?_⟩
  refine ⟨_, rfl, _, ⟨(by show 7 ≤ sizeLine; omega), rfl⟩, _, by simp, (by show 7 ≤ 1000; decide), rfl, fun x hx => ?_⟩
  obtain ⟨sp, rfl, sp0, sp1⟩ : ∃ sp : Int, x = .int sp ∧ 0 ≤ sp ∧ sp ≤ 24 := by
    simp only [List.mem_cons, List.not_mem_nil, or_false] at hx
    rcases hx with rfl | rfl | rfl | rfl | rfl | rfl | rfl
    · exact ⟨12, rfl, by decide, by decide⟩
    · exact ⟨12, rfl, by decide, by decide⟩
    · exact ⟨7, rfl, by decide, by decide⟩
    · exact ⟨5, rfl, by decide, by decide⟩
    · exact ⟨0, rfl, by decide, by decide⟩
    · exact ⟨0, rfl, by decide, by decide⟩
    · exact ⟨1 + r, rfl, by omega, by omega⟩
  have tail : ∀ below : Int, 0 < below → below ≤ 61 → (∀ l, Rising l (below - 1) → Rising l (Sty.top ⟨sp, [], []⟩)) →
      wpSs ΓL (.cons (.ret (.op .tup (.x (.v 1) (.x (.call 15 (.x (.v 0) (.x (.v 2) (.x (.call 14 (.x (.v 0) (.x (.op .lst (.x (.k (.int 1)) (.x (.k (.int 2)) (.x (.k (.int 3)) (.x (.k (.int 6)) .nil))))) .nil))) .nil)))) (.x (.call 15 (.x (.v 0) (.x (.v 2) (.x (.k (.int 3)) .nil)))) .nil))))) .nil) [.val (.hdl 0), .val (.int sp), .val (.int below)] st (knOf Qd) fun e _ st => Ed e st := fun below b0 b1 hm => by
    refine ⟨_, ⟨(by show 4 ≤ sizeLine; omega), rfl⟩, _, by simp, (by show 4 ≤ 1000; decide), rfl, fun y hy => ?_⟩
    obtain ⟨m, rfl, m0, m1⟩ : ∃ m : Int, y = .int m ∧ 0 ≤ m ∧ m ≤ 20 := by
      simp only [List.mem_cons, List.not_mem_nil, or_false] at hy
      rcases hy with rfl | rfl | rfl | rfl
      · exact ⟨1, rfl, by decide, by decide⟩
      · exact ⟨2, rfl, by decide, by decide⟩
      · exact ⟨3, rfl, by decide, by decide⟩
      · exact ⟨6, rfl, by decide, by decide⟩
    refine ⟨below, m, b0, by omega, m0, m1, rfl, fun B hB => ?_⟩
    refine ⟨below, 3, b0, by omega, by decide, by decide, rfl, fun T hT => ?_⟩
    exact ⟨_, ⟨(by show 3 ≤ sizeLine; omega), rfl⟩, q ⟨sp, B, T⟩ ⟨sp0, sp1, hm B hB, hm T hT⟩⟩
  refine ⟨rfl, _, rfl, ?_⟩
  by_cases h : 0 < sp
  · rw [decide_eq_true h]
    exact tail sp h (by omega) fun l hl => by rw [show Sty.top ⟨sp, [], []⟩ = sp - 1 from if_neg (by show ¬ sp = 0; omega)]; exact hl
  · rw [decide_eq_false h]
    refine ⟨_, ⟨(by show 3 ≤ sizeLine; omega), rfl⟩, _, by simp, (by show 3 ≤ 1000; decide), rfl, fun z hz => ?_⟩
    have ht : Sty.top ⟨sp, [], []⟩ = 60 := if_pos (by show sp = 0; omega)
    have up : ∀ hi : Int, hi ≤ 60 → ∀ l, Rising l hi → Rising l (Sty.top ⟨sp, [], []⟩) := fun hi hh l hl => by
      rw [ht]
      exact ⟨hl.lo, fun x hx => Int.le_trans (hl.hi x hx) hh, hl.up, hl.few⟩
    simp only [List.mem_cons, List.not_mem_nil, or_false] at hz
    rcases hz with rfl | rfl | rfl
    · exact tail 13 (by decide) (by decide) (up _ (by decide))
    · exact tail 13 (by decide) (by decide) (up _ (by decide))
    · exact tail 61 (by decide) (by decide) (up _ (by decide))

theorem k_law_pitches : Keeps b_law_pitches cs_law_pitches.N ct_law_pitches := by
  rintro _ st Qd Ed ⟨many, m0, m1, rfl, q⟩
  have big := line_big
  refine ⟨_, ⟨(by show 4 ≤ sizeLine; omega), rfl⟩, _, by simp, (by show 4 ≤ 1000; decide), rfl, fun x hx => ?_⟩
  obtain ⟨wd, rfl, w0, w1⟩ : ∃ m : Int, x = .int m ∧ 1 ≤ m ∧ m ≤ 61 := by
    simp only [List.mem_cons, List.not_mem_nil, or_false] at hx
    rcases hx with rfl | rfl | rfl | rfl
    · exact ⟨3, rfl, by decide, by decide⟩
    · exact ⟨8, rfl, by decide, by decide⟩
    · exact ⟨8, rfl, by decide, by decide⟩
    · exact ⟨61, rfl, by decide, by decide⟩
  refine ⟨_, rfl, _, ⟨(by show 5 ≤ sizeLine; omega), rfl⟩, _, by simp, (by show 5 ≤ 1000; decide), rfl, fun y hy => ?_⟩
  obtain ⟨md, rfl⟩ : ∃ m : Int, y = .int m := by
    simp only [List.mem_cons, List.not_mem_nil, or_false] at hy
    rcases hy with rfl | rfl | rfl | rfl | rfl <;> exact ⟨_, rfl⟩
  refine ⟨_, ⟨Nat.zero_le _, rfl⟩, [], rfl, inB62_small (by omega) (by omega), ?_⟩
  refine forW_ind (fun ds ρ _ => ∃ (l : List Int) (x3 : Sl), (l.length : Int) + ds.length = many ∧ (∀ d ∈ ds, ∃ i : Int, d = .int i) ∧ (∀ x ∈ l, -60 ≤ x ∧ x ≤ 60) ∧ ρ = [.val (.hdl 0), .val (.int many), .own (l.map .int), x3, .val (.int wd), .val (.int md)]) (fun ρ st hP => ?_) (fun e ds ρ st hP => ?_) _ _ _ ⟨[], .un, ?_, fun d hd => ?_, (fun x hx => nomatch hx), rfl⟩
  · obtain ⟨l, x3, hl, _, hb, rfl⟩ := hP
    exact q l (by simpa using hl) hb
  · obtain ⟨l, x3, hl, hd, hb, rfl⟩ := hP
    obtain ⟨i, rfl⟩ := hd e List.mem_cons_self
    rw [List.length_cons] at hl
    refine ⟨_, rfl, fun nx hn => ?_⟩
    refine ⟨⟨_, rfl⟩, ?_⟩
    refine ⟨_, rfl, rfl, rfl, _, ⟨.inl (small64 (by decide) (by decide)), rfl⟩, _, rfl, 2 * wd + 1, rfl, by omega, by rw [b30_eq]; omega, fun r r0 r1 => ?_⟩
    refine ⟨_, rfl, rfl, _, rfl, _, rfl, _, rfl, _, rfl, (by rw [List.length_map]; omega), ?_⟩
    refine hn _ _ ⟨l ++ [_], _, ?_, fun d h => hd d (List.mem_cons_of_mem _ h), fun z hz => ?_, by rw [List.map_append, List.map_singleton]; rfl⟩
    · rw [List.length_append, List.length_singleton]; omega
    · rcases List.mem_append.mp hz with h | h
      · exact hb z h
      · rw [List.mem_singleton.mp h]
        constructor <;> split <;> (try split) <;> omega
  · rw [rangeD_many]
    show (0 : Int) + many.toNat = many
    omega
  · exact rangeD_int hd

theorem k_law_tune : Keeps b_law_tune cs_law_tune.N ct_law_tune := by
  rintro _ st Qd Ed ⟨most, m0, m1, rfl, q⟩
  have big := line_big
  refine ⟨most, rfl, by omega, by rw [b30_eq]; omega, fun r r0 r1 => ⟨_, rfl, _, ⟨(by show 4 ≤ sizeLine; omega), rfl⟩, _, by simp, (by show 4 ≤ 1000; decide), rfl, fun x hx => ?_⟩⟩
  obtain ⟨rs, rfl⟩ : ∃ m : Int, x = .int m := by
    simp only [List.mem_cons, List.not_mem_nil, or_false] at hx
    rcases hx with rfl | rfl | rfl | rfl <;> exact ⟨_, rfl⟩
  refine ⟨_, ⟨(by show 2 ≤ sizeLine; omega), rfl⟩, ?_⟩
  refine ⟨1 + r, by omega, by omega, rfl, fun l hl hb => ?_⟩
  refine ⟨_, _, rfl, rfl, ?_⟩
  refine compW_ind (fun ds acc _ => ∃ t : List (Option Int), acc = t.map eN ∧ (∀ x ∈ t, okN x) ∧ (t.length : Int) + ds.length = 1 + r ∧ ∀ d ∈ ds, ∃ i : Int, -60 ≤ i ∧ i ≤ 60 ∧ d = .int i) (fun acc st hP => ?_) (fun e ds acc st hP => ?_) _ _ _ ⟨[], rfl, (fun x hx => nomatch hx), ?_, fun d hd => ?_⟩
  · obtain ⟨t, rfl, ht, hn, _⟩ := hP
    have hn : (t.length : Int) + 0 = 1 + r := hn
    exact ⟨_, rfl, q t ⟨by omega, by omega, ht⟩ (by omega)⟩
  · obtain ⟨t, rfl, ht, hn, hd⟩ := hP
    obtain ⟨i, i0, i1, rfl⟩ := hd e List.mem_cons_self
    rw [List.length_cons] at hn
    refine ⟨_, rfl, fun skip keep _ hk => ⟨8, rfl, by decide, by rw [b30_eq]; decide, fun z z0 z1 => ⟨rfl, _, rfl, ?_⟩⟩⟩
    have put : ∀ x : Option Int, okN x → keep (eN x) st := fun x hx => hk _ _ (by rw [List.length_map]; omega) ⟨t ++ [x], by rw [List.map_append, List.map_singleton], fun y hy => by
      rcases List.mem_append.mp hy with h | h
      · exact ht y h
      · rw [List.mem_singleton.mp h]; exact hx, by rw [List.length_append, List.length_singleton]; omega, fun d h => hd d (List.mem_cons_of_mem _ h)⟩
    by_cases h : z < rs
    · rw [decide_eq_true h]
      exact ⟨rfl, put none trivial⟩
    · rw [decide_eq_false h]
      exact ⟨rfl, put (some i) ⟨i0, i1⟩⟩
  · rw [List.length_map]
    show (0 : Int) + l.length = 1 + r
    omega
  · obtain ⟨i, hi, rfl⟩ := List.mem_map.mp hd
    exact ⟨i, (hb i hi).1, (hb i hi).2, rfl⟩

theorem k_law_rise : Keeps b_law_rise cs_law_rise.N ct_law_rise := by
  rintro _ st Qd Ed ⟨rfl, q⟩
  have big := line_big
  refine ⟨_, rfl, _, rfl, 121, rfl, by decide, by rw [b30_eq]; decide, fun r r0 r1 => ⟨_, rfl, _, ⟨(by show 8 ≤ sizeLine; omega), rfl⟩, _, by simp, (by show 8 ≤ 1000; decide), rfl, fun x hx => ?_⟩⟩
  simp only [List.mem_cons, List.not_mem_nil, or_false] at hx
  rcases hx with rfl | rfl | rfl | rfl | rfl | rfl | rfl | rfl
  · exact q _ (by decide) (by decide)
  · exact q _ (by decide) (by decide)
  · exact q _ (by decide) (by decide)
  · exact q _ (by decide) (by decide)
  · exact q _ (by decide) (by decide)
  · exact q _ (by decide) (by decide)
  · exact q _ (by decide) (by decide)
  · exact q _ (by omega) (by omega)
theorem k_law_way : Keeps b_law_way cs_law_way.N ct_law_way := by
  rintro _ st Qd Ed ⟨rfl, q⟩
  have big := line_big
  refine ⟨_, rfl, _, ⟨(by show 4 ≤ sizeLine; omega), rfl⟩, _, by simp, (by show 4 ≤ 1000; decide), rfl, fun x hx => ?_⟩
  obtain ⟨s, rfl, hs⟩ : ∃ s : Int, x = .int s ∧ (s = 1 ∨ s = -1) := by
    simp only [List.mem_cons, List.not_mem_nil, or_false] at hx
    rcases hx with rfl | rfl | rfl | rfl
    · exact ⟨1, rfl, .inl rfl⟩
    · exact ⟨1, rfl, .inl rfl⟩
    · exact ⟨1, rfl, .inl rfl⟩
    · exact ⟨-1, rfl, .inr rfl⟩
  refine ⟨rfl, fun r r0 r1 => ?_⟩
  have m : OkM s r := ⟨hs, r0, r1⟩
  refine ⟨4, rfl, by decide, by rw [b30_eq]; decide, fun z z0 z1 => ⟨_, rfl, ?_⟩⟩
  by_cases hz : z = 0
  · rw [decide_eq_true hz]
    refine ⟨_, ⟨(by show 6 ≤ sizeLine; omega), rfl⟩, _, by simp, (by show 6 ≤ 1000; decide), rfl, fun x hx => ?_⟩
    obtain ⟨f, rfl, f0, f1⟩ : ∃ f : Int, x = .int f ∧ 2 ≤ f ∧ f ≤ 6 := by
      simp only [List.mem_cons, List.not_mem_nil, or_false] at hx
      rcases hx with rfl | rfl | rfl | rfl | rfl | rfl <;> exact ⟨_, rfl, by decide, by decide⟩
    exact ⟨_, ⟨(by show 4 ≤ sizeLine; omega), rfl⟩, q (.slow f s r) ⟨⟨f0, f1⟩, m⟩⟩
  · rw [decide_eq_false hz]
    refine ⟨49, rfl, by decide, by rw [b30_eq]; decide, fun y y0 y1 => ⟨_, ⟨(by show 7 ≤ sizeLine; omega), rfl⟩, _, by simp, (by show 7 ≤ 1000; decide), rfl, fun x hx => ?_⟩⟩
    obtain ⟨l, rfl, f0, f1⟩ : ∃ f : Int, x = .int f ∧ 0 ≤ f ∧ f ≤ 48 := by
      simp only [List.mem_cons, List.not_mem_nil, or_false] at hx
      rcases hx with rfl | rfl | rfl | rfl | rfl | rfl | rfl
      · exact ⟨_, rfl, by decide, by decide⟩
      · exact ⟨_, rfl, by decide, by decide⟩
      · exact ⟨_, rfl, by decide, by decide⟩
      · exact ⟨_, rfl, by decide, by decide⟩
      · exact ⟨_, rfl, by decide, by decide⟩
      · exact ⟨_, rfl, by decide, by decide⟩
      · exact ⟨_, rfl, y0, by omega⟩
    refine ⟨3, rfl, by decide, by rw [b30_eq]; decide, fun y y0 y1 => ⟨_, rfl, _, ⟨(by show 5 ≤ sizeLine; omega), rfl⟩, q (.lag l s r (decide (y = 0))) ⟨⟨f0, f1⟩, m⟩⟩⟩
theorem k_law_power : Keeps b_law_power cs_law_power.N ct_law_power := by
  rintro _ st Qd Ed ⟨f, v, f0, f1, v0, v1, rfl, q⟩
  refine ⟨inB62_small (by omega) (by omega), ?_⟩
  refine for_range (fun k ρ _ => ∃ x3 : Sl, ρ = [.val (.int f), .val (.int v), .val (.int (f ^ k)), x3]) v.toNat (fun k ρ st hk hI nx hx => ?_) (fun ρ st hI => ?_) _ _ ⟨.un, by rw [Int.pow_zero]; rfl⟩
  · obtain ⟨x3, rfl⟩ := hI
    refine ⟨rfl, rfl, _, ⟨.inr (small64 (by omega) (by omega)), rfl⟩, hx _ _ ⟨.val (.int (0 + k)), ?_⟩⟩
    rw [Int.pow_succ]; rfl
  · obtain ⟨x3, rfl⟩ := hI
    exact q
def nTail : Stms := match b_law_note with
  | .cons _ (.cons _ r) => r
  | _ => .nil
def nTail2 : Stms := match nTail with
  | .cons _ (.cons _ r) => r
  | _ => .nil
theorem eW_sr (w : Way) : ∃ a l tl, eW w = .tup (a :: l :: .int w.s :: .int w.r :: tl) := by cases w <;> exact ⟨_, _, _, rfl⟩
theorem w_nTail2 {t : List (Option Int)} {w : Way} {v b : Int} {e : Bool} (ht : OkT t) (hw : OkW w) (hv : 0 ≤ v) (hv2 : v ≤ 10) (h0 : ¬ b < begW w v) (h : e = true ∨ ¬ begW w v + sizeW w v * t.length ≤ b) {st : Unit} {Qd Ed : D → Unit → Prop} (q : Qd (eN (sungT t w v b e)) st) :
    wpSs ΓL nTail2 [.val (eT t), .val (eW w), .val (.int v), .val (.int b), .val (.bl e), .val (.int (begW w v)), .val (.int (sizeW w v)), .val (.tup ((rowOf t w v).map eN)), .un, .un] st (knOf Qd) (fun e _ st => Ed e st) := by
  have hm : ((t.map eN).length : Int) = t.length := by rw [List.length_map]
  have n1 := ht.lo
  rw [sungT_on hw n1 h0 h] at q
  have hg : atI ((rowOf t w v).map eN) ((b - begW w v) / sizeW w v % ((t.map eN).length : Int)) = some (eN (((rowOf t w v)[((b - begW w v) / sizeW w v % t.length).toNat]?).getD none)) := by rw [hm]; exact rowOf_get n1
  refine ⟨rfl, rfl, rfl, _, rfl, rfl, _, ⟨⟨sizeW_pos hw, by rw [b30_eq]; exact sizeW_small hw hv2⟩, rfl⟩, _, rfl, rfl, _, rfl, _, ⟨by rw [hm]; omega, rfl⟩, _, hg, ?_⟩
  · cases hp : ((rowOf t w v)[((b - begW w v) / sizeW w v % t.length).toNat]?).getD none with
    | none =>
      rw [hp] at q
      exact ⟨rfl, _, rfl, q⟩
    | some p =>
      rw [hp] at q
      refine ⟨rfl, _, rfl, inB62_small (by omega) (by omega), ?_⟩
      obtain ⟨a, l, tl, ew⟩ := eW_sr w
      have m := hw.m
      refine for_range (fun k ρ _ => ∃ x9 : Sl, ρ = [.val (eT t), .val (eW w), .val (.int v), .val (.int b), .val (.bl e), .val (.int (begW w v)), .val (.int (sizeW w v)), .val (.tup ((rowOf t w v).map eN)), .val (.int (mapT w p k)), x9]) v.toNat (fun k ρ st hk hI nx hx => ?_) (fun ρ st hI => ?_) _ _ ⟨.un, by rw [show ((0 : Nat) : Int) = 0 from rfl, mapT_zero]; rfl⟩
      · obtain ⟨x9, rfl⟩ := hI
        rw [ew]
        refine ⟨rfl, _, atI_nat' (k := 2) rfl, rfl, _, ⟨.inl (small64 (by rcases m.s with z | z <;> omega) (by rcases m.s with z | z <;> omega)), rfl⟩, rfl, _, atI_nat' (k := 3) rfl, _, rfl, hx _ _ ⟨.val (.int (0 + k)), ?_⟩⟩
        rw [show ((k + 1 : Nat) : Int) = (k : Int) + 1 from rfl, mapT_succ hw, ew]; rfl
      · obtain ⟨x9, rfl⟩ := hI
        rw [Int.toNat_of_nonneg hv]
        exact q
theorem w_nTail {t : List (Option Int)} {w : Way} {v b : Int} {e : Bool} (ht : OkT t) (hw : OkW w) (hv : 0 ≤ v) (hv2 : v ≤ 10) {st : Unit} {Qd Ed : D → Unit → Prop} (q : Qd (eN (sungT t w v b e)) st) :
    wpSs ΓL nTail [.val (eT t), .val (eW w), .val (.int v), .val (.int b), .val (.bl e), .val (.int (begW w v)), .val (.int (sizeW w v)), .un, .un, .un] st (knOf Qd) (fun e _ st => Ed e st) := by
  have hm : ((t.map eN).length : Int) = t.length := by rw [List.length_map]
  have n2 := ht.hi
  refine ⟨rfl, rfl, _, rfl, ?_⟩
  by_cases h0 : b < begW w v
  · rw [decide_eq_true h0]
    rw [sungT_early h0] at q
    exact q
  rw [decide_eq_false h0]
  have go : (e = true ∨ ¬ begW w v + sizeW w v * t.length ≤ b) → wpSs ΓL (match nTail with | .cons _ r => r | _ => .nil) [.val (eT t), .val (eW w), .val (.int v), .val (.int b), .val (.bl e), .val (.int (begW w v)), .val (.int (sizeW w v)), .un, .un, .un] st (knOf Qd) (fun e _ st => Ed e st) := fun h => by
    have fin := w_nTail2 (st := st) (Ed := Ed) ht hw hv hv2 h0 h q
    cases w with
    | slow f s r => exact ⟨rfl, _, rfl, _, rfl, fin⟩
    | lag l s r bb =>
      refine ⟨rfl, _, rfl, _, rfl, rfl, _, rfl, ?_⟩
      cases bb with
      | false => exact fin
      | true =>
        refine ⟨rfl, _, rfl, _, ⟨by decide, rfl⟩, _, rfl, ?_⟩
        unfold rowOf at fin
        have eb : backw (.lag l s r true) v = decide (v % 2 = 1) := rfl
        rw [eb] at fin
        by_cases h1 : v % 2 = 1
        · rw [decide_eq_true h1] at fin ⊢
          rw [if_pos rfl, List.map_reverse] at fin
          exact ⟨rfl, _, rfl, fin⟩
        · rw [decide_eq_false h1] at fin ⊢
          exact fin
  cases e with
  | true => exact ⟨true, rfl, go (.inl rfl)⟩
  | false =>
    refine ⟨false, rfl, rfl, rfl, rfl, rfl, _, rfl, _, ⟨.inr (small64 (by rw [hm]; omega) (by rw [hm]; omega)), rfl⟩, _, rfl, _, rfl, ?_⟩
    rw [hm]
    by_cases h1 : begW w v + sizeW w v * t.length ≤ b
    · rw [decide_eq_true h1]
      rw [sungT_late hw h0 h1] at q
      exact q
    · rw [decide_eq_false h1]
      exact go (.inr h1)
theorem k_law_note : Keeps b_law_note cs_law_note.N ct_law_note := by
  rintro _ st Qd Ed ⟨t, w, v, b, e, ht, hw, hv, hv2, hb, rfl, q⟩
  have fin := w_nTail (st := st) (Ed := Ed) ht hw hv hv2 q
  cases w with
  | lag l s r bb =>
    obtain ⟨⟨a1, a2⟩, m⟩ := hw
    exact ⟨rfl, _, rfl, _, rfl, rfl, rfl, _, rfl, _, ⟨.inr (small64 (by omega) (by omega)), rfl⟩, rfl, _, rfl, _, rfl, fin⟩
  | slow f s r =>
    obtain ⟨⟨a1, a2⟩, m⟩ := hw
    exact ⟨rfl, _, rfl, _, rfl, rfl, _, rfl, _, rfl, rfl, _, rfl, f, v, a1, a2, hv, by omega, rfl, fin⟩
theorem k_law_gap_2 : Keeps b_law_gap_2 cs_law_gap_2.N ct_law_gap_2 := by
  rintro _ st Qd Ed ⟨s, a, b, h0, rfl, q⟩
  refine ⟨rfl, rfl, _, rfl, rfl, rfl, _, rfl, _, rfl, ?_⟩
  rw [far_eq]
  unfold gap rest at q
  refine ⟨rfl, _, rfl, _, rfl, ?_⟩
  by_cases h : s.sp = 0
  · rw [if_pos h] at q
    rw [decide_eq_true h]
    exact q
  · rw [if_neg h] at q
    rw [decide_eq_false h]
    exact ⟨rfl, _, rfl, rfl, _, rfl, _, ⟨by omega, rfl⟩, q⟩

def lwTail : Stms := match b_law_words with
  | .cons _ (.cons _ (.cons _ r)) => r
  | _ => .nil
theorem w_lwTail {s : Sty} {a b : Option Int} {x y : Int} (h0 : 0 ≤ s.sp) {fl : List Str} (hf : fl = if barred s (some x) (some y) then [("barred" : Str)] else []) {st : Unit} {Qd Ed : D → Unit → Prop}
    (q : Qd (.lst ((wordsL s a b (some x) (some y)).map .str)) st) :
    wpSs ΓL lwTail [.val (eS s), .val (.tup [eN a, eN b]), .val (.tup [eN (some x), eN (some y)]), .val (.int (gap s x y)), .val (.lst (fl.map .str))] st (knOf Qd) (fun e _ st => Ed e st) := by
  have big := line_big
  have hl : fl.length ≤ 1 := by rw [hf]; split <;> simp
  unfold wordsL at q
  rw [← hf, List.map_append] at q
  have no : tied s a b (some x) (some y) = false → Qd (.lst (fl.map .str)) st := fun e => by
    rw [e, show (List.map D.str (if false = true then [("tied" : Str)] else [])) = [] from rfl, List.append_nil] at q
    exact q
  cases a with
  | none => exact ⟨rfl, _, rfl, _, rfl, no (by cases b <;> rfl)⟩
  | some a =>
  cases b with
  | none => exact ⟨rfl, _, rfl, _, rfl, rfl, _, rfl, _, rfl, no rfl⟩
  | some b =>
  refine ⟨rfl, _, rfl, _, rfl, rfl, _, rfl, _, rfl, rfl, _, rfl, rfl, _, rfl, _, rfl, ?_⟩
  by_cases h1 : a = x
  · rw [decide_eq_true h1]
    exact no (by rw [tied_eq]; simp [h1])
  rw [decide_eq_false h1]
  refine ⟨rfl, _, rfl, rfl, _, rfl, _, rfl, ?_⟩
  by_cases h2 : b = y
  · rw [decide_eq_true h2]
    exact no (by rw [tied_eq]; simp [h2])
  rw [decide_eq_false h2]
  refine ⟨rfl, rfl, _, rfl, _, ⟨⟨rfl, flat_ints s.T⟩, rfl⟩, ?_⟩
  rw [any_ints]
  by_cases h3 : s.T.contains (gap s x y) = true
  · rw [h3]
    refine ⟨rfl, _, rfl, rfl, _, rfl, s, a, b, h0, rfl, rfl, _, rfl, ?_⟩
    by_cases h4 : gap s a b = gap s x y
    · rw [decide_eq_true h4]
      have e : tied s (some a) (some b) (some x) (some y) = true := by rw [tied_eq, h3]; simp [h1, h2, h4]
      rw [e] at q
      exact ⟨rfl, _, ⟨(by show 1 ≤ sizeLine; omega), rfl⟩, _, ⟨(by show (fl.map D.str).length + 1 ≤ sizeLine; rw [List.length_map]; omega), rfl⟩, q⟩
    · rw [decide_eq_false h4]
      exact no (by rw [tied_eq, h3]; simp; exact fun _ _ e => h4 e.symm)
  · rw [Bool.not_eq_true] at h3
    rw [h3]
    exact no (by rw [tied_eq, h3]; simp)
theorem k_law_words : Keeps b_law_words cs_law_words.N ct_law_words := by
  rintro _ st Qd Ed ⟨s, a, b, x, y, h0, rfl, q⟩
  have big := line_big
  cases x with
  | none =>
    have q : Qd (.lst []) st := by unfold wordsL at q; rw [tied_n1] at q; exact q
    exact ⟨rfl, _, rfl, _, rfl, _, ⟨Nat.zero_le _, rfl⟩, q⟩
  | some x =>
  cases y with
  | none =>
    have q : Qd (.lst []) st := by unfold wordsL at q; rw [tied_n2, barred_n2] at q; exact q
    exact ⟨rfl, _, rfl, _, rfl, rfl, _, rfl, _, rfl, _, ⟨Nat.zero_le _, rfl⟩, q⟩
  | some y =>
  refine ⟨rfl, _, rfl, _, rfl, rfl, _, rfl, _, rfl, ?_⟩
  refine ⟨rfl, _, rfl, rfl, _, rfl, s, x, y, h0, rfl, ?_⟩
  refine ⟨rfl, rfl, _, rfl, _, ⟨⟨rfl, flat_ints s.B⟩, rfl⟩, ?_⟩
  rw [any_ints]
  by_cases h : s.B.contains (gap s x y) = true
  · rw [h]
    exact ⟨_, ⟨(by show 1 ≤ sizeLine; omega), rfl⟩, w_lwTail (fl := ["barred"]) h0 (by rw [show barred s (some x) (some y) = true from h]; rfl) q⟩
  · rw [Bool.not_eq_true] at h
    rw [h]
    exact ⟨_, ⟨Nat.zero_le _, rfl⟩, w_lwTail (fl := []) h0 (by rw [show barred s (some x) (some y) = false from h]; rfl) q⟩
theorem k_law_map : Keeps b_law_map cs_law_map.N ct_law_map := by
  rintro _ st Qd Ed ⟨w, p, n, hw, rfl, q⟩
  have m := hw.m
  have e2 : ∃ a l tl, eW w = .tup (a :: l :: .int w.s :: .int w.r :: tl) := by cases w <;> exact ⟨_, _, _, rfl⟩
  obtain ⟨a, l, tl, e⟩ := e2
  rw [e]
  cases p with
  | none => exact ⟨rfl, _, rfl, q⟩
  | some p =>
    refine ⟨rfl, _, rfl, ?_⟩
    have q : Qd (.int (mapT w p n)) st := q
    unfold mapT at q
    refine ⟨rfl, _, atI_nat' (k := 2) rfl, _, rfl, ?_⟩
    by_cases h : w.s = 1
    · rw [if_pos h] at q
      rw [decide_eq_true h]
      refine ⟨rfl, rfl, rfl, _, atI_nat' (k := 3) rfl, _, ⟨.inr (small64 (by have := m.r1; omega) (by have := m.r2; omega)), rfl⟩, _, rfl, q⟩
    · rw [if_neg h] at q
      rw [decide_eq_false h]
      refine ⟨rfl, _, rfl, _, ⟨by decide, rfl⟩, _, rfl, ?_⟩
      by_cases h2 : n % 2 = 0
      · rw [if_pos h2] at q
        rw [decide_eq_true h2]
        exact q
      · rw [if_neg h2] at q
        rw [decide_eq_false h2]
        exact ⟨rfl, _, atI_nat' (k := 3) rfl, rfl, _, rfl, q⟩
def atTail : Stms := match b_law_at with
  | .cons _ (.cons _ r) => r
  | _ => .nil
theorem w_atTail {t : List (Option Int)} {l sg r : Int} {b : Bool} {v c : Int} {e : Bool} (ht : OkT t) (hw : OkW (.lag l sg r b)) (h0 : ¬ c < begW (.lag l sg r b) v) (h : e = true ∨ ¬ begW (.lag l sg r b) v + sizeW (.lag l sg r b) v * t.length ≤ c) {st : Unit} {Qd Ed : D → Unit → Prop} (q : Qd (eN (sungT t (.lag l sg r b) v c e)) st) :
    wpSs ΓL atTail [.val (eT t), .val (eW (.lag l sg r b)), .val (.int v), .val (.int c), .val (.bl e), .val (.int (c - v * l)), .un] st (knOf Qd) (fun e _ st => Ed e st) := by
  have hm : ((t.map eN).length : Int) = t.length := by rw [List.length_map]
  have n1 := ht.lo
  rw [sungT_on hw n1 h0 h] at q
  have e1 : (c - begW (.lag l sg r b) v) / sizeW (.lag l sg r b) v = c - v * l := by show (c - v * l) / 1 = _; rw [Int.ediv_one]
  rw [e1] at q
  have fin : wpSs ΓL (match atTail with | .cons _ r => r | _ => .nil) [.val (eT t), .val (eW (.lag l sg r b)), .val (.int v), .val (.int c), .val (.bl e), .val (.int (c - v * l)), .val (.tup ((rowOf t (.lag l sg r b) v).map eN))] st (knOf Qd) (fun e _ st => Ed e st) := by
    have hg : atI ((rowOf t (.lag l sg r b) v).map eN) ((c - v * l) % ((t.map eN).length : Int)) = some (eN (((rowOf t (.lag l sg r b) v)[((c - v * l) % t.length).toNat]?).getD none)) := by rw [hm]; exact rowOf_get n1
    exact ⟨rfl, rfl, _, rfl, rfl, _, rfl, _, ⟨by rw [hm]; omega, rfl⟩, _, hg, .lag l sg r b, _, v, hw, rfl, q⟩
  refine ⟨rfl, _, rfl, ?_⟩
  cases b with
  | false => exact fin
  | true =>
    refine ⟨rfl, _, rfl, _, ⟨by decide, rfl⟩, _, rfl, ?_⟩
    unfold rowOf at fin
    have eb : backw (.lag l sg r true) v = decide (v % 2 = 1) := rfl
    rw [eb] at fin
    by_cases h1 : v % 2 = 1
    · rw [decide_eq_true h1] at fin ⊢
      rw [if_pos rfl, List.map_reverse] at fin
      exact ⟨rfl, _, rfl, fin⟩
    · rw [decide_eq_false h1] at fin ⊢
      exact fin
theorem k_law_at : Keeps b_law_at cs_law_at.N ct_law_at := by
  rintro _ st Qd Ed ⟨t, l, sg, r, b, v, c, e, ht, hw, hv, rfl, q⟩
  have hm : ((t.map eN).length : Int) = t.length := by rw [List.length_map]
  have hl : 0 ≤ l ∧ l ≤ 48 := hw.1
  refine ⟨rfl, rfl, rfl, _, rfl, _, ⟨.inr (small64 (by omega) (by omega)), rfl⟩, _, rfl, ?_⟩
  refine ⟨rfl, _, rfl, ?_⟩
  by_cases h0 : c - v * l < 0
  · rw [decide_eq_true h0]
    rw [sungT_early (by show c < v * l; omega)] at q
    exact q
  rw [decide_eq_false h0]
  have h0' : ¬ c < begW (.lag l sg r b) v := by show ¬ c < v * l; omega
  have es : begW (.lag l sg r b) v + sizeW (.lag l sg r b) v * t.length = v * l + t.length := by show v * l + 1 * (t.length : Int) = _; omega
  cases e with
  | true => exact ⟨true, rfl, w_atTail ht hw h0' (.inl rfl) q⟩
  | false =>
    refine ⟨false, rfl, rfl, rfl, _, rfl, _, rfl, ?_⟩
    rw [hm]
    by_cases h1 : (t.length : Int) ≤ c - v * l
    · rw [decide_eq_true h1]
      rw [sungT_late hw h0' (by rw [es]; omega)] at q
      exact q
    · rw [decide_eq_false h1]
      exact w_atTail ht hw h0' (.inr (by rw [es]; omega)) q
def lpEnv (t : List (Option Int)) (s : Sty) (w : Way) (near far : Int) (e : Bool) (p q : Option Int) (x6 x9 x10 : Sl) : Env :=
  [.val (eT t), .val (eS s), .val (eW w), .val (.int near), .val (.int far), .val (.bl e), x6, .val (.int (begW w far)), .val (.tup [eN p, eN q]), x9, x10]
def lpBody : Stms := match b_law_lag_pair with
  | .cons _ (.cons (.for_ _ _ b) _) => b
  | _ => .nil
theorem lp_find {p : Nat → Bool} {n k : Nat} (hk : k < n) (hp : ∀ j, j < k → p j = false) (h : p k = true) : (List.range n).find? p = some k := by
  rw [List.find?_range_eq_some]
  refine ⟨h, List.mem_range.mpr hk, fun j hj => ?_⟩
  rw [hp j hj]; rfl
theorem lp_at {t : List (Option Int)} {s : Sty} {w : Way} {e : Bool} {near far : Int} {k : Nat} (hk : k < (endT t.length w e near far - begW w far).toNat) (hp : ∀ j, j < k → wdT t s w e near far (begW w far + (j : Nat)) = "") (h : wdT t s w e near far (begW w far + k) ≠ "") :
    lagF t s w e near far = some (begW w far + k, wdT t s w e near far (begW w far + k)) := by
  unfold lagF
  rw [lp_find hk (p := fun (k : Nat) => wdT t s w e near far (begW w far + k) != "") (fun j hj => by rw [hp j hj]; decide) (by rw [bne_iff_ne]; exact h)]
  rfl
theorem lp_no {t : List (Option Int)} {s : Sty} {w : Way} {e : Bool} {near far : Int} (hp : ∀ j, j < (endT t.length w e near far - begW w far).toNat → wdT t s w e near far (begW w far + (j : Nat)) = "") : lagF t s w e near far = none := by
  unfold lagF
  have : (List.range (endT t.length w e near far - begW w far).toNat).find? (fun (k : Nat) => wdT t s w e near far (begW w far + k) != "") = none := by
    rw [List.find?_eq_none]
    intro k hk
    rw [hp k (List.mem_range.mp hk)]
    decide
  rw [this]; rfl
theorem strs_eqv : ∀ l : List Str, (D.lst (l.map .str)).eqv (.lst []) = decide (l = [])
  | [] => rfl
  | d :: l => by
    rw [decide_eq_false (by simp)]; rfl
theorem wordsL_ok (n : Nat) {s : Sty} {a b x y : Option Int} : eqOkL n ((wordsL s a b x y).map .str) = true := by
  refine strs_ok n _ fun d hd => ?_
  obtain ⟨z, hz, rfl⟩ := List.mem_map.mp hd
  unfold wordsL at hz
  rcases List.mem_append.mp hz with h | h
  · split at h
    · exact ⟨z, by rw [List.mem_singleton.mp h]; decide +kernel, rfl⟩
    · cases h
  · split at h
    · exact ⟨z, by rw [List.mem_singleton.mp h]; decide +kernel, rfl⟩
    · cases h
theorem w_lpBody {t : List (Option Int)} {s : Sty} {l sg r : Int} {bb : Bool} {near far : Int} {e : Bool} (ht : OkT t) (hs : OkS s) (hw : OkW (.lag l sg r bb)) (n0 : 0 ≤ near) (f0 : 0 ≤ far) {k : Nat} {x9 x10 : Sl} {K : Kn Unit} {E : QX Unit}
    (h1 : wdT t s (.lag l sg r bb) e near far (begW (.lag l sg r bb) far + k) ≠ "" → K.rt (.lst [.tup [.int (begW (.lag l sg r bb) far + k), .int near, .int far, .str (wdT t s (.lag l sg r bb) e near far (begW (.lag l sg r bb) far + k))]]) ())
    (h2 : wdT t s (.lag l sg r bb) e near far (begW (.lag l sg r bb) far + k) = "" → ∀ y9 y10, K.nx (lpEnv t s (.lag l sg r bb) near far e (sungT t (.lag l sg r bb) near (begW (.lag l sg r bb) far + k) e) (sungT t (.lag l sg r bb) far (begW (.lag l sg r bb) far + k) e) (.val (.int (begW (.lag l sg r bb) far + k))) y9 y10) ()) :
    wpSs ΓL lpBody (lpEnv t s (.lag l sg r bb) near far e (if k == 0 then none else sungT t (.lag l sg r bb) near (begW (.lag l sg r bb) far + k - 1) e) (if k == 0 then none else sungT t (.lag l sg r bb) far (begW (.lag l sg r bb) far + k - 1) e) (.val (.int (begW (.lag l sg r bb) far + k))) x9 x10) () K E := by
  have big := line_big
  have l2 : 2 ≤ sizeLine := by omega
  refine ⟨t, l, sg, r, bb, near, begW (.lag l sg r bb) far + k, e, ht, hw, n0, rfl, t, l, sg, r, bb, far, begW (.lag l sg r bb) far + k, e, ht, hw, f0, rfl, _, ⟨l2, rfl⟩, s, _, _, _, _, hs.lo, rfl, ?_⟩
  have e0 := wd0_eq (t := t) (s := s) (w := .lag l sg r bb) (e := e) (near := near) (far := far) (k := k)
  unfold wd0 at e0
  obtain ⟨g1, g2⟩ := wordsL_head (s := s) (a := if k == 0 then none else sungT t (.lag l sg r bb) near (begW (.lag l sg r bb) far + k - 1) e) (b := if k == 0 then none else sungT t (.lag l sg r bb) far (begW (.lag l sg r bb) far + k - 1) e) (x := sungT t (.lag l sg r bb) near (begW (.lag l sg r bb) far + k) e) (y := sungT t (.lag l sg r bb) far (begW (.lag l sg r bb) far + k) e)
  rw [e0] at g1 g2
  refine ⟨rfl, _, ⟨Nat.zero_le _, rfl⟩, _, ⟨⟨wordsL_ok _, rfl⟩, rfl⟩, ?_⟩
  rw [strs_eqv]
  cases hz : wordsL s (if k == 0 then none else sungT t (.lag l sg r bb) near (begW (.lag l sg r bb) far + k - 1) e) (if k == 0 then none else sungT t (.lag l sg r bb) far (begW (.lag l sg r bb) far + k - 1) e) (sungT t (.lag l sg r bb) near (begW (.lag l sg r bb) far + k) e) (sungT t (.lag l sg r bb) far (begW (.lag l sg r bb) far + k) e) with
  | nil =>
    exact h2 (g1.mp hz) _ _
  | cons z rr =>
    have ez := g2 z rr hz
    have hne : wdT t s (.lag l sg r bb) e near far (begW (.lag l sg r bb) far + k) ≠ "" := fun q => by
      have := g1.mpr q
      rw [hz] at this
      cases this
    refine ⟨rfl, _, atI_nat' (k := 0) rfl, _, ⟨(by show 4 ≤ sizeLine; omega), rfl⟩, _, ⟨(by show 1 ≤ sizeLine; omega), rfl⟩, ?_⟩
    have := h1 hne
    rw [← ez] at this
    exact this
theorem k_law_lag_pair : Keeps b_law_lag_pair cs_law_lag_pair.N ct_law_lag_pair := by
  rintro _ st Qd Ed ⟨t, s, l, sg, r, bb, near, a, e, ht, hs, hw, n0, n1, a0, a1, rfl, q⟩
  have big := line_big
  have hl : 0 ≤ l ∧ l ≤ 48 := hw.1
  have hm : ((t.map eN).length : Int) = t.length := by rw [List.length_map]
  have t1 := ht.lo
  have t2 := ht.hi
  have b1 : 0 ≤ (near + a) * l ∧ (near + a) * l ≤ 200000 * 48 := ⟨Int.mul_nonneg (by omega) hl.1, Int.mul_le_mul (by omega) hl.2 hl.1 (by decide)⟩
  have b2 : 0 ≤ near * l ∧ near * l ≤ 10 * 48 := ⟨Int.mul_nonneg (by omega) hl.1, Int.mul_le_mul (by omega) hl.2 hl.1 (by decide)⟩
  have b3 : endT t.length (.lag l sg r bb) e near (near + a) = if e then (near + a) * l + t.length + 1 else near * l + t.length := rfl
  have b4 : -100000000 ≤ endT t.length (.lag l sg r bb) e near (near + a) ∧ endT t.length (.lag l sg r bb) e near (near + a) ≤ 100000000 := by rw [b3]; split <;> omega
  unfold pairF at q
  have fin : forW (.n 6) (fun ρ1 st1 nx => wpSs ΓL lpBody ρ1 st1 { nx := nx, rt := Qd, bk := fun ρ' st' => wpSs ΓL (.cons (.ret (.op .lst .nil)) .nil) ρ' st' (knOf Qd) (fun e _ st => Ed e st), ct := nx } (fun e _ st => Ed e st)) (rangeD (begW (.lag l sg r bb) (near + a)) (endT t.length (.lag l sg r bb) e near (near + a) - begW (.lag l sg r bb) (near + a)).toNat)
      (lpEnv t s (.lag l sg r bb) near (near + a) e none none .un .un .un) st (fun ρ' st' => wpSs ΓL (.cons (.ret (.op .lst .nil)) .nil) ρ' st' (knOf Qd) (fun e _ st => Ed e st)) := by
    refine for_range (fun k ρ _ => (∀ j, j < k → wdT t s (.lag l sg r bb) e near (near + a) (begW (.lag l sg r bb) (near + a) + (j : Nat)) = "") ∧ ∃ x6 x9 x10 : Sl, ρ = lpEnv t s (.lag l sg r bb) near (near + a) e (if k == 0 then none else sungT t (.lag l sg r bb) near (begW (.lag l sg r bb) (near + a) + k - 1) e) (if k == 0 then none else sungT t (.lag l sg r bb) (near + a) (begW (.lag l sg r bb) (near + a) + k - 1) e) x6 x9 x10) _ (fun k ρ st hk hI nx hx => ?_) (fun ρ st hI => ?_) _ _ ⟨fun j hj => absurd hj (Nat.not_lt_zero j), .un, .un, .un, rfl⟩
    · obtain ⟨hp, x6, x9, x10, rfl⟩ := hI
      refine w_lpBody ht hs hw n0 (by omega) (fun hz => ?_) (fun hz y9 y10 => hx _ _ ⟨fun j hj => ?_, .val (.int (begW (.lag l sg r bb) (near + a) + k)), y9, y10, ?_⟩)
      · rw [lp_at hk hp hz] at q
        exact q
      · by_cases hj2 : j < k
        · exact hp j hj2
        · obtain rfl : j = k := by omega
          exact hz
      · rw [show (k + 1 == 0) = false from rfl, if_neg Bool.false_ne_true, if_neg Bool.false_ne_true, show begW (.lag l sg r bb) (near + a) + ((k + 1 : Nat) : Int) - 1 = begW (.lag l sg r bb) (near + a) + (k : Int) by omega]
    · obtain ⟨hp, x6, x9, x10, rfl⟩ := hI
      rw [lp_no hp] at q
      exact ⟨_, ⟨Nat.zero_le _, rfl⟩, q⟩
  rw [b3] at fin
  refine ⟨rfl, rfl, _, rfl, _, ⟨.inr (small64 (by omega) (by omega)), rfl⟩, _, ⟨(by show 2 ≤ sizeLine; omega), rfl⟩, ?_⟩
  cases e with
  | true =>
    refine ⟨rfl, rfl, _, rfl, _, rfl, _, rfl, ⟨inB62_small (by omega) (by omega), inB62_small (by rw [hm]; omega) (by rw [hm]; omega)⟩, ?_⟩
    rw [hm]
    exact fin
  | false =>
    refine ⟨rfl, rfl, _, rfl, _, ⟨.inr (small64 (by omega) (by omega)), rfl⟩, rfl, _, rfl, _, rfl, ⟨inB62_small (by omega) (by omega), inB62_small (by rw [hm]; omega) (by rw [hm]; omega)⟩, ?_⟩
    rw [hm]
    exact fin
def hiT (t : List (Option Int)) (w : Way) (a : Int) : List (Option Int) := t.map fun p => p.map fun p => mapT w p a
theorem hiT_at {t : List (Option Int)} {w : Way} {a i : Int} : at0 (hiT t w a) i = hiS t w a i := by
  unfold hiT at0 hiS at0
  rw [List.length_map, List.getElem?_map]
  cases t[(i % (t.length : Int)).toNat]? with
  | none => rfl
  | some x => rfl
theorem hiT_len {t : List (Option Int)} {w : Way} {a : Int} : (hiT t w a).length = t.length := List.length_map ..
theorem hi_ix {t : List (Option Int)} {w : Way} {a : Int} (ht : 1 ≤ t.length) (i : Int) : atI ((hiT t w a).map eN) (i % (t.length : Int)) = some (eN (hiS t w a i)) := by
  have := at0_ix (t := hiT t w a) (by rw [hiT_len]; exact ht) i
  rw [hiT_len, hiT_at] at this
  exact this
theorem hi_at {t : List (Option Int)} {w : Way} {a : Int} (i : Int) (h1 : -(t.length : Int) ≤ i) (h2 : i < t.length) : atI ((hiT t w a).map eN) i = some (eN (hiS t w a i)) := by
  have := at0_atI (t := hiT t w a) i (by rw [hiT_len]; exact h1) (by rw [hiT_len]; exact h2)
  rw [hiT_at] at this
  exact this
def spEnv (t : List (Option Int)) (s : Sty) (w : Way) (a : Int) (e : Bool) (x6 x7 : Sl) (F : Int) (x10 x11 x12 x13 x15 x16 : Sl) : Env :=
  [.val (eT t), .val (eS s), .val (eW w), .val (.int a), .val (.bl e), .val (.lst ((hiT t w a).map eN)), x6, x7, .val (.int t.length), .val (.int F), x10, x11, x12, x13, .un, x15, x16]
def sp3 : Stms := match b_law_slow_pair_2 with
  | .cons _ (.cons _ r) => r
  | _ => .nil
def spD : Stms := match sp3 with
  | .cons (.ife _ b _) _ => b
  | _ => .nil
def sdBody : Stms := match spD with
  | .cons _ (.cons (.for_ _ _ b) _) => b
  | _ => .nil
def spL : Stms := match sp3 with
  | .cons _ r => r
  | _ => .nil
def slBody : Stms := match spL with
  | .cons _ (.cons (.for_ _ _ b) _) => b
  | _ => .nil
def slIn : Stms := match slBody with
  | .cons _ (.cons (.for_ _ _ b) _) => b
  | _ => .nil
def slTl : Stms := match slBody with
  | .cons _ (.cons _ r) => r
  | _ => .nil
def hiX : X := .comp [2, 14, 3] [14] (.n 14) (.seq (.x (.v 0) .nil)) .nil (.call 159 (.x (.v 2) (.x (.v 14) (.x (.v 3) .nil))))
def hiD (w : Way) (a : Int) : D → Option D
  | .int p => some (.int (mapT w p a))
  | .non => some .non
  | _ => none
theorem hiD_map {w : Way} {a : Int} : ∀ t : List (Option Int), (t.map eN).filterMap (hiD w a) = (hiT t w a).map eN
  | [] => rfl
  | none :: t => by
    rw [List.map_cons, List.filterMap_cons, show hiD w a (eN none) = some .non from rfl]
    exact congrArg _ (hiD_map t)
  | some p :: t => by
    rw [List.map_cons, List.filterMap_cons, show hiD w a (eN (some p)) = some (.int (mapT w p a)) from rfl]
    exact congrArg _ (hiD_map t)
theorem w_hiX {t : List (Option Int)} {s : Sty} {w : Way} {a : Int} {e : Bool} {F : Int} (ht : OkT t) (hw : OkW w) {Q E : QX Unit}
    (h : Q (.lst ((hiT t w a).map eN)) [.val (eT t), .val (eS s), .val (eW w), .val (.int a), .val (.bl e), .un, .un, .un, .val (.int t.length), .val (.int F), .un, .un, .un, .un, .un, .un, .un] ()) :
    wpX ΓL hiX [.val (eT t), .val (eS s), .val (eW w), .val (.int a), .val (.bl e), .un, .un, .un, .val (.int t.length), .val (.int F), .un, .un, .un, .un, .un, .un, .un] () Q E := by
  have big := line_big
  refine ⟨_, _, rfl, rfl, ?_⟩
  refine compW_map (hiD w a) _ _ (fun d hd => ?_) ?_ ?_
  · obtain ⟨n, _, rfl⟩ := List.mem_map.mp hd
    refine ⟨_, rfl, fun skip keep hk => ?_⟩
    cases n with
    | none => exact ⟨w, none, a, hw, rfl, rfl, hk⟩
    | some p => exact ⟨w, some p, a, hw, rfl, rfl, hk⟩
  · rw [List.length_map]
    have := ht.hi
    show 0 + _ ≤ _
    omega
  · rw [hiD_map, List.nil_append]
    exact h
/-! the direct way -/
theorem word_wdS {t : List (Option Int)} {s : Sty} {w : Way} {F a : Int} {k : Nat} : word s (if k == 0 then none else at0 t ((k : Int) - 1)) (if k == 0 then none else hiS t w a (((k : Int) - 1) / F)) (at0 t k) (hiS t w a ((k : Int) / F)) = wdS t s w F a k := by
  unfold word wdS bdS tdS
  cases k with
  | zero =>
    rw [show ((0 : Nat) == 0) = true from rfl, if_pos rfl, if_pos rfl, tied_n3, decide_eq_false (show ¬ (0 : Int) < ((0 : Nat) : Int) by decide), Bool.false_and]
  | succ k =>
    rw [show (k + 1 == 0) = false from rfl, if_neg Bool.false_ne_true, if_neg Bool.false_ne_true, decide_eq_true (show (0 : Int) < ((k + 1 : Nat) : Int) by omega), Bool.true_and]
theorem w_sdBody {t : List (Option Int)} {s : Sty} {w : Way} {a : Int} {e : Bool} (ht : OkT t) (hs : OkS s) {F : Int} (hF : 0 < F) (hF2 : F < 1000) {k : Nat} {x6 x7 x12 x13 x15 x16 : Sl} {K : Kn Unit} {E : QX Unit}
    (h1 : wdS t s w F a k ≠ "" → K.rt (.lst [.tup [.int k, .int 0, .int a, .str (wdS t s w F a k)]]) ())
    (h2 : wdS t s w F a k = "" → ∀ y15 y16, K.nx (spEnv t s w a e x6 x7 F (.val (.tup [eN (at0 t k), eN (hiS t w a ((k : Int) / F))])) (.val (.int k)) x12 x13 y15 y16) ()) :
    wpSs ΓL sdBody (spEnv t s w a e x6 x7 F (.val (.tup [eN (if k == 0 then none else at0 t ((k : Int) - 1)), eN (if k == 0 then none else hiS t w a (((k : Int) - 1) / F))])) (.val (.int k)) x12 x13 x15 x16) () K E := by
  have big := line_big
  have l2 : 2 ≤ sizeLine := by omega
  have t1 := ht.lo
  refine ⟨rfl, rfl, _, rfl, rfl, _, ⟨by omega, rfl⟩, _, at0_ix t1 _, rfl, rfl, rfl, _, ⟨⟨hF, by rw [b30_eq]; omega⟩, rfl⟩, _, rfl, rfl, _, ⟨by omega, rfl⟩, _, hi_ix t1 _, _, ⟨l2, rfl⟩, s, _, _, _, _, hs.lo, rfl, ?_⟩
  obtain ⟨g1, g2⟩ := wordsL_head (s := s) (a := if k == 0 then none else at0 t ((k : Int) - 1)) (b := if k == 0 then none else hiS t w a (((k : Int) - 1) / F)) (x := at0 t k) (y := hiS t w a ((k : Int) / F))
  rw [word_wdS] at g1 g2
  refine ⟨rfl, _, ⟨Nat.zero_le _, rfl⟩, _, ⟨⟨wordsL_ok _, rfl⟩, rfl⟩, ?_⟩
  rw [strs_eqv]
  cases hz : wordsL s (if k == 0 then none else at0 t ((k : Int) - 1)) (if k == 0 then none else hiS t w a (((k : Int) - 1) / F)) (at0 t k) (hiS t w a ((k : Int) / F)) with
  | nil => exact h2 (g1.mp hz) _ _
  | cons z rr =>
    have ez := g2 z rr hz
    have hne : wdS t s w F a k ≠ "" := fun q => by
      have := g1.mpr q
      rw [hz] at this
      cases this
    refine ⟨rfl, _, atI_nat' (k := 0) rfl, _, ⟨(by show 4 ≤ sizeLine; omega), rfl⟩, _, ⟨(by show 1 ≤ sizeLine; omega), rfl⟩, ?_⟩
    have := h1 hne
    rw [← ez] at this
    exact this
theorem fa_at {t : List (Option Int)} {s : Sty} {w : Way} {F a : Int} {e : Bool} {k : Nat} (hk : k < endS t.length F e) (hp : ∀ j, j < k → wdS t s w F a (j : Nat) = "") (h : wdS t s w F a k ≠ "") : faS t s w F a e = some ((k : Int), wdS t s w F a k) := by
  unfold faS
  rw [find_at (p := fun (k : Nat) => wdS t s w F a k != "") hk (fun j hj => by rw [hp j hj]; decide) (by rw [bne_iff_ne]; exact h)]
  rfl
theorem fa_no {t : List (Option Int)} {s : Sty} {w : Way} {F a : Int} {e : Bool} (hp : ∀ j, j < endS t.length F e → wdS t s w F a (j : Nat) = "") : faS t s w F a e = none := by
  unfold faS
  rw [find_no fun j hj => by rw [hp j hj]; decide]
  rfl
def flO (a : Int) : Option (Int × Str) → List Fl
  | none => []
  | some y => [⟨y.1, 0, a, y.2⟩]
theorem w_spD {t : List (Option Int)} {s : Sty} {w : Way} {a : Int} {e : Bool} (ht : OkT t) (hs : OkS s) {F : Int} (hF : 0 < F) (hF2 : F < t.length) {Qd Ed : D → Unit → Prop} {kn : Env → Unit → Prop}
    (q : Qd (.lst ((flO a (faS t s w F a e)).map fun q => eF (some q))) ()) :
    wpSs ΓL spD (spEnv t s w a e .un .un F .un .un .un .un .un .un) () { knOf Qd with nx := kn } (fun e _ st => Ed e st) := by
  have big := line_big
  have l2 : 2 ≤ sizeLine := by omega
  have t1 := ht.lo
  have t2 := ht.hi
  have he := endS_eq (n := t.length) (e := e) hF
  have hmul : 0 ≤ (t.length : Int) * F ∧ (t.length : Int) * F ≤ 48 * 48 := ⟨Int.mul_nonneg (by omega) (by omega), Int.mul_le_mul (by omega) (by omega) (by omega) (by decide)⟩
  have fin : forW (.n 11) (fun ρ1 st1 nx => wpSs ΓL sdBody ρ1 st1 { nx := nx, rt := Qd, bk := fun ρ' st' => wpSs ΓL (.cons (.ret (.op .lst .nil)) .nil) ρ' st' { knOf Qd with nx := kn } (fun e _ st => Ed e st), ct := nx } (fun e _ st => Ed e st)) (rangeD 0 (endI t.length F e).toNat)
      (spEnv t s w a e .un .un F (.val (.tup [.non, .non])) .un .un .un .un .un) () (fun ρ' st' => wpSs ΓL (.cons (.ret (.op .lst .nil)) .nil) ρ' st' { knOf Qd with nx := kn } (fun e _ st => Ed e st)) := by
    refine for_range (fun k ρ _ => (∀ j, j < k → wdS t s w F a (j : Nat) = "") ∧ ∃ x11 x15 x16 : Sl, ρ = spEnv t s w a e .un .un F (.val (.tup [eN (if k == 0 then none else at0 t ((k : Int) - 1)), eN (if k == 0 then none else hiS t w a (((k : Int) - 1) / F))])) x11 .un .un x15 x16) _ (fun k ρ st hk hI nx hx => ?_) (fun ρ st hI => ?_) _ _ ⟨fun j hj => absurd hj (Nat.not_lt_zero j), .un, .un, .un, rfl⟩
    · obtain ⟨hp, x11, x15, x16, rfl⟩ := hI
      rw [Int.zero_add]
      refine w_sdBody ht hs hF (by omega) (fun hz => ?_) (fun hz y15 y16 => hx _ _ ⟨fun j hj => ?_, .val (.int k), y15, y16, ?_⟩)
      · rw [fa_at (by omega) hp hz] at q
        exact q
      · by_cases hj2 : j < k
        · exact hp j hj2
        · obtain rfl : j = k := by omega
          exact hz
      · rw [show (k + 1 == 0) = false from rfl, if_neg Bool.false_ne_true, if_neg Bool.false_ne_true, show ((k + 1 : Nat) : Int) - 1 = (k : Int) by omega]
    · obtain ⟨hp, x11, x15, x16, rfl⟩ := hI
      rw [fa_no fun j hj => hp j (by omega)] at q
      exact ⟨_, ⟨Nat.zero_le _, rfl⟩, q⟩
  unfold endI at fin
  refine ⟨_, ⟨l2, rfl⟩, ?_⟩
  cases e with
  | true => exact ⟨rfl, rfl, _, ⟨.inl (small64 (by omega) (by omega)), rfl⟩, _, rfl, inB62_small (by omega) (by omega), fin⟩
  | false => exact ⟨inB62_small (by omega) (by omega), fin⟩
/-! the way by a list -/
theorem wl0 {s : Sty} {x y : Option Int} : wordsL s none none x y = if barred s x y then [("barred" : Str)] else [] := by
  unfold wordsL
  rw [tied_n3, if_neg Bool.false_ne_true, List.append_nil]
theorem wl_tied {s : Sty} {a b x y : Option Int} : (((wordsL s a b x y).map D.str).any fun y => y.eqv (.str "tied")) = tied s a b x y := by
  unfold wordsL
  cases barred s x y <;> cases tied s a b x y <;> decide +kernel
def slEnv (t : List (Option Int)) (s : Sty) (w : Way) (a : Int) (e : Bool) (L : List Fl) (F : Int) (x7 x10 x11 x12 x13 : Sl) : Env :=
  spEnv t s w a e (.own (L.map fun q => eF (some q))) x7 F x10 x11 x12 x13 .un .un
theorem w_slIn {t : List (Option Int)} {s : Sty} {w : Way} {a : Int} {e : Bool} (ht : OkT t) (hs : OkS s) {F : Int} {L : List Fl} (hL : L.length ≤ 100000) {i p : Nat} (hp : p < t.length) {x10 x11 : Sl} {K : Kn Unit} {E : QX Unit}
    (h : ∀ y11, K.nx (slEnv t s w a e (L ++ plF t s w F a i p) F (.val (.int i)) x10 y11 (.val (.int (i * F))) (.val (.int p))) ()) :
    wpSs ΓL slIn (slEnv t s w a e L F (.val (.int i)) x10 x11 (.val (.int (i * F))) (.val (.int p))) () K E := by
  have big := line_big
  have l2 : 2 ≤ sizeLine := by omega
  have t1 := ht.lo
  unfold plF at h
  refine ⟨rfl, rfl, rfl, _, rfl, _, rfl, rfl, _, ⟨by omega, rfl⟩, _, rfl, ?_⟩
  refine ⟨_, ⟨l2, rfl⟩, rfl, rfl, _, at0_atI p (by omega) (by omega), rfl, rfl, _, rfl, rfl, _, ⟨by omega, rfl⟩, _, hi_ix t1 _, _, ⟨l2, rfl⟩, s, none, none, _, _, hs.lo, rfl, _, ⟨Nat.zero_le _, rfl⟩, _, ⟨⟨wordsL_ok _, rfl⟩, rfl⟩, ?_⟩
  rw [strs_eqv, wl0]
  cases hb : barred s (at0 t p) (hiS t w a i) with
  | true =>
    rw [hb, if_pos rfl] at h
    rw [if_pos rfl, decide_eq_false (by simp)]
    refine ⟨⟨_, rfl⟩, _, ⟨(by show 4 ≤ sizeLine; omega), rfl⟩, _, rfl, ?_, ?_⟩
    · rw [List.length_map]; omega
    · have := h (.val (.int (i * F + ((p : Int) - i * F) % t.length)))
      unfold slEnv at this
      rw [List.map_append] at this
      exact this
  | false =>
    rw [hb, if_neg Bool.false_ne_true, List.append_nil] at h
    rw [if_neg Bool.false_ne_true, decide_eq_true rfl]
    exact h _
theorem w_slTl {t : List (Option Int)} {s : Sty} {w : Way} {a : Int} {e : Bool} (ht : OkT t) (hs : OkS s) {F : Int} (hF : 0 < F) {L : List Fl} (hL : L.length ≤ 100000) {i : Nat} (hi : i ≤ t.length) {x10 x11 x13 : Sl} {K : Kn Unit} {E : QX Unit}
    (h : ∀ y10, K.nx (slEnv t s w a e (L ++ tiF t s w F a i) F (.val (.int i)) y10 x11 (.val (.int (i * F))) x13) ()) :
    wpSs ΓL slTl (slEnv t s w a e L F (.val (.int i)) x10 x11 (.val (.int (i * F))) x13) () K E := by
  have big := line_big
  have l2 : 2 ≤ sizeLine := by omega
  have t1 := ht.lo
  unfold tiF at h
  have go : ∀ (p q : Option Int), (if 0 < i then (at0 t (i * F - 1), hiS t w a ((i : Int) - 1)) else (none, none)) = (p, q) →
      wpSs ΓL (match slTl with | .cons _ r => r | _ => .nil) (slEnv t s w a e L F (.val (.int i)) (.val (.tup [eN p, eN q])) x11 (.val (.int (i * F))) x13) () K E := fun p q hpq => by
    refine ⟨rfl, rfl, _, rfl, rfl, _, ⟨by omega, rfl⟩, _, at0_ix t1 _, rfl, rfl, _, rfl, rfl, _, ⟨by omega, rfl⟩, _, hi_ix t1 _, _, ⟨l2, rfl⟩, s, p, q, at0 t (i * F), hiS t w a i, hs.lo, rfl, _, ⟨⟨by decide +kernel, wordsL_ok _⟩, rfl⟩, ?_⟩
    rw [wl_tied]
    have et : tied s p q (at0 t (i * F)) (hiS t w a i) = tdS t s w F a (i * F) := by
      unfold tdS
      by_cases hi0 : 0 < i
      · rw [if_pos hi0] at hpq
        obtain ⟨rfl, rfl⟩ := Prod.mk.inj hpq
        have h1 : 0 < (i : Int) * F := Int.mul_pos (by omega) hF
        have e1 : (i : Int) * F / F = i := Int.mul_ediv_cancel _ (by omega)
        have e2 : ((i : Int) * F - 1) / F = i - 1 := by
          have := blk (F := F) (i := (i : Int) - 1) (m := F - 1) hF (by omega) (by omega)
          rw [Int.sub_mul, Int.one_mul, show (i : Int) * F - F + (F - 1) = i * F - 1 by omega] at this
          exact this
        rw [decide_eq_true h1, Bool.true_and, e1, e2]
      · rw [if_neg hi0] at hpq
        obtain ⟨rfl, rfl⟩ := Prod.mk.inj hpq
        obtain rfl : i = 0 := by omega
        rw [tied_n3, decide_eq_false (by rw [show ((0 : Nat) : Int) * F = 0 from Int.zero_mul F]; omega), Bool.false_and]
    rw [et]
    cases hb : tdS t s w F a (i * F) with
    | true =>
      rw [hb, if_pos rfl] at h
      refine ⟨⟨_, rfl⟩, _, ⟨(by show 4 ≤ sizeLine; omega), rfl⟩, _, rfl, ?_, ?_⟩
      · rw [List.length_map]; omega
      · have := h (.val (.tup [eN p, eN q]))
        unfold slEnv at this
        rw [List.map_append] at this
        exact this
    | false =>
      rw [hb, if_neg Bool.false_ne_true, List.append_nil] at h
      exact h _
  refine ⟨rfl, _, rfl, ?_⟩
  by_cases hi0 : 0 < i
  · rw [decide_eq_true (show (0 : Int) < i by omega)]
    exact ⟨rfl, rfl, _, rfl, _, rfl, rfl, _, ⟨by omega, rfl⟩, _, at0_ix t1 _, rfl, rfl, _, rfl, _, hi_at _ (by omega) (by omega), _, ⟨l2, rfl⟩, go _ _ (if_pos hi0)⟩
  · rw [decide_eq_false (show ¬ (0 : Int) < i by omega)]
    exact ⟨_, ⟨l2, rfl⟩, go _ _ (if_neg hi0)⟩
theorem allF_succ {t : List (Option Int)} {s : Sty} {w : Way} {F a : Int} {m : Nat} : allF t s w F a (m + 1) = allF t s w F a m ++ rowF t s w F a m := range_flat _ _
theorem rowB_succ {t : List (Option Int)} {s : Sty} {w : Way} {F a : Int} {i m : Nat} : rowB t s w F a i (m + 1) = rowB t s w F a i m ++ plF t s w F a i m := range_flat _ _
theorem w_slBody {t : List (Option Int)} {s : Sty} {w : Way} {a : Int} {e : Bool} (ht : OkT t) (hs : OkS s) {F : Int} (hF : 0 < F) {L : List Fl} (hL : L.length ≤ 50000) {i : Nat} (hi : i ≤ t.length) {x10 x11 x12 x13 : Sl} {K : Kn Unit} {E : QX Unit}
    (h : ∀ y10 y11 y12 y13, K.nx (slEnv t s w a e (L ++ rowF t s w F a i) F (.val (.int i)) y10 y11 y12 y13) ()) :
    wpSs ΓL slBody (slEnv t s w a e L F (.val (.int i)) x10 x11 x12 x13) () K E := by
  have t1 := ht.lo
  have t2 := ht.hi
  refine ⟨rfl, rfl, _, ⟨.inl (small64 (by omega) (by omega)), rfl⟩, inB62_small (by omega) (by omega), ?_⟩
  refine for_range (lo := 0) (fun k ρ _ => ∃ y11 y13 : Sl, ρ = slEnv t s w a e (L ++ rowB t s w F a i k) F (.val (.int i)) x10 y11 (.val (.int (i * F))) y13) t.length (fun k ρ st hk hI nx hx => ?_) (fun ρ st hI => ?_) _ _ ⟨x11, x13, by show _ = slEnv t s w a e (L ++ []) F _ _ _ _ _; rw [List.append_nil]; rfl⟩
  · obtain ⟨y11, y13, rfl⟩ := hI
    rw [Int.zero_add]
    have hl := rowB_len (t := t) (s := s) (w := w) (F := F) (a := a) (i := i) (m := k)
    refine w_slIn ht hs (by rw [List.length_append]; omega) hk fun y11 => hx _ _ ⟨y11, .val (.int k), ?_⟩
    rw [rowB_succ, List.append_assoc]
  · obtain ⟨y11, y13, rfl⟩ := hI
    have hl := rowB_len (t := t) (s := s) (w := w) (F := F) (a := a) (i := i) (m := t.length)
    refine w_slTl ht hs hF (by rw [List.length_append]; omega) hi fun y10 => ?_
    rw [List.append_assoc]
    exact h _ _ _ _
theorem w_spL {t : List (Option Int)} {s : Sty} {w : Way} {a : Int} {e : Bool} (ht : OkT t) (hs : OkS s) {F : Int} (hF : (t.length : Int) ≤ F) {Qd Ed : D → Unit → Prop}
    (q : Qd (.lst ((flO a (faS t s w F a e)).map fun q => eF (some q))) ()) :
    wpSs ΓL spL (spEnv t s w a e .un .un F .un .un .un .un .un .un) () (knOf Qd) (fun e _ st => Ed e st) := by
  have big := line_big
  have t1 := ht.lo
  have t2 := ht.hi
  have hok : ∀ q ∈ allF t s w F a (cntS t.length e), q.ok := fun q hq => by
    obtain ⟨i, _, h⟩ := mem_allF t1 hF hq
    rcases h with ⟨o, _, _, _, rfl⟩ | ⟨_, rfl⟩
    · exact .inl rfl
    · exact .inr rfl
  have fin : ∀ (x7 x10 x11 x12 x13 : Sl), wpSs ΓL (match spL with | .cons _ (.cons _ r) => r | _ => .nil) (slEnv t s w a e (allF t s w F a (cntS t.length e)) F x7 x10 x11 x12 x13) () (knOf Qd) (fun e _ st => Ed e st) := fun x7 x10 x11 x12 x13 => by
    refine ⟨rfl, _, ⟨Nat.zero_le _, rfl⟩, _, ⟨⟨fls_eqOk _ hok, rfl⟩, rfl⟩, ?_⟩
    rw [fls_eqv]
    cases hfa : faS t s w F a e with
    | none =>
      rw [hfa] at q
      rw [allF_nil t1 hF hfa, decide_eq_true rfl]
      exact ⟨_, ⟨Nat.zero_le _, rfl⟩, q⟩
    | some y =>
      rw [hfa] at q
      obtain ⟨c, x⟩ := y
      obtain ⟨m1, m2⟩ := allF_min t1 hF hfa
      cases hA : allF t s w F a (cntS t.length e) with
      | nil => rw [hA] at m1; cases m1
      | cons z r =>
        rw [hA] at m1 m2 hok
        rw [decide_eq_false (by simp)]
        have hmin := fls_min (q := z) (l := r) hok
        rw [List.foldl_cons, show accM none (some z) = some z from rfl, acc_least r z ((List.mem_cons.mp m1).imp (fun h => h.symm) id) (fun q hq => m2 q (by rcases hq with h | h; rw [h]; exact List.mem_cons_self; exact List.mem_cons_of_mem _ h))] at hmin
        exact ⟨rfl, _, hmin, _, ⟨(by show 1 ≤ sizeLine; omega), rfl⟩, q⟩
  have hc : ((cntS t.length e : Nat) : Int) = if e then (t.length : Int) + 1 else 1 := by
    unfold cntS
    cases e with
    | true => rw [if_pos rfl, if_pos rfl]; omega
    | false => rfl
  have loop : forW (.n 7) (fun ρ1 st1 nx => wpSs ΓL slBody ρ1 st1 { nx := nx, rt := Qd, bk := fun ρ' st' => wpSs ΓL (match spL with | .cons _ (.cons _ r) => r | _ => .nil) ρ' st' (knOf Qd) (fun e _ st => Ed e st), ct := nx } (fun e _ st => Ed e st)) (rangeD 0 (if e then (t.length : Int) + 1 else 1).toNat)
      (slEnv t s w a e [] F .un .un .un .un .un) () (fun ρ' st' => wpSs ΓL (match spL with | .cons _ (.cons _ r) => r | _ => .nil) ρ' st' (knOf Qd) (fun e _ st => Ed e st)) := by
    rw [← hc, Int.toNat_natCast]
    refine for_range (fun k ρ _ => ∃ x7 x10 x11 x12 x13 : Sl, ρ = slEnv t s w a e (allF t s w F a k) F x7 x10 x11 x12 x13) _ (fun k ρ st hk hI nx hx => ?_) (fun ρ st hI => ?_) _ _ ⟨.un, .un, .un, .un, .un, rfl⟩
    · obtain ⟨x7, x10, x11, x12, x13, rfl⟩ := hI
      rw [Int.zero_add]
      have hkn : k ≤ t.length := by unfold cntS at hk; split at hk <;> omega
      have hl := allF_len (t := t) (s := s) (w := w) (F := F) (a := a) (m := k)
      have hl2 : k * (t.length + 1) ≤ 48 * 49 := Nat.mul_le_mul (by omega) (by omega)
      refine w_slBody ht hs (by omega) (by omega) hkn fun y10 y11 y12 y13 => hx _ _ ⟨.val (.int k), y10, y11, y12, y13, ?_⟩
      rw [allF_succ]
    · obtain ⟨x7, x10, x11, x12, x13, rfl⟩ := hI
      exact fin _ _ _ _ _
  refine ⟨_, ⟨Nat.zero_le _, rfl⟩, _, rfl, ?_⟩
  cases e with
  | true => exact ⟨rfl, _, rfl, inB62_small (by omega) (by omega), loop⟩
  | false => exact ⟨inB62_small (by decide) (by decide), loop⟩
theorem k_law_slow_pair_2 : Keeps b_law_slow_pair_2 cs_law_slow_pair_2.N ct_law_slow_pair_2 := by
  rintro _ st Qd Ed ⟨t, s, f, sg, r, a, e, ht, hs, hw, a0, a1, rfl, q⟩
  have hf := hw.1
  have t1 := ht.lo
  have hm : ((t.map eN).length : Int) = t.length := by rw [List.length_map]
  have q2 : Qd (.lst ((flO a (faS t s (.slow f sg r) (f ^ a.toNat) a e)).map fun q => eF (some q))) st := by
    unfold pairF at q
    rw [Int.zero_add, lagF_slow t1 hf.1] at q
    cases h : faS t s (.slow f sg r) (f ^ a.toNat) a e with
    | none => rw [h] at q; exact q
    | some y => rw [h] at q; exact q
  have hF : 0 < f ^ a.toNat := Int.pow_pos (by omega)
  refine ⟨rfl, _, rfl, rfl, _, rfl, f, a, hf.1, hf.2, by omega, by omega, rfl, ?_⟩
  rw [hm]
  refine wps_set (w_hiX ht hw ?_)
  refine ⟨rfl, rfl, _, rfl, ?_⟩
  by_cases h : f ^ a.toNat < t.length
  · rw [decide_eq_true h]
    exact w_spD ht hs hF h q2
  · rw [decide_eq_false h]
    exact w_spL ht hs (by omega) q2
theorem k_law_measure : Keeps b_law_measure cs_law_measure.N ct_law_measure := by
  rintro _ st Qd Ed ⟨a, b, ha, hb, hab, rfl, q⟩
  obtain ⟨m, rfl⟩ : ∃ m : Nat, b = (m : Int) := ⟨b.toNat, by omega⟩
  refine while_ind (fun n ρ _ => ∃ x : Int, 0 ≤ x ∧ (0 < x ∨ 0 < n) ∧ gcdI x n = gcdI a m ∧ ρ = [.val (.int x), .val (.int (n : Int))]) (fun n ρ st hI nx hn => ?_) m ⟨a, ha, by omega, rfl, rfl⟩
  obtain ⟨x, hx, hxn, hg, rfl⟩ := hI
  refine ⟨rfl, _, rfl, ?_⟩
  by_cases h0 : (0 : Int) < n
  · rw [decide_eq_true h0]
    have r0 := Int.emod_nonneg x (b := (n : Int)) (by omega)
    have r1 := Int.emod_lt_of_pos x h0
    refine ⟨rfl, _, rfl, rfl, _, ⟨h0, rfl⟩, hn (x % n).toNat _ _ (by omega) ⟨n, by omega, by omega, ?_, ?_⟩⟩
    · rw [Int.toNat_of_nonneg r0, gcdI_step hx h0]
      exact hg
    · rw [Int.toNat_of_nonneg r0]; rfl
  · rw [decide_eq_false h0]
    have h0 : n = 0 := by omega
    subst h0
    have hg : gcdI x 0 = gcdI a m := hg
    rw [gcdI_zero hx] at hg
    rw [← hg] at q
    exact q
theorem k_law_both : Keeps b_law_both cs_law_both.N ct_law_both := by
  rintro _ st Qd Ed ⟨a, b, ha, hb, ha2, hb2, rfl, q⟩
  have g0 := gcdI_pos (a := a) (b := b) (.inl ha)
  have g1 := gcdI_leL (a := a) (b := b) ha
  refine ⟨rfl, rfl, _, ⟨.inr (small64 (by omega) (by omega)), rfl⟩, a, b, by omega, by omega, .inl ha, rfl, _, ⟨⟨g0, by rw [b30_eq]; omega⟩, rfl⟩, ?_⟩
  rw [joint_both]
  exact q
theorem lr_nint (k : List Int) (p : Int) : ((k.map D.int).any fun y => y.eqv (.int p)) = decide (p ∈ k) := by
  induction k with
  | nil => rfl
  | cons x r ih =>
    rw [List.map_cons, List.any_cons, ih, show (D.int x).eqv (.int p) = (x == p) from rfl]
    by_cases h : x = p
    · subst h; simp
    · have h2 : ¬ p = x := fun e => h e.symm
      simp [h, h2]
theorem lr_pre : ∀ (k : List Int) (p : Int) (m : Nat) (x : Int), m < k.idxOf p → k[m]? = some x → x ≠ p
  | [], _, _, _, h, _ => by simp at h
  | y :: r, p, m, x, h, hx => by
    rw [List.idxOf_cons] at h
    by_cases hy : y = p
    · subst hy; simp at h
    · rw [show (y == p) = false by simpa using hy] at h
      simp only [cond_false] at h
      cases m with
      | zero => cases hx; exact hy
      | succ m => exact lr_pre r p m x (by omega) hx
theorem lr_ix {k : List Int} {p : Int} (h : p ∈ k) : Op.index.sem [.lst (k.map .int), .int p] (.int (k.idxOf p : Nat)) := by
  have hl : k.idxOf p < k.length := List.idxOf_lt_length_of_mem h
  refine ⟨⟨rfl, eqOk_ints _ _⟩, k.idxOf p, .int p, ?_, ?_, fun m z hm hz => ?_, rfl⟩
  · rw [List.getElem?_map, List.getElem?_eq_getElem hl, List.getElem_idxOf]; rfl
  · show (p == p) = true
    simp
  · rw [List.getElem?_map] at hz
    cases hk : k[m]? with
    | none => rw [hk] at hz; cases hz
    | some x =>
      rw [hk] at hz
      cases hz
      have := lr_pre k p m x hm hk
      show (x == p) = false
      simpa using this
theorem k_law_round : Keeps b_law_round cs_law_round.N ct_law_round := by
  rintro _ st Qd Ed ⟨f, n, f1, f2, n1, n2, rfl, q⟩
  have big := line_big
  refine ⟨_, ⟨Nat.zero_le _, rfl⟩, _, rfl, _, rfl, rfl, _, ⟨by omega, rfl⟩, ?_⟩
  refine while_ind (fun m ρ _ => ∃ (k : List Int) (p : Int), m + k.length = 60 ∧ RndI f n k p ∧ ρ = [.val (.int f), .val (.int n), .own (k.map .int), .val (.int p)]) (fun m ρ st hI nx hx => ?_) 60 ⟨[], 1 % n, rfl, RndI.ini n1, rfl⟩
  obtain ⟨k, p, hm, hR, rfl⟩ := hI
  have hl := hR.len n2
  refine ⟨rfl, rfl, _, ⟨⟨rfl, eqOk_ints _ _⟩, rfl⟩, ?_⟩
  rw [lr_nint]
  by_cases h : p ∈ k
  · rw [decide_eq_true h]
    have ix := lr_ix h
    have hr : roundI f n = (((k.idxOf p : Nat) : Int), (k.length : Int) - (k.idxOf p : Nat)) := by unfold roundI; rw [hR.fin n2 h]
    rw [hr] at q
    have q : Qd (.tup [.int (k.idxOf p : Nat), .int (((k.map D.int).length : Int) - (k.idxOf p : Nat))]) st := by rw [List.length_map]; exact q
    exact ⟨rfl, _, ix, rfl, _, rfl, rfl, _, ix, _, rfl, _, ⟨(by show 2 ≤ sizeLine; omega), rfl⟩, q⟩
  · rw [decide_eq_false h]
    refine ⟨⟨_, rfl⟩, _, rfl, ?_, rfl, rfl, _, ⟨.inr (small64 (by omega) (by omega)), rfl⟩, _, rfl, rfl, _, ⟨by omega, rfl⟩, hx (m - 1) _ _ (by omega) ⟨k ++ [p], p * f % n, ?_, hR.next n1 n2 h, ?_⟩⟩
    · rw [List.length_map]; omega
    · rw [List.length_append, List.length_singleton]; omega
    · rw [List.map_append]; rfl
theorem joint_one {p : Int} (hp : 1 ≤ p) : jointI p 1 = p := by
  unfold jointI
  have : gcdI p 1 = 1 := by unfold gcdI; simp
  rw [this, Int.ediv_one, Int.mul_one]
def fr6 : Stms := match b_law_far with
  | .cons _ (.cons _ (.cons _ (.cons _ (.cons _ r)))) => r
  | _ => .nil
def fr5 : Stms := match b_law_far with
  | .cons _ (.cons _ (.cons _ (.cons _ r))) => r
  | _ => .nil
def fr4 : Stms := match b_law_far with
  | .cons _ (.cons _ (.cons _ r)) => r
  | _ => .nil
def fr3 : Stms := match b_law_far with
  | .cons _ (.cons _ r) => r
  | _ => .nil
def fr2 : Stms := match b_law_far with
  | .cons _ r => r
  | _ => .nil
def frEnv (n : Int) (s : Sty) (l sg r : Int) (b e : Bool) (rise : Int) (x5 x6 : Sl) : Env := [.val (.int n), .val (eS s), .val (eW (.lag l sg r b)), .val (.bl e), .val (.int rise), x5, x6, .un, .un]
theorem w_fr6 {n : Int} {s : Sty} {l sg r : Int} {b e : Bool} (n1 : 1 ≤ n) (n2 : n ≤ 48) (hw : OkW (.lag l sg r b)) {f p rise : Int} (p1 : 1 ≤ p) (p2 : p ≤ 1000) {st : Unit} {Qd Ed : D → Unit → Prop} (q : Qd (.tup [.int f, .int (if e then jointI p (n / gcdI n l) else p)]) st) :
    wpSs ΓL fr6 (frEnv n s l sg r b e rise (.val (.int f)) (.val (.int p))) st (knOf Qd) (fun e _ st => Ed e st) := by
  have big := line_big
  have l2 : 2 ≤ sizeLine := by omega
  have hl : 0 ≤ l ∧ l ≤ 48 := hw.1
  obtain ⟨d1, d2⟩ := div_gcd (n := n) (l := l) (by omega)
  have g0 := gcdI_pos (a := n) (b := l) (.inl (by omega))
  have g1 := gcdI_leL (a := n) (b := l) (by omega)
  refine ⟨rfl, _, rfl, _, rfl, ?_⟩
  cases e with
  | false => exact ⟨_, ⟨l2, rfl⟩, q⟩
  | true =>
    have q : Qd (.tup [.int f, .int (jointI p (n / gcdI n l))]) st := q
    refine ⟨rfl, _, rfl, _, rfl, ?_⟩
    by_cases h : 0 < l
    · rw [decide_eq_true h]
      exact ⟨rfl, rfl, _, rfl, n, l, by omega, by omega, .inl (by omega), rfl, _, ⟨⟨g0, by rw [b30_eq]; omega⟩, rfl⟩, p, n / gcdI n l, by omega, d1, by omega, by omega, rfl, _, ⟨l2, rfl⟩, q⟩
    · rw [decide_eq_false h]
      have : l = 0 := by omega
      subst this
      rw [gcdI_zero (by omega), Int.ediv_self (by omega), joint_one p1] at q
      exact ⟨_, ⟨l2, rfl⟩, q⟩
theorem w_fr5 {n : Int} {s : Sty} {l sg r : Int} {b e : Bool} (n1 : 1 ≤ n) (n2 : n ≤ 48) (hs : OkS s) (hw : OkW (.lag l sg r b)) (hc : climbL sg r = true → 0 < s.sp) {rise : Int} (hr1 : rise = if climbL sg r then absI r else 0) {st : Unit} {Qd Ed : D → Unit → Prop}
    (q : Qd (.tup [.int (plainL n s.sp l sg r b e).1, .int (plainL n s.sp l sg r b e).2]) st) :
    wpSs ΓL fr5 (frEnv n s l sg r b e rise (.val (.int 0)) (.val (.int (p0L sg b)))) st (knOf Qd) (fun e _ st => Ed e st) := by
  have hr : -60 ≤ r ∧ r ≤ 60 := ⟨hw.2.r1, hw.2.r2⟩
  have hp := p0L_pos (sg := sg) (b := b)
  have hs2 := hs.hi
  refine ⟨rfl, _, rfl, ?_⟩
  unfold plainL at q
  cases hcc : climbL sg r with
  | true =>
    have hs0 := hc hcc
    have hr0 : r ≠ 0 := by unfold climbL at hcc; simp at hcc; exact hcc.2
    have ha := absI_pos hr0
    have ha2 := absI_le hr.1 hr.2
    rw [hcc, if_pos rfl] at q hr1
    subst hr1
    obtain ⟨d1, d2⟩ := div_gcd (n := s.sp) (l := absI r) hs0
    have g0 := gcdI_pos (a := s.sp) (b := absI r) (.inl hs0)
    have g1 := gcdI_leL (a := s.sp) (b := absI r) hs0
    have j1 := jointI_pos (a := p0L sg b) hp.1 d1
    have j2 := jointI_le (a := p0L sg b) hp.1 d1
    have j3 : p0L sg b * (s.sp / gcdI s.sp (absI r)) ≤ 2 * 24 := Int.mul_le_mul hp.2 (by omega) (by omega) (by omega)
    rw [decide_eq_true ha]
    have eo : overI 120 (absI r) = (119 + absI r) / absI r := by unfold overI; congr 1; omega
    rw [eo] at q
    refine ⟨rfl, _, rfl, rfl, _, ⟨⟨ha, by rw [b30_eq]; omega⟩, rfl⟩, ?_⟩
    refine ⟨rfl, _, rfl, rfl, _, rfl, s.sp, absI r, by omega, by omega, .inl hs0, rfl, _, ⟨⟨g0, by rw [b30_eq]; omega⟩, rfl⟩, p0L sg b, s.sp / gcdI s.sp (absI r), hp.1, d1, by omega, by omega, rfl, ?_⟩
    exact w_fr6 n1 n2 hw (by omega) (by omega) q
  | false =>
    rw [hcc, if_neg Bool.false_ne_true] at q hr1
    subst hr1
    exact w_fr6 n1 n2 hw (by omega) (by omega) q
theorem w_fr4 {n : Int} {s : Sty} {l sg r : Int} {b e : Bool} (n1 : 1 ≤ n) (n2 : n ≤ 48) (hs : OkS s) (hw : OkW (.lag l sg r b)) (hc : climbL sg r = true → 0 < s.sp) {rise : Int} (hr1 : rise = if climbL sg r then absI r else 0) {st : Unit} {Qd Ed : D → Unit → Prop}
    (q : Qd (.tup [.int (plainL n s.sp l sg r b e).1, .int (plainL n s.sp l sg r b e).2]) st) :
    wpSs ΓL fr4 (frEnv n s l sg r b e rise .un .un) st (knOf Qd) (fun e _ st => Ed e st) := by
  have fin := w_fr5 (Ed := Ed) n1 n2 hs hw hc hr1 q
  refine ⟨rfl, _, rfl, _, rfl, _, rfl, ?_⟩
  unfold p0L at fin
  by_cases h3 : sg = -1
  · rw [decide_eq_true h3]
    rw [if_pos (.inl h3)] at fin
    exact fin
  · rw [decide_eq_false h3]
    refine ⟨rfl, _, rfl, _, rfl, rfl, _, rfl, ?_⟩
    cases b with
    | true =>
      rw [if_pos (.inr rfl)] at fin
      exact fin
    | false =>
      rw [if_neg (by rintro (z | z); exact h3 z; cases z)] at fin
      exact fin
theorem w_fr3 {n : Int} {s : Sty} {l sg r : Int} {b e : Bool} (n1 : 1 ≤ n) (n2 : n ≤ 48) (hs : OkS s) (hw : OkW (.lag l sg r b)) (h1 : ¬ (e = false ∧ 0 < l)) {rise : Int} (hr1 : rise = if climbL sg r then absI r else 0) {st : Unit} {Qd Ed : D → Unit → Prop}
    (q : Qd (.tup [.int (farL n s.sp l sg r b e).1, .int (farL n s.sp l sg r b e).2]) st) :
    wpSs ΓL fr3 (frEnv n s l sg r b e rise .un .un) st (knOf Qd) (fun e _ st => Ed e st) := by
  have big := line_big
  have hr : -60 ≤ r ∧ r ≤ 60 := ⟨hw.2.r1, hw.2.r2⟩
  unfold farL at q
  rw [if_neg h1] at q
  have go : ¬ (climbL sg r = true ∧ s.sp = 0) → wpSs ΓL fr4 (frEnv n s l sg r b e rise .un .un) st (knOf Qd) (fun e _ st => Ed e st) := fun h2 => by
    rw [if_neg h2] at q
    exact w_fr4 n1 n2 hs hw (fun hc => by
      rcases Int.lt_or_lt_of_ne (show s.sp ≠ 0 from fun z => h2 ⟨hc, z⟩) with z | z
      · have := hs.lo; omega
      · exact z) hr1 q
  refine ⟨rfl, _, rfl, ?_⟩
  cases hcc : climbL sg r with
  | false =>
    rw [hcc, if_neg Bool.false_ne_true] at hr1
    subst hr1
    exact go fun z => by rw [hcc] at z; cases z.1
  | true =>
    have hr0 : r ≠ 0 := by unfold climbL at hcc; simp at hcc; exact hcc.2
    have ha := absI_pos hr0
    have ha2 := absI_le hr.1 hr.2
    have hr2 := hr1
    rw [hcc, if_pos rfl] at hr2
    subst hr2
    rw [decide_eq_true ha]
    refine ⟨rfl, _, rfl, _, rfl, ?_⟩
    by_cases h0 : s.sp = 0
    · rw [decide_eq_true h0]
      rw [if_pos ⟨hcc, h0⟩] at q
      exact ⟨rfl, _, ⟨⟨ha, by rw [b30_eq]; omega⟩, rfl⟩, _, rfl, _, ⟨(by show 2 ≤ sizeLine; omega), rfl⟩, q⟩
    · rw [decide_eq_false h0]
      exact go fun z => h0 z.2
theorem w_fr2 {n : Int} {s : Sty} {l sg r : Int} {b e : Bool} (n1 : 1 ≤ n) (n2 : n ≤ 48) (hs : OkS s) (hw : OkW (.lag l sg r b)) {rise : Int} (hr1 : rise = if climbL sg r then absI r else 0) {st : Unit} {Qd Ed : D → Unit → Prop}
    (q : Qd (.tup [.int (farL n s.sp l sg r b e).1, .int (farL n s.sp l sg r b e).2]) st) :
    wpSs ΓL fr2 (frEnv n s l sg r b e rise .un .un) st (knOf Qd) (fun e _ st => Ed e st) := by
  have big := line_big
  have hl : 0 ≤ l ∧ l ≤ 48 := hw.1
  refine ⟨rfl, _, rfl, _, rfl, e, rfl, ?_⟩
  cases e with
  | true => exact w_fr3 n1 n2 hs hw (fun z => by cases z.1) hr1 q
  | false =>
    refine ⟨rfl, _, rfl, _, rfl, ?_⟩
    by_cases h : 0 < l
    · unfold farL at q
      rw [if_pos ⟨rfl, h⟩] at q
      rw [decide_eq_true h]
      exact ⟨rfl, rfl, _, rfl, _, rfl, _, rfl, rfl, _, rfl, _, ⟨⟨h, by rw [b30_eq]; omega⟩, rfl⟩, _, ⟨(by show 2 ≤ sizeLine; omega), rfl⟩, q⟩
    · rw [decide_eq_false h]
      exact w_fr3 n1 n2 hs hw (fun z => h z.2) hr1 q
theorem w_farL {n : Int} {s : Sty} {l sg r : Int} {b e : Bool} (n1 : 1 ≤ n) (n2 : n ≤ 48) (hs : OkS s) (hw : OkW (.lag l sg r b)) {st : Unit} {Qd Ed : D → Unit → Prop} (q : Qd (.tup [.int (farL n s.sp l sg r b e).1, .int (farL n s.sp l sg r b e).2]) st) :
    wpSs ΓL b_law_far (startE cs_law_far.N [.int n, eS s, eW (.lag l sg r b), .bl e]) st (knOf Qd) fun e _ st => Ed e st := by
  refine ⟨rfl, _, rfl, _, rfl, ?_⟩
  by_cases h : sg = 1
  · rw [decide_eq_true h]
    refine ⟨rfl, _, rfl, rfl, _, rfl, _, rfl, _, rfl, ?_⟩
    refine w_fr2 n1 n2 hs hw ?_ q
    subst h
    unfold climbL absI
    by_cases h0 : r = 0
    · subst h0; rfl
    · rw [show (decide ((1 : Int) = 1) && decide (r ≠ 0)) = true by simp [h0], if_pos rfl]
      split <;> split <;> omega
  · rw [decide_eq_false h]
    refine w_fr2 n1 n2 hs hw ?_ q
    unfold climbL
    rw [decide_eq_false h]
    rfl
def fsEnv (n : Int) (s : Sty) (f sg r : Int) (e : Bool) (rise : Int) (x5 x6 : Sl) : Env := [.val (.int n), .val (eS s), .val (eW (.slow f sg r)), .val (.bl e), .val (.int rise), x5, x6, .un, .un]
theorem max_zero {a : Int} (h : 0 ≤ a) : maxI a 0 = a := by unfold maxI; rw [if_neg (by omega)]
theorem w_fs6 {n : Int} {s : Sty} {f sg r : Int} {e : Bool} (n1 : 1 ≤ n) (n2 : n ≤ 48) (hf : 2 ≤ f ∧ f ≤ 6) {f0 p rise : Int} (f00 : 0 ≤ f0) (f01 : f0 ≤ 1000) (p1 : 1 ≤ p) (p2 : p ≤ 1000) {st : Unit} {Qd Ed : D → Unit → Prop}
    (q : Qd (.tup [.int (if e then maxI (maxI f0 (expoI f n)) (roundI f n).1 else maxI f0 (expoI f n)), .int (if e then jointI p (roundI f n).2 else p)]) st) :
    wpSs ΓL fr6 (fsEnv n s f sg r e rise (.val (.int f0)) (.val (.int p))) st (knOf Qd) (fun e _ st => Ed e st) := by
  have big := line_big
  have l2 : 2 ≤ sizeLine := by omega
  obtain ⟨r1, r2, r3, r4⟩ := round_b (f := f) n1 n2
  obtain ⟨s1, s2, s3⟩ := expo_spec hf.1 hf.2 n2
  refine ⟨rfl, _, rfl, _, rfl, ?_⟩
  refine while_ind (fun m ρ _ => ∃ x : Int, f0 ≤ x ∧ x ≤ maxI f0 (expoI f n) ∧ x + m = maxI f0 (expoI f n) ∧ ρ = fsEnv n s f sg r e rise (.val (.int x)) (.val (.int p))) (fun m ρ st hI nx hx => ?_) (maxI f0 (expoI f n) - f0).toNat ⟨f0, Int.le_refl _, by unfold maxI; split <;> omega, by unfold maxI; split <;> omega, rfl⟩
  obtain ⟨x, x0, x1, hm, rfl⟩ := hI
  have mb : maxI f0 (expoI f n) ≤ 1000 := by unfold maxI; split <;> omega
  refine ⟨rfl, _, rfl, f, x, hf.1, hf.2, by omega, by omega, rfl, rfl, _, rfl, ?_⟩
  by_cases h : f ^ x.toNat < n
  · rw [decide_eq_true h]
    have hlt : x.toNat < expoI f n := by
      rcases Nat.lt_or_ge x.toNat (expoI f n) with z | z
      · exact z
      · have := pow_up hf.1 z; omega
    have hlt2 : x + 1 ≤ maxI f0 (expoI f n) := by unfold maxI; split <;> omega
    exact ⟨rfl, _, rfl, hx (m - 1) _ _ (by omega) ⟨x + 1, by omega, hlt2, by omega, rfl⟩⟩
  · rw [decide_eq_false h]
    have hge : (expoI f n : Int) ≤ x := by
      rcases Nat.lt_or_ge x.toNat (expoI f n) with z | z
      · exact absurd (s2 _ z) h
      · omega
    obtain rfl : x = maxI f0 (expoI f n) := by
      unfold maxI at x1 ⊢
      split at x1 <;> split <;> omega
    cases e with
    | true => exact ⟨rfl, _, rfl, f, n, hf.1, hf.2, n1, n2, rfl, rfl, rfl, _, rfl, p, (roundI f n).2, by omega, by omega, by omega, by omega, rfl, _, ⟨l2, rfl⟩, q⟩
    | false =>
      have q : Qd (.tup [.int (maxI f0 (expoI f n)), .int p]) st := q
      have e1 : (if (0 : Int) > maxI f0 (expoI f n) then (0 : Int) else maxI f0 (expoI f n)) = maxI f0 (expoI f n) := if_neg (by omega)
      refine ⟨.tup [.int 0, .int 1], ⟨l2, rfl⟩, rfl, rfl, _, rfl, p, 1, by omega, by omega, by omega, by omega, rfl, _, ⟨l2, rfl⟩, ?_⟩
      rw [e1, joint_one p1]
      exact q
theorem w_fs5 {n : Int} {s : Sty} {f sg r : Int} {e : Bool} (n1 : 1 ≤ n) (n2 : n ≤ 48) (hs : OkS s) (hw : OkW (.slow f sg r)) (hc : climbL sg r = true → 0 < s.sp) {rise : Int} (hr1 : rise = if climbL sg r then absI r else 0) {st : Unit} {Qd Ed : D → Unit → Prop}
    (q : Qd (.tup [.int (slowP n s.sp f sg r e).1, .int (slowP n s.sp f sg r e).2]) st) :
    wpSs ΓL fr5 (fsEnv n s f sg r e rise (.val (.int 0)) (.val (.int (p0L sg false)))) st (knOf Qd) (fun e _ st => Ed e st) := by
  have hr : -60 ≤ r ∧ r ≤ 60 := ⟨hw.2.r1, hw.2.r2⟩
  have hp := p0L_pos (sg := sg) (b := false)
  have hs2 := hs.hi
  have q2 : Qd (.tup [.int (if e then maxI (maxI (fpS s.sp sg r).1 (expoI f n)) (roundI f n).1 else maxI (fpS s.sp sg r).1 (expoI f n)), .int (if e then jointI (fpS s.sp sg r).2 (roundI f n).2 else (fpS s.sp sg r).2)]) st := by
    unfold slowP at q
    cases e <;> exact q
  have hb := fpS_b hc hs2 hr
  refine ⟨rfl, _, rfl, ?_⟩
  cases hcc : climbL sg r with
  | true =>
    have hs0 := hc hcc
    have hr0 : r ≠ 0 := by unfold climbL at hcc; simp at hcc; exact hcc.2
    have ha := absI_pos hr0
    have ha2 := absI_le hr.1 hr.2
    rw [hcc, if_pos rfl] at hr1
    subst hr1
    have ef : fpS s.sp sg r = (overI 120 (absI r), jointI (p0L sg false) (s.sp / gcdI s.sp (absI r))) := if_pos hcc
    have eo : overI 120 (absI r) = (119 + absI r) / absI r := by unfold overI; congr 1; omega
    rw [ef, eo] at q2 hb
    obtain ⟨d1, d2⟩ := div_gcd (n := s.sp) (l := absI r) hs0
    have g0 := gcdI_pos (a := s.sp) (b := absI r) (.inl hs0)
    have g1 := gcdI_leL (a := s.sp) (b := absI r) hs0
    rw [decide_eq_true ha]
    refine ⟨rfl, _, rfl, rfl, _, ⟨⟨ha, by rw [b30_eq]; omega⟩, rfl⟩, ?_⟩
    refine ⟨rfl, _, rfl, rfl, _, rfl, s.sp, absI r, by omega, by omega, .inl hs0, rfl, _, ⟨⟨g0, by rw [b30_eq]; omega⟩, rfl⟩, p0L sg false, s.sp / gcdI s.sp (absI r), hp.1, d1, by omega, by omega, rfl, ?_⟩
    dsimp only at hb
    exact w_fs6 n1 n2 hw.1 hb.1 (by omega) hb.2.2.1 (by omega) q2
  | false =>
    rw [hcc, if_neg Bool.false_ne_true] at hr1
    subst hr1
    have ef : fpS s.sp sg r = (0, p0L sg false) := if_neg (by rw [hcc]; exact Bool.false_ne_true)
    rw [ef] at q2
    exact w_fs6 n1 n2 hw.1 (by omega) (by omega) (by omega) (by omega) q2
theorem w_fs4 {n : Int} {s : Sty} {f sg r : Int} {e : Bool} (n1 : 1 ≤ n) (n2 : n ≤ 48) (hs : OkS s) (hw : OkW (.slow f sg r)) (hc : climbL sg r = true → 0 < s.sp) {rise : Int} (hr1 : rise = if climbL sg r then absI r else 0) {st : Unit} {Qd Ed : D → Unit → Prop}
    (q : Qd (.tup [.int (slowP n s.sp f sg r e).1, .int (slowP n s.sp f sg r e).2]) st) :
    wpSs ΓL fr4 (fsEnv n s f sg r e rise .un .un) st (knOf Qd) (fun e _ st => Ed e st) := by
  have fin := w_fs5 (Ed := Ed) n1 n2 hs hw hc hr1 q
  refine ⟨rfl, _, rfl, _, rfl, _, rfl, ?_⟩
  unfold p0L at fin
  by_cases h3 : sg = -1
  · rw [decide_eq_true h3]
    rw [if_pos (.inl h3)] at fin
    exact fin
  · rw [decide_eq_false h3]
    rw [if_neg (by rintro (z | z); exact h3 z; cases z)] at fin
    exact ⟨rfl, _, rfl, _, rfl, fin⟩
theorem w_fs2 {n : Int} {s : Sty} {f sg r : Int} {e : Bool} (n1 : 1 ≤ n) (n2 : n ≤ 48) (hs : OkS s) (hw : OkW (.slow f sg r)) {rise : Int} (hr1 : rise = if climbL sg r then absI r else 0) {st : Unit} {Qd Ed : D → Unit → Prop}
    (q : Qd (.tup [.int (farW n s.sp (.slow f sg r) e).1, .int (farW n s.sp (.slow f sg r) e).2]) st) :
    wpSs ΓL fr2 (fsEnv n s f sg r e rise .un .un) st (knOf Qd) (fun e _ st => Ed e st) := by
  have big := line_big
  have hr : -60 ≤ r ∧ r ≤ 60 := ⟨hw.2.r1, hw.2.r2⟩
  rw [farW_slow] at q
  have go : ¬ (climbL sg r = true ∧ s.sp = 0) → wpSs ΓL fr4 (fsEnv n s f sg r e rise .un .un) st (knOf Qd) (fun e _ st => Ed e st) := fun h2 => by
    rw [if_neg h2] at q
    exact w_fs4 n1 n2 hs hw (fun hc => by
      rcases Int.lt_or_lt_of_ne (show s.sp ≠ 0 from fun z => h2 ⟨hc, z⟩) with z | z
      · have := hs.lo; omega
      · exact z) hr1 q
  refine ⟨rfl, _, rfl, _, rfl, rfl, _, rfl, ?_⟩
  cases hcc : climbL sg r with
  | false =>
    rw [hcc, if_neg Bool.false_ne_true] at hr1
    subst hr1
    exact go fun z => by rw [hcc] at z; cases z.1
  | true =>
    have hr0 : r ≠ 0 := by unfold climbL at hcc; simp at hcc; exact hcc.2
    have ha := absI_pos hr0
    have ha2 := absI_le hr.1 hr.2
    have hr2 := hr1
    rw [hcc, if_pos rfl] at hr2
    subst hr2
    rw [decide_eq_true ha]
    refine ⟨rfl, _, rfl, _, rfl, ?_⟩
    by_cases h0 : s.sp = 0
    · rw [decide_eq_true h0]
      rw [if_pos ⟨hcc, h0⟩] at q
      exact ⟨rfl, _, ⟨⟨ha, by rw [b30_eq]; omega⟩, rfl⟩, _, rfl, _, ⟨(by show 2 ≤ sizeLine; omega), rfl⟩, q⟩
    · rw [decide_eq_false h0]
      exact go fun z => h0 z.2
theorem k_law_far : Keeps b_law_far cs_law_far.N ct_law_far := by
  rintro _ st Qd Ed ⟨n, s, w, e, n1, n2, hs, hw, rfl, q⟩
  cases w with
  | lag l sg r b => exact w_farL n1 n2 hs hw q
  | slow f sg r =>
    refine ⟨rfl, _, rfl, _, rfl, ?_⟩
    by_cases h : sg = 1
    · rw [decide_eq_true h]
      refine ⟨rfl, _, rfl, rfl, _, rfl, _, rfl, _, rfl, ?_⟩
      refine w_fs2 n1 n2 hs hw ?_ q
      subst h
      unfold climbL absI
      by_cases h0 : r = 0
      · subst h0; rfl
      · rw [show (decide ((1 : Int) = 1) && decide (r ≠ 0)) = true by simp [h0], if_pos rfl]
        split <;> split <;> omega
    · rw [decide_eq_false h]
      refine w_fs2 n1 n2 hs hw ?_ q
      unfold climbL
      rw [decide_eq_false h]
      rfl
def clEnv (t : List (Option Int)) (s : Sty) (w : Way) (e : Bool) (acc : List D) (x5 : Sl) (f p : Int) (x8 : Sl) : Env :=
  [.val (eT t), .val (eS s), .val (eW w), .val (.bl e), .val (.lst acc), x5, .val (.int f), .val (.int p), x8]
def clBody : Stms := match b_law_clashes with
  | .cons _ (.cons _ (.cons (.for_ _ _ b) _)) => b
  | _ => .nil
def clLoop : Stms := match b_law_clashes with
  | .cons _ (.cons _ r) => r
  | _ => .nil
def clF (t : List (Option Int)) (s : Sty) (w : Way) (e : Bool) (L : List (Int × Int)) : List D := (L.filterMap (pairF t s w e)).map fun q => eF (some q)
theorem clF_app {t : List (Option Int)} {s : Sty} {w : Way} {e : Bool} {L M : List (Int × Int)} : clF t s w e (L ++ M) = clF t s w e L ++ clF t s w e M := by
  unfold clF; rw [List.filterMap_append, List.map_append]
theorem clF_len {t : List (Option Int)} {s : Sty} {w : Way} {e : Bool} {L : List (Int × Int)} : (clF t s w e L).length ≤ L.length := by
  unfold clF; rw [List.length_map]; exact List.length_filterMap_le ..
theorem clF_one {t : List (Option Int)} {s : Sty} {w : Way} {e : Bool} {x : Int × Int} : clF t s w e [x] = (pairF t s w e x).toList.map fun q => eF (some q) := by
  unfold clF
  cases z : pairF t s w e x with
  | none => rw [List.filterMap_cons, z]; rfl
  | some y => rw [List.filterMap_cons, z]; rfl
theorem w_clBody {t : List (Option Int)} {s : Sty} {w : Way} {e : Bool} (ht : OkT t) (hs : OkS s) (hw : OkW w) {a : Nat} (h1a : 1 ≤ a) (ha : a ≤ 10000) {acc : List D} (hacc : acc.length ≤ 30000) {f p : Int} {x8 : Sl} {K : Kn Unit} {E : QX Unit}
    (h : ∀ y8, K.nx (clEnv t s w e (acc ++ clF t s w e (rowPairs none (bkW w) a)) (.val (.int a)) f p y8) ()) :
    wpSs ΓL clBody (clEnv t s w e acc (.val (.int a)) f p x8) () K E := by
  have big := line_big
  cases w with
  | slow ff sg r =>
    have hr : rowPairs none (bkW (.slow ff sg r)) a = [((0 : Int), (a : Int))] := rfl
    rw [hr] at h
    refine ⟨rfl, _, rfl, _, rfl, rfl, t, s, ff, sg, r, a, e, ht, hs, hw, by omega, by omega, rfl, _, ⟨?_, rfl⟩, ?_⟩
    · rw [← clF_one]
      have h2 := clF_len (t := t) (s := s) (w := .slow ff sg r) (e := e) (L := [((0 : Int), (a : Int))])
      rw [List.length_singleton] at h2
      omega
    · rw [← clF_one]
      exact h x8
  | lag l sg r b =>
    refine ⟨rfl, _, rfl, _, rfl, ?_⟩
    have hr : rowPairs none (bkW (.lag l sg r b)) a = rowPairs none b a := rfl
    rw [hr, rowPairs_none] at h
    have fin : ∀ nb : Nat, nb ≤ 2 → (∀ y8, K.nx (clEnv t s (.lag l sg r b) e (acc ++ clF t s (.lag l sg r b) e ((List.range nb).map fun (i : Nat) => ((i : Int), (a : Int)))) (.val (.int a)) f p y8) ()) →
        forW (.n 8) (fun ρ1 st1 nx => wpSs ΓL (match clBody with | .cons (.ife _ _ (.cons (.for_ _ _ b) _)) _ => b | _ => .nil) ρ1 st1 { K with nx := nx, ct := nx, bk := K.nx } E) (rangeD 0 nb) (clEnv t s (.lag l sg r b) e acc (.val (.int a)) f p x8) () K.nx := fun nb hnb h => by
      refine for_range (fun k ρ _ => ∃ y8 : Sl, ρ = clEnv t s (.lag l sg r b) e (acc ++ clF t s (.lag l sg r b) e ((List.range k).map fun (i : Nat) => ((i : Int), (a : Int)))) (.val (.int a)) f p y8) nb (fun k ρ st hk hI nx hx => ?_) (fun ρ st hI => ?_) _ _ ⟨x8, by rw [List.range_zero, List.map_nil, show clF t s (.lag l sg r b) e [] = [] from rfl, List.append_nil]⟩
      · obtain ⟨y8, rfl⟩ := hI
        rw [Int.zero_add]
        refine ⟨rfl, rfl, rfl, _, rfl, t, s, l, sg, r, b, k, a, e, ht, hs, hw, by omega, by omega, by omega, by omega, rfl, _, ⟨?_, rfl⟩, hx _ _ ⟨.val (.int k), ?_⟩⟩
        · rw [← clF_one, List.length_append]
          have h1 := clF_len (t := t) (s := s) (w := .lag l sg r b) (e := e) (L := (List.range k).map fun (i : Nat) => ((i : Int), (a : Int)))
          have h2 := clF_len (t := t) (s := s) (w := .lag l sg r b) (e := e) (L := [((k : Int), (a : Int))])
          rw [List.length_map, List.length_range] at h1
          rw [List.length_singleton] at h2
          omega
        · rw [← clF_one, List.range_succ, List.map_append, clF_app, List.append_assoc]; rfl
      · obtain ⟨y8, rfl⟩ := hI
        exact h y8
    refine ⟨rfl, _, rfl, ?_⟩
    cases b with
    | true => exact ⟨inB62_small (by decide) (by decide), fin 2 (by decide) h⟩
    | false => exact ⟨inB62_small (by decide) (by decide), fin 1 (by decide) h⟩
theorem k_law_clashes : Keeps b_law_clashes cs_law_clashes.N ct_law_clashes := by
  rintro _ st Qd Ed ⟨t, s, w, e, ht, hs, hw, rfl, q⟩
  have big := line_big
  have t1 := ht.lo
  have t2 := ht.hi
  have hm : ((t.map eN).length : Int) = t.length := by rw [List.length_map]
  obtain ⟨M, hM⟩ : ∃ M, M = lookM t s w e := ⟨_, rfl⟩
  obtain ⟨hMi, hMb⟩ := lookM_b (e := e) ht hs hw
  rw [← hM] at q hMi hMb
  refine ⟨rfl, _, rfl, t.length, s, w, e, by omega, by omega, hs, hw, by rw [hm], ?_⟩
  refine ⟨_, ⟨Nat.zero_le _, rfl⟩, ?_⟩
  refine ⟨rfl, rfl, _, rfl, _, rfl, ⟨inB62_small (by decide) (by decide), inB62_small (by omega) (by omega)⟩, ?_⟩
  rw [← hMi, show ((M : Int) + 1 - 1).toNat = M by omega]
  refine for_range (fun k ρ _ => ∃ x5 x8 : Sl, ρ = clEnv t s w e (clF t s w e (lookPairs none (bkW w) k)) x5 (farW t.length s.sp w e).1 (farW t.length s.sp w e).2 x8) M (fun k ρ st hk hI nx hx => ?_) (fun ρ st hI => ?_) _ _ ⟨.un, .un, rfl⟩
  · obtain ⟨x5, x8, rfl⟩ := hI
    rw [show (1 : Int) + (k : Int) = ((k + 1 : Nat) : Int) by omega]
    refine w_clBody ht hs hw (a := k + 1) (by omega) (by omega) ?_ fun y8 => hx _ _ ⟨.val (.int ((k + 1 : Nat) : Int)), y8, ?_⟩
    · refine Nat.le_trans clF_len ?_
      have := flat_len (f := fun k => rowPairs none (bkW w) (k + 1)) (b := 2) k fun k _ => rowPairs_len
      unfold lookPairs
      omega
    · rw [look_succ, clF_app]
  · obtain ⟨x5, x8, rfl⟩ := hI
    exact q
def lhEnv (t : List (Option Int)) (s : Sty) (w : Way) (a : Int) (e : Bool) (x5 : Sl) (z : Int) (p q : Option Int) (x8 x9 : Sl) : Env :=
  [.val (eT t), .val (eS s), .val (eW w), .val (.int a), .val (.bl e), x5, .val (.int z), .val (.tup [eN p, eN q]), x8, x9]
def lhBody : Stms := match b_law_heard with
  | .cons _ (.cons (.for_ _ _ b) _) => b
  | _ => .nil
def lhTail : Stms := match b_law_heard with
  | .cons _ r => r
  | _ => .nil
theorem w_lhBody {t : List (Option Int)} {s : Sty} {f sg r a : Int} {e : Bool} (ht : OkT t) (hs : OkS s) (hw : OkW (.slow f sg r)) (a0 : 0 ≤ a) (a1 : a ≤ 10) {z : Int} {k : Nat} {x8 x9 : Sl} {K : Kn Unit} {E : QX Unit}
    (h1 : wdT t s (.slow f sg r) e 0 a (begW (.slow f sg r) a + k) ≠ "" → K.rt (.lst [.tup [.int (begW (.slow f sg r) a + k), .int 0, .int a, .str (wdT t s (.slow f sg r) e 0 a (begW (.slow f sg r) a + k))]]) ())
    (h2 : wdT t s (.slow f sg r) e 0 a (begW (.slow f sg r) a + k) = "" → ∀ y8 y9, K.nx (lhEnv t s (.slow f sg r) a e (.val (.int (begW (.slow f sg r) a + k))) z (sungT t (.slow f sg r) 0 (begW (.slow f sg r) a + k) e) (sungT t (.slow f sg r) a (begW (.slow f sg r) a + k) e) y8 y9) ()) :
    wpSs ΓL lhBody (lhEnv t s (.slow f sg r) a e (.val (.int (begW (.slow f sg r) a + k))) z (if k == 0 then none else sungT t (.slow f sg r) 0 (begW (.slow f sg r) a + k - 1) e) (if k == 0 then none else sungT t (.slow f sg r) a (begW (.slow f sg r) a + k - 1) e) x8 x9) () K E := by
  have big := line_big
  have l2 : 2 ≤ sizeLine := by omega
  have hb0 : begW (.slow f sg r) a = 0 := rfl
  refine ⟨t, .slow f sg r, 0, begW (.slow f sg r) a + k, e, ht, hw, by omega, by omega, by omega, rfl, t, .slow f sg r, a, begW (.slow f sg r) a + k, e, ht, hw, a0, a1, by omega, rfl, _, ⟨l2, rfl⟩, s, _, _, _, _, hs.lo, rfl, ?_⟩
  have e0 := wd0_eq (t := t) (s := s) (w := .slow f sg r) (e := e) (near := 0) (far := a) (k := k)
  unfold wd0 at e0
  obtain ⟨g1, g2⟩ := wordsL_head (s := s) (a := if k == 0 then none else sungT t (.slow f sg r) 0 (begW (.slow f sg r) a + k - 1) e) (b := if k == 0 then none else sungT t (.slow f sg r) a (begW (.slow f sg r) a + k - 1) e) (x := sungT t (.slow f sg r) 0 (begW (.slow f sg r) a + k) e) (y := sungT t (.slow f sg r) a (begW (.slow f sg r) a + k) e)
  rw [e0] at g1 g2
  refine ⟨rfl, _, ⟨Nat.zero_le _, rfl⟩, _, ⟨⟨wordsL_ok _, rfl⟩, rfl⟩, ?_⟩
  rw [strs_eqv]
  cases hz : wordsL s (if k == 0 then none else sungT t (.slow f sg r) 0 (begW (.slow f sg r) a + k - 1) e) (if k == 0 then none else sungT t (.slow f sg r) a (begW (.slow f sg r) a + k - 1) e) (sungT t (.slow f sg r) 0 (begW (.slow f sg r) a + k) e) (sungT t (.slow f sg r) a (begW (.slow f sg r) a + k) e) with
  | nil => exact h2 (g1.mp hz) _ _
  | cons z rr =>
    have ez := g2 z rr hz
    have hne : wdT t s (.slow f sg r) e 0 a (begW (.slow f sg r) a + k) ≠ "" := fun q => by
      have := g1.mpr q
      rw [hz] at this
      cases this
    refine ⟨rfl, _, atI_nat' (k := 0) rfl, _, ⟨(by show 4 ≤ sizeLine; omega), rfl⟩, _, ⟨(by show 1 ≤ sizeLine; omega), rfl⟩, ?_⟩
    have := h1 hne
    rw [← ez] at this
    exact this
/-- what is heard is heard within the beats that matter -/
theorem lh_in {t : List (Option Int)} {s : Sty} {f sg r a : Int} {e : Bool} (ht : OkT t) (hw : OkW (.slow f sg r)) (hf : 2 ≤ f) (a0 : 1 ≤ a) {k : Nat} (hk : (k : Int) < f ^ a.toNat * t.length + 2) (hp : ∀ j, j < k → wdT t s (.slow f sg r) e 0 a (begW (.slow f sg r) a + (j : Nat)) = "") (h : wdT t s (.slow f sg r) e 0 a (begW (.slow f sg r) a + k) ≠ "") :
    k < (endT t.length (.slow f sg r) e 0 a - begW (.slow f sg r) a).toNat := by
  have t1 := ht.lo
  have hF : 2 ≤ f ^ a.toNat := by
    have := pow_up hf (x := 1) (y := a.toNat) (by omega)
    rw [Int.pow_succ, Int.pow_zero, Int.one_mul] at this
    omega
  have eb : ∀ j : Nat, begW (.slow f sg r) a + (j : Int) = j := fun j => Int.zero_add _
  rw [eb] at h
  cases e with
  | false =>
    show k < ((t.length : Int) - 0).toNat
    rcases Int.lt_or_le (k : Int) t.length with z | z
    · omega
    · have hn : sungT t (.slow f sg r) 0 k false = none := by
        refine sungT_late hw (by show ¬ (k : Int) < 0; omega) ?_
        show (0 : Int) + f ^ (0 : Int).toNat * t.length ≤ k
        rw [show (0 : Int).toNat = 0 from rfl, Int.pow_zero]
        omega
      exact absurd (by unfold wdT; rw [hn]; exact word_n1) h
  | true =>
    show k < ((t.length : Int) * f ^ a.toNat + 1 - 0).toNat
    rw [Int.mul_comm] at hk
    have hnF : 0 ≤ (t.length : Int) * f ^ a.toNat := Int.mul_nonneg (by omega) (by omega)
    have hnF1 : (t.length : Int) * 1 ≤ t.length * f ^ a.toNat := Int.mul_le_mul_of_nonneg_left (by omega) (by omega)
    by_cases hz : (k : Int) < t.length * f ^ a.toNat + 1
    · omega
    · have hk1 : (k : Int) = t.length * f ^ a.toNat + 1 := by omega
      exfalso
      apply h
      rw [wdT_slow t1 hf (by omega) (.inl rfl), hk1]
      have h1 := hp 1 (by omega)
      rw [eb, wdT_slow t1 hf (by omega) (.inl rfl)] at h1
      have b1 : bdS t s (.slow f sg r) (f ^ a.toNat) a ((1 : Nat) : Int) = false := by
        unfold wdS at h1
        cases hb : bdS t s (.slow f sg r) (f ^ a.toNat) a ((1 : Nat) : Int) with
        | false => rfl
        | true => rw [hb, if_pos rfl] at h1; exact absurd h1 (by decide)
      have b2 : bdS t s (.slow f sg r) (f ^ a.toNat) a (t.length * f ^ a.toNat + 1) = false := by
        have e1 := bdS_blk (t := t) (s := s) (w := .slow f sg r) (F := f ^ a.toNat) (a := a) (i := t.length) (m := 1) (by omega) (by decide) (by omega)
        have e2 := bdS_blk (t := t) (s := s) (w := .slow f sg r) (F := f ^ a.toNat) (a := a) (i := 0) (m := 1) (by omega) (by decide) (by omega)
        rw [Int.zero_mul, Int.zero_add] at e2
        rw [show ((1 : Nat) : Int) = 1 from rfl, e2] at b1
        rw [e1]
        have e3 : at0 t (t.length * f ^ a.toNat + 1) = at0 t 1 := at0_mod _ _ (by rw [Int.add_comm, Int.add_mul_emod_self_left])
        have e4 : hiS t (.slow f sg r) a t.length = hiS t (.slow f sg r) a 0 := by
          have := hiS_add (t := t) (w := .slow f sg r) (a := a) (i := 0)
          rw [Int.zero_add] at this
          exact this
        rw [e3, e4]
        exact b1
      have b3 := tdS_off (t := t) (s := s) (w := .slow f sg r) (F := f ^ a.toNat) (a := a) (i := t.length) (m := 1) (by omega) (by decide) (by omega)
      unfold wdS
      rw [b2, b3]
      rfl
theorem k_law_heard : Keeps b_law_heard cs_law_heard.N ct_law_heard := by
  rintro _ st Qd Ed ⟨t, s, f, sg, r, a, e, ht, hs, hw, a0, a1, rfl, q⟩
  have big := line_big
  have hf := hw.1
  have t1 := ht.lo
  have t2 := ht.hi
  have hm : ((t.map eN).length : Int) = t.length := by rw [List.length_map]
  have hFs : f ^ a.toNat < 1073741824 := sizeW_small hw a1
  have hF0 : 0 < f ^ a.toNat := Int.pow_pos (by omega)
  have hb : 0 ≤ f ^ a.toNat * t.length ∧ f ^ a.toNat * t.length ≤ 1073741824 * 48 := ⟨Int.mul_nonneg (by omega) (by omega), Int.mul_le_mul (by omega) (by omega) (by omega) (by decide)⟩
  unfold pairF at q
  refine ⟨rfl, _, rfl, f, a, hf.1, hf.2, by omega, by omega, rfl, rfl, _, rfl, _, ⟨.inr (small64 (by rw [hm]; omega) (by rw [hm]; omega)), rfl⟩, _, ⟨(by show 2 ≤ sizeLine; omega), rfl⟩, ?_⟩
  have fin : wpSs ΓL lhTail (lhEnv t s (.slow f sg r) a e .un (f ^ a.toNat * t.length) none none .un .un) st (knOf Qd) (fun e _ st => Ed e st) := by
    refine ⟨rfl, _, rfl, inB62_small (by omega) (by omega), ?_⟩
    refine for_range (lo := 0) (fun k ρ _ => (∀ j, j < k → wdT t s (.slow f sg r) e 0 a (begW (.slow f sg r) a + (j : Nat)) = "") ∧ ∃ x5 x8 x9 : Sl, ρ = lhEnv t s (.slow f sg r) a e x5 (f ^ a.toNat * t.length) (if k == 0 then none else sungT t (.slow f sg r) 0 (begW (.slow f sg r) a + k - 1) e) (if k == 0 then none else sungT t (.slow f sg r) a (begW (.slow f sg r) a + k - 1) e) x8 x9) (f ^ a.toNat * t.length + 2).toNat (fun k ρ st hk hI nx hx => ?_) (fun ρ st hI => ?_) _ _ ⟨fun j hj => absurd hj (Nat.not_lt_zero j), .un, .un, .un, rfl⟩
    · obtain ⟨hp, x5, x8, x9, rfl⟩ := hI
      refine w_lhBody ht hs hw (by omega) a1 (fun hz => ?_) (fun hz y8 y9 => hx _ _ ⟨fun j hj => ?_, .val (.int (begW (.slow f sg r) a + k)), y8, y9, ?_⟩)
      · have hin := lh_in ht hw hf.1 a0 (by omega) hp hz
        have hl := lp_at (near := 0) (far := a) hin hp hz
        rw [Int.zero_add, hl] at q
        exact q
      · by_cases hj2 : j < k
        · exact hp j hj2
        · obtain rfl : j = k := by omega
          exact hz
      · rw [show (k + 1 == 0) = false from rfl, if_neg Bool.false_ne_true, if_neg Bool.false_ne_true, show begW (.slow f sg r) a + ((k + 1 : Nat) : Int) - 1 = begW (.slow f sg r) a + (k : Int) by omega]
    · obtain ⟨hp, x5, x8, x9, rfl⟩ := hI
      have hn : lagF t s (.slow f sg r) e 0 a = none := lp_no fun j hj => hp j (by
        have e1 : (endT t.length (.slow f sg r) e 0 a - begW (.slow f sg r) a) ≤ f ^ a.toNat * t.length + 1 := by
          show (if e then (t.length : Int) * f ^ a.toNat + 1 else t.length) - 0 ≤ _
          have hnF1 : (t.length : Int) * 1 ≤ t.length * f ^ a.toNat := Int.mul_le_mul_of_nonneg_left (by omega) (by omega)
          rw [Int.mul_comm (f ^ a.toNat)]
          split <;> omega
        omega)
      rw [Int.zero_add, hn] at q
      exact ⟨_, ⟨Nat.zero_le _, rfl⟩, q⟩
  rw [hm]
  exact fin
end Pv

end
section
set_option linter.all false
set_option maxRecDepth 100000
set_option maxHeartbeats 4000000
namespace Pv
open PySem PySem.Spec PyProof.Rows L2
section
variable {P : Program} {w : World} {K : PySem.W.Frag} {mg : Str → Option Value} {base : Heap}
theorem sc_next : FnScope ["_law_draw", "_law_below", "_law_at_here", "_law_mixed", "_law_great", "_law_found"] ["_law_draw", "_law_below"] (defScope s_law_next_2) := ⟨rfl, rfl, rfl, by decide +kernel, rfl, by decide +kernel, by decide +kernel⟩
theorem next_ok {k : Nat} {f : Addr} {kV doc pm cdv ctv oc : Value} {an od : Option Addr} {osl : Array (Option Value)}
    (lk : K.lookup f = some ⟨oc, od, .func (PySem.W.fnOf "_law_next" "_law_next" (defArgs s_law_next_2) (defBody s_law_next_2) (defScope s_law_next_2) .none kV doc pm an cdv ctv), osl⟩) (hcd : PySem.W.codeIn K cdv "_law_next" = true)
    (m1 : mg "int" = none) (m2 : mg "len" = none) (m3 : mg "max" = none) :
    FnOk P w K mg base (L2.CX P w) (k + 1) f (PySem.W.fnOf "_law_next" "_law_next" (defArgs s_law_next_2) (defBody s_law_next_2) (defScope s_law_next_2) .none kV doc pm an cdv ctv) ["_law_draw", "_law_below"] (spOf K mg IsDraw 2 ctNext) := by
  refine fn_of lk hcd sc_next (fun vs H Q E ⟨R, F, st, ds, Qd, Ed, _, _, _, _, dn, hl, _⟩ => dn.length.trans hl) fun A outer s H vs Q E hr h => ?_
  have hu := hu_of hr
  refine ⟨_, pss_cons (ps_asg (pe_tup (pa_cons (pe_op op_add (pe_dget hu (pv 0) pe_str (fun _ _ => rfl)) pe_int) (pa_cons (pe_dget hu (pv 0) pe_str (fun _ _ => rfl)) pa_nil)))
      (pg_tup rfl (pgs_cons (pg_sub (pv 0) pe_str (set_dict hu)) (pgs_cons (pg_name (i := 4) sc_next.nd rfl (.inl rfl)) pgs_nil))) rfl ((swR_ok rfl _ _).1 rfl))
    (pss_cons (ps_set (i := 2) sc_next.nd rfl (.inl rfl) (pe_op op_mod (pe_callTy call_int1 rfl m1 (by decide +kernel) (pa_cons (pe_dget hu (pv 0) pe_str (fun _ _ => rfl)) pa_nil)) (pe_callB (call_max2 rfl) rfl m3 (by decide +kernel) (pa_cons pe_int (pa_cons (pe_callB call_len rfl m2 (by decide +kernel) (pa_cons (pv 4) pa_nil)) pa_nil)))))
    (pss_cons (ps_if (pw_and (pt_cmpR (op_neD (by have := hr.units; exact this)) (pv 4) (pe_lst pa_nil) (nomark _)) (pw_and1 (pt_cmpR op_gt (pe_ix ix_list (pv 4) (pv 2) (fun _ _ => rfl)) pe_int (nomark _)))).pt
      (pss_cons (ps_set (i := 5) sc_next.nd rfl (.inl rfl) (pe_op op_mod (pe_callTy call_int1 rfl m1 (by decide +kernel) (pa_cons (pe_ix ix_list (pv 4) (pv 2) (fun _ _ => rfl)) pa_nil)) (pv 1)))
        (pss_cons (ps_asg (pe_op op_fdiv (pe_ix ix_list (pv 4) (pv 2) (fun _ _ => rfl)) (pv 1)) (pg_sub (pv 4) (pv 2) set_list))
        (pss_one (ps_ret (pv 5))))) pss_nil)
    (pss_cons (ps_set (i := 3) sc_next.nd rfl (.inl rfl) (pe_callTy call_int1 rfl m1 (by decide +kernel) (pa_cons (pe_op op_add (pe_op op_add (pe_op op_mul (pe_dget hu (pv 0) pe_str (fun _ _ => rfl)) pe_int) (pe_op op_mul pe_int (pe_dget hu (pv 0) pe_str (fun _ _ => rfl)))) pe_int) pa_nil)))
    (pss_cons (ps_asg (pe_op op_mod (pe_callTy call_int1 rfl m1 (by decide +kernel) (pa_cons (pv 3) pa_nil)) pe_int) (pg_sub (pv 0) pe_str (set_dict hu)))
    (pss_one (ps_ret (pe_op op_mod (pe_callTy call_int1 rfl m1 (by decide +kernel) (pa_cons (pe_op op_fdiv (pe_dget hu (pv 0) pe_str (fun _ _ => rfl)) pe_int) pa_nil)) (pv 1)))))))), ?_⟩
  obtain ⟨R, F, st, ds, Qd, Ed, ⟨dx, gr, rfl⟩, sF, hM, ⟨nd, m, t, gs, h1, h2, h3⟩, dn, hl, ⟨b, rfl, hb0, hb1, hQ⟩, kq, ke⟩ := h
  obtain ⟨v0, _, rfl, ⟨a0, ea, rfl⟩, v1, _, rfl, rfl, e0⟩ := dn
  obtain rfl := (show _ = [] from e0)
  obtain rfl : dx = a0 := by simpa [drawR] using ea
  have fin : ∀ (H' : Hp) (m' t' : Int) (gs' : List Int) (r : Int), (∀ c o, H c = some o → c ≠ dx → c ≠ gr → H' c = some o) → H' dx = some (.dK (dkOf gr m' t')) → H' gr = some (.lst (gs'.map V.int)) → 0 ≤ t' → 0 ≤ r → r < b → Q (.int r) H' := fun H' m' t' gs' r kp e1 e2 h4 r0 r1 =>
    kq (.int r) st (.int r) F H' (hQ r r0 r1) ⟨Sub.refl _, fun c o e => kp c o (sF c o e) (fun z => by rw [z, hM dx (.inl rfl)] at e; cases e) (fun z => by rw [z, hM gr (.inr rfl)] at e; cases e), fun c o e n => kp c o e (fun z => n (.inl z)) (fun z => n (.inr z)), fun c o e => .inl e, hM, ⟨nd, m', t', gs', e1, e2, h4⟩⟩ rfl
  -- the turn's number and the great ones
  refine ⟨.ref dx, rfl, dx, .int t, rfl, get_turn h1, t, 1, rfl, rfl, .ref dx, rfl, dx, .ref gr, rfl, get_great h1, (show 2 ≤ sizeLine by decide), fun T nT => ?_⟩
  have nTd : dx ≠ T := ne_of_none h1 nT
  have nTg : gr ≠ T := ne_of_none h2 nT
  have d1 : (upd H T (.tup [V.int (t + 1), V.ref gr])) dx = some (.dK (dkOf gr m t)) := by rw [upd_ne nTd]; exact h1
  refine ⟨T, [V.int (t + 1), V.ref gr], rfl, SqT.of upd_same, rfl, _, _, rfl, .ref dx, rfl, dx, _, rfl, set_turn d1, _, _, rfl, rfl, ?_⟩
  obtain ⟨H2, hH2⟩ : ∃ H2, H2 = upd (upd H T (.tup [V.int (t + 1), V.ref gr])) dx (.dK (dkOf gr m (t + 1))) := ⟨_, rfl⟩
  rw [← hH2]
  have k2 : ∀ c o, H c = some o → c ≠ dx → c ≠ gr → H2 c = some o := fun c o e n1 n2 => by rw [hH2, upd_ne n1, upd_ne (ne_of_none e nT)]; exact e
  have d2 : H2 dx = some (.dK (dkOf gr m (t + 1))) := by rw [hH2, upd_same]
  have g2 : H2 gr = some (.lst (gs.map V.int)) := by rw [hH2, upd_ne nd.symm, upd_ne nTg]; exact h2
  -- the place
  obtain ⟨ln, hln⟩ : ∃ ln : Int, ln = if (gs.length : Int) > 1 then (gs.length : Int) else 1 := ⟨_, rfl⟩
  have ln0 : 0 < ln := by rw [hln]; split <;> omega
  obtain ⟨at_, hat⟩ : ∃ at_ : Int, at_ = (t + 1) % ln := ⟨_, rfl⟩
  refine ⟨.ref dx, rfl, dx, .int (t + 1), rfl, get_turn d2, .inl ⟨t + 1, rfl, .ref gr, rfl, .ref gr, gs.length, rfl, .inl ⟨_, SqL.of g2, by rw [List.length_map]⟩, 1, gs.length, rfl, t + 1, ln, rfl, by rw [hln], ln0, ?_⟩⟩
  dsimp only
  rw [← hat]
  -- the test
  have dp : ∀ {H' : Hp} {zs : List Int}, H' gr = some (.lst (zs.map V.int)) → Dp K H' (.ref gr) (.list (zs.map .int)) := fun {H' zs} e => by
    refine .lst (SqL.of e) ?_
    clear e
    induction zs with
    | nil => exact .nil
    | cons z zs ih => exact .cons (.int z) ih
  have shp : ∀ zs : List Int, SeqAt.shaped (.list (zs.map .int)) = true := fun zs => shaped_ints zs
  refine ⟨.ref gr, rfl, Nat.zero_le _, fun L nL => ?_⟩
  have nLd : dx ≠ L := ne_of_none d2 nL
  have nLg : gr ≠ L := ne_of_none g2 nL
  obtain ⟨H3, hH3⟩ : ∃ H3, H3 = upd H2 L (.lst []) := ⟨_, rfl⟩
  have d3 : H3 dx = some (.dK (dkOf gr m (t + 1))) := by rw [hH3, upd_ne nLd]; exact d2
  have g3 : H3 gr = some (.lst (gs.map V.int)) := by rw [hH3, upd_ne nLg]; exact g2
  have k3 : ∀ c o, H c = some o → c ≠ dx → c ≠ gr → H3 c = some o := fun c o e n1 n2 => by rw [hH3, upd_ne (ne_of_none (k2 c o e n1 n2) nL)]; exact k2 c o e n1 n2
  have l3 : H3 L = some (.lst []) := by rw [hH3, upd_same]
  rw [← hH3]
  clear hH3 hH2
  refine ⟨_, _, dp g3, .lst (SqL.of l3) .nil, shp gs, shp [], _, rfl, ?_⟩
  cases gs with
  | nil =>
    dsimp only
    rw [if_neg (by simp [PyData.eqv, PyData.eqvAll])]
    rw [if_neg (by decide)]
    refine ⟨.ref dx, rfl, dx, .int m, rfl, get_mixed d3, m, _, rfl, rfl, .inr ⟨by decide, by decide⟩, .ref dx, rfl, dx, .int (t + 1), rfl, get_turn d3, _, t + 1, rfl, rfl, .inl ⟨by decide, by decide⟩, _, _, rfl, rfl, _, _, rfl, rfl, .inl ⟨_, rfl, ?_⟩⟩
    refine ⟨_, rfl, .inl ⟨_, rfl, _, _, rfl, rfl, (show (0 : Int) < 2305843009213693951 by decide), .ref dx, rfl, dx, _, rfl, set_mixed d3, ?_⟩⟩
    refine ⟨.ref dx, rfl, dx, .int _, rfl, get_mixed upd_same, _, _, rfl, rfl, ⟨by decide, by decide⟩, .inl ⟨_, rfl, .int b, rfl, _, _, rfl, rfl, hb0, ?_⟩⟩
    exact fin _ _ (t + 1) _ _ (fun c o e n1 n2 => by rw [upd_ne n1]; exact k3 c o e n1 n2) upd_same (by rw [upd_ne nd.symm]; exact g3) (by omega) (Int.emod_nonneg _ (by omega)) (Int.emod_lt_of_pos _ hb0)
  | cons g0 gr0 =>
    dsimp only
    rw [if_pos (by simp [PyData.eqv, PyData.eqvAll])]
    have hlen : ln = ((g0 :: gr0).length : Int) := by rw [hln, List.length_cons]; split <;> omega
    have at0 : 0 ≤ at_ := by rw [hat]; exact Int.emod_nonneg _ (by omega)
    have at1 : at_ < ((g0 :: gr0).length : Int) := by rw [hat, ← hlen]; exact Int.emod_lt_of_pos _ ln0
    obtain ⟨j, rfl⟩ : ∃ j : Nat, at_ = (j : Int) := ⟨at_.toNat, by omega⟩
    have hj : j < (g0 :: gr0).length := by omega
    obtain ⟨g, hg⟩ : ∃ g, (g0 :: gr0)[j]? = some g := ⟨_, List.getElem?_eq_getElem hj⟩
    have hgv : ((g0 :: gr0).map V.int)[j]? = some (.int g) := by rw [List.getElem?_map, hg]; rfl
    refine ⟨.ref gr, rfl, .int j, rfl, gr, _, (j : Int), .int g, rfl, rfl, SqL.of g3, atI_nat hgv, g, 0, rfl, rfl, _, rfl, ?_⟩
    by_cases hp : 0 < g
    · dsimp only
      rw [if_pos (by simp [hp])]
      refine ⟨.ref gr, rfl, .int j, rfl, gr, _, (j : Int), .int g, rfl, rfl, SqL.of g3, atI_nat hgv, .inl ⟨g, rfl, .int b, rfl, g, b, rfl, rfl, hb0, ?_⟩⟩
      refine ⟨.ref gr, rfl, .int j, rfl, gr, _, (j : Int), .int g, rfl, rfl, SqL.of g3, atI_nat hgv, .int b, rfl, g, b, rfl, rfl, ⟨hb0, hb1⟩, ?_⟩
      refine ⟨.ref gr, rfl, .int j, rfl, gr, _, (j : Int), j, rfl, rfl, g3, ixN_of (by rw [List.length_map]; exact hj), ?_⟩
      refine ⟨.int (g % b), rfl, ?_⟩
      exact fin _ m (t + 1) ((g0 :: gr0).set j (g / b)) _ (fun c o e n1 n2 => by rw [upd_ne n2]; exact k3 c o e n1 n2) (by rw [upd_ne nd]; exact d3) (by rw [upd_same, List.map_set]) (by omega) (Int.emod_nonneg _ (by omega)) (Int.emod_lt_of_pos _ hb0)
    dsimp only
    rw [if_neg (by simpa using hp)]
    refine ⟨.ref dx, rfl, dx, .int m, rfl, get_mixed d3, m, _, rfl, rfl, .inr ⟨by decide, by decide⟩, .ref dx, rfl, dx, .int (t + 1), rfl, get_turn d3, _, t + 1, rfl, rfl, .inl ⟨by decide, by decide⟩, _, _, rfl, rfl, _, _, rfl, rfl, .inl ⟨_, rfl, ?_⟩⟩
    refine ⟨_, rfl, .inl ⟨_, rfl, _, _, rfl, rfl, (show (0 : Int) < 2305843009213693951 by decide), .ref dx, rfl, dx, _, rfl, set_mixed d3, ?_⟩⟩
    refine ⟨.ref dx, rfl, dx, .int _, rfl, get_mixed upd_same, _, _, rfl, rfl, ⟨by decide, by decide⟩, .inl ⟨_, rfl, .int b, rfl, _, _, rfl, rfl, hb0, ?_⟩⟩
    exact fin _ _ (t + 1) _ _ (fun c o e n1 n2 => by rw [upd_ne n1]; exact k3 c o e n1 n2) upd_same (by rw [upd_ne nd.symm]; exact g3) (by omega) (Int.emod_nonneg _ (by omega)) (Int.emod_lt_of_pos _ hb0)
end
theorem w_begun1 {ns : List Int} {K : Kn Unit} {E : QX Unit} (h : ∀ m : Int, K.nx [.val (.scr ns), .val (.int m), .un, .un] ()) : wpS noΓ b_begun1 [.val (.scr ns), .un, .un, .un] () K E := by
  refine ⟨rfl, _, rfl, _, ⟨.inl (small64 (by decide) (by decide)), rfl⟩, _, rfl, ?_⟩
  exact h _
theorem w_begun2 {ns : List Int} {m : Int} {K : Kn Unit} {E : QX Unit} (h : ∀ (m : Int) (a b : Sl), (b = .un ∨ ∃ d, b = .val d) → K.nx [.val (.scr ns), .val (.int m), a, b] ()) : wpS noΓ b_begun2 [.val (.scr ns), .val (.int m), .un, .un] () K E := by
  refine ⟨_, _, rfl, rfl, ?_⟩
  refine forW_ind (fun ds ρ _ => (∀ d ∈ ds, ∃ i j : Int, d = .tup [.int i, .int j]) ∧ ∃ (m : Int) (a b : Sl), (b = .un ∨ ∃ d, b = .val d) ∧ ρ = [.val (.scr ns), .val (.int m), a, b]) (fun ρ st hP => ?_) (fun d ds ρ st hP => ?_) _ _ _ ⟨?_, m, _, _, .inl rfl, rfl⟩
  · obtain ⟨_, m, a, b, hb, rfl⟩ := hP
    exact h m a b hb
  · obtain ⟨hd, m, a, b, hb, rfl⟩ := hP
    obtain ⟨i, j, rfl⟩ := hd d List.mem_cons_self
    refine ⟨[.val (.scr ns), .val (.int m), .val (.int i), .val (.int j)], rfl, fun nx hn => ?_⟩
    refine ⟨rfl, _, ⟨.inr (small64 (by decide) (by decide)), rfl⟩, rfl, _, rfl, rfl, _, ⟨.inl (small64 (by decide) (by decide)), rfl⟩, _, rfl, _, rfl, _, ⟨(show (0 : Int) < 2305843009213693951 by decide), rfl⟩, ?_⟩
    exact hn _ () ⟨fun d h => hd d (List.mem_cons_of_mem _ h), _, _, _, .inr ⟨_, rfl⟩, rfl⟩
  · intro d h
    have key : ∀ (n : Nat) (zs : List Int), ∀ d ∈ enumFrom n (zs.map .int), ∃ i j : Int, d = .tup [.int i, .int j] := fun n zs => by
      induction zs generalizing n with
      | nil => intro d h; cases h
      | cons z zs ih =>
        intro d h
        rcases List.mem_cons.mp h with rfl | h
        · exact ⟨_, _, rfl⟩
        · exact ih _ d h
    exact key 0 ns d h
def great? : D → Option D
  | .int j => if (10 : Int) ^ 18 ≤ j then some (.int j) else none
  | _ => none
theorem w_xbegun {ns : List Int} {m : Int} {a b : Sl} (hb : b = .un ∨ ∃ d, b = .val d) (hl : ns.length ≤ 1000) {Q : QX Unit} {E : QX Unit} (h : ∀ (gs : List Int) (ρ : Env), Q (.lst (gs.map .int)) ρ ()) : wpX noΓ x_begun [.val (.scr ns), .val (.int m), a, b] () Q E := by
  refine ⟨_, _, rfl, rfl, ?_⟩
  have fz : freezeL ([3] ++ [3]) [Sl.val (D.scr ns), Sl.val (D.int m), a, b] = [Sl.val (D.scr ns), Sl.val (D.int m), a, b] := by
    rcases hb with rfl | ⟨d, rfl⟩ <;> rfl
  dsimp only
  rw [fz]
  have gen : ∀ zs : List Int, ∃ gs : List Int, (zs.map D.int).filterMap great? = gs.map .int := fun zs => by
    induction zs with
    | nil => exact ⟨[], rfl⟩
    | cons z zs ih =>
      obtain ⟨gs, e⟩ := ih
      rw [List.map_cons, List.filterMap_cons]
      unfold great?
      dsimp only
      split
      · rename_i e1
        split at e1
        · cases e1
        · exact ⟨gs, e⟩
      · rename_i y e1
        split at e1
        · cases e1; exact ⟨z :: gs, by rw [List.map_cons]; exact congrArg _ e⟩
        · cases e1
  refine compW_map great? _ _ (fun d hd => ?_) ?_ ?_
  · obtain ⟨j, _, rfl⟩ := List.mem_map.mp hd
    refine ⟨_, rfl, fun skip keep hk => ?_⟩
    refine ⟨rfl, _, ⟨⟨by decide, by decide, by decide⟩, rfl⟩, _, rfl, ?_⟩
    have e18 : (10 : Int) ^ (18 : Int).toNat = 10 ^ 18 := rfl
    rw [e18]
    by_cases hj : (10 : Int) ^ 18 ≤ j
    · rw [show great? (.int j) = some (.int j) from if_pos hj] at hk
      rw [decide_eq_true hj]
      exact ⟨rfl, hk⟩
    · rw [show great? (.int j) = none from if_neg hj] at hk
      rw [decide_eq_false hj]
      exact hk
  · rw [List.length_map]
    exact Nat.le_trans (Nat.le_of_lt_succ (by simp; omega)) (Nat.le_of_lt line_big)
  · obtain ⟨gs, e⟩ := gen ns
    rw [e]
    exact h gs _
/-! ### the def -/
section
variable {P : Program} {w : World} {K : PySem.W.Frag} {mg : Str → Option Value} {base : Heap}
theorem begun_ok {k : Nat} {f : Addr} {kV doc pm cdv ctv oc : Value} {an od : Option Addr} {osl : Array (Option Value)}
    (lk : K.lookup f = some ⟨oc, od, .func (PySem.W.fnOf "_law_begun" "_law_begun" (defArgs s_law_begun) (defBody s_law_begun) (defScope s_law_begun) .none kV doc pm an cdv ctv), osl⟩) (hcd : PySem.W.codeIn K cdv "_law_begun" = true)
    (nb : ∀ x, cs_law_begun.blt.contains x = true → mg x = none) :
    FnG P w K mg base (k + 1) f (PySem.W.fnOf "_law_begun" "_law_begun" (defArgs s_law_begun) (defBody s_law_begun) (defScope s_law_begun) .none kV doc pm an cdv ctv) ["_law_script"] (spBegun K) := by
  refine fnG_body lk hcd sc_begun (fun vs H Q E ⟨a, ns, e, _⟩ => by rw [e]; rfl) fun A outer s H vs Q E hr hg h => ?_
  obtain ⟨a, ns, rfl, hS, hl, hq⟩ := h
  have nm : Nms P w K mg base (fun _ : Reg Unit => True) noΓ k cs_law_begun := ⟨fun x d h => (nomatch h), nb, fun x id m h => (nomatch h), fun q h => (nomatch h)⟩
  have G := goodS_of (R := triv) (okR := trivial) (qual := "_law_begun") (f := f) (cd := cdv) (outer := outer) (s := s) (H := H) (E := E) nm sc_begun rfl hr hg
  obtain ⟨c, hc⟩ : ∃ c : Set Unit, c = ⟨triv, K, mg, H, fun _ => True, trivial⟩ := ⟨_, rfl⟩
  rw [← hc] at G
  have h1 := cS_ok G (m := 20) (n := 30) (mu := []) (defBody s_law_begun)[0]! b_begun1 rfl
  have h2 := cS_ok G (m := 20) (n := 30) (mu := []) (defBody s_law_begun)[1]! b_begun2 rfl
  have hf := fok_of 30 G.g G.tk
  refine ⟨_, pss_cons h1 (pss_cons h2 (pss_one (ps_ret (pe_disp (pps_cons pe_str (hf.e _ (.v 1) rfl) (pps_cons pe_str (pe_fresh (n := 30) (x := x_begun) G.g G.tk rfl rfl) (pps_cons pe_str pe_int pps_nil))) rfl rfl (by simp) (by decide))))), ?_⟩
  have h0 : c.H0 = H := by rw [hc]
  have hM : ∀ q, ¬ c.R.M q := fun q z => by rw [hc] at z; exact z
  have hK : c.K = K := by rw [hc]
  have no : ∀ {te : Env} {τ : List (Option V)} {σ : L2.St}, EImp c (fun cls d _ H' => E cls d H') H te σ τ (fun _ _ _ => False) := fun _ _ _ _ _ _ _ z => z.elim
  have C0 : Cur c H H [.val (.scr ns), .un, .un, .un] () [] (start cs_law_begun.N [.ref a]) [] H := by
    refine cur_start (N := cs_law_begun.N) (ds := [.scr ns]) h0 (Sub.refl _) (fun q z => (hM q z).elim) (by rw [hc]; trivial) ⟨.ref a, [], rfl, ⟨a, rfl, ?_⟩, rfl⟩
    show SqL c.K H a _
    rw [hK]; exact hS
  refine ⟨H, H, _, (), ⟨fun ρ _ => ∃ m : Int, ρ = [.val (.scr ns), .val (.int m), .un, .un], fun _ _ => False, fun _ _ => False, fun _ _ => False⟩, _, C0, w_begun1 fun m => ⟨m, rfl⟩, ⟨fun ρ st σ F1 H1 hp C1 x1 => ?_, fun _ _ _ _ _ _ _ z => z.elim, fun _ _ _ _ _ z => z.elim, fun _ _ _ _ _ z => z.elim⟩, fun _ => no⟩
  obtain ⟨m1, rfl⟩ := hp
  refine ⟨H, F1, _, (), ⟨fun ρ _ => ∃ (m : Int) (a b : Sl), (b = .un ∨ ∃ d, b = .val d) ∧ ρ = [.val (.scr ns), .val (.int m), a, b], fun _ _ => False, fun _ _ => False, fun _ _ => False⟩, _, C1, w_begun2 fun m a b hb => ⟨m, a, b, hb, rfl⟩, ⟨fun ρ st σ F2 H2 hp C2 x2 => ?_, fun _ _ _ _ _ _ _ z => z.elim, fun _ _ _ _ _ z => z.elim, fun _ _ _ _ _ z => z.elim⟩, fun _ => no⟩
  obtain ⟨m, s2, s3, hb, rfl⟩ := hp
  intro p hp
  have C3 : Cur c H F2 [.val (.scr ns), .val (.int m), s2, s3] () [] σ [] (upd H2 p (.dK [])) := ⟨C2.len, C2.sim.grow hp⟩
  refine ⟨H, F2, _, (), [], [], fun d ρ _ => d = .int m ∧ ρ = [.val (.scr ns), .val (.int m), s2, s3], _, C3, ⟨rfl, rfl⟩, fun d ρ4 st4 v F4 H4 q C4 x4 dn => ?_, no⟩
  obtain ⟨rfl, rfl⟩ := q
  obtain rfl : v = .int m := dn
  refine ⟨H, F4, _, (), [], [], fun d _ _ => ∃ gs : List Int, d = .lst (gs.map .int), _, C4, w_xbegun hb hl fun gs ρ => ⟨gs, rfl⟩, fun d ρ5 st5 F5 H5 q C5 x5 => ?_, no⟩
  obtain ⟨gs, rfl⟩ := q
  refine ⟨_, rfl, fun gr fr => ?_⟩
  obtain ⟨f1, n1, _, ⟨us, q1, r1⟩, _⟩ := fr
  rw [h0] at n1
  obtain rfl := DenL.ints_inv r1
  have hp5 : H5 p = some (.dK []) := x5.h _ _ (x4.h _ _ upd_same (hM p)) (hM p)
  have npg : p ≠ gr := fun z => by rw [z, q1] at hp5; cases hp5
  have keep : ∀ c' o, H c' = some o → H5 c' = some o ∧ c' ≠ p := fun c' o e => by
    have e2 := C2.sim.keep c' o (h0 ▸ e) (hM c')
    have ne : c' ≠ p := ne_of_none e2 hp
    refine ⟨x5.h _ _ (x4.h _ _ (by rw [upd_ne ne]; exact e2) (hM c')) (hM c'), ne⟩
  refine ⟨hp5, dkOf gr m 0, rfl, (show 3 ≤ 15 by decide), ?_⟩
  refine hq _ p gr m gs (fun c' o e => by rw [upd_ne (keep c' o e).2]; exact (keep c' o e).1) ?_ n1 npg upd_same (by rw [upd_ne npg.symm]; exact q1)
  cases e : H p with
  | none => rfl
  | some o => exact absurd rfl (keep p o e).2
end
end Pv

end
section
set_option linter.all false
set_option maxRecDepth 100000
set_option maxHeartbeats 4000000
/-! k11: the law's own def -/
namespace Pv
open PySem PySem.Spec PyProof.Rows L2
def restB : Stms := match b_law with
  | .cons _ r => r
  | _ => .nil
def turnB : Stms := match restB with
  | .cons (.for_ _ _ b) _ => b
  | _ => .nil
def askB : Stms := match turnB with
  | .cons _ (.cons _ b) => b
  | _ => .nil
def twiceB : Stms := match askB with
  | .cons _ (.cons (.for_ _ _ b) _) => b
  | _ => .nil
def tw3 : Stms := match twiceB with
  | .cons _ (.cons _ r) => r
  | _ => .nil
def tw7 : Stms := match tw3 with
  | .cons _ (.cons _ r) => r
  | _ => .nil
def tw8 : Stms := match tw7 with
  | .cons _ r => r
  | _ => .nil
def tw9 : Stms := match tw8 with
  | .cons _ r => r
  | _ => .nil
def endB : Stms := match restB with
  | .cons _ b => b
  | _ => .nil
def lEnv (ns : List Int) (x2 : Sl) (k3 : Str) (e : Bool) (t : List (Option Int)) (s : Sty) (w : Way) (x8 x9 x10 x11 x12 : Sl) : Env :=
  [.val (.scr ns), .val (.hdl 0), x2, .val (eW w), .val (.str k3), .val (.bl e), .val (eT t), .val (eS s), x8, x9, x10, x11, x12, .un]
def fdE (t : List (Option Int)) (s : Sty) (w : Way) (e : Bool) : List Fl := fdL t s w e (lookPairs none (bkW w) (lookM t s w e))
def duE (t : List (Option Int)) (s : Sty) (w : Way) (e : Bool) : Option Fl := firstF t s w e (lookPairs none (bkW w) (lookN t s w e))
def moE (t : List (Option Int)) (s : Sty) (w : Way) (e : Bool) : Option Int := mostF t s w e (lookPairs none (bkW w) (lookN t s w e))
section
variable {t : List (Option Int)} {s : Sty} {w : Way} {e : Bool}
theorem duE_fold (ht : OkT t) (hs : OkS s) (hw : OkW w) : duE t s w e = (fdE t s w e).foldl (fun a q => accM a (some q)) none := by
  unfold duE fdE
  rw [(first_same ht hs hw).1, fdL_fold]
theorem duE_nil (ht : OkT t) (hs : OkS s) (hw : OkW w) : duE t s w e = none ↔ fdE t s w e = [] := by
  unfold duE fdE fdL
  rw [(first_same ht hs hw).1, firstF_none, List.filterMap_eq_nil_iff]
theorem moE_spec (ht : OkT t) (hs : OkS s) (hw : OkW w) : (moE t s w e = none ↔ fdE t s w e = []) ∧ ∀ m, moE t s w e = some m → m ∈ (fdE t s w e).map (·.f) ∧ ∀ y, y ∈ (fdE t s w e).map (·.f) → m ≤ y := by
  unfold moE fdE fdL
  rw [(first_same ht hs hw).2]
  unfold mostF
  obtain ⟨h1, h2⟩ := accV_spec ((lookPairs none (bkW w) (lookM t s w e)).map (pairF t s w e)) none
  refine ⟨?_, fun m hm => ?_⟩
  · rw [h1, List.filterMap_eq_nil_iff]
    exact ⟨fun h q hq => h.2 _ (List.mem_map_of_mem hq), fun h => ⟨rfl, fun o ho => by obtain ⟨q, hq, rfl⟩ := List.mem_map.mp ho; exact h q hq⟩⟩
  · obtain ⟨g1, _, g3⟩ := h2 m hm
    refine ⟨?_, fun y hy => ?_⟩
    · rcases g1 with g | ⟨q, hq, hf⟩
      · cases g
      · obtain ⟨x, hx, ex⟩ := List.mem_map.mp hq
        exact List.mem_map.mpr ⟨q, List.mem_filterMap.mpr ⟨x, hx, ex⟩, hf⟩
    · obtain ⟨q, hq, rfl⟩ := List.mem_map.mp hy
      obtain ⟨x, hx, ex⟩ := List.mem_filterMap.mp hq
      exact g3 q (List.mem_map.mpr ⟨x, hx, ex⟩)
theorem moE_rp (ht : OkT t) (hs : OkS s) (hw : OkW w) : Rp (eN (moE t s w e)) 0 60 := by
  cases hm : moE t s w e with
  | none => exact Rp.non
  | some m =>
    unfold moE mostF at hm
    obtain ⟨_, h2⟩ := accV_spec ((lookPairs none (bkW w) (lookN t s w e)).map (pairF t s w e)) none
    obtain ⟨g1, _, _⟩ := h2 m hm
    rcases g1 with g | ⟨q, hq, hf⟩
    · cases g
    · obtain ⟨x, hx, ex⟩ := List.mem_map.mp hq
      obtain ⟨_, _, _, e4⟩ := pairF_ok ex
      obtain ⟨k1, k2, k3⟩ := mem_look hx
      obtain ⟨_, hN⟩ := lookN_b (e := e) ht hs hw
      exact Rp.int (by omega) (by omega)
end
def mX : X := .comp [] [13] (.n 13) (.seq (.x (.v 8) .nil)) .nil (.op .ix (.p 13 (.x (.k (.int 2)) .nil)))
def fOf : D → Option D
  | .tup [_, _, .int f, _] => some (.int f)
  | _ => none
theorem fOf_map : ∀ L : List Fl, (L.map fun q => eF (some q)).filterMap fOf = (L.map (·.f)).map .int
  | [] => rfl
  | q :: L => by
    rw [List.map_cons, List.filterMap_cons, show fOf (eF (some q)) = some (.int q.f) from rfl]
    exact congrArg _ (fOf_map L)
theorem w_mX {ns : List Int} {x2 x9 x10 x11 x12 : Sl} {k3 : Str} {t : List (Option Int)} {s : Sty} {w : Way} {e : Bool} {L : List Fl} (hL : L.length ≤ 100000) {Q E : QX Unit}
    (h : Q (.lst ((L.map (·.f)).map .int)) (lEnv ns x2 k3 e t s w (.val (.lst (L.map fun q => eF (some q)))) x9 x10 x11 x12) ()) :
    wpX ΓL mX (lEnv ns x2 k3 e t s w (.val (.lst (L.map fun q => eF (some q)))) x9 x10 x11 x12) () Q E := by
  have big := line_big
  refine ⟨_, _, rfl, rfl, ?_⟩
  refine compW_map fOf _ _ (fun d hd => ?_) ?_ ?_
  · obtain ⟨q, _, rfl⟩ := List.mem_map.mp hd
    exact ⟨_, rfl, fun skip keep hk => ⟨rfl, _, rfl, rfl, hk⟩⟩
  · rw [List.length_map]
    show 0 + _ ≤ _
    omega
  · rw [fOf_map, List.nil_append]
    exact h
theorem w_minL {x : X} {ρ : Env} {st : Unit} {Q E : QX Unit} (h : wpX ΓL x ρ st (fun d ρ' st' => ∃ y, Op.minL.sem [d] y ∧ Q y ρ' st') E) : wpX ΓL (.op .minL (.x x .nil)) ρ st Q E := h
theorem wps_setIf {c a f : X} {i : Nat} {rr : Stms} {ρ : Env} {st : Unit} {K : Kn Unit} {E : QX Unit} (h : wpX ΓL c ρ st (fun d ρ' st' => match d.truth with
    | some true => wpX ΓL a ρ' st' (fun d ρ' st' => wpSs ΓL rr (ρ'.set i (.val d)) st' K E) E
    | some false => wpX ΓL f ρ' st' (fun d ρ' st' => wpSs ΓL rr (ρ'.set i (.val d)) st' K E) E
    | none => False) E) : wpSs ΓL (.cons (.set i (.ife c a f)) rr) ρ st K E := h
theorem fdE_len {t : List (Option Int)} {s : Sty} {w : Way} {e : Bool} (ht : OkT t) (hs : OkS s) (hw : OkW w) : (fdE t s w e).length ≤ 100000 := by
  obtain ⟨_, hN⟩ := lookM_b (e := e) ht hs hw
  unfold fdE fdL
  refine Nat.le_trans (List.length_filterMap_le ..) ?_
  have := flat_len (f := fun k => rowPairs none (bkW w) (k + 1)) (b := 2) (lookM t s w e) fun k _ => rowPairs_len
  unfold lookPairs
  omega
theorem pairs_eqOk {o : Option Fl} (h : ∀ q, o = some q → q.ok) : eqOkL 59 (o.toList.map fun q => eF (some q)) = true := fls_eqOk _ fun q hq => h q (by cases o with | none => cases hq | some p => rw [List.mem_singleton.mp hq])
theorem eqvL_self : ∀ l : List Fl, eqvL (l.map fun q => eF (some q)) (l.map fun q => eF (some q)) = true
  | [] => rfl
  | q :: l => by
    show ((eF (some q)).eqv (eF (some q)) && eqvL (l.map fun q => eF (some q)) (l.map fun q => eF (some q))) = true
    rw [eqvL_self l]
    have : (eF (some q)).eqv (eF (some q)) = true := by
      show eqvL [.int q.b, .int q.n, .int q.f, .str q.x] [.int q.b, .int q.n, .int q.f, .str q.x] = true
      simp [eqvL, D.eqv]
    rw [this]; rfl
section
variable {t : List (Option Int)} {s : Sty} {f sg r : Int} {e : Bool}
theorem w_tw9 {ns : List Int} {x2 x8 x9 x10 x11 x12 : Sl} {k3 : Str} (ht : OkT t) (hs : OkS s) (hw : OkW (.slow f sg r)) {K : Kn Unit} {E : QX Unit}
    (h : ∀ y8 y9 y10 y11 y12, K.nx (lEnv ns x2 k3 e t s (.slow f sg r) y8 y9 y10 y11 y12) ()) :
    wpSs ΓL tw9 (lEnv ns x2 k3 e t s (.slow f sg r) x8 x9 x10 x11 x12) () K E := by
  have big := line_big
  have hf := hw.1
  refine while_ind (fun m ρ _ => ∃ (x : Int) (y12 : Sl), 1 ≤ x ∧ x + m = 20 ∧ ρ = lEnv ns x2 k3 e t s (.slow f sg r) x8 x9 x10 (.val (.int x)) y12) (fun m ρ st hI nx hx => ?_) 19 ⟨1, x12, by omega, by omega, rfl⟩
  obtain ⟨x, y12, x0, hm, rfl⟩ := hI
  refine ⟨rfl, _, rfl, f, x, hf.1, hf.2, by omega, by omega, rfl, _, rfl, ?_⟩
  by_cases hlt : f ^ x.toNat < 40
  · rw [decide_eq_true hlt]
    have x10 : x ≤ 10 := by
      rcases Int.lt_or_le 10 x with z | z
      · have h1 := pow_up hf.1 (x := 6) (y := x.toNat) (by omega)
        have h2 := pow6_big hf.1 hf.2
        omega
      · exact z
    have hok : ∀ q, pairF t s (.slow f sg r) e (0, x) = some q → q.ok := fun q hq => (pairF_ok hq).1
    refine ⟨t, s, f, sg, r, x, e, ht, hs, hw, x0, by omega, rfl, ?_⟩
    refine ⟨rfl, t, s, f, sg, r, x, e, ht, hs, hw, x0, x10, rfl, _, ⟨⟨pairs_eqOk hok, pairs_eqOk hok⟩, rfl⟩, ?_⟩
    have ev : (D.lst ((pairF t s (.slow f sg r) e (0, x)).toList.map fun q => eF (some q))).eqv (.lst ((pairF t s (.slow f sg r) e (0, x)).toList.map fun q => eF (some q))) = true := eqvL_self _
    rw [ev]
    exact ⟨rfl, _, rfl, hx (m - 1) _ _ (by omega) ⟨x + 1, _, by omega, by omega, rfl⟩⟩
  · rw [decide_eq_false hlt]
    exact h _ _ _ _ _
theorem w_tw8 {ns : List Int} {x2 x8 x9 x11 x12 : Sl} {k3 : Str} (ht : OkT t) (hs : OkS s) (hw : OkW (.slow f sg r)) {K : Kn Unit} {E : QX Unit}
    (h : ∀ y8 y9 y10 y11 y12, K.nx (lEnv ns x2 k3 e t s (.slow f sg r) y8 y9 y10 y11 y12) ()) :
    wpSs ΓL tw8 (lEnv ns x2 k3 e t s (.slow f sg r) x8 x9 (.val (eN (moE t s (.slow f sg r) e))) x11 x12) () K E := by
  have r1 := (moE_rp (e := e) ht hs hw).rep (by decide) (by decide)
  refine ⟨t, s, .slow f sg r, e, ht, hs, hw, rfl, _, r1, rfl, _, r1, _, rfl, ?_⟩
  rw [decide_eq_true rfl]
  exact w_tw9 ht hs hw h
theorem w_tw7 {ns : List Int} {x2 x9 x10 x11 x12 : Sl} {k3 : Str} (ht : OkT t) (hs : OkS s) (hw : OkW (.slow f sg r)) {K : Kn Unit} {E : QX Unit}
    (h : ∀ y8 y9 y10 y11 y12, K.nx (lEnv ns x2 k3 e t s (.slow f sg r) y8 y9 y10 y11 y12) ()) :
    wpSs ΓL tw7 (lEnv ns x2 k3 e t s (.slow f sg r) (.val (.lst ((fdE t s (.slow f sg r) e).map fun q => eF (some q)))) x9 x10 x11 x12) () K E := by
  obtain ⟨h1, h2⟩ := moE_spec (e := e) ht hs hw
  have fin := fun y8 y9 y11 y12 => w_tw8 (ns := ns) (x2 := x2) (k3 := k3) (x8 := y8) (x9 := y9) (x11 := y11) (x12 := y12) (E := E) ht hs hw h
  have hok : ∀ q ∈ fdE t s (.slow f sg r) e, q.ok := fun q hq => fdL_ok hq
  refine wps_setIf ⟨rfl, _, ⟨Nat.zero_le _, rfl⟩, _, ⟨⟨fls_eqOk _ hok, rfl⟩, rfl⟩, ?_⟩
  rw [fls_eqv]
  by_cases hn : fdE t s (.slow f sg r) e = []
  · rw [decide_eq_true hn]
    rw [h1.mpr hn] at fin
    exact fin _ _ _ _
  · rw [decide_eq_false hn]
    cases hm : moE t s (.slow f sg r) e with
    | none => exact absurd (h1.mp hm) hn
    | some m =>
      rw [hm] at fin
      obtain ⟨g1, g2⟩ := h2 m hm
      show wpX ΓL (.op .minL (.x mX .nil)) _ () _ _
      refine w_minL (w_mX (fdE_len ht hs hw) ?_)
      exact ⟨_, .inl ⟨_, m, intsOf_ints _, g1, g2, rfl⟩, fin _ _ _ _⟩
theorem w_tw3 {ns : List Int} {x2 x10 x11 x12 : Sl} {k3 : Str} (ht : OkT t) (hn : (t.length : Int) ≤ 10) (hs : OkS s) (hw : OkW (.slow f sg r)) {K : Kn Unit} {E : QX Unit}
    (h : ∀ y8 y9 y10 y11 y12, K.nx (lEnv ns x2 k3 e t s (.slow f sg r) y8 y9 y10 y11 y12) ()) :
    wpSs ΓL tw3 (lEnv ns x2 k3 e t s (.slow f sg r) (.val (.lst ((fdE t s (.slow f sg r) e).map fun q => eF (some q)))) (.val (eF (duE t s (.slow f sg r) e))) x10 x11 x12) () K E := by
  have r2 := first_rep (e := e) ht hn hs hw (o := duE t s (.slow f sg r) e) rfl
  refine ⟨t, s, .slow f sg r, e, none, ht, hs, hw, (fun v hv => by cases hv), rfl, _, r2, rfl, _, r2, _, rfl, ?_⟩
  rw [decide_eq_true rfl]
  refine ⟨t, s, .slow f sg r, e, none, ht, hs, hw, (fun v hv => by cases hv), rfl, rfl, _, rfl, _, ⟨⟨rfl, rfl⟩, rfl⟩, ?_⟩
  have ei : (eF (duE t s (.slow f sg r) e)).isNon = (duE t s (.slow f sg r) e).isNone := by cases duE t s (.slow f sg r) e <;> rfl
  have ee : (D.bl (firstF t s (.slow f sg r) e (lookPairs none (bkW (.slow f sg r)) (lookN t s (.slow f sg r) e))).isNone).eqv (.bl (eF (duE t s (.slow f sg r) e)).isNon) = true := by
    rw [ei]
    show ((duE t s (.slow f sg r) e).isNone == (duE t s (.slow f sg r) e).isNone) = true
    simp
  rw [ee]
  exact w_tw7 ht hs hw h
theorem w_twice {ns : List Int} {x2 x8 x9 x10 x11 x12 : Sl} {k3 : Str} (ht : OkT t) (hlen : (t.length : Int) ≤ 10) (hs : OkS s) (hw : OkW (.slow f sg r)) {K : Kn Unit} {E : QX Unit}
    (h : ∀ y8 y9 y10 y11 y12, K.nx (lEnv ns x2 k3 e t s (.slow f sg r) y8 y9 y10 y11 y12) ()) :
    wpSs ΓL twiceB (lEnv ns x2 k3 e t s (.slow f sg r) x8 x9 x10 x11 x12) () K E := by
  have hok : ∀ q ∈ fdE t s (.slow f sg r) e, q.ok := fun q hq => fdL_ok hq
  have fin := fun y10 y11 y12 => w_tw3 (ns := ns) (x2 := x2) (k3 := k3) (x10 := y10) (x11 := y11) (x12 := y12) (E := E) ht hlen hs hw h
  refine ⟨t, s, .slow f sg r, e, ht, hs, hw, rfl, ?_⟩
  refine wps_setIf ⟨rfl, _, ⟨Nat.zero_le _, rfl⟩, _, ⟨⟨fls_eqOk _ hok, rfl⟩, rfl⟩, ?_⟩
  have ev := fls_eqv (fdE t s (.slow f sg r) e)
  unfold fdE fdL at ev
  rw [ev]
  by_cases hn : fdE t s (.slow f sg r) e = []
  · have hn2 := (duE_nil (e := e) ht hs hw).mpr hn
    rw [hn2] at fin
    rw [decide_eq_true (show List.filterMap (pairF t s (Way.slow f sg r) e) (lookPairs none (bkW (.slow f sg r)) (lookM t s (.slow f sg r) e)) = [] from hn)]
    exact fin _ _ _
  · rw [decide_eq_false (show ¬ List.filterMap (pairF t s (Way.slow f sg r) e) (lookPairs none (bkW (.slow f sg r)) (lookM t s (.slow f sg r) e)) = [] from hn)]
    have hd := duE_fold (e := e) ht hs hw
    cases hz : fdE t s (.slow f sg r) e with
    | nil => exact absurd hz hn
    | cons q rest =>
      have hmin := fls_min (q := q) (l := rest) (fun x hx => hok x (by rw [hz]; exact hx))
      rw [← hz, ← hd] at hmin
      exact ⟨rfl, _, hmin, fin _ _ _⟩
end
theorem wps_for {t : Tg} {it : It} {b r : Stms} {ρ : Env} {st : Unit} {K : Kn Unit} {E : QX Unit} (h : wpI ΓL it ρ st (fun ds ρ' st' => forW t (fun ρ1 st1 nx => wpSs ΓL b ρ1 st1 { K with nx := nx, ct := nx, bk := fun ρ' st' => wpSs ΓL r ρ' st' K E } E) ds ρ' st' (fun ρ' st' => wpSs ΓL r ρ' st' K E)) E) : wpSs ΓL (.cons (.for_ t it b) r) ρ st K E := h
theorem w_ask {ns : List Int} {x2 x4 x5 x8 x9 x10 x11 x12 : Sl} {t : List (Option Int)} {s : Sty} {f sg r : Int} (ht : OkT t) (hlen : (t.length : Int) ≤ 10) (hs : OkS s) (hw : OkW (.slow f sg r)) {K : Kn Unit} {E : QX Unit}
    (h : ∀ y3 y4 y5 y6 y7 y8 y9 y10 y11 y12, K.nx [.val (.scr ns), .val (.hdl 0), x2, y3, y4, y5, y6, y7, y8, y9, y10, y11, y12, .un] ()) :
    wpSs ΓL askB [.val (.scr ns), .val (.hdl 0), x2, .val (eW (.slow f sg r)), x4, x5, .val (eT t), .val (eS s), x8, x9, x10, x11, x12, .un] () K E := by
  have big := line_big
  have l2 : 2 ≤ sizeLine := by omega
  have l3 : 3 ≤ sizeLine := by omega
  have r1 := (rp_three ht hs hw).rep (by decide) (by decide)
  refine ⟨_, ⟨l3, rfl⟩, _, r1, ?_⟩
  refine wps_for ⟨_, ⟨l2, rfl⟩, _, _, rfl, rfl, ?_⟩
  refine forW_ind (fun ds ρ _ => (∀ d ∈ ds, ∃ e : Bool, d = .bl e) ∧ ∃ y5 y8 y9 y10 y11 y12 : Sl, ρ = [.val (.scr ns), .val (.hdl 0), x2, .val (eW (.slow f sg r)), .val (.str (shO (.lst [eT t, eS s, eW (.slow f sg r)]))), y5, .val (eT t), .val (eS s), y8, y9, y10, y11, y12, .un]) (fun ρ st hP => ?_) (fun d ds ρ st hP => ?_) _ _ _ ⟨fun d hd => ?_, x5, x8, x9, x10, x11, x12, rfl⟩
  · obtain ⟨_, y5, y8, y9, y10, y11, y12, rfl⟩ := hP
    refine ⟨_, ⟨l3, rfl⟩, _, r1, rfl, _, rfl, ?_⟩
    rw [decide_eq_true rfl]
    exact h _ _ _ _ _ _ _ _ _ _
  · obtain ⟨hd, y5, y8, y9, y10, y11, y12, rfl⟩ := hP
    obtain ⟨e, rfl⟩ := hd d List.mem_cons_self
    refine ⟨lEnv ns x2 (shO (.lst [eT t, eS s, eW (.slow f sg r)])) e t s (.slow f sg r) y8 y9 y10 y11 y12, rfl, fun nx hn => ?_⟩
    exact w_twice ht hlen hs hw fun z8 z9 z10 z11 z12 => hn _ _ ⟨fun d h => hd d (List.mem_cons_of_mem _ h), .val (.bl e), z8, z9, z10, z11, z12, rfl⟩
  · simp only [List.mem_cons, List.not_mem_nil, or_false] at hd
    rcases hd with rfl | rfl <;> exact ⟨_, rfl⟩
theorem w_turn {ns : List Int} {x2 x3 x4 x5 x6 x7 x8 x9 x10 x11 x12 : Sl} {K : Kn Unit} {E : QX Unit}
    (h : ∀ y3 y4 y5 y6 y7 y8 y9 y10 y11 y12, K.nx [.val (.scr ns), .val (.hdl 0), x2, y3, y4, y5, y6, y7, y8, y9, y10, y11, y12, .un] ()) :
    wpSs ΓL turnB [.val (.scr ns), .val (.hdl 0), x2, x3, x4, x5, x6, x7, x8, x9, x10, x11, x12, .un] () K E := by
  have big := line_big
  refine ⟨10, by decide, by decide, rfl, fun t ht hlen => ⟨rfl, fun s hs => ⟨rfl, fun w hw => ?_⟩⟩⟩
  have m := hw.m
  have go : ∀ (y3 : Sl) (z : Int), 0 ≤ z → z < 5 → wpSs ΓL askB [.val (.scr ns), .val (.hdl 0), x2, .val (eW (.slow (2 + z) w.s w.r)), x4, x5, .val (eT t), .val (eS s), x8, x9, x10, x11, x12, .un] () K E := fun y3 z z0 z1 => w_ask ht hlen hs (show OkW (.slow (2 + z) w.s w.r) from ⟨by omega, m⟩) h
  cases w with
  | lag l sg r b => exact ⟨5, rfl, by decide, by rw [b30_eq]; decide, fun z z0 z1 => ⟨_, rfl, rfl, _, rfl, rfl, _, rfl, _, ⟨(by show 4 ≤ sizeLine; omega), rfl⟩, go .un z z0 z1⟩⟩
  | slow f sg r => exact ⟨5, rfl, by decide, by rw [b30_eq]; decide, fun z z0 z1 => ⟨_, rfl, rfl, _, rfl, rfl, _, rfl, _, ⟨(by show 4 ≤ sizeLine; omega), rfl⟩, go .un z z0 z1⟩⟩
theorem kk_law (ns : List Int) (h : ns.length ≤ 63) : wpSs ΓL restB (.val (.scr ns) :: .val (.hdl 0) :: List.replicate 12 .un) () (knOf fun d _ => d = .bl true) (fun _ _ _ => False) := by
  refine ⟨rfl, _, rfl, _, rfl, _, ⟨⟨by decide, by rw [b30_eq]; decide⟩, rfl⟩, _, rfl, ?_⟩
  have hb : inB62 (2 + (if (ns.length : Int) < 60 then (ns.length : Int) else 60) / 15) := inB62_small (by split <;> omega) (by split <;> omega)
  refine ⟨hb, ?_⟩
  refine forW_ind (fun ds ρ _ => (∀ d ∈ ds, ∃ i : Int, d = .int i) ∧ ∃ x2 x3 x4 x5 x6 x7 x8 x9 x10 x11 x12 : Sl, ρ = [.val (.scr ns), .val (.hdl 0), x2, x3, x4, x5, x6, x7, x8, x9, x10, x11, x12, .un]) (fun ρ st hP => ?_) (fun d ds ρ st hP => ?_) _ _ _ ⟨fun d hd => ?_, _, _, _, _, _, _, _, _, _, _, _, rfl⟩
  · obtain ⟨_, x2, x3, x4, x5, x6, x7, x8, x9, x10, x11, x12, rfl⟩ := hP
    exact rfl
  · obtain ⟨hd, x2, x3, x4, x5, x6, x7, x8, x9, x10, x11, x12, rfl⟩ := hP
    obtain ⟨i, rfl⟩ := hd d List.mem_cons_self
    refine ⟨[.val (.scr ns), .val (.hdl 0), .val (.int i), x3, x4, x5, x6, x7, x8, x9, x10, x11, x12, .un], rfl, fun nx hn => ?_⟩
    exact w_turn fun y3 y4 y5 y6 y7 y8 y9 y10 y11 y12 => hn _ _ ⟨fun e he => hd e (List.mem_cons_of_mem _ he), _, _, _, _, _, _, _, _, _, _, _, rfl⟩
  · rw [rangeD_eq] at hd
    obtain ⟨k, _, rfl⟩ := List.mem_map.mp hd
    exact ⟨_, rfl⟩
theorem c_rest : cSs (cS 20 30 cs_law []) (defBody s_law).tail = some restB := by rfl
end Pv

end
section
set_option linter.all false
set_option maxRecDepth 100000
set_option maxHeartbeats 4000000
namespace Pv
open PySem PySem.Spec PyProof.Rows L2
theorem all_mk {l : PySem.W.OpenLaw} {w : World} {K : PySem.W.Frag} {h : Heap} {mg : Str → Option Value}
    {fa f_is_whole f_need_whole f_is_note f_need_tune f_is_rising f_style_fault f_need_style f_rest_by f_interval_of f_is_barred_by f_pair_fault f_is_tied f_is_map f_way_fault f_need_way f_need_endless f_map_times f_power_of f_is_backwards f_begin_of f_notes_gone f_place_at f_sung f_common f_joint f_least_over f_never_together f_climbs f_rests_of f_exponent_over f_reach_of f_need_all f_lag_fault f_note_of f_slow_barred f_slow_tied f_slow_fault f_two_fault f_nears_of f_looked_at f_first_of f_need_voices f_first_fault f_is_clean f_most_voices f_law_begun f_law_next_2 f_law_among f_law_rising f_law_style f_law_pitches f_law_tune f_law_rise f_law_way f_law_power f_law_note f_law_gap_2 f_law_words f_law_map f_law_at f_law_lag_pair f_law_slow_pair_2 f_law_measure f_law_both f_law_round f_law_far f_law_clashes f_law_heard f_law : Addr}
    {od_is_whole an_is_whole od_need_whole an_need_whole od_is_note an_is_note od_need_tune an_need_tune od_is_rising an_is_rising od_style_fault an_style_fault od_need_style an_need_style od_rest_by an_rest_by od_interval_of an_interval_of od_is_barred_by an_is_barred_by od_pair_fault an_pair_fault od_is_tied an_is_tied od_is_map an_is_map od_way_fault an_way_fault od_need_way an_need_way od_need_endless an_need_endless od_map_times an_map_times od_power_of an_power_of od_is_backwards an_is_backwards od_begin_of an_begin_of od_notes_gone an_notes_gone od_place_at an_place_at od_sung an_sung od_common an_common od_joint an_joint od_least_over an_least_over od_never_together an_never_together od_climbs an_climbs od_rests_of an_rests_of od_exponent_over an_exponent_over od_reach_of an_reach_of od_need_all an_need_all od_lag_fault an_lag_fault od_note_of an_note_of od_slow_barred an_slow_barred od_slow_tied an_slow_tied od_slow_fault an_slow_fault od_two_fault an_two_fault od_nears_of an_nears_of od_looked_at an_looked_at od_first_of an_first_of od_need_voices an_need_voices od_first_fault an_first_fault od_is_clean an_is_clean od_most_voices an_most_voices od_law_begun an_law_begun od_law_next_2 an_law_next_2 od_law_among an_law_among od_law_rising an_law_rising od_law_style an_law_style od_law_pitches an_law_pitches od_law_tune an_law_tune od_law_rise an_law_rise od_law_way an_law_way od_law_power an_law_power od_law_note an_law_note od_law_gap_2 an_law_gap_2 od_law_words an_law_words od_law_map an_law_map od_law_at an_law_at od_law_lag_pair an_law_lag_pair od_law_slow_pair_2 an_law_slow_pair_2 od_law_measure an_law_measure od_law_both an_law_both od_law_round an_law_round od_law_far an_law_far od_law_clashes an_law_clashes od_law_heard an_law_heard od_law an_law : Option Addr}
    {sl_is_whole sl_need_whole sl_is_note sl_need_tune sl_is_rising sl_style_fault sl_need_style sl_rest_by sl_interval_of sl_is_barred_by sl_pair_fault sl_is_tied sl_is_map sl_way_fault sl_need_way sl_need_endless sl_map_times sl_power_of sl_is_backwards sl_begin_of sl_notes_gone sl_place_at sl_sung sl_common sl_joint sl_least_over sl_never_together sl_climbs sl_rests_of sl_exponent_over sl_reach_of sl_need_all sl_lag_fault sl_note_of sl_slow_barred sl_slow_tied sl_slow_fault sl_two_fault sl_nears_of sl_looked_at sl_first_of sl_need_voices sl_first_fault sl_is_clean sl_most_voices sl_law_begun sl_law_next_2 sl_law_among sl_law_rising sl_law_style sl_law_pitches sl_law_tune sl_law_rise sl_law_way sl_law_power sl_law_note sl_law_gap_2 sl_law_words sl_law_map sl_law_at sl_law_lag_pair sl_law_slow_pair_2 sl_law_measure sl_law_both sl_law_round sl_law_far sl_law_clashes sl_law_heard sl_law : Array (Option Value)}
    {oc_is_whole kV_is_whole dc_is_whole pm_is_whole cd_is_whole ct_is_whole oc_need_whole kV_need_whole dc_need_whole pm_need_whole cd_need_whole ct_need_whole oc_is_note kV_is_note dc_is_note pm_is_note cd_is_note ct_is_note oc_need_tune kV_need_tune dc_need_tune pm_need_tune cd_need_tune ct_need_tune oc_is_rising kV_is_rising dc_is_rising pm_is_rising cd_is_rising ct_is_rising oc_style_fault kV_style_fault dc_style_fault pm_style_fault cd_style_fault ct_style_fault oc_need_style kV_need_style dc_need_style pm_need_style cd_need_style ct_need_style oc_rest_by kV_rest_by dc_rest_by pm_rest_by cd_rest_by ct_rest_by oc_interval_of kV_interval_of dc_interval_of pm_interval_of cd_interval_of ct_interval_of oc_is_barred_by kV_is_barred_by dc_is_barred_by pm_is_barred_by cd_is_barred_by ct_is_barred_by oc_pair_fault kV_pair_fault dc_pair_fault pm_pair_fault cd_pair_fault ct_pair_fault oc_is_tied kV_is_tied dc_is_tied pm_is_tied cd_is_tied ct_is_tied oc_is_map kV_is_map dc_is_map pm_is_map cd_is_map ct_is_map oc_way_fault kV_way_fault dc_way_fault pm_way_fault cd_way_fault ct_way_fault oc_need_way kV_need_way dc_need_way pm_need_way cd_need_way ct_need_way oc_need_endless kV_need_endless dc_need_endless pm_need_endless cd_need_endless ct_need_endless oc_map_times kV_map_times dc_map_times pm_map_times cd_map_times ct_map_times oc_power_of kV_power_of dc_power_of pm_power_of cd_power_of ct_power_of oc_is_backwards kV_is_backwards dc_is_backwards pm_is_backwards cd_is_backwards ct_is_backwards oc_begin_of kV_begin_of dc_begin_of pm_begin_of cd_begin_of ct_begin_of oc_notes_gone kV_notes_gone dc_notes_gone pm_notes_gone cd_notes_gone ct_notes_gone oc_place_at kV_place_at dc_place_at pm_place_at cd_place_at ct_place_at oc_sung kV_sung dc_sung pm_sung cd_sung ct_sung oc_common kV_common dc_common pm_common cd_common ct_common oc_joint kV_joint dc_joint pm_joint cd_joint ct_joint oc_least_over kV_least_over dc_least_over pm_least_over cd_least_over ct_least_over oc_never_together kV_never_together dc_never_together pm_never_together cd_never_together ct_never_together oc_climbs kV_climbs dc_climbs pm_climbs cd_climbs ct_climbs oc_rests_of kV_rests_of dc_rests_of pm_rests_of cd_rests_of ct_rests_of oc_exponent_over kV_exponent_over dc_exponent_over pm_exponent_over cd_exponent_over ct_exponent_over oc_reach_of kV_reach_of dc_reach_of pm_reach_of cd_reach_of ct_reach_of oc_need_all kV_need_all dc_need_all pm_need_all cd_need_all ct_need_all oc_lag_fault kV_lag_fault dc_lag_fault pm_lag_fault cd_lag_fault ct_lag_fault oc_note_of kV_note_of dc_note_of pm_note_of cd_note_of ct_note_of oc_slow_barred kV_slow_barred dc_slow_barred pm_slow_barred cd_slow_barred ct_slow_barred oc_slow_tied kV_slow_tied dc_slow_tied pm_slow_tied cd_slow_tied ct_slow_tied oc_slow_fault kV_slow_fault dc_slow_fault pm_slow_fault cd_slow_fault ct_slow_fault oc_two_fault kV_two_fault dc_two_fault pm_two_fault cd_two_fault ct_two_fault oc_nears_of kV_nears_of dc_nears_of pm_nears_of cd_nears_of ct_nears_of oc_looked_at kV_looked_at dc_looked_at pm_looked_at cd_looked_at ct_looked_at oc_first_of kV_first_of dc_first_of pm_first_of cd_first_of ct_first_of oc_need_voices kV_need_voices dc_need_voices pm_need_voices cd_need_voices ct_need_voices oc_first_fault dc_first_fault pm_first_fault cd_first_fault ct_first_fault oc_is_clean dc_is_clean pm_is_clean cd_is_clean ct_is_clean oc_most_voices dc_most_voices pm_most_voices cd_most_voices ct_most_voices oc_law_begun kV_law_begun dc_law_begun pm_law_begun cd_law_begun ct_law_begun oc_law_next_2 kV_law_next_2 dc_law_next_2 pm_law_next_2 cd_law_next_2 ct_law_next_2 oc_law_among kV_law_among dc_law_among pm_law_among cd_law_among ct_law_among oc_law_rising kV_law_rising dc_law_rising pm_law_rising cd_law_rising ct_law_rising oc_law_style kV_law_style dc_law_style pm_law_style cd_law_style ct_law_style oc_law_pitches kV_law_pitches dc_law_pitches pm_law_pitches cd_law_pitches ct_law_pitches oc_law_tune kV_law_tune dc_law_tune pm_law_tune cd_law_tune ct_law_tune oc_law_rise kV_law_rise dc_law_rise pm_law_rise cd_law_rise ct_law_rise oc_law_way kV_law_way dc_law_way pm_law_way cd_law_way ct_law_way oc_law_power kV_law_power dc_law_power pm_law_power cd_law_power ct_law_power oc_law_note kV_law_note dc_law_note pm_law_note cd_law_note ct_law_note oc_law_gap_2 kV_law_gap_2 dc_law_gap_2 pm_law_gap_2 cd_law_gap_2 ct_law_gap_2 oc_law_words kV_law_words dc_law_words pm_law_words cd_law_words ct_law_words oc_law_map kV_law_map dc_law_map pm_law_map cd_law_map ct_law_map oc_law_at kV_law_at dc_law_at pm_law_at cd_law_at ct_law_at oc_law_lag_pair kV_law_lag_pair dc_law_lag_pair pm_law_lag_pair cd_law_lag_pair ct_law_lag_pair oc_law_slow_pair_2 kV_law_slow_pair_2 dc_law_slow_pair_2 pm_law_slow_pair_2 cd_law_slow_pair_2 ct_law_slow_pair_2 oc_law_measure kV_law_measure dc_law_measure pm_law_measure cd_law_measure ct_law_measure oc_law_both kV_law_both dc_law_both pm_law_both cd_law_both ct_law_both oc_law_round kV_law_round dc_law_round pm_law_round cd_law_round ct_law_round oc_law_far kV_law_far dc_law_far pm_law_far cd_law_far ct_law_far oc_law_clashes kV_law_clashes dc_law_clashes pm_law_clashes cd_law_clashes ct_law_clashes oc_law_heard kV_law_heard dc_law_heard pm_law_heard cd_law_heard ct_law_heard oc_law kV_law dc_law pm_law cd_law ct_law : Value}
    {u_BARRED u_BEYOND u_CROSSED u_HIGHEST u_LAG u_LEAST_FACTOR u_LOWEST u_MOST_FACTOR u_MOST_LAG u_MOST_NOTES u_MOST_RISE u_MOST_SPAN u_MOST_VOICES u_SLOW u_TIED : Value}
    (X : K.In h) (G : h.Ns mainGlobals mg) (hfa : mg "law" = some (.ref fa))
    {kd_first_fault kd_is_clean kd_most_voices : Addr}
    {u_first_fault_voices u_first_fault_endless u_is_clean_voices u_is_clean_endless u_most_voices_endless : Value}
    (ha_is_whole : PySem.W.nsIn K mainGlobals "is_whole" = some (some (.ref f_is_whole)))
    (hl_is_whole : K.lookup f_is_whole = some ⟨oc_is_whole, od_is_whole, .func (PySem.W.fnOf "is_whole" "is_whole" (defArgs s_is_whole) (defBody s_is_whole) (defScope s_is_whole) .none kV_is_whole dc_is_whole pm_is_whole an_is_whole cd_is_whole ct_is_whole), sl_is_whole⟩)
    (hc_is_whole : PySem.W.codeIn K cd_is_whole "is_whole" = true) (hk_is_whole : PySem.W.keepIn K (.ref f_is_whole) = true)
    (ha_need_whole : PySem.W.nsIn K mainGlobals "need_whole" = some (some (.ref f_need_whole)))
    (hl_need_whole : K.lookup f_need_whole = some ⟨oc_need_whole, od_need_whole, .func (PySem.W.fnOf "need_whole" "need_whole" (defArgs s_need_whole) (defBody s_need_whole) (defScope s_need_whole) .none kV_need_whole dc_need_whole pm_need_whole an_need_whole cd_need_whole ct_need_whole), sl_need_whole⟩)
    (hc_need_whole : PySem.W.codeIn K cd_need_whole "need_whole" = true) (hk_need_whole : PySem.W.keepIn K (.ref f_need_whole) = true)
    (ha_is_note : PySem.W.nsIn K mainGlobals "is_note" = some (some (.ref f_is_note)))
    (hl_is_note : K.lookup f_is_note = some ⟨oc_is_note, od_is_note, .func (PySem.W.fnOf "is_note" "is_note" (defArgs s_is_note) (defBody s_is_note) (defScope s_is_note) .none kV_is_note dc_is_note pm_is_note an_is_note cd_is_note ct_is_note), sl_is_note⟩)
    (hc_is_note : PySem.W.codeIn K cd_is_note "is_note" = true) (hk_is_note : PySem.W.keepIn K (.ref f_is_note) = true)
    (ha_need_tune : PySem.W.nsIn K mainGlobals "need_tune" = some (some (.ref f_need_tune)))
    (hl_need_tune : K.lookup f_need_tune = some ⟨oc_need_tune, od_need_tune, .func (PySem.W.fnOf "need_tune" "need_tune" (defArgs s_need_tune) (defBody s_need_tune) (defScope s_need_tune) .none kV_need_tune dc_need_tune pm_need_tune an_need_tune cd_need_tune ct_need_tune), sl_need_tune⟩)
    (hc_need_tune : PySem.W.codeIn K cd_need_tune "need_tune" = true) (hk_need_tune : PySem.W.keepIn K (.ref f_need_tune) = true)
    (ha_is_rising : PySem.W.nsIn K mainGlobals "is_rising" = some (some (.ref f_is_rising)))
    (hl_is_rising : K.lookup f_is_rising = some ⟨oc_is_rising, od_is_rising, .func (PySem.W.fnOf "is_rising" "is_rising" (defArgs s_is_rising) (defBody s_is_rising) (defScope s_is_rising) .none kV_is_rising dc_is_rising pm_is_rising an_is_rising cd_is_rising ct_is_rising), sl_is_rising⟩)
    (hc_is_rising : PySem.W.codeIn K cd_is_rising "is_rising" = true) (hk_is_rising : PySem.W.keepIn K (.ref f_is_rising) = true)
    (ha_style_fault : PySem.W.nsIn K mainGlobals "style_fault" = some (some (.ref f_style_fault)))
    (hl_style_fault : K.lookup f_style_fault = some ⟨oc_style_fault, od_style_fault, .func (PySem.W.fnOf "style_fault" "style_fault" (defArgs s_style_fault) (defBody s_style_fault) (defScope s_style_fault) .none kV_style_fault dc_style_fault pm_style_fault an_style_fault cd_style_fault ct_style_fault), sl_style_fault⟩)
    (hc_style_fault : PySem.W.codeIn K cd_style_fault "style_fault" = true) (hk_style_fault : PySem.W.keepIn K (.ref f_style_fault) = true)
    (ha_need_style : PySem.W.nsIn K mainGlobals "need_style" = some (some (.ref f_need_style)))
    (hl_need_style : K.lookup f_need_style = some ⟨oc_need_style, od_need_style, .func (PySem.W.fnOf "need_style" "need_style" (defArgs s_need_style) (defBody s_need_style) (defScope s_need_style) .none kV_need_style dc_need_style pm_need_style an_need_style cd_need_style ct_need_style), sl_need_style⟩)
    (hc_need_style : PySem.W.codeIn K cd_need_style "need_style" = true) (hk_need_style : PySem.W.keepIn K (.ref f_need_style) = true)
    (ha_rest_by : PySem.W.nsIn K mainGlobals "rest_by" = some (some (.ref f_rest_by)))
    (hl_rest_by : K.lookup f_rest_by = some ⟨oc_rest_by, od_rest_by, .func (PySem.W.fnOf "rest_by" "rest_by" (defArgs s_rest_by) (defBody s_rest_by) (defScope s_rest_by) .none kV_rest_by dc_rest_by pm_rest_by an_rest_by cd_rest_by ct_rest_by), sl_rest_by⟩)
    (hc_rest_by : PySem.W.codeIn K cd_rest_by "rest_by" = true) (hk_rest_by : PySem.W.keepIn K (.ref f_rest_by) = true)
    (ha_interval_of : PySem.W.nsIn K mainGlobals "interval_of" = some (some (.ref f_interval_of)))
    (hl_interval_of : K.lookup f_interval_of = some ⟨oc_interval_of, od_interval_of, .func (PySem.W.fnOf "interval_of" "interval_of" (defArgs s_interval_of) (defBody s_interval_of) (defScope s_interval_of) .none kV_interval_of dc_interval_of pm_interval_of an_interval_of cd_interval_of ct_interval_of), sl_interval_of⟩)
    (hc_interval_of : PySem.W.codeIn K cd_interval_of "interval_of" = true) (hk_interval_of : PySem.W.keepIn K (.ref f_interval_of) = true)
    (ha_is_barred_by : PySem.W.nsIn K mainGlobals "is_barred_by" = some (some (.ref f_is_barred_by)))
    (hl_is_barred_by : K.lookup f_is_barred_by = some ⟨oc_is_barred_by, od_is_barred_by, .func (PySem.W.fnOf "is_barred_by" "is_barred_by" (defArgs s_is_barred_by) (defBody s_is_barred_by) (defScope s_is_barred_by) .none kV_is_barred_by dc_is_barred_by pm_is_barred_by an_is_barred_by cd_is_barred_by ct_is_barred_by), sl_is_barred_by⟩)
    (hc_is_barred_by : PySem.W.codeIn K cd_is_barred_by "is_barred_by" = true) (hk_is_barred_by : PySem.W.keepIn K (.ref f_is_barred_by) = true)
    (ha_pair_fault : PySem.W.nsIn K mainGlobals "pair_fault" = some (some (.ref f_pair_fault)))
    (hl_pair_fault : K.lookup f_pair_fault = some ⟨oc_pair_fault, od_pair_fault, .func (PySem.W.fnOf "pair_fault" "pair_fault" (defArgs s_pair_fault) (defBody s_pair_fault) (defScope s_pair_fault) .none kV_pair_fault dc_pair_fault pm_pair_fault an_pair_fault cd_pair_fault ct_pair_fault), sl_pair_fault⟩)
    (hc_pair_fault : PySem.W.codeIn K cd_pair_fault "pair_fault" = true) (hk_pair_fault : PySem.W.keepIn K (.ref f_pair_fault) = true)
    (ha_is_tied : PySem.W.nsIn K mainGlobals "is_tied" = some (some (.ref f_is_tied)))
    (hl_is_tied : K.lookup f_is_tied = some ⟨oc_is_tied, od_is_tied, .func (PySem.W.fnOf "is_tied" "is_tied" (defArgs s_is_tied) (defBody s_is_tied) (defScope s_is_tied) .none kV_is_tied dc_is_tied pm_is_tied an_is_tied cd_is_tied ct_is_tied), sl_is_tied⟩)
    (hc_is_tied : PySem.W.codeIn K cd_is_tied "is_tied" = true) (hk_is_tied : PySem.W.keepIn K (.ref f_is_tied) = true)
    (ha_is_map : PySem.W.nsIn K mainGlobals "is_map" = some (some (.ref f_is_map)))
    (hl_is_map : K.lookup f_is_map = some ⟨oc_is_map, od_is_map, .func (PySem.W.fnOf "is_map" "is_map" (defArgs s_is_map) (defBody s_is_map) (defScope s_is_map) .none kV_is_map dc_is_map pm_is_map an_is_map cd_is_map ct_is_map), sl_is_map⟩)
    (hc_is_map : PySem.W.codeIn K cd_is_map "is_map" = true) (hk_is_map : PySem.W.keepIn K (.ref f_is_map) = true)
    (ha_way_fault : PySem.W.nsIn K mainGlobals "way_fault" = some (some (.ref f_way_fault)))
    (hl_way_fault : K.lookup f_way_fault = some ⟨oc_way_fault, od_way_fault, .func (PySem.W.fnOf "way_fault" "way_fault" (defArgs s_way_fault) (defBody s_way_fault) (defScope s_way_fault) .none kV_way_fault dc_way_fault pm_way_fault an_way_fault cd_way_fault ct_way_fault), sl_way_fault⟩)
    (hc_way_fault : PySem.W.codeIn K cd_way_fault "way_fault" = true) (hk_way_fault : PySem.W.keepIn K (.ref f_way_fault) = true)
    (ha_need_way : PySem.W.nsIn K mainGlobals "need_way" = some (some (.ref f_need_way)))
    (hl_need_way : K.lookup f_need_way = some ⟨oc_need_way, od_need_way, .func (PySem.W.fnOf "need_way" "need_way" (defArgs s_need_way) (defBody s_need_way) (defScope s_need_way) .none kV_need_way dc_need_way pm_need_way an_need_way cd_need_way ct_need_way), sl_need_way⟩)
    (hc_need_way : PySem.W.codeIn K cd_need_way "need_way" = true) (hk_need_way : PySem.W.keepIn K (.ref f_need_way) = true)
    (ha_need_endless : PySem.W.nsIn K mainGlobals "need_endless" = some (some (.ref f_need_endless)))
    (hl_need_endless : K.lookup f_need_endless = some ⟨oc_need_endless, od_need_endless, .func (PySem.W.fnOf "need_endless" "need_endless" (defArgs s_need_endless) (defBody s_need_endless) (defScope s_need_endless) .none kV_need_endless dc_need_endless pm_need_endless an_need_endless cd_need_endless ct_need_endless), sl_need_endless⟩)
    (hc_need_endless : PySem.W.codeIn K cd_need_endless "need_endless" = true) (hk_need_endless : PySem.W.keepIn K (.ref f_need_endless) = true)
    (ha_map_times : PySem.W.nsIn K mainGlobals "map_times" = some (some (.ref f_map_times)))
    (hl_map_times : K.lookup f_map_times = some ⟨oc_map_times, od_map_times, .func (PySem.W.fnOf "map_times" "map_times" (defArgs s_map_times) (defBody s_map_times) (defScope s_map_times) .none kV_map_times dc_map_times pm_map_times an_map_times cd_map_times ct_map_times), sl_map_times⟩)
    (hc_map_times : PySem.W.codeIn K cd_map_times "map_times" = true) (hk_map_times : PySem.W.keepIn K (.ref f_map_times) = true)
    (ha_power_of : PySem.W.nsIn K mainGlobals "power_of" = some (some (.ref f_power_of)))
    (hl_power_of : K.lookup f_power_of = some ⟨oc_power_of, od_power_of, .func (PySem.W.fnOf "power_of" "power_of" (defArgs s_power_of) (defBody s_power_of) (defScope s_power_of) .none kV_power_of dc_power_of pm_power_of an_power_of cd_power_of ct_power_of), sl_power_of⟩)
    (hc_power_of : PySem.W.codeIn K cd_power_of "power_of" = true) (hk_power_of : PySem.W.keepIn K (.ref f_power_of) = true)
    (ha_is_backwards : PySem.W.nsIn K mainGlobals "is_backwards" = some (some (.ref f_is_backwards)))
    (hl_is_backwards : K.lookup f_is_backwards = some ⟨oc_is_backwards, od_is_backwards, .func (PySem.W.fnOf "is_backwards" "is_backwards" (defArgs s_is_backwards) (defBody s_is_backwards) (defScope s_is_backwards) .none kV_is_backwards dc_is_backwards pm_is_backwards an_is_backwards cd_is_backwards ct_is_backwards), sl_is_backwards⟩)
    (hc_is_backwards : PySem.W.codeIn K cd_is_backwards "is_backwards" = true) (hk_is_backwards : PySem.W.keepIn K (.ref f_is_backwards) = true)
    (ha_begin_of : PySem.W.nsIn K mainGlobals "begin_of" = some (some (.ref f_begin_of)))
    (hl_begin_of : K.lookup f_begin_of = some ⟨oc_begin_of, od_begin_of, .func (PySem.W.fnOf "begin_of" "begin_of" (defArgs s_begin_of) (defBody s_begin_of) (defScope s_begin_of) .none kV_begin_of dc_begin_of pm_begin_of an_begin_of cd_begin_of ct_begin_of), sl_begin_of⟩)
    (hc_begin_of : PySem.W.codeIn K cd_begin_of "begin_of" = true) (hk_begin_of : PySem.W.keepIn K (.ref f_begin_of) = true)
    (ha_notes_gone : PySem.W.nsIn K mainGlobals "notes_gone" = some (some (.ref f_notes_gone)))
    (hl_notes_gone : K.lookup f_notes_gone = some ⟨oc_notes_gone, od_notes_gone, .func (PySem.W.fnOf "notes_gone" "notes_gone" (defArgs s_notes_gone) (defBody s_notes_gone) (defScope s_notes_gone) .none kV_notes_gone dc_notes_gone pm_notes_gone an_notes_gone cd_notes_gone ct_notes_gone), sl_notes_gone⟩)
    (hc_notes_gone : PySem.W.codeIn K cd_notes_gone "notes_gone" = true) (hk_notes_gone : PySem.W.keepIn K (.ref f_notes_gone) = true)
    (ha_place_at : PySem.W.nsIn K mainGlobals "place_at" = some (some (.ref f_place_at)))
    (hl_place_at : K.lookup f_place_at = some ⟨oc_place_at, od_place_at, .func (PySem.W.fnOf "place_at" "place_at" (defArgs s_place_at) (defBody s_place_at) (defScope s_place_at) .none kV_place_at dc_place_at pm_place_at an_place_at cd_place_at ct_place_at), sl_place_at⟩)
    (hc_place_at : PySem.W.codeIn K cd_place_at "place_at" = true) (hk_place_at : PySem.W.keepIn K (.ref f_place_at) = true)
    (ha_sung : PySem.W.nsIn K mainGlobals "sung" = some (some (.ref f_sung)))
    (hl_sung : K.lookup f_sung = some ⟨oc_sung, od_sung, .func (PySem.W.fnOf "sung" "sung" (defArgs s_sung) (defBody s_sung) (defScope s_sung) .none kV_sung dc_sung pm_sung an_sung cd_sung ct_sung), sl_sung⟩)
    (hc_sung : PySem.W.codeIn K cd_sung "sung" = true) (hk_sung : PySem.W.keepIn K (.ref f_sung) = true)
    (ha_common : PySem.W.nsIn K mainGlobals "common" = some (some (.ref f_common)))
    (hl_common : K.lookup f_common = some ⟨oc_common, od_common, .func (PySem.W.fnOf "common" "common" (defArgs s_common) (defBody s_common) (defScope s_common) .none kV_common dc_common pm_common an_common cd_common ct_common), sl_common⟩)
    (hc_common : PySem.W.codeIn K cd_common "common" = true) (hk_common : PySem.W.keepIn K (.ref f_common) = true)
    (ha_joint : PySem.W.nsIn K mainGlobals "joint" = some (some (.ref f_joint)))
    (hl_joint : K.lookup f_joint = some ⟨oc_joint, od_joint, .func (PySem.W.fnOf "joint" "joint" (defArgs s_joint) (defBody s_joint) (defScope s_joint) .none kV_joint dc_joint pm_joint an_joint cd_joint ct_joint), sl_joint⟩)
    (hc_joint : PySem.W.codeIn K cd_joint "joint" = true) (hk_joint : PySem.W.keepIn K (.ref f_joint) = true)
    (ha_least_over : PySem.W.nsIn K mainGlobals "least_over" = some (some (.ref f_least_over)))
    (hl_least_over : K.lookup f_least_over = some ⟨oc_least_over, od_least_over, .func (PySem.W.fnOf "least_over" "least_over" (defArgs s_least_over) (defBody s_least_over) (defScope s_least_over) .none kV_least_over dc_least_over pm_least_over an_least_over cd_least_over ct_least_over), sl_least_over⟩)
    (hc_least_over : PySem.W.codeIn K cd_least_over "least_over" = true) (hk_least_over : PySem.W.keepIn K (.ref f_least_over) = true)
    (ha_never_together : PySem.W.nsIn K mainGlobals "never_together" = some (some (.ref f_never_together)))
    (hl_never_together : K.lookup f_never_together = some ⟨oc_never_together, od_never_together, .func (PySem.W.fnOf "never_together" "never_together" (defArgs s_never_together) (defBody s_never_together) (defScope s_never_together) .none kV_never_together dc_never_together pm_never_together an_never_together cd_never_together ct_never_together), sl_never_together⟩)
    (hc_never_together : PySem.W.codeIn K cd_never_together "never_together" = true) (hk_never_together : PySem.W.keepIn K (.ref f_never_together) = true)
    (ha_climbs : PySem.W.nsIn K mainGlobals "climbs" = some (some (.ref f_climbs)))
    (hl_climbs : K.lookup f_climbs = some ⟨oc_climbs, od_climbs, .func (PySem.W.fnOf "climbs" "climbs" (defArgs s_climbs) (defBody s_climbs) (defScope s_climbs) .none kV_climbs dc_climbs pm_climbs an_climbs cd_climbs ct_climbs), sl_climbs⟩)
    (hc_climbs : PySem.W.codeIn K cd_climbs "climbs" = true) (hk_climbs : PySem.W.keepIn K (.ref f_climbs) = true)
    (ha_rests_of : PySem.W.nsIn K mainGlobals "rests_of" = some (some (.ref f_rests_of)))
    (hl_rests_of : K.lookup f_rests_of = some ⟨oc_rests_of, od_rests_of, .func (PySem.W.fnOf "rests_of" "rests_of" (defArgs s_rests_of) (defBody s_rests_of) (defScope s_rests_of) .none kV_rests_of dc_rests_of pm_rests_of an_rests_of cd_rests_of ct_rests_of), sl_rests_of⟩)
    (hc_rests_of : PySem.W.codeIn K cd_rests_of "rests_of" = true) (hk_rests_of : PySem.W.keepIn K (.ref f_rests_of) = true)
    (ha_exponent_over : PySem.W.nsIn K mainGlobals "exponent_over" = some (some (.ref f_exponent_over)))
    (hl_exponent_over : K.lookup f_exponent_over = some ⟨oc_exponent_over, od_exponent_over, .func (PySem.W.fnOf "exponent_over" "exponent_over" (defArgs s_exponent_over) (defBody s_exponent_over) (defScope s_exponent_over) .none kV_exponent_over dc_exponent_over pm_exponent_over an_exponent_over cd_exponent_over ct_exponent_over), sl_exponent_over⟩)
    (hc_exponent_over : PySem.W.codeIn K cd_exponent_over "exponent_over" = true) (hk_exponent_over : PySem.W.keepIn K (.ref f_exponent_over) = true)
    (ha_reach_of : PySem.W.nsIn K mainGlobals "reach_of" = some (some (.ref f_reach_of)))
    (hl_reach_of : K.lookup f_reach_of = some ⟨oc_reach_of, od_reach_of, .func (PySem.W.fnOf "reach_of" "reach_of" (defArgs s_reach_of) (defBody s_reach_of) (defScope s_reach_of) .none kV_reach_of dc_reach_of pm_reach_of an_reach_of cd_reach_of ct_reach_of), sl_reach_of⟩)
    (hc_reach_of : PySem.W.codeIn K cd_reach_of "reach_of" = true) (hk_reach_of : PySem.W.keepIn K (.ref f_reach_of) = true)
    (ha_need_all : PySem.W.nsIn K mainGlobals "need_all" = some (some (.ref f_need_all)))
    (hl_need_all : K.lookup f_need_all = some ⟨oc_need_all, od_need_all, .func (PySem.W.fnOf "need_all" "need_all" (defArgs s_need_all) (defBody s_need_all) (defScope s_need_all) .none kV_need_all dc_need_all pm_need_all an_need_all cd_need_all ct_need_all), sl_need_all⟩)
    (hc_need_all : PySem.W.codeIn K cd_need_all "need_all" = true) (hk_need_all : PySem.W.keepIn K (.ref f_need_all) = true)
    (ha_lag_fault : PySem.W.nsIn K mainGlobals "lag_fault" = some (some (.ref f_lag_fault)))
    (hl_lag_fault : K.lookup f_lag_fault = some ⟨oc_lag_fault, od_lag_fault, .func (PySem.W.fnOf "lag_fault" "lag_fault" (defArgs s_lag_fault) (defBody s_lag_fault) (defScope s_lag_fault) .none kV_lag_fault dc_lag_fault pm_lag_fault an_lag_fault cd_lag_fault ct_lag_fault), sl_lag_fault⟩)
    (hc_lag_fault : PySem.W.codeIn K cd_lag_fault "lag_fault" = true) (hk_lag_fault : PySem.W.keepIn K (.ref f_lag_fault) = true)
    (ha_note_of : PySem.W.nsIn K mainGlobals "note_of" = some (some (.ref f_note_of)))
    (hl_note_of : K.lookup f_note_of = some ⟨oc_note_of, od_note_of, .func (PySem.W.fnOf "note_of" "note_of" (defArgs s_note_of) (defBody s_note_of) (defScope s_note_of) .none kV_note_of dc_note_of pm_note_of an_note_of cd_note_of ct_note_of), sl_note_of⟩)
    (hc_note_of : PySem.W.codeIn K cd_note_of "note_of" = true) (hk_note_of : PySem.W.keepIn K (.ref f_note_of) = true)
    (ha_slow_barred : PySem.W.nsIn K mainGlobals "slow_barred" = some (some (.ref f_slow_barred)))
    (hl_slow_barred : K.lookup f_slow_barred = some ⟨oc_slow_barred, od_slow_barred, .func (PySem.W.fnOf "slow_barred" "slow_barred" (defArgs s_slow_barred) (defBody s_slow_barred) (defScope s_slow_barred) .none kV_slow_barred dc_slow_barred pm_slow_barred an_slow_barred cd_slow_barred ct_slow_barred), sl_slow_barred⟩)
    (hc_slow_barred : PySem.W.codeIn K cd_slow_barred "slow_barred" = true) (hk_slow_barred : PySem.W.keepIn K (.ref f_slow_barred) = true)
    (ha_slow_tied : PySem.W.nsIn K mainGlobals "slow_tied" = some (some (.ref f_slow_tied)))
    (hl_slow_tied : K.lookup f_slow_tied = some ⟨oc_slow_tied, od_slow_tied, .func (PySem.W.fnOf "slow_tied" "slow_tied" (defArgs s_slow_tied) (defBody s_slow_tied) (defScope s_slow_tied) .none kV_slow_tied dc_slow_tied pm_slow_tied an_slow_tied cd_slow_tied ct_slow_tied), sl_slow_tied⟩)
    (hc_slow_tied : PySem.W.codeIn K cd_slow_tied "slow_tied" = true) (hk_slow_tied : PySem.W.keepIn K (.ref f_slow_tied) = true)
    (ha_slow_fault : PySem.W.nsIn K mainGlobals "slow_fault" = some (some (.ref f_slow_fault)))
    (hl_slow_fault : K.lookup f_slow_fault = some ⟨oc_slow_fault, od_slow_fault, .func (PySem.W.fnOf "slow_fault" "slow_fault" (defArgs s_slow_fault) (defBody s_slow_fault) (defScope s_slow_fault) .none kV_slow_fault dc_slow_fault pm_slow_fault an_slow_fault cd_slow_fault ct_slow_fault), sl_slow_fault⟩)
    (hc_slow_fault : PySem.W.codeIn K cd_slow_fault "slow_fault" = true) (hk_slow_fault : PySem.W.keepIn K (.ref f_slow_fault) = true)
    (ha_two_fault : PySem.W.nsIn K mainGlobals "two_fault" = some (some (.ref f_two_fault)))
    (hl_two_fault : K.lookup f_two_fault = some ⟨oc_two_fault, od_two_fault, .func (PySem.W.fnOf "two_fault" "two_fault" (defArgs s_two_fault) (defBody s_two_fault) (defScope s_two_fault) .none kV_two_fault dc_two_fault pm_two_fault an_two_fault cd_two_fault ct_two_fault), sl_two_fault⟩)
    (hc_two_fault : PySem.W.codeIn K cd_two_fault "two_fault" = true) (hk_two_fault : PySem.W.keepIn K (.ref f_two_fault) = true)
    (ha_nears_of : PySem.W.nsIn K mainGlobals "nears_of" = some (some (.ref f_nears_of)))
    (hl_nears_of : K.lookup f_nears_of = some ⟨oc_nears_of, od_nears_of, .func (PySem.W.fnOf "nears_of" "nears_of" (defArgs s_nears_of) (defBody s_nears_of) (defScope s_nears_of) .none kV_nears_of dc_nears_of pm_nears_of an_nears_of cd_nears_of ct_nears_of), sl_nears_of⟩)
    (hc_nears_of : PySem.W.codeIn K cd_nears_of "nears_of" = true) (hk_nears_of : PySem.W.keepIn K (.ref f_nears_of) = true)
    (ha_looked_at : PySem.W.nsIn K mainGlobals "looked_at" = some (some (.ref f_looked_at)))
    (hl_looked_at : K.lookup f_looked_at = some ⟨oc_looked_at, od_looked_at, .func (PySem.W.fnOf "looked_at" "looked_at" (defArgs s_looked_at) (defBody s_looked_at) (defScope s_looked_at) .none kV_looked_at dc_looked_at pm_looked_at an_looked_at cd_looked_at ct_looked_at), sl_looked_at⟩)
    (hc_looked_at : PySem.W.codeIn K cd_looked_at "looked_at" = true) (hk_looked_at : PySem.W.keepIn K (.ref f_looked_at) = true)
    (ha_first_of : PySem.W.nsIn K mainGlobals "first_of" = some (some (.ref f_first_of)))
    (hl_first_of : K.lookup f_first_of = some ⟨oc_first_of, od_first_of, .func (PySem.W.fnOf "first_of" "first_of" (defArgs s_first_of) (defBody s_first_of) (defScope s_first_of) .none kV_first_of dc_first_of pm_first_of an_first_of cd_first_of ct_first_of), sl_first_of⟩)
    (hc_first_of : PySem.W.codeIn K cd_first_of "first_of" = true) (hk_first_of : PySem.W.keepIn K (.ref f_first_of) = true)
    (ha_need_voices : PySem.W.nsIn K mainGlobals "need_voices" = some (some (.ref f_need_voices)))
    (hl_need_voices : K.lookup f_need_voices = some ⟨oc_need_voices, od_need_voices, .func (PySem.W.fnOf "need_voices" "need_voices" (defArgs s_need_voices) (defBody s_need_voices) (defScope s_need_voices) .none kV_need_voices dc_need_voices pm_need_voices an_need_voices cd_need_voices ct_need_voices), sl_need_voices⟩)
    (hc_need_voices : PySem.W.codeIn K cd_need_voices "need_voices" = true) (hk_need_voices : PySem.W.keepIn K (.ref f_need_voices) = true)
    (ha_first_fault : PySem.W.nsIn K mainGlobals "first_fault" = some (some (.ref f_first_fault)))
    (hl_first_fault : K.lookup f_first_fault = some ⟨oc_first_fault, od_first_fault, .func (PySem.W.fnOf "first_fault" "first_fault" (defArgs s_first_fault) (defBody s_first_fault) (defScope s_first_fault) .none (.ref kd_first_fault) dc_first_fault pm_first_fault an_first_fault cd_first_fault ct_first_fault), sl_first_fault⟩)
    (w_first_fault_voices : PySem.W.nsIn K kd_first_fault "voices" = some (some u_first_fault_voices)) (r_first_fault_voices : RelV (V.non) u_first_fault_voices)
    (w_first_fault_endless : PySem.W.nsIn K kd_first_fault "endless" = some (some u_first_fault_endless)) (r_first_fault_endless : RelV (V.bl false) u_first_fault_endless)
    (hc_first_fault : PySem.W.codeIn K cd_first_fault "first_fault" = true) (hk_first_fault : PySem.W.keepIn K (.ref f_first_fault) = true)
    (ha_is_clean : PySem.W.nsIn K mainGlobals "is_clean" = some (some (.ref f_is_clean)))
    (hl_is_clean : K.lookup f_is_clean = some ⟨oc_is_clean, od_is_clean, .func (PySem.W.fnOf "is_clean" "is_clean" (defArgs s_is_clean) (defBody s_is_clean) (defScope s_is_clean) .none (.ref kd_is_clean) dc_is_clean pm_is_clean an_is_clean cd_is_clean ct_is_clean), sl_is_clean⟩)
    (w_is_clean_voices : PySem.W.nsIn K kd_is_clean "voices" = some (some u_is_clean_voices)) (r_is_clean_voices : RelV (V.non) u_is_clean_voices)
    (w_is_clean_endless : PySem.W.nsIn K kd_is_clean "endless" = some (some u_is_clean_endless)) (r_is_clean_endless : RelV (V.bl false) u_is_clean_endless)
    (hc_is_clean : PySem.W.codeIn K cd_is_clean "is_clean" = true) (hk_is_clean : PySem.W.keepIn K (.ref f_is_clean) = true)
    (ha_most_voices : PySem.W.nsIn K mainGlobals "most_voices" = some (some (.ref f_most_voices)))
    (hl_most_voices : K.lookup f_most_voices = some ⟨oc_most_voices, od_most_voices, .func (PySem.W.fnOf "most_voices" "most_voices" (defArgs s_most_voices) (defBody s_most_voices) (defScope s_most_voices) .none (.ref kd_most_voices) dc_most_voices pm_most_voices an_most_voices cd_most_voices ct_most_voices), sl_most_voices⟩)
    (w_most_voices_endless : PySem.W.nsIn K kd_most_voices "endless" = some (some u_most_voices_endless)) (r_most_voices_endless : RelV (V.bl false) u_most_voices_endless)
    (hc_most_voices : PySem.W.codeIn K cd_most_voices "most_voices" = true) (hk_most_voices : PySem.W.keepIn K (.ref f_most_voices) = true)
    (ha_law_begun : PySem.W.nsIn K mainGlobals "_law_begun" = some (some (.ref f_law_begun)))
    (hl_law_begun : K.lookup f_law_begun = some ⟨oc_law_begun, od_law_begun, .func (PySem.W.fnOf "_law_begun" "_law_begun" (defArgs s_law_begun) (defBody s_law_begun) (defScope s_law_begun) .none kV_law_begun dc_law_begun pm_law_begun an_law_begun cd_law_begun ct_law_begun), sl_law_begun⟩)
    (hc_law_begun : PySem.W.codeIn K cd_law_begun "_law_begun" = true) (hk_law_begun : PySem.W.keepIn K (.ref f_law_begun) = true)
    (ha_law_next_2 : PySem.W.nsIn K mainGlobals "_law_next" = some (some (.ref f_law_next_2)))
    (hl_law_next_2 : K.lookup f_law_next_2 = some ⟨oc_law_next_2, od_law_next_2, .func (PySem.W.fnOf "_law_next" "_law_next" (defArgs s_law_next_2) (defBody s_law_next_2) (defScope s_law_next_2) .none kV_law_next_2 dc_law_next_2 pm_law_next_2 an_law_next_2 cd_law_next_2 ct_law_next_2), sl_law_next_2⟩)
    (hc_law_next_2 : PySem.W.codeIn K cd_law_next_2 "_law_next" = true) (hk_law_next_2 : PySem.W.keepIn K (.ref f_law_next_2) = true)
    (ha_law_among : PySem.W.nsIn K mainGlobals "_law_among" = some (some (.ref f_law_among)))
    (hl_law_among : K.lookup f_law_among = some ⟨oc_law_among, od_law_among, .func (PySem.W.fnOf "_law_among" "_law_among" (defArgs s_law_among) (defBody s_law_among) (defScope s_law_among) .none kV_law_among dc_law_among pm_law_among an_law_among cd_law_among ct_law_among), sl_law_among⟩)
    (hc_law_among : PySem.W.codeIn K cd_law_among "_law_among" = true) (hk_law_among : PySem.W.keepIn K (.ref f_law_among) = true)
    (ha_law_rising : PySem.W.nsIn K mainGlobals "_law_rising" = some (some (.ref f_law_rising)))
    (hl_law_rising : K.lookup f_law_rising = some ⟨oc_law_rising, od_law_rising, .func (PySem.W.fnOf "_law_rising" "_law_rising" (defArgs s_law_rising) (defBody s_law_rising) (defScope s_law_rising) .none kV_law_rising dc_law_rising pm_law_rising an_law_rising cd_law_rising ct_law_rising), sl_law_rising⟩)
    (hc_law_rising : PySem.W.codeIn K cd_law_rising "_law_rising" = true) (hk_law_rising : PySem.W.keepIn K (.ref f_law_rising) = true)
    (ha_law_style : PySem.W.nsIn K mainGlobals "_law_style" = some (some (.ref f_law_style)))
    (hl_law_style : K.lookup f_law_style = some ⟨oc_law_style, od_law_style, .func (PySem.W.fnOf "_law_style" "_law_style" (defArgs s_law_style) (defBody s_law_style) (defScope s_law_style) .none kV_law_style dc_law_style pm_law_style an_law_style cd_law_style ct_law_style), sl_law_style⟩)
    (hc_law_style : PySem.W.codeIn K cd_law_style "_law_style" = true) (hk_law_style : PySem.W.keepIn K (.ref f_law_style) = true)
    (ha_law_pitches : PySem.W.nsIn K mainGlobals "_law_pitches" = some (some (.ref f_law_pitches)))
    (hl_law_pitches : K.lookup f_law_pitches = some ⟨oc_law_pitches, od_law_pitches, .func (PySem.W.fnOf "_law_pitches" "_law_pitches" (defArgs s_law_pitches) (defBody s_law_pitches) (defScope s_law_pitches) .none kV_law_pitches dc_law_pitches pm_law_pitches an_law_pitches cd_law_pitches ct_law_pitches), sl_law_pitches⟩)
    (hc_law_pitches : PySem.W.codeIn K cd_law_pitches "_law_pitches" = true) (hk_law_pitches : PySem.W.keepIn K (.ref f_law_pitches) = true)
    (ha_law_tune : PySem.W.nsIn K mainGlobals "_law_tune" = some (some (.ref f_law_tune)))
    (hl_law_tune : K.lookup f_law_tune = some ⟨oc_law_tune, od_law_tune, .func (PySem.W.fnOf "_law_tune" "_law_tune" (defArgs s_law_tune) (defBody s_law_tune) (defScope s_law_tune) .none kV_law_tune dc_law_tune pm_law_tune an_law_tune cd_law_tune ct_law_tune), sl_law_tune⟩)
    (hc_law_tune : PySem.W.codeIn K cd_law_tune "_law_tune" = true) (hk_law_tune : PySem.W.keepIn K (.ref f_law_tune) = true)
    (ha_law_rise : PySem.W.nsIn K mainGlobals "_law_rise" = some (some (.ref f_law_rise)))
    (hl_law_rise : K.lookup f_law_rise = some ⟨oc_law_rise, od_law_rise, .func (PySem.W.fnOf "_law_rise" "_law_rise" (defArgs s_law_rise) (defBody s_law_rise) (defScope s_law_rise) .none kV_law_rise dc_law_rise pm_law_rise an_law_rise cd_law_rise ct_law_rise), sl_law_rise⟩)
    (hc_law_rise : PySem.W.codeIn K cd_law_rise "_law_rise" = true) (hk_law_rise : PySem.W.keepIn K (.ref f_law_rise) = true)
    (ha_law_way : PySem.W.nsIn K mainGlobals "_law_way" = some (some (.ref f_law_way)))
    (hl_law_way : K.lookup f_law_way = some ⟨oc_law_way, od_law_way, .func (PySem.W.fnOf "_law_way" "_law_way" (defArgs s_law_way) (defBody s_law_way) (defScope s_law_way) .none kV_law_way dc_law_way pm_law_way an_law_way cd_law_way ct_law_way), sl_law_way⟩)
    (hc_law_way : PySem.W.codeIn K cd_law_way "_law_way" = true) (hk_law_way : PySem.W.keepIn K (.ref f_law_way) = true)
    (ha_law_power : PySem.W.nsIn K mainGlobals "_law_power" = some (some (.ref f_law_power)))
    (hl_law_power : K.lookup f_law_power = some ⟨oc_law_power, od_law_power, .func (PySem.W.fnOf "_law_power" "_law_power" (defArgs s_law_power) (defBody s_law_power) (defScope s_law_power) .none kV_law_power dc_law_power pm_law_power an_law_power cd_law_power ct_law_power), sl_law_power⟩)
    (hc_law_power : PySem.W.codeIn K cd_law_power "_law_power" = true) (hk_law_power : PySem.W.keepIn K (.ref f_law_power) = true)
    (ha_law_note : PySem.W.nsIn K mainGlobals "_law_note" = some (some (.ref f_law_note)))
    (hl_law_note : K.lookup f_law_note = some ⟨oc_law_note, od_law_note, .func (PySem.W.fnOf "_law_note" "_law_note" (defArgs s_law_note) (defBody s_law_note) (defScope s_law_note) .none kV_law_note dc_law_note pm_law_note an_law_note cd_law_note ct_law_note), sl_law_note⟩)
    (hc_law_note : PySem.W.codeIn K cd_law_note "_law_note" = true) (hk_law_note : PySem.W.keepIn K (.ref f_law_note) = true)
    (ha_law_gap_2 : PySem.W.nsIn K mainGlobals "_law_gap" = some (some (.ref f_law_gap_2)))
    (hl_law_gap_2 : K.lookup f_law_gap_2 = some ⟨oc_law_gap_2, od_law_gap_2, .func (PySem.W.fnOf "_law_gap" "_law_gap" (defArgs s_law_gap_2) (defBody s_law_gap_2) (defScope s_law_gap_2) .none kV_law_gap_2 dc_law_gap_2 pm_law_gap_2 an_law_gap_2 cd_law_gap_2 ct_law_gap_2), sl_law_gap_2⟩)
    (hc_law_gap_2 : PySem.W.codeIn K cd_law_gap_2 "_law_gap" = true) (hk_law_gap_2 : PySem.W.keepIn K (.ref f_law_gap_2) = true)
    (ha_law_words : PySem.W.nsIn K mainGlobals "_law_words" = some (some (.ref f_law_words)))
    (hl_law_words : K.lookup f_law_words = some ⟨oc_law_words, od_law_words, .func (PySem.W.fnOf "_law_words" "_law_words" (defArgs s_law_words) (defBody s_law_words) (defScope s_law_words) .none kV_law_words dc_law_words pm_law_words an_law_words cd_law_words ct_law_words), sl_law_words⟩)
    (hc_law_words : PySem.W.codeIn K cd_law_words "_law_words" = true) (hk_law_words : PySem.W.keepIn K (.ref f_law_words) = true)
    (ha_law_map : PySem.W.nsIn K mainGlobals "_law_map" = some (some (.ref f_law_map)))
    (hl_law_map : K.lookup f_law_map = some ⟨oc_law_map, od_law_map, .func (PySem.W.fnOf "_law_map" "_law_map" (defArgs s_law_map) (defBody s_law_map) (defScope s_law_map) .none kV_law_map dc_law_map pm_law_map an_law_map cd_law_map ct_law_map), sl_law_map⟩)
    (hc_law_map : PySem.W.codeIn K cd_law_map "_law_map" = true) (hk_law_map : PySem.W.keepIn K (.ref f_law_map) = true)
    (ha_law_at : PySem.W.nsIn K mainGlobals "_law_at" = some (some (.ref f_law_at)))
    (hl_law_at : K.lookup f_law_at = some ⟨oc_law_at, od_law_at, .func (PySem.W.fnOf "_law_at" "_law_at" (defArgs s_law_at) (defBody s_law_at) (defScope s_law_at) .none kV_law_at dc_law_at pm_law_at an_law_at cd_law_at ct_law_at), sl_law_at⟩)
    (hc_law_at : PySem.W.codeIn K cd_law_at "_law_at" = true) (hk_law_at : PySem.W.keepIn K (.ref f_law_at) = true)
    (ha_law_lag_pair : PySem.W.nsIn K mainGlobals "_law_lag_pair" = some (some (.ref f_law_lag_pair)))
    (hl_law_lag_pair : K.lookup f_law_lag_pair = some ⟨oc_law_lag_pair, od_law_lag_pair, .func (PySem.W.fnOf "_law_lag_pair" "_law_lag_pair" (defArgs s_law_lag_pair) (defBody s_law_lag_pair) (defScope s_law_lag_pair) .none kV_law_lag_pair dc_law_lag_pair pm_law_lag_pair an_law_lag_pair cd_law_lag_pair ct_law_lag_pair), sl_law_lag_pair⟩)
    (hc_law_lag_pair : PySem.W.codeIn K cd_law_lag_pair "_law_lag_pair" = true) (hk_law_lag_pair : PySem.W.keepIn K (.ref f_law_lag_pair) = true)
    (ha_law_slow_pair_2 : PySem.W.nsIn K mainGlobals "_law_slow_pair" = some (some (.ref f_law_slow_pair_2)))
    (hl_law_slow_pair_2 : K.lookup f_law_slow_pair_2 = some ⟨oc_law_slow_pair_2, od_law_slow_pair_2, .func (PySem.W.fnOf "_law_slow_pair" "_law_slow_pair" (defArgs s_law_slow_pair_2) (defBody s_law_slow_pair_2) (defScope s_law_slow_pair_2) .none kV_law_slow_pair_2 dc_law_slow_pair_2 pm_law_slow_pair_2 an_law_slow_pair_2 cd_law_slow_pair_2 ct_law_slow_pair_2), sl_law_slow_pair_2⟩)
    (hc_law_slow_pair_2 : PySem.W.codeIn K cd_law_slow_pair_2 "_law_slow_pair" = true) (hk_law_slow_pair_2 : PySem.W.keepIn K (.ref f_law_slow_pair_2) = true)
    (ha_law_measure : PySem.W.nsIn K mainGlobals "_law_measure" = some (some (.ref f_law_measure)))
    (hl_law_measure : K.lookup f_law_measure = some ⟨oc_law_measure, od_law_measure, .func (PySem.W.fnOf "_law_measure" "_law_measure" (defArgs s_law_measure) (defBody s_law_measure) (defScope s_law_measure) .none kV_law_measure dc_law_measure pm_law_measure an_law_measure cd_law_measure ct_law_measure), sl_law_measure⟩)
    (hc_law_measure : PySem.W.codeIn K cd_law_measure "_law_measure" = true) (hk_law_measure : PySem.W.keepIn K (.ref f_law_measure) = true)
    (ha_law_both : PySem.W.nsIn K mainGlobals "_law_both" = some (some (.ref f_law_both)))
    (hl_law_both : K.lookup f_law_both = some ⟨oc_law_both, od_law_both, .func (PySem.W.fnOf "_law_both" "_law_both" (defArgs s_law_both) (defBody s_law_both) (defScope s_law_both) .none kV_law_both dc_law_both pm_law_both an_law_both cd_law_both ct_law_both), sl_law_both⟩)
    (hc_law_both : PySem.W.codeIn K cd_law_both "_law_both" = true) (hk_law_both : PySem.W.keepIn K (.ref f_law_both) = true)
    (ha_law_round : PySem.W.nsIn K mainGlobals "_law_round" = some (some (.ref f_law_round)))
    (hl_law_round : K.lookup f_law_round = some ⟨oc_law_round, od_law_round, .func (PySem.W.fnOf "_law_round" "_law_round" (defArgs s_law_round) (defBody s_law_round) (defScope s_law_round) .none kV_law_round dc_law_round pm_law_round an_law_round cd_law_round ct_law_round), sl_law_round⟩)
    (hc_law_round : PySem.W.codeIn K cd_law_round "_law_round" = true) (hk_law_round : PySem.W.keepIn K (.ref f_law_round) = true)
    (ha_law_far : PySem.W.nsIn K mainGlobals "_law_far" = some (some (.ref f_law_far)))
    (hl_law_far : K.lookup f_law_far = some ⟨oc_law_far, od_law_far, .func (PySem.W.fnOf "_law_far" "_law_far" (defArgs s_law_far) (defBody s_law_far) (defScope s_law_far) .none kV_law_far dc_law_far pm_law_far an_law_far cd_law_far ct_law_far), sl_law_far⟩)
    (hc_law_far : PySem.W.codeIn K cd_law_far "_law_far" = true) (hk_law_far : PySem.W.keepIn K (.ref f_law_far) = true)
    (ha_law_clashes : PySem.W.nsIn K mainGlobals "_law_clashes" = some (some (.ref f_law_clashes)))
    (hl_law_clashes : K.lookup f_law_clashes = some ⟨oc_law_clashes, od_law_clashes, .func (PySem.W.fnOf "_law_clashes" "_law_clashes" (defArgs s_law_clashes) (defBody s_law_clashes) (defScope s_law_clashes) .none kV_law_clashes dc_law_clashes pm_law_clashes an_law_clashes cd_law_clashes ct_law_clashes), sl_law_clashes⟩)
    (hc_law_clashes : PySem.W.codeIn K cd_law_clashes "_law_clashes" = true) (hk_law_clashes : PySem.W.keepIn K (.ref f_law_clashes) = true)
    (ha_law_heard : PySem.W.nsIn K mainGlobals "_law_heard" = some (some (.ref f_law_heard)))
    (hl_law_heard : K.lookup f_law_heard = some ⟨oc_law_heard, od_law_heard, .func (PySem.W.fnOf "_law_heard" "_law_heard" (defArgs s_law_heard) (defBody s_law_heard) (defScope s_law_heard) .none kV_law_heard dc_law_heard pm_law_heard an_law_heard cd_law_heard ct_law_heard), sl_law_heard⟩)
    (hc_law_heard : PySem.W.codeIn K cd_law_heard "_law_heard" = true) (hk_law_heard : PySem.W.keepIn K (.ref f_law_heard) = true)
    (ha_law : PySem.W.nsIn K mainGlobals "law" = some (some (.ref f_law)))
    (hl_law : K.lookup f_law = some ⟨oc_law, od_law, .func (PySem.W.fnOf "law" "law" (defArgs s_law) (defBody s_law) (defScope s_law) .none kV_law dc_law pm_law an_law cd_law ct_law), sl_law⟩)
    (hc_law : PySem.W.codeIn K cd_law "law" = true) (hk_law : PySem.W.keepIn K (.ref f_law) = true)
    (g_BARRED : PySem.W.nsIn K mainGlobals "BARRED" = some (some u_BARRED)) (r_BARRED : RelV (V.str "barred") u_BARRED)
    (g_BEYOND : PySem.W.nsIn K mainGlobals "BEYOND" = some (some u_BEYOND)) (r_BEYOND : RelV (V.int 180) u_BEYOND)
    (g_CROSSED : PySem.W.nsIn K mainGlobals "CROSSED" = some (some u_CROSSED)) (r_CROSSED : RelV (V.int 120) u_CROSSED)
    (g_HIGHEST : PySem.W.nsIn K mainGlobals "HIGHEST" = some (some u_HIGHEST)) (r_HIGHEST : RelV (V.int 60) u_HIGHEST)
    (g_LAG : PySem.W.nsIn K mainGlobals "LAG" = some (some u_LAG)) (r_LAG : RelV (V.str "lag") u_LAG)
    (g_LEAST_FACTOR : PySem.W.nsIn K mainGlobals "LEAST_FACTOR" = some (some u_LEAST_FACTOR)) (r_LEAST_FACTOR : RelV (V.int 2) u_LEAST_FACTOR)
    (g_LOWEST : PySem.W.nsIn K mainGlobals "LOWEST" = some (some u_LOWEST)) (r_LOWEST : RelV (V.int (-60)) u_LOWEST)
    (g_MOST_FACTOR : PySem.W.nsIn K mainGlobals "MOST_FACTOR" = some (some u_MOST_FACTOR)) (r_MOST_FACTOR : RelV (V.int 6) u_MOST_FACTOR)
    (g_MOST_LAG : PySem.W.nsIn K mainGlobals "MOST_LAG" = some (some u_MOST_LAG)) (r_MOST_LAG : RelV (V.int 48) u_MOST_LAG)
    (g_MOST_NOTES : PySem.W.nsIn K mainGlobals "MOST_NOTES" = some (some u_MOST_NOTES)) (r_MOST_NOTES : RelV (V.int 48) u_MOST_NOTES)
    (g_MOST_RISE : PySem.W.nsIn K mainGlobals "MOST_RISE" = some (some u_MOST_RISE)) (r_MOST_RISE : RelV (V.int 60) u_MOST_RISE)
    (g_MOST_SPAN : PySem.W.nsIn K mainGlobals "MOST_SPAN" = some (some u_MOST_SPAN)) (r_MOST_SPAN : RelV (V.int 24) u_MOST_SPAN)
    (g_MOST_VOICES : PySem.W.nsIn K mainGlobals "MOST_VOICES" = some (some u_MOST_VOICES)) (r_MOST_VOICES : RelV (V.int 100) u_MOST_VOICES)
    (g_SLOW : PySem.W.nsIn K mainGlobals "SLOW" = some (some u_SLOW)) (r_SLOW : RelV (V.str "slow") u_SLOW)
    (g_TIED : PySem.W.nsIn K mainGlobals "TIED" = some (some u_TIED)) (r_TIED : RelV (V.str "tied") u_TIED)
    (z_abs : PySem.W.nsIn K mainGlobals "abs" = some none)
    (z_all : PySem.W.nsIn K mainGlobals "all" = some none)
    (z_bool : PySem.W.nsIn K mainGlobals "bool" = some none)
    (z_enumerate : PySem.W.nsIn K mainGlobals "enumerate" = some none)
    (z_int : PySem.W.nsIn K mainGlobals "int" = some none)
    (z_isinstance : PySem.W.nsIn K mainGlobals "isinstance" = some none)
    (z_len : PySem.W.nsIn K mainGlobals "len" = some none)
    (z_max : PySem.W.nsIn K mainGlobals "max" = some none)
    (z_min : PySem.W.nsIn K mainGlobals "min" = some none)
    (z_range : PySem.W.nsIn K mainGlobals "range" = some none)
    (z_repr : PySem.W.nsIn K mainGlobals "repr" = some none)
    (z_sorted : PySem.W.nsIn K mainGlobals "sorted" = some none)
    (z_str : PySem.W.nsIn K mainGlobals "str" = some none)
    (z_tuple : PySem.W.nsIn K mainGlobals "tuple" = some none)
    (z_zip : PySem.W.nsIn K mainGlobals "zip" = some none) :
    ∃ fd : FuncData, (∀ (s : Shared) (u : Value), BindsTo s fd ⟨[u], []⟩ [("_law_script", u)]) ∧ ∀ base : Heap, K.In base → base.Ns mainGlobals mg → FnG l.prog w K mg base 10 fa fd ["_law_script"] (spLaw K 63) := by
  have e := hfa.symm.trans (PySem.W.mg_of X G ha_law)
  cases e
  have F_is_whole := fun_mk (st := s_is_whole) hl_is_whole hc_is_whole hk_is_whole
  have D_is_whole : DefAt K mg "is_whole" s_is_whole _ _ := ⟨PySem.W.mg_of X G ha_is_whole, F_is_whole⟩
  have hb_is_whole := F_is_whole.binds (ps := ["thing", "least", "most"]) fun _ _ _ _ _ _ us hl => match us, hl with | [_, _, _], _ => rfl
  have F_need_whole := fun_mk (st := s_need_whole) hl_need_whole hc_need_whole hk_need_whole
  have D_need_whole : DefAt K mg "need_whole" s_need_whole _ _ := ⟨PySem.W.mg_of X G ha_need_whole, F_need_whole⟩
  have hb_need_whole := F_need_whole.binds (ps := ["thing", "least", "most"]) fun _ _ _ _ _ _ us hl => match us, hl with | [_, _, _], _ => rfl
  have F_is_note := fun_mk (st := s_is_note) hl_is_note hc_is_note hk_is_note
  have D_is_note : DefAt K mg "is_note" s_is_note _ _ := ⟨PySem.W.mg_of X G ha_is_note, F_is_note⟩
  have hb_is_note := F_is_note.binds (ps := ["thing"]) fun _ _ _ _ _ _ us hl => match us, hl with | [_], _ => rfl
  have F_need_tune := fun_mk (st := s_need_tune) hl_need_tune hc_need_tune hk_need_tune
  have D_need_tune : DefAt K mg "need_tune" s_need_tune _ _ := ⟨PySem.W.mg_of X G ha_need_tune, F_need_tune⟩
  have hb_need_tune := F_need_tune.binds (ps := ["thing"]) fun _ _ _ _ _ _ us hl => match us, hl with | [_], _ => rfl
  have F_is_rising := fun_mk (st := s_is_rising) hl_is_rising hc_is_rising hk_is_rising
  have D_is_rising : DefAt K mg "is_rising" s_is_rising _ _ := ⟨PySem.W.mg_of X G ha_is_rising, F_is_rising⟩
  have hb_is_rising := F_is_rising.binds (ps := ["thing", "least", "most"]) fun _ _ _ _ _ _ us hl => match us, hl with | [_, _, _], _ => rfl
  have F_style_fault := fun_mk (st := s_style_fault) hl_style_fault hc_style_fault hk_style_fault
  have D_style_fault : DefAt K mg "style_fault" s_style_fault _ _ := ⟨PySem.W.mg_of X G ha_style_fault, F_style_fault⟩
  have hb_style_fault := F_style_fault.binds (ps := ["thing"]) fun _ _ _ _ _ _ us hl => match us, hl with | [_], _ => rfl
  have F_need_style := fun_mk (st := s_need_style) hl_need_style hc_need_style hk_need_style
  have D_need_style : DefAt K mg "need_style" s_need_style _ _ := ⟨PySem.W.mg_of X G ha_need_style, F_need_style⟩
  have hb_need_style := F_need_style.binds (ps := ["thing"]) fun _ _ _ _ _ _ us hl => match us, hl with | [_], _ => rfl
  have F_rest_by := fun_mk (st := s_rest_by) hl_rest_by hc_rest_by hk_rest_by
  have D_rest_by : DefAt K mg "rest_by" s_rest_by _ _ := ⟨PySem.W.mg_of X G ha_rest_by, F_rest_by⟩
  have hb_rest_by := F_rest_by.binds (ps := ["span", "number"]) fun _ _ _ _ _ _ us hl => match us, hl with | [_, _], _ => rfl
  have F_interval_of := fun_mk (st := s_interval_of) hl_interval_of hc_interval_of hk_interval_of
  have D_interval_of : DefAt K mg "interval_of" s_interval_of _ _ := ⟨PySem.W.mg_of X G ha_interval_of, F_interval_of⟩
  have hb_interval_of := F_interval_of.binds (ps := ["style", "one", "other"]) fun _ _ _ _ _ _ us hl => match us, hl with | [_, _, _], _ => rfl
  have F_is_barred_by := fun_mk (st := s_is_barred_by) hl_is_barred_by hc_is_barred_by hk_is_barred_by
  have D_is_barred_by : DefAt K mg "is_barred_by" s_is_barred_by _ _ := ⟨PySem.W.mg_of X G ha_is_barred_by, F_is_barred_by⟩
  have hb_is_barred_by := F_is_barred_by.binds (ps := ["style", "one", "other"]) fun _ _ _ _ _ _ us hl => match us, hl with | [_, _, _], _ => rfl
  have F_pair_fault := fun_mk (st := s_pair_fault) hl_pair_fault hc_pair_fault hk_pair_fault
  have D_pair_fault : DefAt K mg "pair_fault" s_pair_fault _ _ := ⟨PySem.W.mg_of X G ha_pair_fault, F_pair_fault⟩
  have hb_pair_fault := F_pair_fault.binds (ps := ["style", "before", "now"]) fun _ _ _ _ _ _ us hl => match us, hl with | [_, _, _], _ => rfl
  have F_is_tied := fun_mk (st := s_is_tied) hl_is_tied hc_is_tied hk_is_tied
  have D_is_tied : DefAt K mg "is_tied" s_is_tied _ _ := ⟨PySem.W.mg_of X G ha_is_tied, F_is_tied⟩
  have hb_is_tied := F_is_tied.binds (ps := ["style", "before", "now"]) fun _ _ _ _ _ _ us hl => match us, hl with | [_, _, _], _ => rfl
  have F_is_map := fun_mk (st := s_is_map) hl_is_map hc_is_map hk_is_map
  have D_is_map : DefAt K mg "is_map" s_is_map _ _ := ⟨PySem.W.mg_of X G ha_is_map, F_is_map⟩
  have hb_is_map := F_is_map.binds (ps := ["sign", "rise"]) fun _ _ _ _ _ _ us hl => match us, hl with | [_, _], _ => rfl
  have F_way_fault := fun_mk (st := s_way_fault) hl_way_fault hc_way_fault hk_way_fault
  have D_way_fault : DefAt K mg "way_fault" s_way_fault _ _ := ⟨PySem.W.mg_of X G ha_way_fault, F_way_fault⟩
  have hb_way_fault := F_way_fault.binds (ps := ["thing"]) fun _ _ _ _ _ _ us hl => match us, hl with | [_], _ => rfl
  have F_need_way := fun_mk (st := s_need_way) hl_need_way hc_need_way hk_need_way
  have D_need_way : DefAt K mg "need_way" s_need_way _ _ := ⟨PySem.W.mg_of X G ha_need_way, F_need_way⟩
  have hb_need_way := F_need_way.binds (ps := ["thing"]) fun _ _ _ _ _ _ us hl => match us, hl with | [_], _ => rfl
  have F_need_endless := fun_mk (st := s_need_endless) hl_need_endless hc_need_endless hk_need_endless
  have D_need_endless : DefAt K mg "need_endless" s_need_endless _ _ := ⟨PySem.W.mg_of X G ha_need_endless, F_need_endless⟩
  have hb_need_endless := F_need_endless.binds (ps := ["endless"]) fun _ _ _ _ _ _ us hl => match us, hl with | [_], _ => rfl
  have F_map_times := fun_mk (st := s_map_times) hl_map_times hc_map_times hk_map_times
  have D_map_times : DefAt K mg "map_times" s_map_times _ _ := ⟨PySem.W.mg_of X G ha_map_times, F_map_times⟩
  have hb_map_times := F_map_times.binds (ps := ["way", "pitch", "times"]) fun _ _ _ _ _ _ us hl => match us, hl with | [_, _, _], _ => rfl
  have F_power_of := fun_mk (st := s_power_of) hl_power_of hc_power_of hk_power_of
  have D_power_of : DefAt K mg "power_of" s_power_of _ _ := ⟨PySem.W.mg_of X G ha_power_of, F_power_of⟩
  have hb_power_of := F_power_of.binds (ps := ["base", "times"]) fun _ _ _ _ _ _ us hl => match us, hl with | [_, _], _ => rfl
  have F_is_backwards := fun_mk (st := s_is_backwards) hl_is_backwards hc_is_backwards hk_is_backwards
  have D_is_backwards : DefAt K mg "is_backwards" s_is_backwards _ _ := ⟨PySem.W.mg_of X G ha_is_backwards, F_is_backwards⟩
  have hb_is_backwards := F_is_backwards.binds (ps := ["way", "voice"]) fun _ _ _ _ _ _ us hl => match us, hl with | [_, _], _ => rfl
  have F_begin_of := fun_mk (st := s_begin_of) hl_begin_of hc_begin_of hk_begin_of
  have D_begin_of : DefAt K mg "begin_of" s_begin_of _ _ := ⟨PySem.W.mg_of X G ha_begin_of, F_begin_of⟩
  have hb_begin_of := F_begin_of.binds (ps := ["way", "voice"]) fun _ _ _ _ _ _ us hl => match us, hl with | [_, _], _ => rfl
  have F_notes_gone := fun_mk (st := s_notes_gone) hl_notes_gone hc_notes_gone hk_notes_gone
  have D_notes_gone : DefAt K mg "notes_gone" s_notes_gone _ _ := ⟨PySem.W.mg_of X G ha_notes_gone, F_notes_gone⟩
  have hb_notes_gone := F_notes_gone.binds (ps := ["way", "voice", "beats"]) fun _ _ _ _ _ _ us hl => match us, hl with | [_, _, _], _ => rfl
  have F_place_at := fun_mk (st := s_place_at) hl_place_at hc_place_at hk_place_at
  have D_place_at : DefAt K mg "place_at" s_place_at _ _ := ⟨PySem.W.mg_of X G ha_place_at, F_place_at⟩
  have hb_place_at := F_place_at.binds (ps := ["tune", "way", "voice", "beat", "endless"]) fun _ _ _ _ _ _ us hl => match us, hl with | [_, _, _, _, _], _ => rfl
  have F_sung := fun_mk (st := s_sung) hl_sung hc_sung hk_sung
  have D_sung : DefAt K mg "sung" s_sung _ _ := ⟨PySem.W.mg_of X G ha_sung, F_sung⟩
  have hb_sung := F_sung.binds (ps := ["tune", "way", "voice", "beat", "endless"]) fun _ _ _ _ _ _ us hl => match us, hl with | [_, _, _, _, _], _ => rfl
  have F_common := fun_mk (st := s_common) hl_common hc_common hk_common
  have D_common : DefAt K mg "common" s_common _ _ := ⟨PySem.W.mg_of X G ha_common, F_common⟩
  have hb_common := F_common.binds (ps := ["one", "other"]) fun _ _ _ _ _ _ us hl => match us, hl with | [_, _], _ => rfl
  have F_joint := fun_mk (st := s_joint) hl_joint hc_joint hk_joint
  have D_joint : DefAt K mg "joint" s_joint _ _ := ⟨PySem.W.mg_of X G ha_joint, F_joint⟩
  have hb_joint := F_joint.binds (ps := ["one", "other"]) fun _ _ _ _ _ _ us hl => match us, hl with | [_, _], _ => rfl
  have F_least_over := fun_mk (st := s_least_over) hl_least_over hc_least_over hk_least_over
  have D_least_over : DefAt K mg "least_over" s_least_over _ _ := ⟨PySem.W.mg_of X G ha_least_over, F_least_over⟩
  have hb_least_over := F_least_over.binds (ps := ["many", "step"]) fun _ _ _ _ _ _ us hl => match us, hl with | [_, _], _ => rfl
  have F_never_together := fun_mk (st := s_never_together) hl_never_together hc_never_together hk_never_together
  have D_never_together : DefAt K mg "never_together" s_never_together _ _ := ⟨PySem.W.mg_of X G ha_never_together, F_never_together⟩
  have hb_never_together := F_never_together.binds (ps := ["way", "endless"]) fun _ _ _ _ _ _ us hl => match us, hl with | [_, _], _ => rfl
  have F_climbs := fun_mk (st := s_climbs) hl_climbs hc_climbs hk_climbs
  have D_climbs : DefAt K mg "climbs" s_climbs _ _ := ⟨PySem.W.mg_of X G ha_climbs, F_climbs⟩
  have hb_climbs := F_climbs.binds (ps := ["way"]) fun _ _ _ _ _ _ us hl => match us, hl with | [_], _ => rfl
  have F_rests_of := fun_mk (st := s_rests_of) hl_rests_of hc_rests_of hk_rests_of
  have D_rests_of : DefAt K mg "rests_of" s_rests_of _ _ := ⟨PySem.W.mg_of X G ha_rests_of, F_rests_of⟩
  have hb_rests_of := F_rests_of.binds (ps := ["factor", "length"]) fun _ _ _ _ _ _ us hl => match us, hl with | [_, _], _ => rfl
  have F_exponent_over := fun_mk (st := s_exponent_over) hl_exponent_over hc_exponent_over hk_exponent_over
  have D_exponent_over : DefAt K mg "exponent_over" s_exponent_over _ _ := ⟨PySem.W.mg_of X G ha_exponent_over, F_exponent_over⟩
  have hb_exponent_over := F_exponent_over.binds (ps := ["factor", "length"]) fun _ _ _ _ _ _ us hl => match us, hl with | [_, _], _ => rfl
  have F_reach_of := fun_mk (st := s_reach_of) hl_reach_of hc_reach_of hk_reach_of
  have D_reach_of : DefAt K mg "reach_of" s_reach_of _ _ := ⟨PySem.W.mg_of X G ha_reach_of, F_reach_of⟩
  have hb_reach_of := F_reach_of.binds (ps := ["length", "style", "way", "endless"]) fun _ _ _ _ _ _ us hl => match us, hl with | [_, _, _, _], _ => rfl
  have F_need_all := fun_mk (st := s_need_all) hl_need_all hc_need_all hk_need_all
  have D_need_all : DefAt K mg "need_all" s_need_all _ _ := ⟨PySem.W.mg_of X G ha_need_all, F_need_all⟩
  have hb_need_all := F_need_all.binds (ps := ["tune", "style", "way"]) fun _ _ _ _ _ _ us hl => match us, hl with | [_, _, _], _ => rfl
  have F_lag_fault := fun_mk (st := s_lag_fault) hl_lag_fault hc_lag_fault hk_lag_fault
  have D_lag_fault : DefAt K mg "lag_fault" s_lag_fault _ _ := ⟨PySem.W.mg_of X G ha_lag_fault, F_lag_fault⟩
  have hb_lag_fault := F_lag_fault.binds (ps := ["tune", "style", "way", "near", "far", "endless"]) fun _ _ _ _ _ _ us hl => match us, hl with | [_, _, _, _, _, _], _ => rfl
  have F_note_of := fun_mk (st := s_note_of) hl_note_of hc_note_of hk_note_of
  have D_note_of : DefAt K mg "note_of" s_note_of _ _ := ⟨PySem.W.mg_of X G ha_note_of, F_note_of⟩
  have hb_note_of := F_note_of.binds (ps := ["tune", "way", "place", "times"]) fun _ _ _ _ _ _ us hl => match us, hl with | [_, _, _, _], _ => rfl
  have F_slow_barred := fun_mk (st := s_slow_barred) hl_slow_barred hc_slow_barred hk_slow_barred
  have D_slow_barred : DefAt K mg "slow_barred" s_slow_barred _ _ := ⟨PySem.W.mg_of X G ha_slow_barred, F_slow_barred⟩
  have hb_slow_barred := F_slow_barred.binds (ps := ["tune", "style", "way", "apart", "endless"]) fun _ _ _ _ _ _ us hl => match us, hl with | [_, _, _, _, _], _ => rfl
  have F_slow_tied := fun_mk (st := s_slow_tied) hl_slow_tied hc_slow_tied hk_slow_tied
  have D_slow_tied : DefAt K mg "slow_tied" s_slow_tied _ _ := ⟨PySem.W.mg_of X G ha_slow_tied, F_slow_tied⟩
  have hb_slow_tied := F_slow_tied.binds (ps := ["tune", "style", "way", "apart", "endless"]) fun _ _ _ _ _ _ us hl => match us, hl with | [_, _, _, _, _], _ => rfl
  have F_slow_fault := fun_mk (st := s_slow_fault) hl_slow_fault hc_slow_fault hk_slow_fault
  have D_slow_fault : DefAt K mg "slow_fault" s_slow_fault _ _ := ⟨PySem.W.mg_of X G ha_slow_fault, F_slow_fault⟩
  have hb_slow_fault := F_slow_fault.binds (ps := ["tune", "style", "way", "apart", "endless"]) fun _ _ _ _ _ _ us hl => match us, hl with | [_, _, _, _, _], _ => rfl
  have F_two_fault := fun_mk (st := s_two_fault) hl_two_fault hc_two_fault hk_two_fault
  have D_two_fault : DefAt K mg "two_fault" s_two_fault _ _ := ⟨PySem.W.mg_of X G ha_two_fault, F_two_fault⟩
  have hb_two_fault := F_two_fault.binds (ps := ["tune", "style", "way", "near", "apart", "endless"]) fun _ _ _ _ _ _ us hl => match us, hl with | [_, _, _, _, _, _], _ => rfl
  have F_nears_of := fun_mk (st := s_nears_of) hl_nears_of hc_nears_of hk_nears_of
  have D_nears_of : DefAt K mg "nears_of" s_nears_of _ _ := ⟨PySem.W.mg_of X G ha_nears_of, F_nears_of⟩
  have hb_nears_of := F_nears_of.binds (ps := ["way"]) fun _ _ _ _ _ _ us hl => match us, hl with | [_], _ => rfl
  have F_looked_at := fun_mk (st := s_looked_at) hl_looked_at hc_looked_at hk_looked_at
  have D_looked_at : DefAt K mg "looked_at" s_looked_at _ _ := ⟨PySem.W.mg_of X G ha_looked_at, F_looked_at⟩
  have hb_looked_at := F_looked_at.binds (ps := ["tune", "style", "way", "voices", "endless"]) fun _ _ _ _ _ _ us hl => match us, hl with | [_, _, _, _, _], _ => rfl
  have F_first_of := fun_mk (st := s_first_of) hl_first_of hc_first_of hk_first_of
  have D_first_of : DefAt K mg "first_of" s_first_of _ _ := ⟨PySem.W.mg_of X G ha_first_of, F_first_of⟩
  have hb_first_of := F_first_of.binds (ps := ["tune", "style", "way", "voices", "endless"]) fun _ _ _ _ _ _ us hl => match us, hl with | [_, _, _, _, _], _ => rfl
  have F_need_voices := fun_mk (st := s_need_voices) hl_need_voices hc_need_voices hk_need_voices
  have D_need_voices : DefAt K mg "need_voices" s_need_voices _ _ := ⟨PySem.W.mg_of X G ha_need_voices, F_need_voices⟩
  have hb_need_voices := F_need_voices.binds (ps := ["voices"]) fun _ _ _ _ _ _ us hl => match us, hl with | [_], _ => rfl
  have D_first_fault : DefK K mg "first_fault" s_first_fault [("voices", (V.non)), ("endless", (V.bl false))] _ _ := defK_mk (PySem.W.mg_of X G ha_first_fault) hl_first_fault hc_first_fault hk_first_fault (by intro q hq; simp only [List.mem_cons, List.not_mem_nil, or_false] at hq; rcases hq with rfl | rfl; exact ⟨_, w_first_fault_voices, r_first_fault_voices⟩; exact ⟨_, w_first_fault_endless, r_first_fault_endless⟩)
  have D_is_clean : DefK K mg "is_clean" s_is_clean [("voices", (V.non)), ("endless", (V.bl false))] _ _ := defK_mk (PySem.W.mg_of X G ha_is_clean) hl_is_clean hc_is_clean hk_is_clean (by intro q hq; simp only [List.mem_cons, List.not_mem_nil, or_false] at hq; rcases hq with rfl | rfl; exact ⟨_, w_is_clean_voices, r_is_clean_voices⟩; exact ⟨_, w_is_clean_endless, r_is_clean_endless⟩)
  have D_most_voices : DefK K mg "most_voices" s_most_voices [("endless", (V.bl false))] _ _ := defK_mk (PySem.W.mg_of X G ha_most_voices) hl_most_voices hc_most_voices hk_most_voices (by intro q hq; simp only [List.mem_cons, List.not_mem_nil, or_false] at hq; rcases hq with rfl; exact ⟨_, w_most_voices_endless, r_most_voices_endless⟩)
  have F_law_begun := fun_mk (st := s_law_begun) hl_law_begun hc_law_begun hk_law_begun
  have D_law_begun : DefAt K mg "_law_begun" s_law_begun _ _ := ⟨PySem.W.mg_of X G ha_law_begun, F_law_begun⟩
  have hb_law_begun := F_law_begun.binds (ps := ["_law_script"]) fun _ _ _ _ _ _ us hl => match us, hl with | [_], _ => rfl
  have F_law_next_2 := fun_mk (st := s_law_next_2) hl_law_next_2 hc_law_next_2 hk_law_next_2
  have D_law_next_2 : DefAt K mg "_law_next" s_law_next_2 _ _ := ⟨PySem.W.mg_of X G ha_law_next_2, F_law_next_2⟩
  have hb_law_next_2 := F_law_next_2.binds (ps := ["_law_draw", "_law_below"]) fun _ _ _ _ _ _ us hl => match us, hl with | [_, _], _ => rfl
  have F_law_among := fun_mk (st := s_law_among) hl_law_among hc_law_among hk_law_among
  have D_law_among : DefAt K mg "_law_among" s_law_among _ _ := ⟨PySem.W.mg_of X G ha_law_among, F_law_among⟩
  have hb_law_among := F_law_among.binds (ps := ["_law_draw", "_law_some"]) fun _ _ _ _ _ _ us hl => match us, hl with | [_, _], _ => rfl
  have F_law_rising := fun_mk (st := s_law_rising) hl_law_rising hc_law_rising hk_law_rising
  have D_law_rising : DefAt K mg "_law_rising" s_law_rising _ _ := ⟨PySem.W.mg_of X G ha_law_rising, F_law_rising⟩
  have hb_law_rising := F_law_rising.binds (ps := ["_law_draw", "_law_below", "_law_most"]) fun _ _ _ _ _ _ us hl => match us, hl with | [_, _, _], _ => rfl
  have F_law_style := fun_mk (st := s_law_style) hl_law_style hc_law_style hk_law_style
  have D_law_style : DefAt K mg "_law_style" s_law_style _ _ := ⟨PySem.W.mg_of X G ha_law_style, F_law_style⟩
  have hb_law_style := F_law_style.binds (ps := ["_law_draw"]) fun _ _ _ _ _ _ us hl => match us, hl with | [_], _ => rfl
  have F_law_pitches := fun_mk (st := s_law_pitches) hl_law_pitches hc_law_pitches hk_law_pitches
  have D_law_pitches : DefAt K mg "_law_pitches" s_law_pitches _ _ := ⟨PySem.W.mg_of X G ha_law_pitches, F_law_pitches⟩
  have hb_law_pitches := F_law_pitches.binds (ps := ["_law_draw", "_law_many"]) fun _ _ _ _ _ _ us hl => match us, hl with | [_, _], _ => rfl
  have F_law_tune := fun_mk (st := s_law_tune) hl_law_tune hc_law_tune hk_law_tune
  have D_law_tune : DefAt K mg "_law_tune" s_law_tune _ _ := ⟨PySem.W.mg_of X G ha_law_tune, F_law_tune⟩
  have hb_law_tune := F_law_tune.binds (ps := ["_law_draw", "_law_most"]) fun _ _ _ _ _ _ us hl => match us, hl with | [_, _], _ => rfl
  have F_law_rise := fun_mk (st := s_law_rise) hl_law_rise hc_law_rise hk_law_rise
  have D_law_rise : DefAt K mg "_law_rise" s_law_rise _ _ := ⟨PySem.W.mg_of X G ha_law_rise, F_law_rise⟩
  have hb_law_rise := F_law_rise.binds (ps := ["_law_draw"]) fun _ _ _ _ _ _ us hl => match us, hl with | [_], _ => rfl
  have F_law_way := fun_mk (st := s_law_way) hl_law_way hc_law_way hk_law_way
  have D_law_way : DefAt K mg "_law_way" s_law_way _ _ := ⟨PySem.W.mg_of X G ha_law_way, F_law_way⟩
  have hb_law_way := F_law_way.binds (ps := ["_law_draw"]) fun _ _ _ _ _ _ us hl => match us, hl with | [_], _ => rfl
  have F_law_power := fun_mk (st := s_law_power) hl_law_power hc_law_power hk_law_power
  have D_law_power : DefAt K mg "_law_power" s_law_power _ _ := ⟨PySem.W.mg_of X G ha_law_power, F_law_power⟩
  have hb_law_power := F_law_power.binds (ps := ["_law_factor", "_law_laps"]) fun _ _ _ _ _ _ us hl => match us, hl with | [_, _], _ => rfl
  have F_law_note := fun_mk (st := s_law_note) hl_law_note hc_law_note hk_law_note
  have D_law_note : DefAt K mg "_law_note" s_law_note _ _ := ⟨PySem.W.mg_of X G ha_law_note, F_law_note⟩
  have hb_law_note := F_law_note.binds (ps := ["_law_tune_here", "_law_way_here", "_law_voice", "_law_beat", "_law_for_ever"]) fun _ _ _ _ _ _ us hl => match us, hl with | [_, _, _, _, _], _ => rfl
  have F_law_gap_2 := fun_mk (st := s_law_gap_2) hl_law_gap_2 hc_law_gap_2 hk_law_gap_2
  have D_law_gap_2 : DefAt K mg "_law_gap" s_law_gap_2 _ _ := ⟨PySem.W.mg_of X G ha_law_gap_2, F_law_gap_2⟩
  have hb_law_gap_2 := F_law_gap_2.binds (ps := ["_law_style_here", "_law_one", "_law_other"]) fun _ _ _ _ _ _ us hl => match us, hl with | [_, _, _], _ => rfl
  have F_law_words := fun_mk (st := s_law_words) hl_law_words hc_law_words hk_law_words
  have D_law_words : DefAt K mg "_law_words" s_law_words _ _ := ⟨PySem.W.mg_of X G ha_law_words, F_law_words⟩
  have hb_law_words := F_law_words.binds (ps := ["_law_style_here", "_law_was", "_law_now"]) fun _ _ _ _ _ _ us hl => match us, hl with | [_, _, _], _ => rfl
  have F_law_map := fun_mk (st := s_law_map) hl_law_map hc_law_map hk_law_map
  have D_law_map : DefAt K mg "_law_map" s_law_map _ _ := ⟨PySem.W.mg_of X G ha_law_map, F_law_map⟩
  have hb_law_map := F_law_map.binds (ps := ["_law_way_here", "_law_pitch", "_law_voice"]) fun _ _ _ _ _ _ us hl => match us, hl with | [_, _, _], _ => rfl
  have F_law_at := fun_mk (st := s_law_at) hl_law_at hc_law_at hk_law_at
  have D_law_at : DefAt K mg "_law_at" s_law_at _ _ := ⟨PySem.W.mg_of X G ha_law_at, F_law_at⟩
  have hb_law_at := F_law_at.binds (ps := ["_law_tune_here", "_law_way_here", "_law_voice", "_law_beat", "_law_for_ever"]) fun _ _ _ _ _ _ us hl => match us, hl with | [_, _, _, _, _], _ => rfl
  have F_law_lag_pair := fun_mk (st := s_law_lag_pair) hl_law_lag_pair hc_law_lag_pair hk_law_lag_pair
  have D_law_lag_pair : DefAt K mg "_law_lag_pair" s_law_lag_pair _ _ := ⟨PySem.W.mg_of X G ha_law_lag_pair, F_law_lag_pair⟩
  have hb_law_lag_pair := F_law_lag_pair.binds (ps := ["_law_tune_here", "_law_style_here", "_law_way_here", "_law_near", "_law_far_here", "_law_for_ever"]) fun _ _ _ _ _ _ us hl => match us, hl with | [_, _, _, _, _, _], _ => rfl
  have F_law_slow_pair_2 := fun_mk (st := s_law_slow_pair_2) hl_law_slow_pair_2 hc_law_slow_pair_2 hk_law_slow_pair_2
  have D_law_slow_pair_2 : DefAt K mg "_law_slow_pair" s_law_slow_pair_2 _ _ := ⟨PySem.W.mg_of X G ha_law_slow_pair_2, F_law_slow_pair_2⟩
  have hb_law_slow_pair_2 := F_law_slow_pair_2.binds (ps := ["_law_tune_here", "_law_style_here", "_law_way_here", "_law_apart", "_law_for_ever"]) fun _ _ _ _ _ _ us hl => match us, hl with | [_, _, _, _, _], _ => rfl
  have F_law_measure := fun_mk (st := s_law_measure) hl_law_measure hc_law_measure hk_law_measure
  have D_law_measure : DefAt K mg "_law_measure" s_law_measure _ _ := ⟨PySem.W.mg_of X G ha_law_measure, F_law_measure⟩
  have hb_law_measure := F_law_measure.binds (ps := ["_law_one", "_law_other"]) fun _ _ _ _ _ _ us hl => match us, hl with | [_, _], _ => rfl
  have F_law_both := fun_mk (st := s_law_both) hl_law_both hc_law_both hk_law_both
  have D_law_both : DefAt K mg "_law_both" s_law_both _ _ := ⟨PySem.W.mg_of X G ha_law_both, F_law_both⟩
  have hb_law_both := F_law_both.binds (ps := ["_law_one", "_law_other"]) fun _ _ _ _ _ _ us hl => match us, hl with | [_, _], _ => rfl
  have F_law_round := fun_mk (st := s_law_round) hl_law_round hc_law_round hk_law_round
  have D_law_round : DefAt K mg "_law_round" s_law_round _ _ := ⟨PySem.W.mg_of X G ha_law_round, F_law_round⟩
  have hb_law_round := F_law_round.binds (ps := ["_law_factor", "_law_size"]) fun _ _ _ _ _ _ us hl => match us, hl with | [_, _], _ => rfl
  have F_law_far := fun_mk (st := s_law_far) hl_law_far hc_law_far hk_law_far
  have D_law_far : DefAt K mg "_law_far" s_law_far _ _ := ⟨PySem.W.mg_of X G ha_law_far, F_law_far⟩
  have hb_law_far := F_law_far.binds (ps := ["_law_size", "_law_style_here", "_law_way_here", "_law_for_ever"]) fun _ _ _ _ _ _ us hl => match us, hl with | [_, _, _, _], _ => rfl
  have F_law_clashes := fun_mk (st := s_law_clashes) hl_law_clashes hc_law_clashes hk_law_clashes
  have D_law_clashes : DefAt K mg "_law_clashes" s_law_clashes _ _ := ⟨PySem.W.mg_of X G ha_law_clashes, F_law_clashes⟩
  have hb_law_clashes := F_law_clashes.binds (ps := ["_law_tune_here", "_law_style_here", "_law_way_here", "_law_for_ever"]) fun _ _ _ _ _ _ us hl => match us, hl with | [_, _, _, _], _ => rfl
  have F_law_heard := fun_mk (st := s_law_heard) hl_law_heard hc_law_heard hk_law_heard
  have D_law_heard : DefAt K mg "_law_heard" s_law_heard _ _ := ⟨PySem.W.mg_of X G ha_law_heard, F_law_heard⟩
  have hb_law_heard := F_law_heard.binds (ps := ["_law_tune_here", "_law_style_here", "_law_way_here", "_law_apart", "_law_endless_so"]) fun _ _ _ _ _ _ us hl => match us, hl with | [_, _, _, _, _], _ => rfl
  have F_law := fun_mk (st := s_law) hl_law hc_law hk_law
  have D_law : DefAt K mg "law" s_law _ _ := ⟨PySem.W.mg_of X G ha_law, F_law⟩
  have hb_law := F_law.binds (ps := ["_law_script"]) fun _ _ _ _ _ _ us hl => match us, hl with | [_], _ => rfl
  have n_abs := PySem.W.mg_none_of X G z_abs
  have n_all := PySem.W.mg_none_of X G z_all
  have n_bool := PySem.W.mg_none_of X G z_bool
  have n_enumerate := PySem.W.mg_none_of X G z_enumerate
  have n_int := PySem.W.mg_none_of X G z_int
  have n_isinstance := PySem.W.mg_none_of X G z_isinstance
  have n_len := PySem.W.mg_none_of X G z_len
  have n_max := PySem.W.mg_none_of X G z_max
  have n_min := PySem.W.mg_none_of X G z_min
  have n_range := PySem.W.mg_none_of X G z_range
  have n_repr := PySem.W.mg_none_of X G z_repr
  have n_sorted := PySem.W.mg_none_of X G z_sorted
  have n_str := PySem.W.mg_none_of X G z_str
  have n_tuple := PySem.W.mg_none_of X G z_tuple
  have n_zip := PySem.W.mg_none_of X G z_zip
  have m_BARRED := PySem.W.mg_of X G g_BARRED
  have m_BEYOND := PySem.W.mg_of X G g_BEYOND
  have m_CROSSED := PySem.W.mg_of X G g_CROSSED
  have m_HIGHEST := PySem.W.mg_of X G g_HIGHEST
  have m_LAG := PySem.W.mg_of X G g_LAG
  have m_LEAST_FACTOR := PySem.W.mg_of X G g_LEAST_FACTOR
  have m_LOWEST := PySem.W.mg_of X G g_LOWEST
  have m_MOST_FACTOR := PySem.W.mg_of X G g_MOST_FACTOR
  have m_MOST_LAG := PySem.W.mg_of X G g_MOST_LAG
  have m_MOST_NOTES := PySem.W.mg_of X G g_MOST_NOTES
  have m_MOST_RISE := PySem.W.mg_of X G g_MOST_RISE
  have m_MOST_SPAN := PySem.W.mg_of X G g_MOST_SPAN
  have m_MOST_VOICES := PySem.W.mg_of X G g_MOST_VOICES
  have m_SLOW := PySem.W.mg_of X G g_SLOW
  have m_TIED := PySem.W.mg_of X G g_TIED
  refine ⟨PySem.W.fnOf "law" "law" (defArgs s_law) (defBody s_law) (defScope s_law) .none kV_law dc_law pm_law an_law cd_law ct_law, fun s v => .of_eq rfl, fun base _ _ => ?_⟩
  have E_is_whole : Ent l.prog w K mg base IsDraw ΓL 1 "is_whole" 0 3 := ent_of (k := 0) D_is_whole sc_is_whole rfl (nms ConsOk.nil (BltOk.cons n_bool (BltOk.cons n_int (BltOk.cons n_isinstance BltOk.nil))) FunsOk.nil KfsOk.nil) c_is_whole hb_is_whole k_is_whole
  have E_rest_by : Ent l.prog w K mg base IsDraw ΓL 1 "rest_by" 8 2 := ent_of (k := 0) D_rest_by sc_rest_by rfl (nms ConsOk.nil (BltOk.cons n_int BltOk.nil) FunsOk.nil KfsOk.nil) c_rest_by hb_rest_by k_rest_by
  have E_need_endless : Ent l.prog w K mg base IsDraw ΓL 1 "need_endless" 133 1 := ent_of (k := 0) D_need_endless sc_need_endless rfl (nms ConsOk.nil (BltOk.cons n_bool (BltOk.cons n_isinstance BltOk.nil)) FunsOk.nil KfsOk.nil) c_need_endless hb_need_endless k_need_endless
  have E_map_times : Ent l.prog w K mg base IsDraw ΓL 1 "map_times" 134 3 := ent_of (k := 0) D_map_times sc_map_times rfl (nms ConsOk.nil (BltOk.cons n_int BltOk.nil) FunsOk.nil KfsOk.nil) c_map_times hb_map_times k_map_times
  have E_power_of : Ent l.prog w K mg base IsDraw ΓL 1 "power_of" 136 2 := ent_of (k := 0) D_power_of sc_power_of rfl (nms ConsOk.nil (BltOk.cons n_range BltOk.nil) FunsOk.nil KfsOk.nil) c_power_of hb_power_of k_power_of
  have E_is_backwards : Ent l.prog w K mg base IsDraw ΓL 1 "is_backwards" 137 2 := ent_of (k := 0) D_is_backwards sc_is_backwards rfl (nms (ConsOk.cons rfl m_LAG r_LAG ConsOk.nil) (BltOk.cons n_int BltOk.nil) FunsOk.nil KfsOk.nil) c_is_backwards hb_is_backwards k_is_backwards
  have E_begin_of : Ent l.prog w K mg base IsDraw ΓL 1 "begin_of" 139 2 := ent_of (k := 0) D_begin_of sc_begin_of rfl (nms (ConsOk.cons rfl m_LAG r_LAG ConsOk.nil) BltOk.nil FunsOk.nil KfsOk.nil) c_begin_of hb_begin_of k_begin_of
  have E_notes_gone : Ent l.prog w K mg base IsDraw ΓL 1 "notes_gone" 143 3 := ent_of (k := 0) D_notes_gone sc_notes_gone rfl (nms (ConsOk.cons rfl m_LAG r_LAG ConsOk.nil) BltOk.nil FunsOk.nil KfsOk.nil) c_notes_gone hb_notes_gone k_notes_gone
  have E_common : Ent l.prog w K mg base IsDraw ΓL 1 "common" 182 2 := ent_of (k := 0) D_common sc_common rfl (nms ConsOk.nil (BltOk.cons n_abs (BltOk.cons n_int BltOk.nil)) FunsOk.nil KfsOk.nil) c_common hb_common k_common
  have E_least_over : Ent l.prog w K mg base IsDraw ΓL 1 "least_over" 184 2 := ent_of (k := 0) D_least_over sc_least_over rfl (nms ConsOk.nil BltOk.nil FunsOk.nil KfsOk.nil) c_least_over hb_least_over k_least_over
  have E_never_together : Ent l.prog w K mg base IsDraw ΓL 1 "never_together" 185 2 := ent_of (k := 0) D_never_together sc_never_together rfl (nms (ConsOk.cons rfl m_LAG r_LAG ConsOk.nil) BltOk.nil FunsOk.nil KfsOk.nil) c_never_together hb_never_together k_never_together
  have E_climbs : Ent l.prog w K mg base IsDraw ΓL 1 "climbs" 187 1 := ent_of (k := 0) D_climbs sc_climbs rfl (nms ConsOk.nil BltOk.nil FunsOk.nil KfsOk.nil) c_climbs hb_climbs k_climbs
  have E_rests_of : Ent l.prog w K mg base IsDraw ΓL 1 "rests_of" 188 2 := ent_of (k := 0) D_rests_of sc_rests_of rfl (nms ConsOk.nil (BltOk.cons n_int (BltOk.cons n_len BltOk.nil)) FunsOk.nil KfsOk.nil) c_rests_of hb_rests_of k_rests_of
  have E_exponent_over : Ent l.prog w K mg base IsDraw ΓL 1 "exponent_over" 189 2 := ent_of (k := 0) D_exponent_over sc_exponent_over rfl (nms ConsOk.nil BltOk.nil FunsOk.nil KfsOk.nil) c_exponent_over hb_exponent_over k_exponent_over
  have E_law_begun : Ent l.prog w K mg base IsDraw ΓL 1 "_law_begun" 11 1 := ent_void D_law_begun.nm hk_law_begun hb_law_begun rfl rfl
  have B_law_begun := begun_ok (P := l.prog) (w := w) (mg := mg) (base := base) (k := 0) hl_law_begun hc_law_begun (show BltOk mg cs_law_begun.blt from (BltOk.cons n_enumerate (BltOk.cons n_int (BltOk.cons n_len BltOk.nil))))
  have E_law_next_2 : Ent l.prog w K mg base IsDraw ΓL 1 "_law_next" 13 2 := ⟨_, _, 1, ["_law_draw", "_law_below"], D_law_next_2.nm, hk_law_next_2, hb_law_next_2, rfl, Nat.le_refl _, ⟨(next_ok (P := l.prog) (w := w) (mg := mg) (base := base) (k := 0) hl_law_next_2 hc_law_next_2 n_int n_len n_max).len, fun A outer s H args us vs Q E hr _ => (next_ok (P := l.prog) (w := w) (mg := mg) (base := base) (k := 0) hl_law_next_2 hc_law_next_2 n_int n_len n_max).run A outer s H args us vs Q E hr⟩⟩
  have E_law_power : Ent l.prog w K mg base IsDraw ΓL 1 "_law_power" 157 2 := ent_of (k := 0) D_law_power sc_law_power rfl (nms ConsOk.nil (BltOk.cons n_range BltOk.nil) FunsOk.nil KfsOk.nil) c_law_power hb_law_power k_law_power
  have E_law_gap_2 : Ent l.prog w K mg base IsDraw ΓL 1 "_law_gap" 117 3 := ent_of (k := 0) D_law_gap_2 sc_law_gap_2 rfl (nms ConsOk.nil (BltOk.cons n_int (BltOk.cons n_max (BltOk.cons n_min BltOk.nil))) FunsOk.nil KfsOk.nil) c_law_gap_2 hb_law_gap_2 k_law_gap_2
  have E_law_map : Ent l.prog w K mg base IsDraw ΓL 1 "_law_map" 159 3 := ent_of (k := 0) D_law_map sc_law_map rfl (nms ConsOk.nil (BltOk.cons n_int BltOk.nil) FunsOk.nil KfsOk.nil) c_law_map hb_law_map k_law_map
  have E_law_measure : Ent l.prog w K mg base IsDraw ΓL 1 "_law_measure" 215 2 := ent_of (k := 0) D_law_measure sc_law_measure rfl (nms ConsOk.nil (BltOk.cons n_int BltOk.nil) FunsOk.nil KfsOk.nil) c_law_measure hb_law_measure k_law_measure
  have E_law_round : Ent l.prog w K mg base IsDraw ΓL 1 "_law_round" 218 2 := ent_of (k := 0) D_law_round sc_law_round rfl (nms ConsOk.nil (BltOk.cons n_int (BltOk.cons n_len BltOk.nil)) FunsOk.nil KfsOk.nil) c_law_round hb_law_round k_law_round
  have E_need_whole : Ent l.prog w K mg base IsDraw ΓL 2 "need_whole" 112 3 := ent_of (k := 1) D_need_whole sc_need_whole rfl (nms ConsOk.nil BltOk.nil (FunsOk.cons (E_is_whole.up (by decide)) FunsOk.nil) KfsOk.nil) c_need_whole hb_need_whole k_need_whole
  have E_is_note : Ent l.prog w K mg base IsDraw ΓL 2 "is_note" 1 1 := ent_of (k := 1) D_is_note sc_is_note rfl (nms (ConsOk.cons rfl m_HIGHEST r_HIGHEST (ConsOk.cons rfl m_LOWEST r_LOWEST ConsOk.nil)) BltOk.nil (FunsOk.cons (E_is_whole.up (by decide)) FunsOk.nil) KfsOk.nil) c_is_note hb_is_note k_is_note
  have E_is_rising : Ent l.prog w K mg base IsDraw ΓL 2 "is_rising" 5 3 := ent_of (k := 1) D_is_rising sc_is_rising rfl (nms ConsOk.nil (BltOk.cons n_all (BltOk.cons n_isinstance (BltOk.cons n_tuple (BltOk.cons n_zip BltOk.nil)))) (FunsOk.cons (E_is_whole.up (by decide)) FunsOk.nil) KfsOk.nil) c_is_rising hb_is_rising k_is_rising
  have E_interval_of : Ent l.prog w K mg base IsDraw ΓL 2 "interval_of" 113 3 := ent_of (k := 1) D_interval_of sc_interval_of rfl (nms ConsOk.nil (BltOk.cons n_abs BltOk.nil) (FunsOk.cons (E_rest_by.up (by decide)) FunsOk.nil) KfsOk.nil) c_interval_of hb_interval_of k_interval_of
  have E_is_map : Ent l.prog w K mg base IsDraw ΓL 2 "is_map" 123 2 := ent_of (k := 1) D_is_map sc_is_map rfl (nms (ConsOk.cons rfl m_MOST_RISE r_MOST_RISE ConsOk.nil) BltOk.nil (FunsOk.cons (E_is_whole.up (by decide)) FunsOk.nil) KfsOk.nil) c_is_map hb_is_map k_is_map
  have E_place_at : Ent l.prog w K mg base IsDraw ΓL 2 "place_at" 145 5 := ent_of (k := 1) D_place_at sc_place_at rfl (nms ConsOk.nil (BltOk.cons n_int (BltOk.cons n_len BltOk.nil)) (FunsOk.cons (E_is_backwards.up (by decide)) (FunsOk.cons (E_begin_of.up (by decide)) (FunsOk.cons (E_notes_gone.up (by decide)) FunsOk.nil))) KfsOk.nil) c_place_at hb_place_at k_place_at
  have E_joint : Ent l.prog w K mg base IsDraw ΓL 2 "joint" 183 2 := ent_of (k := 1) D_joint sc_joint rfl (nms ConsOk.nil BltOk.nil (FunsOk.cons (E_common.up (by decide)) FunsOk.nil) KfsOk.nil) c_joint hb_joint k_joint
  have E_note_of : Ent l.prog w K mg base IsDraw ΓL 2 "note_of" 194 4 := ent_of (k := 1) D_note_of sc_note_of rfl (nms ConsOk.nil BltOk.nil (FunsOk.cons (E_map_times.up (by decide)) FunsOk.nil) KfsOk.nil) c_note_of hb_note_of k_note_of
  have E_nears_of : Ent l.prog w K mg base IsDraw ΓL 2 "nears_of" 201 1 := ent_of (k := 1) D_nears_of sc_nears_of rfl (nms ConsOk.nil BltOk.nil (FunsOk.cons (E_is_backwards.up (by decide)) FunsOk.nil) KfsOk.nil) c_nears_of hb_nears_of k_nears_of
  have E_law_among : Ent l.prog w K mg base IsDraw ΓL 2 "_law_among" 14 2 := ent_of (k := 1) D_law_among sc_law_among rfl (nms ConsOk.nil (BltOk.cons n_len BltOk.nil) (FunsOk.cons (E_law_next_2.up (by decide)) FunsOk.nil) KfsOk.nil) c_law_among hb_law_among k_law_among
  have E_law_rising : Ent l.prog w K mg base IsDraw ΓL 2 "_law_rising" 15 3 := ent_of (k := 1) D_law_rising sc_law_rising rfl (nms ConsOk.nil (BltOk.cons n_int (BltOk.cons n_range (BltOk.cons n_sorted (BltOk.cons n_tuple BltOk.nil)))) (FunsOk.cons (E_law_next_2.up (by decide)) FunsOk.nil) KfsOk.nil) c_law_rising hb_law_rising k_law_rising
  have E_law_note : Ent l.prog w K mg base IsDraw ΓL 2 "_law_note" 158 5 := ent_of (k := 1) D_law_note sc_law_note rfl (nms ConsOk.nil (BltOk.cons n_int (BltOk.cons n_len (BltOk.cons n_range BltOk.nil))) (FunsOk.cons (E_law_power.up (by decide)) FunsOk.nil) KfsOk.nil) c_law_note hb_law_note k_law_note
  have E_law_words : Ent l.prog w K mg base IsDraw ΓL 2 "_law_words" 174 3 := ent_of (k := 1) D_law_words sc_law_words rfl (nms ConsOk.nil BltOk.nil (FunsOk.cons (E_law_gap_2.up (by decide)) FunsOk.nil) KfsOk.nil) c_law_words hb_law_words k_law_words
  have E_law_at : Ent l.prog w K mg base IsDraw ΓL 2 "_law_at" 160 5 := ent_of (k := 1) D_law_at sc_law_at rfl (nms ConsOk.nil (BltOk.cons n_int (BltOk.cons n_len BltOk.nil)) (FunsOk.cons (E_law_map.up (by decide)) FunsOk.nil) KfsOk.nil) c_law_at hb_law_at k_law_at
  have E_law_both : Ent l.prog w K mg base IsDraw ΓL 2 "_law_both" 216 2 := ent_of (k := 1) D_law_both sc_law_both rfl (nms ConsOk.nil BltOk.nil (FunsOk.cons (E_law_measure.up (by decide)) FunsOk.nil) KfsOk.nil) c_law_both hb_law_both k_law_both
  have E_need_tune : Ent l.prog w K mg base IsDraw ΓL 3 "need_tune" 3 1 := ent_of (k := 2) D_need_tune sc_need_tune rfl (nms (ConsOk.cons rfl m_MOST_NOTES r_MOST_NOTES ConsOk.nil) (BltOk.cons n_enumerate (BltOk.cons n_isinstance (BltOk.cons n_len (BltOk.cons n_tuple BltOk.nil)))) (FunsOk.cons (E_is_note.up (by decide)) FunsOk.nil) KfsOk.nil) c_need_tune hb_need_tune k_need_tune
  have E_style_fault : Ent l.prog w K mg base IsDraw ΓL 3 "style_fault" 6 1 := ent_of (k := 2) D_style_fault sc_style_fault rfl (nms (ConsOk.cons rfl m_HIGHEST r_HIGHEST (ConsOk.cons rfl m_MOST_SPAN r_MOST_SPAN ConsOk.nil)) (BltOk.cons n_isinstance (BltOk.cons n_len (BltOk.cons n_tuple BltOk.nil))) (FunsOk.cons (E_is_whole.up (by decide)) (FunsOk.cons (E_is_rising.up (by decide)) FunsOk.nil)) KfsOk.nil) c_style_fault hb_style_fault k_style_fault
  have E_is_barred_by : Ent l.prog w K mg base IsDraw ΓL 3 "is_barred_by" 119 3 := ent_of (k := 2) D_is_barred_by sc_is_barred_by rfl (nms ConsOk.nil BltOk.nil (FunsOk.cons (E_interval_of.up (by decide)) FunsOk.nil) KfsOk.nil) c_is_barred_by hb_is_barred_by k_is_barred_by
  have E_is_tied : Ent l.prog w K mg base IsDraw ΓL 3 "is_tied" 167 3 := ent_of (k := 2) D_is_tied sc_is_tied rfl (nms ConsOk.nil BltOk.nil (FunsOk.cons (E_interval_of.up (by decide)) FunsOk.nil) KfsOk.nil) c_is_tied hb_is_tied k_is_tied
  have E_way_fault : Ent l.prog w K mg base IsDraw ΓL 3 "way_fault" 124 1 := ent_of (k := 2) D_way_fault sc_way_fault rfl (nms (ConsOk.cons rfl m_LAG r_LAG (ConsOk.cons rfl m_LEAST_FACTOR r_LEAST_FACTOR (ConsOk.cons rfl m_MOST_FACTOR r_MOST_FACTOR (ConsOk.cons rfl m_MOST_LAG r_MOST_LAG (ConsOk.cons rfl m_SLOW r_SLOW ConsOk.nil))))) (BltOk.cons n_bool (BltOk.cons n_isinstance (BltOk.cons n_len (BltOk.cons n_str (BltOk.cons n_tuple BltOk.nil))))) (FunsOk.cons (E_is_whole.up (by decide)) (FunsOk.cons (E_is_map.up (by decide)) FunsOk.nil)) KfsOk.nil) c_way_fault hb_way_fault k_way_fault
  have E_sung : Ent l.prog w K mg base IsDraw ΓL 3 "sung" 146 5 := ent_of (k := 2) D_sung sc_sung rfl (nms ConsOk.nil BltOk.nil (FunsOk.cons (E_map_times.up (by decide)) (FunsOk.cons (E_place_at.up (by decide)) FunsOk.nil)) KfsOk.nil) c_sung hb_sung k_sung
  have E_reach_of : Ent l.prog w K mg base IsDraw ΓL 3 "reach_of" 190 4 := ent_of (k := 2) D_reach_of sc_reach_of rfl (nms (ConsOk.cons rfl m_BEYOND r_BEYOND (ConsOk.cons rfl m_CROSSED r_CROSSED (ConsOk.cons rfl m_LAG r_LAG ConsOk.nil))) (BltOk.cons n_abs (BltOk.cons n_max BltOk.nil)) (FunsOk.cons (E_common.up (by decide)) (FunsOk.cons (E_joint.up (by decide)) (FunsOk.cons (E_least_over.up (by decide)) (FunsOk.cons (E_never_together.up (by decide)) (FunsOk.cons (E_climbs.up (by decide)) (FunsOk.cons (E_rests_of.up (by decide)) (FunsOk.cons (E_exponent_over.up (by decide)) FunsOk.nil))))))) KfsOk.nil) c_reach_of hb_reach_of k_reach_of
  have E_need_voices : Ent l.prog w K mg base IsDraw ΓL 3 "need_voices" 204 1 := ent_of (k := 2) D_need_voices sc_need_voices rfl (nms (ConsOk.cons rfl m_MOST_VOICES r_MOST_VOICES ConsOk.nil) BltOk.nil (FunsOk.cons (E_need_whole.up (by decide)) FunsOk.nil) KfsOk.nil) c_need_voices hb_need_voices k_need_voices
  have E_law_style : Ent l.prog w K mg base IsDraw ΓL 3 "_law_style" 16 1 := ent_of (k := 2) D_law_style sc_law_style rfl (nms ConsOk.nil BltOk.nil (FunsOk.cons (E_law_next_2.up (by decide)) (FunsOk.cons (E_law_among.up (by decide)) (FunsOk.cons (E_law_rising.up (by decide)) FunsOk.nil))) KfsOk.nil) c_law_style hb_law_style k_law_style
  have E_law_pitches : Ent l.prog w K mg base IsDraw ΓL 3 "_law_pitches" 17 2 := ent_of (k := 2) D_law_pitches sc_law_pitches rfl (nms ConsOk.nil (BltOk.cons n_max (BltOk.cons n_min (BltOk.cons n_range BltOk.nil))) (FunsOk.cons (E_law_next_2.up (by decide)) (FunsOk.cons (E_law_among.up (by decide)) FunsOk.nil)) KfsOk.nil) c_law_pitches hb_law_pitches k_law_pitches
  have E_law_rise : Ent l.prog w K mg base IsDraw ΓL 3 "_law_rise" 129 1 := ent_of (k := 2) D_law_rise sc_law_rise rfl (nms ConsOk.nil BltOk.nil (FunsOk.cons (E_law_next_2.up (by decide)) (FunsOk.cons (E_law_among.up (by decide)) FunsOk.nil)) KfsOk.nil) c_law_rise hb_law_rise k_law_rise
  have E_law_lag_pair : Ent l.prog w K mg base IsDraw ΓL 3 "_law_lag_pair" 212 6 := ent_of (k := 2) D_law_lag_pair sc_law_lag_pair rfl (nms ConsOk.nil (BltOk.cons n_len (BltOk.cons n_range BltOk.nil)) (FunsOk.cons (E_law_words.up (by decide)) (FunsOk.cons (E_law_at.up (by decide)) FunsOk.nil)) KfsOk.nil) c_law_lag_pair hb_law_lag_pair k_law_lag_pair
  have E_law_slow_pair_2 : Ent l.prog w K mg base IsDraw ΓL 3 "_law_slow_pair" 214 5 := ent_of (k := 2) D_law_slow_pair_2 sc_law_slow_pair_2 rfl (nms ConsOk.nil (BltOk.cons n_int (BltOk.cons n_len (BltOk.cons n_min (BltOk.cons n_range BltOk.nil)))) (FunsOk.cons (E_law_power.up (by decide)) (FunsOk.cons (E_law_words.up (by decide)) (FunsOk.cons (E_law_map.up (by decide)) FunsOk.nil))) KfsOk.nil) c_law_slow_pair_2 hb_law_slow_pair_2 k_law_slow_pair_2
  have E_law_far : Ent l.prog w K mg base IsDraw ΓL 3 "_law_far" 219 4 := ent_of (k := 2) D_law_far sc_law_far rfl (nms ConsOk.nil (BltOk.cons n_max BltOk.nil) (FunsOk.cons (E_law_power.up (by decide)) (FunsOk.cons (E_law_measure.up (by decide)) (FunsOk.cons (E_law_both.up (by decide)) (FunsOk.cons (E_law_round.up (by decide)) FunsOk.nil)))) KfsOk.nil) c_law_far hb_law_far k_law_far
  have E_law_heard : Ent l.prog w K mg base IsDraw ΓL 3 "_law_heard" 222 5 := ent_of (k := 2) D_law_heard sc_law_heard rfl (nms ConsOk.nil (BltOk.cons n_len (BltOk.cons n_range BltOk.nil)) (FunsOk.cons (E_law_power.up (by decide)) (FunsOk.cons (E_law_note.up (by decide)) (FunsOk.cons (E_law_words.up (by decide)) FunsOk.nil))) KfsOk.nil) c_law_heard hb_law_heard k_law_heard
  have E_need_style : Ent l.prog w K mg base IsDraw ΓL 4 "need_style" 7 1 := ent_of (k := 3) D_need_style sc_need_style rfl (nms ConsOk.nil BltOk.nil (FunsOk.cons (E_style_fault.up (by decide)) FunsOk.nil) KfsOk.nil) c_need_style hb_need_style k_need_style
  have E_pair_fault : Ent l.prog w K mg base IsDraw ΓL 4 "pair_fault" 180 3 := ent_of (k := 3) D_pair_fault sc_pair_fault rfl (nms (ConsOk.cons rfl m_BARRED r_BARRED (ConsOk.cons rfl m_TIED r_TIED ConsOk.nil)) BltOk.nil (FunsOk.cons (E_interval_of.up (by decide)) (FunsOk.cons (E_is_tied.up (by decide)) FunsOk.nil)) KfsOk.nil) c_pair_fault hb_pair_fault k_pair_fault
  have E_need_way : Ent l.prog w K mg base IsDraw ΓL 4 "need_way" 128 1 := ent_of (k := 3) D_need_way sc_need_way rfl (nms ConsOk.nil BltOk.nil (FunsOk.cons (E_way_fault.up (by decide)) FunsOk.nil) KfsOk.nil) c_need_way hb_need_way k_need_way
  have E_slow_barred : Ent l.prog w K mg base IsDraw ΓL 4 "slow_barred" 195 5 := ent_of (k := 3) D_slow_barred sc_slow_barred rfl (nms ConsOk.nil (BltOk.cons n_int (BltOk.cons n_len (BltOk.cons n_max (BltOk.cons n_min (BltOk.cons n_range BltOk.nil))))) (FunsOk.cons (E_is_barred_by.up (by decide)) (FunsOk.cons (E_power_of.up (by decide)) (FunsOk.cons (E_note_of.up (by decide)) FunsOk.nil))) KfsOk.nil) c_slow_barred hb_slow_barred k_slow_barred
  have E_slow_tied : Ent l.prog w K mg base IsDraw ΓL 4 "slow_tied" 196 5 := ent_of (k := 3) D_slow_tied sc_slow_tied rfl (nms ConsOk.nil (BltOk.cons n_int (BltOk.cons n_len (BltOk.cons n_range BltOk.nil))) (FunsOk.cons (E_is_tied.up (by decide)) (FunsOk.cons (E_power_of.up (by decide)) (FunsOk.cons (E_note_of.up (by decide)) FunsOk.nil))) KfsOk.nil) c_slow_tied hb_slow_tied k_slow_tied
  have E_looked_at : Ent l.prog w K mg base IsDraw ΓL 4 "looked_at" 202 5 := ent_of (k := 3) D_looked_at sc_looked_at rfl (nms ConsOk.nil (BltOk.cons n_len (BltOk.cons n_range BltOk.nil)) (FunsOk.cons (E_reach_of.up (by decide)) (FunsOk.cons (E_nears_of.up (by decide)) FunsOk.nil)) KfsOk.nil) c_looked_at hb_looked_at k_looked_at
  have E_law_tune : Ent l.prog w K mg base IsDraw ΓL 4 "_law_tune" 19 2 := ent_of (k := 3) D_law_tune sc_law_tune rfl (nms ConsOk.nil (BltOk.cons n_tuple BltOk.nil) (FunsOk.cons (E_law_next_2.up (by decide)) (FunsOk.cons (E_law_among.up (by decide)) (FunsOk.cons (E_law_pitches.up (by decide)) FunsOk.nil))) KfsOk.nil) c_law_tune hb_law_tune k_law_tune
  have E_law_way : Ent l.prog w K mg base IsDraw ΓL 4 "_law_way" 130 1 := ent_of (k := 3) D_law_way sc_law_way rfl (nms ConsOk.nil BltOk.nil (FunsOk.cons (E_law_next_2.up (by decide)) (FunsOk.cons (E_law_among.up (by decide)) (FunsOk.cons (E_law_rise.up (by decide)) FunsOk.nil))) KfsOk.nil) c_law_way hb_law_way k_law_way
  have E_law_clashes : Ent l.prog w K mg base IsDraw ΓL 4 "_law_clashes" 221 4 := ent_of (k := 3) D_law_clashes sc_law_clashes rfl (nms ConsOk.nil (BltOk.cons n_len (BltOk.cons n_range BltOk.nil)) (FunsOk.cons (E_law_lag_pair.up (by decide)) (FunsOk.cons (E_law_slow_pair_2.up (by decide)) (FunsOk.cons (E_law_far.up (by decide)) FunsOk.nil))) KfsOk.nil) c_law_clashes hb_law_clashes k_law_clashes
  have E_need_all : Ent l.prog w K mg base IsDraw ΓL 5 "need_all" 170 3 := ent_of (k := 4) D_need_all sc_need_all rfl (nms ConsOk.nil BltOk.nil (FunsOk.cons (E_need_tune.up (by decide)) (FunsOk.cons (E_need_style.up (by decide)) (FunsOk.cons (E_need_way.up (by decide)) FunsOk.nil))) KfsOk.nil) c_need_all hb_need_all k_need_all
  have E_lag_fault : Ent l.prog w K mg base IsDraw ΓL 5 "lag_fault" 192 6 := ent_of (k := 4) D_lag_fault sc_lag_fault rfl (nms ConsOk.nil (BltOk.cons n_len (BltOk.cons n_range BltOk.nil)) (FunsOk.cons (E_pair_fault.up (by decide)) (FunsOk.cons (E_begin_of.up (by decide)) (FunsOk.cons (E_sung.up (by decide)) FunsOk.nil))) KfsOk.nil) c_lag_fault hb_lag_fault k_lag_fault
  have E_slow_fault : Ent l.prog w K mg base IsDraw ΓL 5 "slow_fault" 197 5 := ent_of (k := 4) D_slow_fault sc_slow_fault rfl (nms (ConsOk.cons rfl m_BARRED r_BARRED (ConsOk.cons rfl m_TIED r_TIED ConsOk.nil)) BltOk.nil (FunsOk.cons (E_slow_barred.up (by decide)) (FunsOk.cons (E_slow_tied.up (by decide)) FunsOk.nil)) KfsOk.nil) c_slow_fault hb_slow_fault k_slow_fault
  have E_two_fault : Ent l.prog w K mg base IsDraw ΓL 6 "two_fault" 199 6 := ent_of (k := 5) D_two_fault sc_two_fault rfl (nms (ConsOk.cons rfl m_LAG r_LAG ConsOk.nil) BltOk.nil (FunsOk.cons (E_lag_fault.up (by decide)) (FunsOk.cons (E_slow_fault.up (by decide)) FunsOk.nil)) KfsOk.nil) c_two_fault hb_two_fault k_two_fault
  have E_first_of : Ent l.prog w K mg base IsDraw ΓL 7 "first_of" 203 5 := ent_of (k := 6) D_first_of sc_first_of rfl (nms ConsOk.nil BltOk.nil (FunsOk.cons (E_begin_of.up (by decide)) (FunsOk.cons (E_two_fault.up (by decide)) (FunsOk.cons (E_looked_at.up (by decide)) FunsOk.nil))) KfsOk.nil) c_first_of hb_first_of k_first_of
  have Q_3 : KfEnt l.prog w K mg base IsDraw ΓL 7 ⟨"most_voices", 3, ["endless"], 211, [none]⟩ := kf_of (k := 6) (id := 211) D_most_voices sc_most_voices rfl (nms ConsOk.nil BltOk.nil (FunsOk.cons (E_need_endless.up (by decide)) (FunsOk.cons (E_need_all.up (by decide)) (FunsOk.cons (E_two_fault.up (by decide)) (FunsOk.cons (E_looked_at.up (by decide)) FunsOk.nil)))) KfsOk.nil) c_most_voices k_most_voices 3 ["endless"] [none] [] (by simp) (by simp) rfl rfl rfl (by intro d hd; simp at hd; done) fun _ _ _ _ _ _ us mv ws h1 h2 h3 => match us, mv, ws, h1, h2, h3 with | [_, _, _], [], [_], _, _, _ => rfl
  have Q_0 : KfEnt l.prog w K mg base IsDraw ΓL 8 ⟨"first_fault", 3, ["voices", "endless"], 206, [none, none]⟩ := kf_of (k := 7) (id := 206) D_first_fault sc_first_fault rfl (nms ConsOk.nil BltOk.nil (FunsOk.cons (E_need_endless.up (by decide)) (FunsOk.cons (E_need_all.up (by decide)) (FunsOk.cons (E_first_of.up (by decide)) (FunsOk.cons (E_need_voices.up (by decide)) FunsOk.nil)))) KfsOk.nil) c_first_fault k_first_fault 3 ["voices", "endless"] [none, none] [] (by simp) (by simp) rfl rfl rfl (by intro d hd; simp at hd; done) fun _ _ _ _ _ _ us mv ws h1 h2 h3 => match us, mv, ws, h1, h2, h3 with | [_, _, _], [], [_, _], _, _, _ => rfl
  have Q_2 : KfEnt l.prog w K mg base IsDraw ΓL 8 ⟨"first_fault", 3, ["endless"], 206, [some (.non), none]⟩ := kf_of (k := 7) (id := 206) D_first_fault sc_first_fault rfl (nms ConsOk.nil BltOk.nil (FunsOk.cons (E_need_endless.up (by decide)) (FunsOk.cons (E_need_all.up (by decide)) (FunsOk.cons (E_first_of.up (by decide)) (FunsOk.cons (E_need_voices.up (by decide)) FunsOk.nil)))) KfsOk.nil) c_first_fault k_first_fault 3 ["endless"] [some (.non), none] [("voices", (V.non))] (by simp) (by simp) rfl rfl rfl (by intro d hd; simp at hd; subst hd; rfl) fun _ _ _ _ _ _ us mv ws h1 h2 h3 => match us, mv, ws, h1, h2, h3 with | [_, _, _], [_], [_], _, _, _ => ⟨_, _, _, _, _, _, rfl, rfl, rfl⟩
  have Q_1 : KfEnt l.prog w K mg base IsDraw ΓL 9 ⟨"is_clean", 3, ["endless"], 207, [some (.non), none]⟩ := kf_of (k := 8) (id := 207) D_is_clean sc_is_clean rfl (nms ConsOk.nil BltOk.nil FunsOk.nil (KfsOk.cons (Q_0.up (by decide)) KfsOk.nil)) c_is_clean k_is_clean 3 ["endless"] [some (.non), none] [("voices", (V.non))] (by simp) (by simp) rfl rfl rfl (by intro d hd; simp at hd; subst hd; rfl) fun _ _ _ _ _ _ us mv ws h1 h2 h3 => match us, mv, ws, h1, h2, h3 with | [_, _, _], [_], [_], _, _, _ => ⟨_, _, _, _, _, _, rfl, rfl, rfl⟩
  exact lawfn_ok (k := 9) (j := 1) (rest := (defBody s_law).tail) D_law sc_law rfl (nms ConsOk.nil (BltOk.cons n_len (BltOk.cons n_min (BltOk.cons n_range (BltOk.cons n_repr BltOk.nil)))) (FunsOk.cons (E_law_begun.up (by decide)) (FunsOk.cons (E_law_next_2.up (by decide)) (FunsOk.cons (E_law_style.up (by decide)) (FunsOk.cons (E_law_tune.up (by decide)) (FunsOk.cons (E_law_way.up (by decide)) (FunsOk.cons (E_law_power.up (by decide)) (FunsOk.cons (E_law_slow_pair_2.up (by decide)) (FunsOk.cons (E_law_clashes.up (by decide)) (FunsOk.cons (E_law_heard.up (by decide)) FunsOk.nil))))))))) (KfsOk.cons (Q_1.up (by decide)) (KfsOk.cons (Q_2.up (by decide)) (KfsOk.cons (Q_3.up (by decide)) KfsOk.nil)))) rfl rfl (.inl rfl) (by first | exact Or.inl rfl | exact Or.inr (Or.inl rfl) | exact Or.inr (Or.inr rfl)) rfl rfl c_rest (PySem.W.mg_of X G ha_law_begun) hk_law_begun hb_law_begun B_law_begun (by decide) (by decide) kk_law
end Pv
open PySem PySem.W PyProof.Rows
set_option maxRecDepth 100000 in
set_option maxHeartbeats 0 in
theorem PySem.Challenge.cw_lagvoices_k11_whole_slow_voices_holds : PySem.Challenge.rw_lagvoices_k11_whole_slow_voices.Holds := by
  w_on; o_law; k_head; (case hw => w_witness2)
  k_fill
  refine Pv.walkL (l := PySem.Challenge.rw_lagvoices_k11_whole_slow_voices) (k := 10) rfl rfl ⟨rfl, by decide, by decide⟩ (fun w h Y => PySem.W.kIn_of Y) ?F
  case F =>
    intro w mg fa h KX G hmg
    refine' Pv.all_mk KX G hmg ?ha_is_whole ?hl_is_whole ?hc_is_whole ?hk_is_whole ?ha_need_whole ?hl_need_whole ?hc_need_whole ?hk_need_whole ?ha_is_note ?hl_is_note ?hc_is_note ?hk_is_note ?ha_need_tune ?hl_need_tune ?hc_need_tune ?hk_need_tune ?ha_is_rising ?hl_is_rising ?hc_is_rising ?hk_is_rising ?ha_style_fault ?hl_style_fault ?hc_style_fault ?hk_style_fault ?ha_need_style ?hl_need_style ?hc_need_style ?hk_need_style ?ha_rest_by ?hl_rest_by ?hc_rest_by ?hk_rest_by ?ha_interval_of ?hl_interval_of ?hc_interval_of ?hk_interval_of ?ha_is_barred_by ?hl_is_barred_by ?hc_is_barred_by ?hk_is_barred_by ?ha_pair_fault ?hl_pair_fault ?hc_pair_fault ?hk_pair_fault ?ha_is_tied ?hl_is_tied ?hc_is_tied ?hk_is_tied ?ha_is_map ?hl_is_map ?hc_is_map ?hk_is_map ?ha_way_fault ?hl_way_fault ?hc_way_fault ?hk_way_fault ?ha_need_way ?hl_need_way ?hc_need_way ?hk_need_way ?ha_need_endless ?hl_need_endless ?hc_need_endless ?hk_need_endless ?ha_map_times ?hl_map_times ?hc_map_times ?hk_map_times ?ha_power_of ?hl_power_of ?hc_power_of ?hk_power_of ?ha_is_backwards ?hl_is_backwards ?hc_is_backwards ?hk_is_backwards ?ha_begin_of ?hl_begin_of ?hc_begin_of ?hk_begin_of ?ha_notes_gone ?hl_notes_gone ?hc_notes_gone ?hk_notes_gone ?ha_place_at ?hl_place_at ?hc_place_at ?hk_place_at ?ha_sung ?hl_sung ?hc_sung ?hk_sung ?ha_common ?hl_common ?hc_common ?hk_common ?ha_joint ?hl_joint ?hc_joint ?hk_joint ?ha_least_over ?hl_least_over ?hc_least_over ?hk_least_over ?ha_never_together ?hl_never_together ?hc_never_together ?hk_never_together ?ha_climbs ?hl_climbs ?hc_climbs ?hk_climbs ?ha_rests_of ?hl_rests_of ?hc_rests_of ?hk_rests_of ?ha_exponent_over ?hl_exponent_over ?hc_exponent_over ?hk_exponent_over ?ha_reach_of ?hl_reach_of ?hc_reach_of ?hk_reach_of ?ha_need_all ?hl_need_all ?hc_need_all ?hk_need_all ?ha_lag_fault ?hl_lag_fault ?hc_lag_fault ?hk_lag_fault ?ha_note_of ?hl_note_of ?hc_note_of ?hk_note_of ?ha_slow_barred ?hl_slow_barred ?hc_slow_barred ?hk_slow_barred ?ha_slow_tied ?hl_slow_tied ?hc_slow_tied ?hk_slow_tied ?ha_slow_fault ?hl_slow_fault ?hc_slow_fault ?hk_slow_fault ?ha_two_fault ?hl_two_fault ?hc_two_fault ?hk_two_fault ?ha_nears_of ?hl_nears_of ?hc_nears_of ?hk_nears_of ?ha_looked_at ?hl_looked_at ?hc_looked_at ?hk_looked_at ?ha_first_of ?hl_first_of ?hc_first_of ?hk_first_of ?ha_need_voices ?hl_need_voices ?hc_need_voices ?hk_need_voices ?ha_first_fault ?hl_first_fault ?w_first_fault_voices ?r_first_fault_voices ?w_first_fault_endless ?r_first_fault_endless ?hc_first_fault ?hk_first_fault ?ha_is_clean ?hl_is_clean ?w_is_clean_voices ?r_is_clean_voices ?w_is_clean_endless ?r_is_clean_endless ?hc_is_clean ?hk_is_clean ?ha_most_voices ?hl_most_voices ?w_most_voices_endless ?r_most_voices_endless ?hc_most_voices ?hk_most_voices ?ha_law_begun ?hl_law_begun ?hc_law_begun ?hk_law_begun ?ha_law_next_2 ?hl_law_next_2 ?hc_law_next_2 ?hk_law_next_2 ?ha_law_among ?hl_law_among ?hc_law_among ?hk_law_among ?ha_law_rising ?hl_law_rising ?hc_law_rising ?hk_law_rising ?ha_law_style ?hl_law_style ?hc_law_style ?hk_law_style ?ha_law_pitches ?hl_law_pitches ?hc_law_pitches ?hk_law_pitches ?ha_law_tune ?hl_law_tune ?hc_law_tune ?hk_law_tune ?ha_law_rise ?hl_law_rise ?hc_law_rise ?hk_law_rise ?ha_law_way ?hl_law_way ?hc_law_way ?hk_law_way ?ha_law_power ?hl_law_power ?hc_law_power ?hk_law_power ?ha_law_note ?hl_law_note ?hc_law_note ?hk_law_note ?ha_law_gap_2 ?hl_law_gap_2 ?hc_law_gap_2 ?hk_law_gap_2 ?ha_law_words ?hl_law_words ?hc_law_words ?hk_law_words ?ha_law_map ?hl_law_map ?hc_law_map ?hk_law_map ?ha_law_at ?hl_law_at ?hc_law_at ?hk_law_at ?ha_law_lag_pair ?hl_law_lag_pair ?hc_law_lag_pair ?hk_law_lag_pair ?ha_law_slow_pair_2 ?hl_law_slow_pair_2 ?hc_law_slow_pair_2 ?hk_law_slow_pair_2 ?ha_law_measure ?hl_law_measure ?hc_law_measure ?hk_law_measure ?ha_law_both ?hl_law_both ?hc_law_both ?hk_law_both ?ha_law_round ?hl_law_round ?hc_law_round ?hk_law_round ?ha_law_far ?hl_law_far ?hc_law_far ?hk_law_far ?ha_law_clashes ?hl_law_clashes ?hc_law_clashes ?hk_law_clashes ?ha_law_heard ?hl_law_heard ?hc_law_heard ?hk_law_heard ?ha_law ?hl_law ?hc_law ?hk_law ?g_BARRED ?r_BARRED ?g_BEYOND ?r_BEYOND ?g_CROSSED ?r_CROSSED ?g_HIGHEST ?r_HIGHEST ?g_LAG ?r_LAG ?g_LEAST_FACTOR ?r_LEAST_FACTOR ?g_LOWEST ?r_LOWEST ?g_MOST_FACTOR ?r_MOST_FACTOR ?g_MOST_LAG ?r_MOST_LAG ?g_MOST_NOTES ?r_MOST_NOTES ?g_MOST_RISE ?r_MOST_RISE ?g_MOST_SPAN ?r_MOST_SPAN ?g_MOST_VOICES ?r_MOST_VOICES ?g_SLOW ?r_SLOW ?g_TIED ?r_TIED ?z_abs ?z_all ?z_bool ?z_enumerate ?z_int ?z_isinstance ?z_len ?z_max ?z_min ?z_range ?z_repr ?z_sorted ?z_str ?z_tuple ?z_zip
    (case ha_is_whole => k_is)
    (case hl_is_whole => k_is)
    (case hc_is_whole => k_is)
    (case hk_is_whole => k_is)
    (case ha_need_whole => k_is)
    (case hl_need_whole => k_is)
    (case hc_need_whole => k_is)
    (case hk_need_whole => k_is)
    (case ha_is_note => k_is)
    (case hl_is_note => k_is)
    (case hc_is_note => k_is)
    (case hk_is_note => k_is)
    (case ha_need_tune => k_is)
    (case hl_need_tune => k_is)
    (case hc_need_tune => k_is)
    (case hk_need_tune => k_is)
    (case ha_is_rising => k_is)
    (case hl_is_rising => k_is)
    (case hc_is_rising => k_is)
    (case hk_is_rising => k_is)
    (case ha_style_fault => k_is)
    (case hl_style_fault => k_is)
    (case hc_style_fault => k_is)
    (case hk_style_fault => k_is)
    (case ha_need_style => k_is)
    (case hl_need_style => k_is)
    (case hc_need_style => k_is)
    (case hk_need_style => k_is)
    (case ha_rest_by => k_is)
    (case hl_rest_by => k_is)
    (case hc_rest_by => k_is)
    (case hk_rest_by => k_is)
    (case ha_interval_of => k_is)
    (case hl_interval_of => k_is)
    (case hc_interval_of => k_is)
    (case hk_interval_of => k_is)
    (case ha_is_barred_by => k_is)
    (case hl_is_barred_by => k_is)
    (case hc_is_barred_by => k_is)
    (case hk_is_barred_by => k_is)
    (case ha_pair_fault => k_is)
    (case hl_pair_fault => k_is)
    (case hc_pair_fault => k_is)
    (case hk_pair_fault => k_is)
    (case ha_is_tied => k_is)
    (case hl_is_tied => k_is)
    (case hc_is_tied => k_is)
    (case hk_is_tied => k_is)
    (case ha_is_map => k_is)
    (case hl_is_map => k_is)
    (case hc_is_map => k_is)
    (case hk_is_map => k_is)
    (case ha_way_fault => k_is)
    (case hl_way_fault => k_is)
    (case hc_way_fault => k_is)
    (case hk_way_fault => k_is)
    (case ha_need_way => k_is)
    (case hl_need_way => k_is)
    (case hc_need_way => k_is)
    (case hk_need_way => k_is)
    (case ha_need_endless => k_is)
    (case hl_need_endless => k_is)
    (case hc_need_endless => k_is)
    (case hk_need_endless => k_is)
    (case ha_map_times => k_is)
    (case hl_map_times => k_is)
    (case hc_map_times => k_is)
    (case hk_map_times => k_is)
    (case ha_power_of => k_is)
    (case hl_power_of => k_is)
    (case hc_power_of => k_is)
    (case hk_power_of => k_is)
    (case ha_is_backwards => k_is)
    (case hl_is_backwards => k_is)
    (case hc_is_backwards => k_is)
    (case hk_is_backwards => k_is)
    (case ha_begin_of => k_is)
    (case hl_begin_of => k_is)
    (case hc_begin_of => k_is)
    (case hk_begin_of => k_is)
    (case ha_notes_gone => k_is)
    (case hl_notes_gone => k_is)
    (case hc_notes_gone => k_is)
    (case hk_notes_gone => k_is)
    (case ha_place_at => k_is)
    (case hl_place_at => k_is)
    (case hc_place_at => k_is)
    (case hk_place_at => k_is)
    (case ha_sung => k_is)
    (case hl_sung => k_is)
    (case hc_sung => k_is)
    (case hk_sung => k_is)
    (case ha_common => k_is)
    (case hl_common => k_is)
    (case hc_common => k_is)
    (case hk_common => k_is)
    (case ha_joint => k_is)
    (case hl_joint => k_is)
    (case hc_joint => k_is)
    (case hk_joint => k_is)
    (case ha_least_over => k_is)
    (case hl_least_over => k_is)
    (case hc_least_over => k_is)
    (case hk_least_over => k_is)
    (case ha_never_together => k_is)
    (case hl_never_together => k_is)
    (case hc_never_together => k_is)
    (case hk_never_together => k_is)
    (case ha_climbs => k_is)
    (case hl_climbs => k_is)
    (case hc_climbs => k_is)
    (case hk_climbs => k_is)
    (case ha_rests_of => k_is)
    (case hl_rests_of => k_is)
    (case hc_rests_of => k_is)
    (case hk_rests_of => k_is)
    (case ha_exponent_over => k_is)
    (case hl_exponent_over => k_is)
    (case hc_exponent_over => k_is)
    (case hk_exponent_over => k_is)
    (case ha_reach_of => k_is)
    (case hl_reach_of => k_is)
    (case hc_reach_of => k_is)
    (case hk_reach_of => k_is)
    (case ha_need_all => k_is)
    (case hl_need_all => k_is)
    (case hc_need_all => k_is)
    (case hk_need_all => k_is)
    (case ha_lag_fault => k_is)
    (case hl_lag_fault => k_is)
    (case hc_lag_fault => k_is)
    (case hk_lag_fault => k_is)
    (case ha_note_of => k_is)
    (case hl_note_of => k_is)
    (case hc_note_of => k_is)
    (case hk_note_of => k_is)
    (case ha_slow_barred => k_is)
    (case hl_slow_barred => k_is)
    (case hc_slow_barred => k_is)
    (case hk_slow_barred => k_is)
    (case ha_slow_tied => k_is)
    (case hl_slow_tied => k_is)
    (case hc_slow_tied => k_is)
    (case hk_slow_tied => k_is)
    (case ha_slow_fault => k_is)
    (case hl_slow_fault => k_is)
    (case hc_slow_fault => k_is)
    (case hk_slow_fault => k_is)
    (case ha_two_fault => k_is)
    (case hl_two_fault => k_is)
    (case hc_two_fault => k_is)
    (case hk_two_fault => k_is)
    (case ha_nears_of => k_is)
    (case hl_nears_of => k_is)
    (case hc_nears_of => k_is)
    (case hk_nears_of => k_is)
    (case ha_looked_at => k_is)
    (case hl_looked_at => k_is)
    (case hc_looked_at => k_is)
    (case hk_looked_at => k_is)
    (case ha_first_of => k_is)
    (case hl_first_of => k_is)
    (case hc_first_of => k_is)
    (case hk_first_of => k_is)
    (case ha_need_voices => k_is)
    (case hl_need_voices => k_is)
    (case hc_need_voices => k_is)
    (case hk_need_voices => k_is)
    (case ha_first_fault => k_is)
    (case hl_first_fault => k_is)
    (case w_first_fault_voices => k_is)
    (case r_first_fault_voices => first | exact ⟨_, rfl⟩ | rfl | k_is)
    (case w_first_fault_endless => k_is)
    (case r_first_fault_endless => first | exact ⟨_, rfl⟩ | rfl | k_is)
    (case hc_first_fault => k_is)
    (case hk_first_fault => k_is)
    (case ha_is_clean => k_is)
    (case hl_is_clean => k_is)
    (case w_is_clean_voices => k_is)
    (case r_is_clean_voices => first | exact ⟨_, rfl⟩ | rfl | k_is)
    (case w_is_clean_endless => k_is)
    (case r_is_clean_endless => first | exact ⟨_, rfl⟩ | rfl | k_is)
    (case hc_is_clean => k_is)
    (case hk_is_clean => k_is)
    (case ha_most_voices => k_is)
    (case hl_most_voices => k_is)
    (case w_most_voices_endless => k_is)
    (case r_most_voices_endless => first | exact ⟨_, rfl⟩ | rfl | k_is)
    (case hc_most_voices => k_is)
    (case hk_most_voices => k_is)
    (case ha_law_begun => k_is)
    (case hl_law_begun => k_is)
    (case hc_law_begun => k_is)
    (case hk_law_begun => k_is)
    (case ha_law_next_2 => k_is)
    (case hl_law_next_2 => k_is)
    (case hc_law_next_2 => k_is)
    (case hk_law_next_2 => k_is)
    (case ha_law_among => k_is)
    (case hl_law_among => k_is)
    (case hc_law_among => k_is)
    (case hk_law_among => k_is)
    (case ha_law_rising => k_is)
    (case hl_law_rising => k_is)
    (case hc_law_rising => k_is)
    (case hk_law_rising => k_is)
    (case ha_law_style => k_is)
    (case hl_law_style => k_is)
    (case hc_law_style => k_is)
    (case hk_law_style => k_is)
    (case ha_law_pitches => k_is)
    (case hl_law_pitches => k_is)
    (case hc_law_pitches => k_is)
    (case hk_law_pitches => k_is)
    (case ha_law_tune => k_is)
    (case hl_law_tune => k_is)
    (case hc_law_tune => k_is)
    (case hk_law_tune => k_is)
    (case ha_law_rise => k_is)
    (case hl_law_rise => k_is)
    (case hc_law_rise => k_is)
    (case hk_law_rise => k_is)
    (case ha_law_way => k_is)
    (case hl_law_way => k_is)
    (case hc_law_way => k_is)
    (case hk_law_way => k_is)
    (case ha_law_power => k_is)
    (case hl_law_power => k_is)
    (case hc_law_power => k_is)
    (case hk_law_power => k_is)
    (case ha_law_note => k_is)
    (case hl_law_note => k_is)
    (case hc_law_note => k_is)
    (case hk_law_note => k_is)
    (case ha_law_gap_2 => k_is)
    (case hl_law_gap_2 => k_is)
    (case hc_law_gap_2 => k_is)
    (case hk_law_gap_2 => k_is)
    (case ha_law_words => k_is)
    (case hl_law_words => k_is)
    (case hc_law_words => k_is)
    (case hk_law_words => k_is)
    (case ha_law_map => k_is)
    (case hl_law_map => k_is)
    (case hc_law_map => k_is)
    (case hk_law_map => k_is)
    (case ha_law_at => k_is)
    (case hl_law_at => k_is)
    (case hc_law_at => k_is)
    (case hk_law_at => k_is)
    (case ha_law_lag_pair => k_is)
    (case hl_law_lag_pair => k_is)
    (case hc_law_lag_pair => k_is)
    (case hk_law_lag_pair => k_is)
    (case ha_law_slow_pair_2 => k_is)
    (case hl_law_slow_pair_2 => k_is)
    (case hc_law_slow_pair_2 => k_is)
    (case hk_law_slow_pair_2 => k_is)
    (case ha_law_measure => k_is)
    (case hl_law_measure => k_is)
    (case hc_law_measure => k_is)
    (case hk_law_measure => k_is)
    (case ha_law_both => k_is)
    (case hl_law_both => k_is)
    (case hc_law_both => k_is)
    (case hk_law_both => k_is)
    (case ha_law_round => k_is)
    (case hl_law_round => k_is)
    (case hc_law_round => k_is)
    (case hk_law_round => k_is)
    (case ha_law_far => k_is)
    (case hl_law_far => k_is)
    (case hc_law_far => k_is)
    (case hk_law_far => k_is)
    (case ha_law_clashes => k_is)
    (case hl_law_clashes => k_is)
    (case hc_law_clashes => k_is)
    (case hk_law_clashes => k_is)
    (case ha_law_heard => k_is)
    (case hl_law_heard => k_is)
    (case hc_law_heard => k_is)
    (case hk_law_heard => k_is)
    (case ha_law => k_is)
    (case hl_law => k_is)
    (case hc_law => k_is)
    (case hk_law => k_is)
    (case g_BARRED => k_is)
    (case r_BARRED => first | exact ⟨_, rfl⟩ | rfl | k_is)
    (case g_BEYOND => k_is)
    (case r_BEYOND => first | exact ⟨_, rfl⟩ | rfl | k_is)
    (case g_CROSSED => k_is)
    (case r_CROSSED => first | exact ⟨_, rfl⟩ | rfl | k_is)
    (case g_HIGHEST => k_is)
    (case r_HIGHEST => first | exact ⟨_, rfl⟩ | rfl | k_is)
    (case g_LAG => k_is)
    (case r_LAG => first | exact ⟨_, rfl⟩ | rfl | k_is)
    (case g_LEAST_FACTOR => k_is)
    (case r_LEAST_FACTOR => first | exact ⟨_, rfl⟩ | rfl | k_is)
    (case g_LOWEST => k_is)
    (case r_LOWEST => first | exact ⟨_, rfl⟩ | rfl | k_is)
    (case g_MOST_FACTOR => k_is)
    (case r_MOST_FACTOR => first | exact ⟨_, rfl⟩ | rfl | k_is)
    (case g_MOST_LAG => k_is)
    (case r_MOST_LAG => first | exact ⟨_, rfl⟩ | rfl | k_is)
    (case g_MOST_NOTES => k_is)
    (case r_MOST_NOTES => first | exact ⟨_, rfl⟩ | rfl | k_is)
    (case g_MOST_RISE => k_is)
    (case r_MOST_RISE => first | exact ⟨_, rfl⟩ | rfl | k_is)
    (case g_MOST_SPAN => k_is)
    (case r_MOST_SPAN => first | exact ⟨_, rfl⟩ | rfl | k_is)
    (case g_MOST_VOICES => k_is)
    (case r_MOST_VOICES => first | exact ⟨_, rfl⟩ | rfl | k_is)
    (case g_SLOW => k_is)
    (case r_SLOW => first | exact ⟨_, rfl⟩ | rfl | k_is)
    (case g_TIED => k_is)
    (case r_TIED => first | exact ⟨_, rfl⟩ | rfl | k_is)
    (case z_abs => k_is)
    (case z_all => k_is)
    (case z_bool => k_is)
    (case z_enumerate => k_is)
    (case z_int => k_is)
    (case z_isinstance => k_is)
    (case z_len => k_is)
    (case z_max => k_is)
    (case z_min => k_is)
    (case z_range => k_is)
    (case z_repr => k_is)
    (case z_sorted => k_is)
    (case z_str => k_is)
    (case z_tuple => k_is)
    (case z_zip => k_is)

end
