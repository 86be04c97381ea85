import PyProof.Rows.All
import Wide.All
import OpenK.AllK
import Wide.FinOn
import HandS.ForMost
import HandS.ForExc
import HandS.ExcValue
import HandS.TupAny
import HandS.Wide
import HandS.WideBits
import HandS.Flow
import HandS.Deep
import HandS.IsInst
import HandS.More
import HandS.Zip
import HandS.Rev
import HandS.ExcIs
import HandS.RevTup
import HandS.EndBits
import HandS.Head2
import HandS.HeadEnd
import HandS.HeadHook2
import KE.KStateDown
import PySem.Challenge.RW_stairsay_k31_places
set_option Elab.async false
set_option linter.all false
set_option maxRecDepth 100000
/-! Q1: values as data trees (D), slots that hold data or the place of an own mutable object (W), cells; how they lie in the abstract heap; the judgements' readings made of functions. -/
namespace Q
open PySem L2

inductive D where
  | non | bl (b : Bool) | int (i : Int) | str (s : Str)
  | tup (l : List D) | lst (l : List D) | scr (l : List D) | dk (ks : List Key) (l : List D) | obj (C : Str) (fs : List Str) (l : List D) | exc (n : Str)
inductive W where
  | p (d : D) | l (k : Nat)
inductive Cell where
  | lst (l : List D) | dk (ks : List Key) (l : List D) | obj (C : Str) (fs : List Str) (l : List D) | dead

def ExQ (cls : Value) (a : Addr) : HO := .ext fun h => ∃ (oe : Obj) (vs : Array Value), h.get? a = some oe ∧ L2.Zc cls none oe ∧ oe.data = .fields vs
abbrev Env := List (Option W)
abbrev Store := List Cell

/-- the places' addresses; what other frames own -/
structure PL where
  l : List Addr
  f : Addr → Prop
def PL.snoc (π : PL) (p : Addr) : PL := ⟨π.l ++ [p], π.f⟩
def live (π : PL) (μ : Store) (a : Addr) : Prop := π.f a ∨ ∃ (k : Nat) (c : Cell), π.l[k]? = some a ∧ μ[k]? = some c ∧ c ≠ .dead

/-- the class that a name of the module stands for -/
def cnOf (mg : Str → Option Value) (n : Str) : Option Addr := match mg n with
  | some (.ref a) => some a
  | _ => none

section
variable (K : PySem.W.Frag) (mg : Str → Option Value)
def KLst (a : Addr) (vs : List V) : Prop := ∃ (o : Obj) (its : Array Value) (n : Nat), K.lookup a = some o ∧ o.cls = .type "list" ∧ o.dict = none ∧ o.data = .seq its n ∧ its.size ≤ sizeLine ∧ Vals vs its.toList
mutual
inductive Rep (π : PL) (μ : Store) (H : Hp) : V → D → Prop
  | non : Rep π μ H .non .non
  | bl (b : Bool) : Rep π μ H (.bl b) (.bl b)
  | int (i : Int) : Rep π μ H (.int i) (.int i)
  | str (s : Str) : Rep π μ H (.str s) (.str s)
  | tup {a : Addr} {vs : List V} {ds : List D} : H a = some (.tup vs) → ¬ live π μ a → Reps π μ H vs ds → Rep π μ H (.ref a) (.tup ds)
  | lst {a : Addr} {vs : List V} {ds : List D} : H a = some (.lst vs) → ¬ live π μ a → Reps π μ H vs ds → Rep π μ H (.ref a) (.lst ds)
  | scr {a : Addr} {vs : List V} {ds : List D} : ((∃ o, H a = some (.frz o (.lst vs))) ∧ ¬ live π μ a) ∨ KLst K a vs → Reps π μ H vs ds → Rep π μ H (.ref a) (.scr ds)
  | exc {a c : Addr} {n : Str} : cnOf mg n = some c → H a = some (ExQ (.ref c) a) → ¬ live π μ a → Rep π μ H (.ref a) (.exc n)
  | dk {a : Addr} {kvs : List (Key × V)} {ks : List Key} {ds : List D} : Rd H a (.dK kvs) → ¬ live π μ a → kvs.map (·.1) = ks → Reps π μ H (kvs.map (·.2)) ds → Rep π μ H (.ref a) (.dk ks ds)
  | obj {a c dx : Addr} {C : Str} {fvs : List (Str × V)} {fs : List Str} {ds : List D} : cnOf mg C = some c → H a = some (.ins c dx fvs) → ¬ live π μ a → fvs.map (·.1) = fs → Reps π μ H (fvs.map (·.2)) ds → Rep π μ H (.ref a) (.obj C fs ds)
inductive Reps (π : PL) (μ : Store) (H : Hp) : List V → List D → Prop
  | nil : Reps π μ H [] []
  | cons {v : V} {vs : List V} {d : D} {ds : List D} : Rep π μ H v d → Reps π μ H vs ds → Reps π μ H (v :: vs) (d :: ds)
end

def RepW (π : PL) (μ : Store) (H : Hp) (v : V) : W → Prop
  | .p d => Rep K mg π μ H v d
  | .l k => ∃ a, v = .ref a ∧ π.l[k]? = some a
def CellOk (π : PL) (μ : Store) (H : Hp) (a : Addr) : Cell → Prop
  | .lst ds => ∃ vs, H a = some (.lst vs) ∧ Reps K mg π μ H vs ds
  | .dk ks ds => ∃ kvs : List (Key × V), H a = some (.dK kvs) ∧ kvs.map (·.1) = ks ∧ Reps K mg π μ H (kvs.map (·.2)) ds
  | .obj C fs ds => ∃ (c dx : Addr) (fvs : List (Str × V)), cnOf mg C = some c ∧ H a = some (.ins c dx fvs) ∧ fvs.map (·.1) = fs ∧ Reps K mg π μ H (fvs.map (·.2)) ds
  | .dead => ∃ o, H a = some o
structure HRel (π : PL) (μ : Store) (H : Hp) : Prop where
  len : π.l.length = μ.length
  nd : π.l.Nodup
  ok : ∀ (k : Nat) (a : Addr) (c : Cell), π.l[k]? = some a → μ[k]? = some c → CellOk K mg π μ H a c
  fh : ∀ a, π.f a → ∃ o, H a = some o
  fd : ∀ a, π.f a → a ∉ π.l
structure SRel (π : PL) (μ : Store) (H : Hp) (σ : St) (ρ : Env) : Prop where
  len : σ.length = ρ.length
  ok : ∀ (i : Nat) (w : W), ρ[i]? = some (some w) → ∃ v, σ[i]? = some (some v) ∧ RepW K mg π μ H v w
end
/-- a dict (a walk over it locks it for a while) -/
def DLike : HO → Prop
  | .dK _ => True
  | .frz _ (.dK _) => True
  | _ => False
/-- what stands behind a step: places stay, what is tracked and not a live cell is as it was -/
structure Kp (π : PL) (μ : Store) (H : Hp) (π' : PL) (μ' : Store) (H' : Hp) : Prop where
  kp : ∀ a o, H a = some o → ¬ live π μ a → ¬ DLike o → H' a = some o ∧ ¬ live π' μ' a
  kd : ∀ a kvs, Rd H a (.dK kvs) → ¬ live π μ a → Rd H' a (.dK kvs) ∧ ¬ live π' μ' a
structure Ext (π : PL) (μ : Store) (H : Hp) (π' : PL) (μ' : Store) (H' : Hp) : Prop extends Kp π μ H π' μ' H' where
  pre : ∀ (k : Nat) (a : Addr), π.l[k]? = some a → π'.l[k]? = some a
  fe : π'.f = π.f
  far : ∀ a o, π.f a → H a = some o → H' a = some o

section
variable {K : PySem.W.Frag} {mg : Str → Option Value} {π π' π2 : PL} {μ μ' μ2 : Store} {H H' H2 : Hp}
theorem Kp.refl : Kp π μ H π μ H := ⟨fun _ _ h n _ => ⟨h, n⟩, fun _ _ h n => ⟨h, n⟩⟩
theorem Kp.of (kp : ∀ a o, H a = some o → ¬ live π μ a → H' a = some o ∧ ¬ live π' μ' a) : Kp π μ H π' μ' H' := by
  refine ⟨fun a o h n _ => kp a o h n, fun a kvs h n => ?_⟩
  rcases h with h | ⟨o, h⟩
  · exact ⟨.inl (kp _ _ h n).1, (kp _ _ h n).2⟩
  · exact ⟨.inr ⟨o, (kp _ _ h n).1⟩, (kp _ _ h n).2⟩
theorem Ext.refl : Ext π μ H π μ H := ⟨.refl, fun _ _ h => h, rfl, fun _ _ _ h => h⟩
theorem Kp.trans (a : Kp π μ H π' μ' H') (b : Kp π' μ' H' π2 μ2 H2) : Kp π μ H π2 μ2 H2 :=
  ⟨fun x o h n d => b.kp x o (a.kp x o h n d).1 (a.kp x o h n d).2 d, fun x o h n => b.kd x o (a.kd x o h n).1 (a.kd x o h n).2⟩
theorem Ext.trans (a : Ext π μ H π' μ' H') (b : Ext π' μ' H' π2 μ2 H2) : Ext π μ H π2 μ2 H2 :=
  ⟨a.toKp.trans b.toKp, fun k x h => b.pre k x (a.pre k x h), b.fe.trans a.fe, fun x o f h => b.far x o (by rw [a.fe]; exact f) (a.far x o f h)⟩
theorem Ext.of (pre : ∀ (k : Nat) (a : Addr), π.l[k]? = some a → π'.l[k]? = some a) (kp : ∀ a o, H a = some o → ¬ live π μ a → H' a = some o ∧ ¬ live π' μ' a) (fe : π'.f = π.f) (far : ∀ a o, π.f a → H a = some o → H' a = some o) : Ext π μ H π' μ' H' := ⟨.of kp, pre, fe, far⟩
mutual
theorem Rep.ext (e : Kp π μ H π' μ' H') : ∀ {v : V} {d : D}, Rep K mg π μ H v d → Rep K mg π' μ' H' v d
  | _, _, .non => .non
  | _, _, .bl b => .bl b
  | _, _, .int i => .int i
  | _, _, .str s => .str s
  | _, _, .tup h n r => .tup (e.kp _ _ h n (fun z => z)).1 (e.kp _ _ h n (fun z => z)).2 (Reps.ext e r)
  | _, _, .lst h n r => .lst (e.kp _ _ h n (fun z => z)).1 (e.kp _ _ h n (fun z => z)).2 (Reps.ext e r)
  | _, _, .scr (.inl ⟨⟨o, h⟩, n⟩) r => .scr (.inl ⟨⟨o, (e.kp _ _ h n (fun z => z)).1⟩, (e.kp _ _ h n (fun z => z)).2⟩) (Reps.ext e r)
  | _, _, .scr (.inr h) r => .scr (.inr h) (Reps.ext e r)
  | _, _, .exc c h n => .exc c (e.kp _ _ h n (fun z => z)).1 (e.kp _ _ h n (fun z => z)).2
  | _, _, .dk h n q r => .dk (e.kd _ _ h n).1 (e.kd _ _ h n).2 q (Reps.ext e r)
  | _, _, .obj c h n q r => .obj c (e.kp _ _ h n (fun z => z)).1 (e.kp _ _ h n (fun z => z)).2 q (Reps.ext e r)
theorem Reps.ext (e : Kp π μ H π' μ' H') : ∀ {vs : List V} {ds : List D}, Reps K mg π μ H vs ds → Reps K mg π' μ' H' vs ds
  | _, _, .nil => .nil
  | _, _, .cons a b => .cons (Rep.ext e a) (Reps.ext e b)
end
theorem RepW.ext (e : Ext π μ H π' μ' H') {v : V} : ∀ {w : W}, RepW K mg π μ H v w → RepW K mg π' μ' H' v w
  | .p _, h => Rep.ext e.toKp h
  | .l _, ⟨a, q, h⟩ => ⟨a, q, e.pre _ _ h⟩
theorem SRel.ext (e : Ext π μ H π' μ' H') {σ : St} {ρ : Env} (s : SRel K mg π μ H σ ρ) : SRel K mg π' μ' H' σ ρ :=
  ⟨s.len, fun i w h => let ⟨v, a, b⟩ := s.ok i w h; ⟨v, a, b.ext e⟩⟩
theorem Reps.length : ∀ {vs : List V} {ds : List D}, Reps K mg π μ H vs ds → vs.length = ds.length
  | _, _, .nil => rfl
  | _, _, .cons _ b => congrArg (· + 1) b.length
theorem Reps.get : ∀ {vs : List V} {ds : List D} {i : Nat} {d : D}, Reps K mg π μ H vs ds → ds[i]? = some d → ∃ v, vs[i]? = some v ∧ Rep K mg π μ H v d
  | _, _, _, _, .nil, e => by simp at e
  | _, _, 0, _, .cons r _, e => by simp at e; subst e; exact ⟨_, rfl, r⟩
  | _, _, i + 1, d, .cons _ t, e => by
    obtain ⟨u, h1, h2⟩ := Reps.get (i := i) (d := d) t (by simpa using e)
    exact ⟨u, by simpa using h1, h2⟩
theorem Reps.get' : ∀ {vs : List V} {ds : List D} {i : Nat} {v : V}, Reps K mg π μ H vs ds → vs[i]? = some v → ∃ d, ds[i]? = some d ∧ Rep K mg π μ H v d
  | _, _, _, _, .nil, e => by simp at e
  | _, _, 0, _, .cons r _, e => by simp at e; subst e; exact ⟨_, rfl, r⟩
  | _, _, i + 1, d, .cons _ t, e => by
    obtain ⟨u, h1, h2⟩ := Reps.get' (i := i) t (by simpa using e)
    exact ⟨u, by simpa using h1, h2⟩
theorem Reps.append : ∀ {vs us : List V} {ds es : List D}, Reps K mg π μ H vs ds → Reps K mg π μ H us es → Reps K mg π μ H (vs ++ us) (ds ++ es)
  | _, _, _, _, .nil, s => s
  | _, _, _, _, .cons r t, s => .cons r (Reps.append t s)
theorem Reps.take : ∀ {vs : List V} {ds : List D} (n : Nat), Reps K mg π μ H vs ds → Reps K mg π μ H (vs.take n) (ds.take n)
  | _, _, 0, _ => .nil
  | _, _, _ + 1, .nil => .nil
  | _, _, n + 1, .cons r t => .cons r (Reps.take n t)
theorem Reps.drop : ∀ {vs : List V} {ds : List D} (n : Nat), Reps K mg π μ H vs ds → Reps K mg π μ H (vs.drop n) (ds.drop n)
  | _, _, 0, r => r
  | _, _, _ + 1, .nil => .nil
  | _, _, n + 1, .cons _ t => Reps.drop n t
theorem Reps.set {x : V} {d : D} (r : Rep K mg π μ H x d) : ∀ {vs : List V} {ds : List D} (i : Nat), Reps K mg π μ H vs ds → Reps K mg π μ H (vs.set i x) (ds.set i d)
  | _, _, _, .nil => .nil
  | _, _, 0, .cons _ t => .cons r t
  | _, _, i + 1, .cons q t => .cons q (Reps.set r i t)
theorem Reps.reverse : ∀ {vs : List V} {ds : List D}, Reps K mg π μ H vs ds → Reps K mg π μ H vs.reverse ds.reverse
  | _, _, .nil => .nil
  | _, _, .cons r t => by
    rw [List.reverse_cons, List.reverse_cons]
    exact (Reps.reverse t).append (.cons r .nil)
theorem live_lt {a : Addr} (h : live π μ a) : π.f a ∨ a ∈ π.l := by
  rcases h with h | ⟨k, c, h, _⟩
  · exact .inl h
  · exact .inr (List.mem_of_getElem? h)
theorem HRel.has (h : HRel K mg π μ H) {k : Nat} {a : Addr} (e : π.l[k]? = some a) : ∃ o, H a = some o := by
  have hk : k < μ.length := by
    rw [← h.len]
    exact (List.getElem?_eq_some_iff.mp e).1
  have q := h.ok k a μ[k] e (List.getElem?_eq_getElem hk)
  cases hc : μ[k] with
  | lst ds => rw [hc] at q; obtain ⟨vs, z, _⟩ := q; exact ⟨_, z⟩
  | dk ks ds => rw [hc] at q; obtain ⟨vs, z, _⟩ := q; exact ⟨_, z⟩
  | obj C fs ds => rw [hc] at q; obtain ⟨c, dx, fvs, _, z, _⟩ := q; exact ⟨_, z⟩
  | dead => rw [hc] at q; exact q
theorem CellOk.ext (e : Kp π μ H π' μ' H') {a : Addr} {c : Cell} (ha : ∀ o, H a = some o → H' a = some o) : CellOk K mg π μ H a c → CellOk K mg π' μ' H' a c := by
  cases c with
  | lst ds => rintro ⟨vs, z, r⟩; exact ⟨vs, ha _ z, r.ext e⟩
  | dk ks ds => rintro ⟨vs, z, q, r⟩; exact ⟨vs, ha _ z, q, r.ext e⟩
  | obj C fs ds => rintro ⟨c, dx, fvs, z0, z, q, r⟩; exact ⟨c, dx, fvs, z0, ha _ z, q, r.ext e⟩
  | dead => rintro ⟨o, z⟩; exact ⟨o, ha _ z⟩
/-- a pure object is laid -/
theorem Ext.pure {p : Addr} {o : HO} (hp : H p = none) : Ext π μ H π μ (upd H p o) :=
  .of (fun _ _ h => h) (fun a u h n => ⟨by rw [upd_ne (ne_of_none h hp)]; exact h, n⟩) rfl fun a u f h => by rw [upd_ne (ne_of_none h hp)]; exact h
theorem HRel.notin (h : HRel K mg π μ H) {p : Addr} (hp : H p = none) : p ∉ π.l := fun hm => by
  obtain ⟨k, hk⟩ := List.mem_iff_getElem?.mp hm
  obtain ⟨o, z⟩ := h.has hk
  rw [hp] at z; cases z
theorem HRel.notfar (h : HRel K mg π μ H) {p : Addr} (hp : H p = none) : ¬ π.f p := fun f => by
  obtain ⟨o, z⟩ := h.fh p f
  rw [hp] at z; cases z
theorem HRel.nlive (h : HRel K mg π μ H) {p : Addr} (hp : H p = none) : ¬ live π μ p := fun hl => (live_lt hl).elim (h.notfar hp) (h.notin hp)
theorem HRel.pure (h : HRel K mg π μ H) {p : Addr} {o : HO} (hp : H p = none) : HRel K mg π μ (upd H p o) :=
  ⟨h.len, h.nd, fun k a c h1 h2 => (h.ok k a c h1 h2).ext (Ext.pure hp).toKp fun u z => by rw [upd_ne (ne_of_none z hp)]; exact z,
    fun a f => let ⟨u, z⟩ := h.fh a f; ⟨u, by rw [upd_ne (ne_of_none z hp)]; exact z⟩, h.fd⟩
/-- a mutable object is laid -/
theorem live_snoc {p a : Addr} {c : Cell} (hl : π.l.length = μ.length) (hd : c ≠ .dead) : live (π.snoc p) (μ ++ [c]) a ↔ live π μ a ∨ a = p := by
  unfold PL.snoc live
  constructor
  · rintro (f | ⟨k, c', h1, h2, h3⟩)
    · exact .inl (.inl f)
    · by_cases hk : k < π.l.length
      · simp only at h1
        rw [List.getElem?_append_left hk] at h1
        rw [List.getElem?_append_left (by omega)] at h2
        exact .inl (.inr ⟨k, c', h1, h2, h3⟩)
      · simp only at h1
        rw [List.getElem?_append_right (by omega)] at h1
        have hk0 : k - π.l.length = 0 := by
          have q := (List.getElem?_eq_some_iff.mp h1).1
          simp at q
          omega
        rw [hk0] at h1
        simp at h1
        exact .inr h1.symm
  · rintro ((f | ⟨k, c', h1, h2, h3⟩) | rfl)
    · exact .inl f
    · have hk := (List.getElem?_eq_some_iff.mp h1).1
      exact .inr ⟨k, c', by simp only; rw [List.getElem?_append_left hk]; exact h1, by rw [List.getElem?_append_left (by omega)]; exact h2, h3⟩
    · exact .inr ⟨π.l.length, c, by simp, by rw [hl]; simp, hd⟩
theorem Ext.own {p : Addr} {o : HO} {c : Cell} (h : HRel K mg π μ H) (hp : H p = none) (hd : c ≠ .dead) : Ext π μ H (π.snoc p) (μ ++ [c]) (upd H p o) := by
  refine .of (fun k a e => by show (π.l ++ [p])[k]? = _; rw [List.getElem?_append_left (List.getElem?_eq_some_iff.mp e).1]; exact e) (fun a u e n => ?_) rfl fun a u f e => by rw [upd_ne (ne_of_none e hp)]; exact e
  have ne := ne_of_none e hp
  exact ⟨by rw [upd_ne ne]; exact e, fun hl => ((live_snoc h.len hd).mp hl).elim n ne⟩
theorem HRel.own {p : Addr} {o : HO} {c : Cell} (h : HRel K mg π μ H) (hp : H p = none) (hd : c ≠ .dead) (hc : CellOk K mg (π.snoc p) (μ ++ [c]) (upd H p o) p c) : HRel K mg (π.snoc p) (μ ++ [c]) (upd H p o) := by
  have ex : Ext π μ H (π.snoc p) (μ ++ [c]) (upd H p o) := .own h hp hd
  refine ⟨by simp [PL.snoc, h.len], ?_, fun k a c' h1 h2 => ?_, fun a f => ?_, fun a f hm => ?_⟩
  · show (π.l ++ [p]).Nodup
    rw [List.nodup_append]
    exact ⟨h.nd, by simp, fun a ha b hb => by simp at hb; subst hb; rintro rfl; exact h.notin hp ha⟩
  · have h1 : (π.l ++ [p])[k]? = some a := h1
    by_cases hk : k < π.l.length
    · rw [List.getElem?_append_left hk] at h1
      rw [List.getElem?_append_left (by rw [← h.len]; exact hk)] at h2
      exact (h.ok k a c' h1 h2).ext ex.toKp fun u z => by rw [upd_ne (ne_of_none z hp)]; exact z
    · have q := (List.getElem?_eq_some_iff.mp h1).1
      simp at q
      have hk0 : k = π.l.length := by omega
      subst hk0
      rw [List.getElem?_append_right (Nat.le_refl _)] at h1
      rw [h.len, List.getElem?_append_right (Nat.le_refl _)] at h2
      simp at h1 h2
      subst h1; subst h2
      exact hc
  · obtain ⟨u, z⟩ := h.fh a f
    exact ⟨u, ex.far a u f z⟩
  · have hm : a ∈ π.l ++ [p] := hm
    rcases List.mem_append.mp hm with q | q
    · exact h.fd a f q
    · simp at q
      subst q
      exact h.notfar hp f
theorem live_set {k : Nat} {c a : _} (h : live π (μ.set k c) a) : live π μ a ∨ π.l[k]? = some a := by
  rcases h with f | ⟨j, c', h1, h2, h3⟩
  · exact .inl (.inl f)
  by_cases e : k = j
  · subst e; exact .inr h1
  · rw [List.getElem?_set_ne e] at h2
    exact .inl (.inr ⟨j, c', h1, h2, h3⟩)
/-- a live cell is written -/
theorem Ext.put {k : Nat} {a : Addr} {o : HO} {c c' : Cell} (h : HRel K mg π μ H) (hk : π.l[k]? = some a) (hc : μ[k]? = some c) (hd : c ≠ .dead) : Ext π μ H π (μ.set k c') (upd H a o) := by
  refine .of (fun _ _ h => h) (fun b u e n => ?_) rfl fun b u f e => ?_
  · have ne : b ≠ a := fun z => n (.inr ⟨k, c, by rw [z]; exact hk, hc, hd⟩)
    refine ⟨by rw [upd_ne ne]; exact e, fun hl => ?_⟩
    rcases live_set hl with z | z
    · exact n z
    · rw [hk] at z; exact ne (Option.some.inj z).symm
  · have ne : b ≠ a := fun z => h.fd b f (by rw [z]; exact List.mem_of_getElem? hk)
    rw [upd_ne ne]; exact e
theorem nodup_at {l : List Addr} (h : l.Nodup) {i j : Nat} {a : Addr} (h1 : l[i]? = some a) (h2 : l[j]? = some a) : i = j := by
  obtain ⟨a1, e1⟩ := List.getElem?_eq_some_iff.mp h1
  obtain ⟨a2, e2⟩ := List.getElem?_eq_some_iff.mp h2
  exact (List.getElem_inj h).mp (e1.trans e2.symm)
theorem HRel.put {k : Nat} {a : Addr} {o : HO} {c c' : Cell} (h : HRel K mg π μ H) (hk : π.l[k]? = some a) (hc : μ[k]? = some c) (hd : c ≠ .dead)
    (ok : CellOk K mg π (μ.set k c') (upd H a o) a c') : HRel K mg π (μ.set k c') (upd H a o) := by
  have ex : Ext π μ H π (μ.set k c') (upd H a o) := .put h hk hc hd
  refine ⟨by simp [h.len], h.nd, fun j b cj h1 h2 => ?_, fun b f => ?_, h.fd⟩
  · by_cases e : k = j
    · subst e
      rw [hk] at h1; cases h1
      rw [List.getElem?_set_self (List.getElem?_eq_some_iff.mp hc).1] at h2
      cases h2
      exact ok
    · rw [List.getElem?_set_ne e] at h2
      have nb : b ≠ a := fun z => e (nodup_at h.nd hk (by rw [← z]; exact h1))
      exact (h.ok j b cj h1 h2).ext ex.toKp fun u z => by rw [upd_ne nb]; exact z
  · obtain ⟨u, z⟩ := h.fh b f
    exact ⟨u, ex.far b u f z⟩
/-- a live cell is given up: it stays as data -/
theorem Ext.kill {k : Nat} : Ext π μ H π (μ.set k .dead) H := by
  refine .of (fun _ _ h => h) (fun b u e n => ⟨e, fun hl => ?_⟩) rfl fun _ _ _ h => h
  rcases hl with f | ⟨j, c', h1, h2, h3⟩
  · exact n (.inl f)
  by_cases z : k = j
  · subst z
    have hl : k < μ.length := by simpa using (List.getElem?_eq_some_iff.mp h2).1
    rw [List.getElem?_set_self hl] at h2
    exact h3 (Option.some.inj h2).symm
  · rw [List.getElem?_set_ne z] at h2
    exact n (.inr ⟨j, c', h1, h2, h3⟩)
theorem HRel.kill {k : Nat} (h : HRel K mg π μ H) : HRel K mg π (μ.set k .dead) H := by
  refine ⟨by simp [h.len], h.nd, fun j b cj h1 h2 => ?_, h.fh, h.fd⟩
  by_cases z : k = j
  · subst z
    have hl : k < μ.length := by simpa using (List.getElem?_eq_some_iff.mp h2).1
    rw [List.getElem?_set_self hl] at h2
    cases h2
    exact h.has h1
  · rw [List.getElem?_set_ne z] at h2
    exact (h.ok j b cj h1 h2).ext Ext.kill.toKp fun _ z => z
theorem nlive_kill {k : Nat} {a : Addr} (h : HRel K mg π μ H) (hk : π.l[k]? = some a) : ¬ live π (μ.set k .dead) a := by
  rintro (f | ⟨j, c', h1, h2, h3⟩)
  · exact h.fd a f (List.mem_of_getElem? hk)
  have e := nodup_at h.nd hk h1
  subst e
  have hl : k < μ.length := by simpa using (List.getElem?_eq_some_iff.mp h2).1
  rw [List.getElem?_set_self hl] at h2
  exact h3 (Option.some.inj h2).symm
end
end Q

set_option Elab.async false
set_option linter.all false
set_option maxRecDepth 100000
/-! Q2: the meanings (M, DE, DS) and the readings made of them. -/
namespace Q
open PySem L2

inductive ER (α : Type) where
  | ok (a : α) (μ : Store) | ex (n : Str) (μ : Store)
abbrev M (α : Type) := Store → Option (ER α)
def ret {α : Type} (a : α) : M α := fun μ => some (.ok a μ)
def stk {α : Type} : M α := fun _ => none
def rse {α : Type} (n : Str) : M α := fun μ => some (.ex n μ)
def bnd {α β : Type} (m : M α) (f : α → M β) : M β := fun μ => match m μ with
  | none => none
  | some (.ok a μ') => f a μ'
  | some (.ex n μ') => some (.ex n μ')
@[simp] theorem bnd_ret {α β : Type} (a : α) (f : α → M β) : bnd (ret a) f = f a := rfl
@[simp] theorem bnd_stk {α β : Type} (f : α → M β) : bnd stk f = stk := rfl
@[simp] theorem bnd_rse {α β : Type} (n : Str) (f : α → M β) : bnd (rse n) f = rse n := rfl
theorem bnd_bnd {α β γ : Type} (m : M α) (f : α → M β) (g : β → M γ) : bnd (bnd m f) g = bnd m fun a => bnd (f a) g := by
  funext μ
  unfold bnd
  cases m μ with
  | none => rfl
  | some r => cases r <;> rfl
/-- of an option -/
def opt {α : Type} : Option α → M α
  | some a => ret a
  | none => stk
@[simp] theorem opt_some {α : Type} (a : α) : opt (some a) = ret a := rfl
@[simp] theorem opt_none {α : Type} : opt (none : Option α) = stk := rfl
theorem opt_inv {α : Type} {o : Option α} {μ : Store} {r : ER α} (h : opt o μ = some r) : ∃ a, o = some a ∧ r = .ok a μ := by
  cases o with
  | none => cases h
  | some a => cases h; exact ⟨a, rfl, rfl⟩
/-- of an option that looks at the store -/
def optS {α : Type} (o : Store → Option α) : M α := fun μ => opt (o μ) μ
theorem optS_inv {α : Type} {o : Store → Option α} {μ : Store} {r : ER α} (h : optS o μ = some r) : ∃ a, o μ = some a ∧ r = .ok a μ := opt_inv h
abbrev DE := Env → M W

inductive SR where
  | nx (ρ : Env) (μ : Store) | rt (w : W) (μ : Store) | bk (ρ : Env) (μ : Store) | ct (ρ : Env) (μ : Store) | ex (n : Str) (ρ : Env) (μ : Store)
abbrev DS := Env → Store → Option SR

section
variable (K : PySem.W.Frag) (mg : Str → Option Value)
/-- what a run's outcome grants -/
def Post {α β : Type} (rp : PL → Store → Hp → β → α → Prop) (E : XK) (π : PL) (μ : Store) (H : Hp) (Q : β → Hp → Prop) : ER α → Prop
  | .ok a μ' => ∀ π' b H', Ext π μ H π' μ' H' → HRel K mg π' μ' H' → rp π' μ' H' b a → Q b H'
  | .ex n μ' => ∀ π' H' c, Ext π μ H π' μ' H' → HRel K mg π' μ' H' → cnOf mg n = some c → E (.ref c) none H'
/-- the reading of a meaning -/
def Run {α β : Type} (rp : PL → Store → Hp → β → α → Prop) (Wx : WX) (m : Env → M α) : St → Hp → (β → Hp → Prop) → Prop := fun σ H Q =>
  ∃ (π : PL) (ρ : Env) (μ : Store) (r : ER α), SRel K mg π μ H σ ρ ∧ HRel K mg π μ H ∧ m ρ μ = some r ∧ Post K mg rp (fun c d H' => Wx c d σ H') π μ H Q r
def RepWs (π : PL) (μ : Store) (H : Hp) : List V → List W → Prop
  | [], [] => True
  | v :: vs, w :: ws => RepW K mg π μ H v w ∧ RepWs π μ H vs ws
  | _, _ => False
def RepD (π : PL) (μ : Store) (H : Hp) (v : V) (d : D) : Prop := Rep K mg π μ H v d
def IsB (_ : PL) (_ : Store) (_ : Hp) (b c : Bool) : Prop := b = c
abbrev TEd (Wx : WX) (m : DE) : TE := Run K mg (RepW K mg) Wx m
abbrev TTd (Wx : WX) (m : Env → M Bool) : TT := Run K mg IsB Wx m
abbrev TAd (Wx : WX) (m : Env → M (List W)) : TA := Run K mg (RepWs K mg) Wx m

def PostS (Wx : WX) (π : PL) (μ : Store) (H : Hp) (D : Ends) : SR → Prop
  | .nx ρ' μ' => ∀ π' σ' H', Ext π μ H π' μ' H' → HRel K mg π' μ' H' → SRel K mg π' μ' H' σ' ρ' → D.nx σ' H'
  | .bk ρ' μ' => ∀ π' σ' H', Ext π μ H π' μ' H' → HRel K mg π' μ' H' → SRel K mg π' μ' H' σ' ρ' → D.bk σ' H'
  | .ct ρ' μ' => ∀ π' σ' H', Ext π μ H π' μ' H' → HRel K mg π' μ' H' → SRel K mg π' μ' H' σ' ρ' → D.ct σ' H'
  | .rt w μ' => ∀ π' v H', Ext π μ H π' μ' H' → HRel K mg π' μ' H' → RepW K mg π' μ' H' v w → D.rt v H'
  | .ex n ρ' μ' => ∀ π' σ' H' c, Ext π μ H π' μ' H' → HRel K mg π' μ' H' → SRel K mg π' μ' H' σ' ρ' → cnOf mg n = some c → Wx (.ref c) none σ' H'
def TSd (Wx : WX) (m : DS) : TS := fun D σ H =>
  ∃ (π : PL) (ρ : Env) (μ : Store) (r : SR), SRel K mg π μ H σ ρ ∧ HRel K mg π μ H ∧ m ρ μ = some r ∧ PostS K mg Wx π μ H D r
end

section
variable {K : PySem.W.Frag} {mg : Str → Option Value} {Wx : WX}
variable {α β γ δ α' β' α'' β'' : Type}

theorem Post.pull {rp : PL → Store → Hp → β → α → Prop} {E : XK} {π π' : PL} {μ μ' : Store} {H H' : Hp} {Q : β → Hp → Prop} (e : Ext π μ H π' μ' H') : ∀ {r : ER α}, Post K mg rp E π μ H Q r → Post K mg rp E π' μ' H' Q r
  | .ok _ _, h => fun π2 b H2 e2 hr rb => h π2 b H2 (e.trans e2) hr rb
  | .ex _ _, h => fun π2 H2 c e2 hr hc => h π2 H2 c (e.trans e2) hr hc
theorem PostS.pull {π π' : PL} {μ μ' : Store} {H H' : Hp} {D : Ends} (e : Ext π μ H π' μ' H') : ∀ {r : SR}, PostS K mg Wx π μ H D r → PostS K mg Wx π' μ' H' D r
  | .nx _ _, h => fun π2 s H2 e2 hr rb => h π2 s H2 (e.trans e2) hr rb
  | .bk _ _, h => fun π2 s H2 e2 hr rb => h π2 s H2 (e.trans e2) hr rb
  | .ct _ _, h => fun π2 s H2 e2 hr rb => h π2 s H2 (e.trans e2) hr rb
  | .rt _ _, h => fun π2 s H2 e2 hr rb => h π2 s H2 (e.trans e2) hr rb
  | .ex _ _ _, h => fun π2 s H2 c e2 hr rb hc => h π2 s H2 c (e.trans e2) hr rb hc

/-- what stands in the middle of a run: a value is there, the rest is f -/
def Mid (K : PySem.W.Frag) (mg : Str → Option Value) (rpa : PL → Store → Hp → β → α → Prop) (Wx : WX) (rp : PL → Store → Hp → δ → γ → Prop) (f : α → Env → M γ) (σ : St) (Q : δ → Hp → Prop) (b : β) (H : Hp) : Prop :=
  ∃ (π : PL) (ρ : Env) (μ : Store) (a : α) (r : ER γ), SRel K mg π μ H σ ρ ∧ HRel K mg π μ H ∧ rpa π μ H b a ∧ f a ρ μ = some r ∧ Post K mg rp (fun c d H' => Wx c d σ H') π μ H Q r
theorem bnd_some {m : M α} {f : α → M γ} {μ : Store} {r : ER γ} (h : bnd m f μ = some r) : (∃ a μ1, m μ = some (.ok a μ1) ∧ f a μ1 = some r) ∨ ∃ n μ1, m μ = some (.ex n μ1) ∧ r = .ex n μ1 := by
  unfold bnd at h
  cases e : m μ with
  | none => rw [e] at h; cases h
  | some q =>
    rw [e] at h
    cases q with
    | ok a μ1 => exact .inl ⟨a, μ1, rfl, h⟩
    | ex n μ1 => exact .inr ⟨n, μ1, rfl, (Option.some.inj h).symm⟩
theorem run_bind {rpa : PL → Store → Hp → β → α → Prop} {rp : PL → Store → Hp → δ → γ → Prop} {m : Env → M α} {f : α → Env → M γ} {σ : St} {H : Hp} {Q : δ → Hp → Prop}
    (h : Run K mg rp Wx (fun ρ => bnd (m ρ) fun a => f a ρ) σ H Q) : Run K mg rpa Wx m σ H (Mid K mg rpa Wx rp f σ Q) := by
  obtain ⟨π, ρ, μ, r, hs, hh, hm, hp⟩ := h
  rcases bnd_some hm with ⟨a, μ1, h1, h2⟩ | ⟨n, μ1, h1, rfl⟩
  · refine ⟨π, ρ, μ, .ok a μ1, hs, hh, h1, fun π' b H' e hr rb => ?_⟩
    exact ⟨π', ρ, μ1, a, r, hs.ext e, hr, rb, h2, hp.pull e⟩
  · exact ⟨π, ρ, μ, .ex n μ1, hs, hh, h1, hp⟩
/-- a relation that stays -/
def Stays (rp : PL → Store → Hp → β → α → Prop) : Prop := ∀ (π π' : PL) (μ μ' : Store) (H H' : Hp) (b : β) (a : α), Ext π μ H π' μ' H' → rp π μ H b a → rp π' μ' H' b a
theorem stays_W : Stays (RepW K mg) := fun _ _ _ _ _ _ _ _ e h => h.ext e
theorem stays_D : Stays (RepD K mg) := fun _ _ _ _ _ _ _ _ e h => Rep.ext e.toKp h
theorem stays_B : Stays IsB := fun _ _ _ _ _ _ _ _ _ h => h
theorem RepWs.ext {π π' : PL} {μ μ' : Store} {H H' : Hp} (e : Ext π μ H π' μ' H') : ∀ {vs : List V} {ws : List W}, RepWs K mg π μ H vs ws → RepWs K mg π' μ' H' vs ws
  | [], [], h => h
  | _ :: _, _ :: _, h => ⟨h.1.ext e, RepWs.ext e h.2⟩
theorem stays_Ws : Stays (RepWs K mg) := fun _ _ _ _ _ _ _ _ e h => h.ext e
/-- the pair of two relations -/
def Both (r1 : PL → Store → Hp → β → α → Prop) (r2 : PL → Store → Hp → β' → α' → Prop) (x : β) : PL → Store → Hp → β' → α × α' → Prop := fun π μ H y q => r1 π μ H x q.1 ∧ r2 π μ H y q.2
/-- the next step of a run, the value that is there stays -/
theorem mid_bind {rpa : PL → Store → Hp → β → α → Prop} {rpb : PL → Store → Hp → β' → α' → Prop} {rp : PL → Store → Hp → δ → γ → Prop} {m : Env → M α'} {f : α → α' → Env → M γ} {σ : St} {H : Hp} {Q : δ → Hp → Prop} {x : β} (st : Stays rpa)
    (h : Mid K mg rpa Wx rp (fun a ρ => bnd (m ρ) fun b => f a b ρ) σ Q x H) : Run K mg rpb Wx m σ H (fun y H' => Mid K mg (Both rpa rpb x) Wx rp (fun q ρ => f q.1 q.2 ρ) σ Q y H') := by
  obtain ⟨π, ρ, μ, a, r, hs, hh, ra, hm, hp⟩ := h
  rcases bnd_some hm with ⟨b, μ1, h1, h2⟩ | ⟨n, μ1, h1, rfl⟩
  · refine ⟨π, ρ, μ, .ok b μ1, hs, hh, h1, fun π' y H' e hr rb => ?_⟩
    exact ⟨π', ρ, μ1, (a, b), r, hs.ext e, hr, ⟨st _ _ _ _ _ _ _ _ e ra, rb⟩, h2, hp.pull e⟩
  · exact ⟨π, ρ, μ, .ex n μ1, hs, hh, h1, hp⟩
theorem stays_both {r1 : PL → Store → Hp → β → α → Prop} {r2 : PL → Store → Hp → β' → α' → Prop} {x : β} (h1 : Stays r1) (h2 : Stays r2) : Stays (Both r1 r2 x) := fun _ _ _ _ _ _ _ _ e h => ⟨h1 _ _ _ _ _ _ _ _ e h.1, h2 _ _ _ _ _ _ _ _ e h.2⟩

/-! ### outcomes -/
section
variable {rp : PL → Store → Hp → β → α → Prop} {E : XK} {π : PL} {μ : Store} {H : Hp} {Q : β → Hp → Prop}
theorem Post.here {a : α} {b : β} (h : Post K mg rp E π μ H Q (.ok a μ)) (hh : HRel K mg π μ H) (rb : rp π μ H b a) : Q b H := h π b H .refl hh rb
theorem Post.new {a : α} {b : β} {p : Addr} {o : HO} (h : Post K mg rp E π μ H Q (.ok a μ)) (hh : HRel K mg π μ H) (hp : H p = none) (rb : rp π μ (upd H p o) b a) : Q b (upd H p o) := h π b _ (.pure hp) (hh.pure hp) rb
theorem Post.own {a : α} {b : β} {p : Addr} {o : HO} {c : Cell} (h : Post K mg rp E π μ H Q (.ok a (μ ++ [c]))) (hh : HRel K mg π μ H) (hp : H p = none) (hd : c ≠ .dead) (hc : CellOk K mg (π.snoc p) (μ ++ [c]) (upd H p o) p c)
    (rb : rp (π.snoc p) (μ ++ [c]) (upd H p o) b a) : Q b (upd H p o) := h _ b _ (.own hh hp hd) (hh.own hp hd hc) rb
theorem Post.put {a : α} {b : β} {k : Nat} {p : Addr} {o : HO} {c c' : Cell} (h : Post K mg rp E π μ H Q (.ok a (μ.set k c'))) (hh : HRel K mg π μ H) (hk : π.l[k]? = some p) (hc : μ[k]? = some c) (hd : c ≠ .dead)
    (ok : CellOk K mg π (μ.set k c') (upd H p o) p c') (rb : rp π (μ.set k c') (upd H p o) b a) : Q b (upd H p o) := h _ b _ (.put hh hk hc hd) (hh.put hk hc hd ok) rb
end
end
end Q

set_option Elab.async false
set_option linter.all false
set_option maxRecDepth 100000
/-! Q3: expressions: names, constants, operators, displays, subscripts. -/
namespace Q
open PySem L2
section
variable {K : PySem.W.Frag} {mg : Str → Option Value} {Wx : WX} {α β : Type}
theorem Post.mono {rp : PL → Store → Hp → β → α → Prop} {E : XK} {π : PL} {μ : Store} {H : Hp} {Q Q' : β → Hp → Prop} (q : ∀ b H, Q b H → Q' b H) : ∀ {r : ER α}, Post K mg rp E π μ H Q r → Post K mg rp E π μ H Q' r
  | .ok _ _, h => fun π2 b H2 e2 hr rb => q _ _ (h π2 b H2 e2 hr rb)
  | .ex _ _, h => h
theorem Run.mono {rp : PL → Store → Hp → β → α → Prop} {m : Env → M α} {σ : St} {H : Hp} {Q Q' : β → Hp → Prop} (h : Run K mg rp Wx m σ H Q) (q : ∀ b H, Q b H → Q' b H) : Run K mg rp Wx m σ H Q' := by
  obtain ⟨π, ρ, μ, r, hs, hh, hm, hp⟩ := h
  exact ⟨π, ρ, μ, r, hs, hh, hm, hp.mono q⟩
end
section
variable {X : Cx} {Wx : WX}
theorem pe_imp {e : Expr} {t t' : TE} (h : PE X e t) (i : ∀ σ H Q, t' σ H Q → t σ H Q) : PE X e t' := ⟨fun pins s σ H Q I q => h.run pins s σ H Q I (i _ _ _ q)⟩
theorem pt_imp {e : Expr} {t t' : TT} (h : PT X e t) (i : ∀ σ H Q, t' σ H Q → t σ H Q) : PT X e t' := ⟨fun pins s σ H Q I q => h.run pins s σ H Q I (i _ _ _ q)⟩
theorem pw_imp {e : Expr} {t t' : TT} (h : PW X e t) (i : ∀ σ H Q, t' σ H Q → t σ H Q) : PW X e t' := ⟨fun wh pins s σ H Q I q => h.run wh pins s σ H Q I (i _ _ _ q)⟩
theorem pa_imp {es : List Expr} {t t' : TA} (h : PA X es t) (i : ∀ σ H Q, t' σ H Q → t σ H Q) : PA X es t' := ⟨fun pos pins s σ H Q I q => h.run pos pins s σ H Q I (i _ _ _ q)⟩
theorem ps_imp {st : Stmt} {t t' : TS} (h : PS X st t) (i : ∀ D σ H, t' D σ H → t D σ H) : PS X st t' := ⟨fun pins s σ H D I q => h.run pins s σ H D I (i _ _ _ q)⟩
theorem pss_imp {st : List Stmt} {t t' : TS} (h : PSs X st t) (i : ∀ D σ H, t' D σ H → t D σ H) : PSs X st t' := ⟨fun pins s σ H D I q => h.run pins s σ H D I (i _ _ _ q)⟩

/-- an expression, a test, arguments with a meaning -/
abbrev QE (X : Cx) (Wx : WX) (e : Expr) (m : DE) : Prop := PE X e (TEd X.K X.mg Wx m)
abbrev QT (X : Cx) (Wx : WX) (e : Expr) (m : Env → M Bool) : Prop := PT X e (TTd X.K X.mg Wx m)
abbrev QA (X : Cx) (Wx : WX) (es : List Expr) (m : Env → M (List W)) : Prop := PA X es (TAd X.K X.mg Wx m)

/-! ### names and constants -/
def dVar (i : Nat) : DE := fun ρ => opt (ρ[i]?.join)
theorem q_var (i : Nat) {x : Str} {pos : Pos} (hN : X.N[i]? = some x := by rfl) (hv : Vis X.env.scope x := by first | exact Or.inl rfl | exact Or.inr (Or.inl rfl) | exact Or.inr (Or.inr rfl)) (hd : (x == ("__debug__" : Str)) = false := by decide)
    (hcd : (x == ("__classdict__" : Str)) = false := by decide) : QE X Wx (.Name x pos) (dVar i) := by
  refine pe_imp (pe_var hN hv hd hcd) fun σ H Q ⟨π, ρ, μ, r, hs, hh, hm, hp⟩ => ?_
  obtain ⟨w, e, rfl⟩ := opt_inv hm
  obtain ⟨v, hv, rv⟩ := hs.ok i w (Option.join_eq_some_iff.mp e)
  exact ⟨v, hv, hp.here hh rv⟩
def dC (d : D) : DE := fun _ => ret (.p d)
theorem q_tC {v : V} {d : D} (hr : ∀ π μ H, Rep X.K X.mg π μ H v d) {e : Expr} (h : PE X e (tC v)) : QE X Wx e (dC d) := by
  refine pe_imp h fun σ H Q ⟨π, ρ, μ, r, hs, hh, hm, hp⟩ => ?_
  cases hm
  exact hp.here hh (hr _ _ _)
theorem q_int {i j pos} : QE X Wx (.Constant (.int i) j pos) (dC (.int i)) := q_tC (fun _ _ _ => .int i) pe_int
theorem q_bl {b j pos} : QE X Wx (.Constant (.bool b) j pos) (dC (.bl b)) := q_tC (fun _ _ _ => .bl b) pe_bl
theorem q_non {j pos} : QE X Wx (.Constant .none j pos) (dC .non) := q_tC (fun _ _ _ => .non) pe_non
theorem q_str {x j pos} : QE X Wx (.Constant (.str x) j pos) (dC (.str x)) := q_tC (fun _ _ _ => .str x) pe_str
/-- a module's constant -/
theorem q_glI {x : Str} {i : Int} {pos : Pos} (hg : Gl X x) (hm : ∃ t, X.mg x = some (.int i t)) (hd : (x == ("__debug__" : Str)) = false := by decide) : QE X Wx (.Name x pos) (dC (.int i)) := by
  obtain ⟨t, hm⟩ := hm
  exact q_tC (fun _ _ _ => .int i) (pe_glob (v := .int i) hg hm ⟨t, rfl⟩ hd)
theorem q_glS {x : Str} {z : Str} {pos : Pos} (hg : Gl X x) (hm : ∃ t, X.mg x = some (.str z t)) (hd : (x == ("__debug__" : Str)) = false := by decide) : QE X Wx (.Name x pos) (dC (.str z)) := by
  obtain ⟨t, hm⟩ := hm
  exact q_tC (fun _ _ _ => .str z) (pe_glob (v := .str z) hg hm ⟨t, rfl⟩ hd)

/-! ### operators by values -/
def Op2 (K : PySem.W.Frag) (mg : Str → Option Value) (r : R2) (f : W → W → M W) : Prop := ∀ {E : XK} {π : PL} {μ : Store} {H : Hp} {Q : VK} {x y : V} {a b : W} {q : ER W},
  HRel K mg π μ H → RepW K mg π μ H x a → RepW K mg π μ H y b → f a b μ = some q → Post K mg (RepW K mg) E π μ H Q q → r x y H Q
def Op1 (K : PySem.W.Frag) (mg : Str → Option Value) (r : V → Hp → VK → Prop) (f : W → M W) : Prop := ∀ {E : XK} {π : PL} {μ : Store} {H : Hp} {Q : VK} {x : V} {a : W} {q : ER W},
  HRel K mg π μ H → RepW K mg π μ H x a → f a μ = some q → Post K mg (RepW K mg) E π μ H Q q → r x H Q
def OpN (K : PySem.W.Frag) (mg : Str → Option Value) (r : List V → Hp → VK → Prop) (f : List W → M W) : Prop := ∀ {E : XK} {π : PL} {μ : Store} {H : Hp} {Q : VK} {xs : List V} {ws : List W} {q : ER W},
  HRel K mg π μ H → RepWs K mg π μ H xs ws → f ws μ = some q → Post K mg (RepW K mg) E π μ H Q q → r xs H Q
def OpM (K : PySem.W.Frag) (mg : Str → Option Value) (r : V → List V → Hp → VK → Prop) (f : W → List W → M W) : Prop := ∀ {E : XK} {π : PL} {μ : Store} {H : Hp} {Q : VK} {x : V} {xs : List V} {a : W} {ws : List W} {q : ER W},
  HRel K mg π μ H → RepW K mg π μ H x a → RepWs K mg π μ H xs ws → f a ws μ = some q → Post K mg (RepW K mg) E π μ H Q q → r x xs H Q
def d1 (f : W → M W) (m : DE) : DE := fun ρ => bnd (m ρ) f
def d2 (f : W → W → M W) (ma mb : DE) : DE := fun ρ => bnd (ma ρ) fun x => bnd (mb ρ) fun y => f x y
def dN (f : List W → M W) (m : Env → M (List W)) : DE := fun ρ => bnd (m ρ) f
def dM (f : W → List W → M W) (ma : DE) (m : Env → M (List W)) : DE := fun ρ => bnd (ma ρ) fun x => bnd (m ρ) fun ws => f x ws

variable {a b : Expr} {es : List Expr} {ma mb : DE} {mas : Env → M (List W)} {pos : Pos} {r : R2} {f : W → W → M W}
theorem run2 (hf : Op2 X.K X.mg r f) {σ : St} {H : Hp} {Q : VK} (h : TEd X.K X.mg Wx (d2 f ma mb) σ H Q) : TEd X.K X.mg Wx ma σ H fun x H1 => TEd X.K X.mg Wx mb σ H1 fun y H2 => r x y H2 Q := by
  refine (run_bind (rpa := RepW X.K X.mg) (f := fun x ρ => bnd (mb ρ) fun y => f x y) h).mono fun x H1 h1 => ?_
  refine (mid_bind (rpb := RepW X.K X.mg) (f := fun x y _ => f x y) stays_W h1).mono fun y H2 h2 => ?_
  obtain ⟨π, ρ, μ, q, r', hs, hh, rq, hm, hp⟩ := h2
  exact hf hh rq.1 rq.2 hm hp
theorem run1 {r : V → Hp → VK → Prop} {f : W → M W} (hf : Op1 X.K X.mg r f) {σ : St} {H : Hp} {Q : VK} (h : TEd X.K X.mg Wx (d1 f ma) σ H Q) : TEd X.K X.mg Wx ma σ H fun x H1 => r x H1 Q := by
  refine (run_bind (rpa := RepW X.K X.mg) (f := fun x ρ => f x) h).mono fun x H1 h1 => ?_
  obtain ⟨π, ρ, μ, q, r', hs, hh, rq, hm, hp⟩ := h1
  exact hf hh rq hm hp
theorem runN {r : List V → Hp → VK → Prop} {f : List W → M W} (hf : OpN X.K X.mg r f) {σ : St} {H : Hp} {Q : VK} (h : TEd X.K X.mg Wx (dN f mas) σ H Q) : TAd X.K X.mg Wx mas σ H fun x H1 => r x H1 Q := by
  refine (run_bind (rpa := RepWs X.K X.mg) (f := fun x ρ => f x) h).mono fun x H1 h1 => ?_
  obtain ⟨π, ρ, μ, q, r', hs, hh, rq, hm, hp⟩ := h1
  exact hf hh rq hm hp
theorem q_op {op : Operator} (hf : Op2 X.K X.mg r f) (ho : OpR X (binaryOp op) r) (ha : QE X Wx a ma) (hb : QE X Wx b mb) : QE X Wx (.BinOp a op b pos) (d2 f ma mb) := pe_imp (pe_op ho ha hb) fun _ _ _ h => run2 hf h
theorem q_cmp {op : CmpOp} (hf : Op2 X.K X.mg r f) (ho : OpR X (compareOp op) r) (hm : behindInMarks op b = false) (ha : QE X Wx a ma) (hb : QE X Wx b mb) : QE X Wx (.Compare a [op] [b] pos) (d2 f ma mb) := pe_imp (pe_cmpR ho ha hb hm) fun _ _ _ h => run2 hf h
theorem q_un {op : UnaryOp} {r : V → Hp → VK → Prop} {f : W → M W} (hf : Op1 X.K X.mg r f) (ho : UnR X (unaryOp op) r) (ha : QE X Wx a ma) : QE X Wx (.UnaryOp op a pos) (d1 f ma) := pe_imp (pe_un ho ha) fun _ _ _ h => run1 hf h
theorem q_ix (hf : Op2 X.K X.mg r f) (ho : IxR X r) (ha : QE X Wx a ma) (hb : QE X Wx b mb) (hs : PlainIx b := by intro _ _; rfl) : QE X Wx (.Subscript a b pos) (d2 f ma mb) := pe_imp (pe_ix ho ha hb hs) fun _ _ _ h => run2 hf h

/-! ### arguments -/
def aNil : Env → M (List W) := fun _ => ret []
def aCons (m : DE) (ms : Env → M (List W)) : Env → M (List W) := fun ρ => bnd (m ρ) fun x => bnd (ms ρ) fun xs => ret (x :: xs)
theorem qa_nil : QA X Wx [] aNil := by
  refine pa_imp pa_nil fun σ H Q ⟨π, ρ, μ, r, hs, hh, hm, hp⟩ => ?_
  cases hm
  exact hp.here hh trivial
theorem qa_cons (ha : QE X Wx a ma) (hr : QA X Wx es mas) (hs : starEach (a :: es) X.env = (false, eval a X.env) :: starEach es X.env := by rfl) : QA X Wx (a :: es) (aCons ma mas) := by
  refine pa_imp (pa_cons ha hr hs) fun σ H Q h => ?_
  refine (run_bind (rpa := RepW X.K X.mg) (f := fun x ρ => bnd (mas ρ) fun xs => ret (x :: xs)) h).mono fun x H1 h1 => ?_
  refine (mid_bind (rpb := RepWs X.K X.mg) (f := fun x xs _ => ret (x :: xs)) stays_W h1).mono fun y H2 h2 => ?_
  obtain ⟨π, ρ, μ, q, r', hs, hh, rq, hm, hp⟩ := h2
  cases hm
  exact hp.here hh ⟨rq.1, rq.2⟩

/-! ### the data of a place -/
def rdL (μ : Store) : W → Option (List D)
  | .p (.lst l) => some l
  | .l k => match μ[k]? with
    | some (.lst l) => some l
    | _ => none
  | _ => none
def rdLs (μ : Store) : W → Option (List D)
  | .p (.scr l) => some l
  | w => rdL μ w
def rdQ (μ : Store) : W → Option (List D)
  | .p (.tup l) => some l
  | .p (.scr l) => some l
  | w => rdL μ w
def rdD (μ : Store) : W → Option (List Key × List D)
  | .p (.dk ks l) => some (ks, l)
  | .l k => match μ[k]? with
    | some (.dk ks l) => some (ks, l)
    | _ => none
  | _ => none
section
variable {K : PySem.W.Frag} {mg : Str → Option Value} {π : PL} {μ : Store} {H : Hp} {v : V} {w : W} {ds : List D}
theorem rdL_ok (hh : HRel K mg π μ H) (r : RepW K mg π μ H v w) (e : rdL μ w = some ds) : ∃ a vs, v = .ref a ∧ H a = some (.lst vs) ∧ Reps K mg π μ H vs ds := by
  unfold rdL at e
  split at e
  · cases e
    cases r with
    | lst h n r => exact ⟨_, _, rfl, h, r⟩
  · rename_i k
    obtain ⟨a, rfl, hk⟩ := r
    split at e
    · rename_i l hc
      cases e
      obtain ⟨vs, h, r⟩ := hh.ok k a _ hk hc
      exact ⟨a, vs, rfl, h, r⟩
    · cases e
  · cases e
theorem scr_ok {l : List D} (r : Rep K mg π μ H v (.scr l)) : ∃ a vs, v = .ref a ∧ SqL K H a vs ∧ Reps K mg π μ H vs l := by
  cases r with
  | scr h r =>
    rcases h with ⟨⟨o, h⟩, n⟩ | h
    · exact ⟨_, _, rfl, .inl (.inr ⟨o, h⟩), r⟩
    · exact ⟨_, _, rfl, .inr h, r⟩
theorem rdLs_ok (hh : HRel K mg π μ H) (r : RepW K mg π μ H v w) (e : rdLs μ w = some ds) : ∃ a vs, v = .ref a ∧ SqL K H a vs ∧ Reps K mg π μ H vs ds := by
  unfold rdLs at e
  split at e
  · cases e
    exact scr_ok r
  · obtain ⟨a, vs, rfl, h, r⟩ := rdL_ok hh r e
    exact ⟨a, vs, rfl, .of h, r⟩
theorem rdQ_ok (hh : HRel K mg π μ H) (r : RepW K mg π μ H v w) (e : rdQ μ w = some ds) : ∃ a vs, v = .ref a ∧ (SqL K H a vs ∨ SqT K H a vs) ∧ Reps K mg π μ H vs ds := by
  unfold rdQ at e
  split at e
  · cases e
    cases r with
    | tup h n r => exact ⟨_, _, rfl, .inr (.of h), r⟩
  · cases e
    obtain ⟨a, vs, rfl, h, r⟩ := scr_ok r
    exact ⟨a, vs, rfl, .inl h, r⟩
  · obtain ⟨a, vs, rfl, h, r⟩ := rdL_ok hh r e
    exact ⟨a, vs, rfl, .inl (.of h), r⟩
theorem rdD_ok {ks : List Key} (hh : HRel K mg π μ H) (r : RepW K mg π μ H v w) (e : rdD μ w = some (ks, ds)) : ∃ a kvs, v = .ref a ∧ Rd H a (.dK kvs) ∧ kvs.map (·.1) = ks ∧ Reps K mg π μ H (kvs.map (·.2)) ds := by
  unfold rdD at e
  split at e
  · cases e
    cases r with
    | dk h n q r => exact ⟨_, _, rfl, h, q, r⟩
  · rename_i k
    obtain ⟨a, rfl, hk⟩ := r
    split at e
    · rename_i l hc
      cases e
      obtain ⟨vs, h, q, r⟩ := hh.ok k a _ hk hc
      exact ⟨a, vs, rfl, .inl h, q, r⟩
    · cases e
  · cases e
theorem rep_int {i : Int} (r : Rep K mg π μ H v (.int i)) : v = .int i := by cases r; rfl
theorem rep_bl {i : Bool} (r : Rep K mg π μ H v (.bl i)) : v = .bl i := by cases r; rfl
theorem rep_str {i : Str} (r : Rep K mg π μ H v (.str i)) : v = .str i := by cases r; rfl
theorem rep_non (r : Rep K mg π μ H v .non) : v = .non := by cases r; rfl
theorem rep_tup {l : List D} (r : Rep K mg π μ H v (.tup l)) : ∃ a vs, v = .ref a ∧ H a = some (.tup vs) ∧ ¬ live π μ a ∧ Reps K mg π μ H vs l := by
  cases r with
  | tup h n r => exact ⟨_, _, rfl, h, n, r⟩
end

/-! ### numbers -/
/-- two whole numbers -/
def wII (g : Int → Int → Option D) : W → W → M W := fun x y => opt (match x, y with
  | .p (.int i), .p (.int j) => (g i j).map W.p
  | _, _ => none)
theorem op2_II {C : Int → Int → Prop} {g : Int → Int → V} {g' : Int → Int → Option D} (hg : ∀ i j d, g' i j = some d → C i j ∧ ∀ K mg π μ H, Rep K mg π μ H (g i j) d) : Op2 X.K X.mg (rI C g) (wII g') := by
  intro E π μ H Q x y a b q hh ra rb hm hp
  obtain ⟨w, e, rfl⟩ := opt_inv hm
  split at e
  · rename_i i j
    obtain ⟨d, e2, rfl⟩ := Option.map_eq_some_iff.mp e
    obtain ⟨c, rd⟩ := hg i j d e2
    exact ⟨i, j, rep_int ra, rep_int rb, c, hp.here hh (rd _ _ _ _ _)⟩
  · cases e
theorem op2_II0 {g : Int → Int → V} {g' : Int → Int → Option D} (hg : ∀ i j d, g' i j = some d → ∀ K mg π μ H, Rep K mg π μ H (g i j) d) : Op2 X.K X.mg (rI0 g) (wII g') := by
  intro E π μ H Q x y a b q hh ra rb hm hp
  obtain ⟨w, e, rfl⟩ := opt_inv hm
  split at e
  · rename_i i j
    obtain ⟨d, e2, rfl⟩ := Option.map_eq_some_iff.mp e
    exact ⟨i, j, rep_int ra, rep_int rb, hp.here hh (hg i j d e2 _ _ _ _ _)⟩
  · cases e
def wSub : W → W → M W := wII fun i j => some (.int (i - j))
theorem op2_sub : Op2 X.K X.mg (rI0 fun i j => .int (i - j)) wSub := op2_II0 fun i j d e => by cases e; exact fun _ _ _ _ _ => .int _
def small (i : Int) : Bool := decide (i.natAbs < 2 ^ 16000000)
def wFdv : W → W → M W := wII fun i j => if 0 < j ∧ j.natAbs < 2 ^ 8000 then some (.int (i / j)) else none
theorem op2_fdv : Op2 X.K X.mg (rI CDivW fun i j => .int (i / j)) wFdv := op2_II fun i j d e => by
  split at e
  · rename_i h
    cases e
    exact ⟨wide_div h.1 h.2 (by decide) (by decide), fun _ _ _ _ _ => .int _⟩
  · cases e
def wMod : W → W → M W := wII fun i j => if 0 < j then some (.int (i % j)) else none
theorem op2_mod : Op2 X.K X.mg (rI (fun _ j => 0 < j) fun i j => .int (i % j)) wMod := op2_II fun i j d e => by
  split at e
  · rename_i h
    cases e
    exact ⟨h, fun _ _ _ _ _ => .int _⟩
  · cases e
def wPow : W → W → M W := wII fun i j => if 0 ≤ j ∧ j ≤ 1000000 ∧ i.natAbs < 2 ^ 64 then some (.int (i ^ j.toNat)) else none
theorem op2_pow : Op2 X.K X.mg (rI CPow fun i j => .int (i ^ j.toNat)) wPow := op2_II fun i j d e => by
  split at e
  · rename_i h
    cases e
    exact ⟨h, fun _ _ _ _ _ => .int _⟩
  · cases e
def wLt : W → W → M W := wII fun i j => some (.bl (decide (i < j)))
def wLe : W → W → M W := wII fun i j => some (.bl (decide (i ≤ j)))
def wGt : W → W → M W := wII fun i j => some (.bl (decide (j < i)))
def wGe : W → W → M W := wII fun i j => some (.bl (decide (j ≤ i)))
theorem op2_lt : Op2 X.K X.mg (rI0 fun i j => .bl (decide (i < j))) wLt := op2_II0 fun i j d e => by cases e; exact fun _ _ _ _ _ => .bl _
theorem op2_le : Op2 X.K X.mg (rI0 fun i j => .bl (decide (i ≤ j))) wLe := op2_II0 fun i j d e => by cases e; exact fun _ _ _ _ _ => .bl _
theorem op2_gt : Op2 X.K X.mg (rI0 fun i j => .bl (decide (j < i))) wGt := op2_II0 fun i j d e => by cases e; exact fun _ _ _ _ _ => .bl _
theorem op2_ge : Op2 X.K X.mg (rI0 fun i j => .bl (decide (j ≤ i))) wGe := op2_II0 fun i j d e => by cases e; exact fun _ _ _ _ _ => .bl _
def wNeg : W → M W := fun x => opt (match x with
  | .p (.int i) => some (.p (.int (-i)))
  | _ => none)
theorem op1_neg : Op1 X.K X.mg (rU fun i => .int (-i)) wNeg := by
  intro E π μ H Q x a q hh ra hm hp
  obtain ⟨w, e, rfl⟩ := opt_inv hm
  split at e
  · rename_i i
    cases e
    exact ⟨i, rep_int ra, hp.here hh (.int _)⟩
  · cases e
/-! is None -/
def isN : W → Bool
  | .p .non => true
  | _ => false
theorem isN_ok {K : PySem.W.Frag} {mg : Str → Option Value} {π : PL} {μ : Store} {H : Hp} {v : V} {w : W} (r : RepW K mg π μ H v w) : decide (v = V.non) = isN w := by
  cases w with
  | l k => obtain ⟨a, rfl, _⟩ := r; rfl
  | p d => cases d <;> cases r <;> rfl
def wIs (neg : Bool) : W → W → M W := fun x y => opt (match y with
  | .p .non => some (.p (.bl (isN x != neg)))
  | _ => none)
theorem op2_is : Op2 X.K X.mg (fun x y H Q => y = .non ∧ Q (.bl (decide (x = .non))) H) (wIs false) := by
  intro E π μ H Q x y a b q hh ra rb hm hp
  obtain ⟨w, e, rfl⟩ := opt_inv hm
  split at e
  · cases e
    refine ⟨rep_non rb, hp.here hh ?_⟩
    rw [isN_ok ra, Bool.bne_false]
    exact .bl _
  · cases e
theorem op2_isnot : Op2 X.K X.mg (fun x y H Q => y = .non ∧ Q (.bl (!decide (x = .non))) H) (wIs true) := by
  intro E π μ H Q x y a b q hh ra rb hm hp
  obtain ⟨w, e, rfl⟩ := opt_inv hm
  split at e
  · cases e
    refine ⟨rep_non rb, hp.here hh ?_⟩
    rw [isN_ok ra, Bool.bne_true]
    exact .bl _
  · cases e
end
end Q

set_option Elab.async false
set_option linter.all false
set_option maxRecDepth 100000
/-! Q4: +, *, ==, in, truth, tests, displays, subscripts, slices. -/
namespace Q
open PySem L2
/-! ### data as the library's data -/
mutual
def py : D → Option PyData
  | .non => some .none
  | .bl b => some (.bool b)
  | .int i => some (.int i)
  | .str s => some (.str s)
  | .tup l => (pys l).map .tuple
  | .lst l => (pys l).map .list
  | .scr l => (pys l).map .list
  | .dk _ _ => none
  | .obj _ _ _ => none
  | .exc _ => none
def pys : List D → Option (List PyData)
  | [] => some []
  | d :: ds => match py d, pys ds with
    | some a, some b => some (a :: b)
    | _, _ => none
end
section
variable {K : PySem.W.Frag} {mg : Str → Option Value} {π : PL} {μ : Store} {H : Hp}
mutual
theorem Rep.dp : ∀ {d : D} {v : V} {p : PyData}, Rep K mg π μ H v d → py d = some p → Dp K H v p
  | .non, _, _, r, e => by cases r; simp [py] at e; subst e; exact .non
  | .bl b, _, _, r, e => by cases r; simp [py] at e; subst e; exact .bl b
  | .int i, _, _, r, e => by cases r; simp [py] at e; subst e; exact .int i
  | .str s, _, _, r, e => by cases r; simp [py] at e; subst e; exact .str s
  | .tup l, _, _, r, e => by
    cases r with
    | tup h n r =>
      simp only [py, Option.map_eq_some_iff] at e
      obtain ⟨ps, e, rfl⟩ := e
      exact .tup (.of h) (Reps.dp r e)
  | .lst l, _, _, r, e => by
    cases r with
    | lst h n r =>
      simp only [py, Option.map_eq_some_iff] at e
      obtain ⟨ps, e, rfl⟩ := e
      exact .lst (.of h) (Reps.dp r e)
  | .scr l, _, _, r, e => by
    obtain ⟨a, vs, rfl, h, r⟩ := scr_ok r
    simp only [py, Option.map_eq_some_iff] at e
    obtain ⟨ps, e, rfl⟩ := e
    exact .lst h (Reps.dp r e)
  | .dk _ _, _, _, _, e => by simp [py] at e
  | .obj _ _ _, _, _, _, e => by simp [py] at e
  | .exc _, _, _, _, e => by simp [py] at e
theorem Reps.dp : ∀ {ds : List D} {vs : List V} {ps : List PyData}, Reps K mg π μ H vs ds → pys ds = some ps → DpAll K H vs ps
  | [], _, _, .nil, e => by simp [pys] at e; subst e; exact .nil
  | d :: ds, _, _, .cons a b, e => by
    unfold pys at e
    split at e
    · rename_i p q e1 e2
      cases e
      exact .cons (Rep.dp a e1) (Reps.dp b e2)
    · cases e
end
def pyW (μ : Store) : W → Option PyData
  | .p d => py d
  | .l k => match μ[k]? with
    | some (.lst l) => (pys l).map .list
    | _ => none
theorem pyW_ok {v : V} {w : W} {p : PyData} (hh : HRel K mg π μ H) (r : RepW K mg π μ H v w) (e : pyW μ w = some p) : Dp K H v p := by
  cases w with
  | p d => exact Rep.dp r e
  | l k =>
    obtain ⟨a, rfl, hk⟩ := r
    simp only [pyW] at e
    split at e
    · rename_i l hc
      obtain ⟨vs, h, r⟩ := hh.ok k a _ hk hc
      obtain ⟨ps, e2, rfl⟩ := Option.map_eq_some_iff.mp e
      exact .lst (.of h) (Reps.dp r e2)
    · cases e
end
/-! ### == -/
def eqOk (a b : PyData) : Bool := a.canLay0 && b.canLay0 && decide (min a.depth b.depth ≤ 200)
def rEqQ (K : PySem.W.Frag) (neg : Bool) : R2 := fun x y H Q => ∃ d e, Dp K H x d ∧ Dp K H y e ∧ eqOk d e = true ∧ Q (.bl (PyData.eqv d e != neg)) H
section
variable {X : Cx} {Wx : WX}
theorem op_eqQ (hu : X.A.units + 200 < cLine) : OpR X (compareOp .Eq) (rEqQ X.K false) := by
  intro pins s σ H x y v u Q I rx ry h
  obtain ⟨d, e, hd, he, ok, q⟩ := h
  simp only [eqOk, Bool.and_eq_true, decide_eq_true_eq] at ok
  obtain ⟨as, r1⟩ := Dp.reads I d x v hd rx
  obtain ⟨bs, r2⟩ := Dp.reads I e y u he ry
  exact SeqAt.compareEq_reads r1 r2 ok.1.1 ok.1.2 (by omega) ⟨.bl _, H, I, rfl, by rw [Bool.bne_false] at q; exact q⟩
theorem op_neQ (hu : X.A.units + 200 < cLine) : OpR X (compareOp .NotEq) (rEqQ X.K true) := by
  intro pins s σ H x y v u Q I rx ry h
  obtain ⟨d, e, hd, he, ok, q⟩ := h
  simp only [eqOk, Bool.and_eq_true, decide_eq_true_eq] at ok
  obtain ⟨as, r1⟩ := Dp.reads I d x v hd rx
  obtain ⟨bs, r2⟩ := Dp.reads I e y u he ry
  exact SeqAt.compareNe_reads r1 r2 ok.1.1 ok.1.2 (by omega) ⟨.bl _, H, I, rfl, by rw [Bool.bne_true] at q; exact q⟩
def wEq (neg : Bool) : W → W → M W := fun x y => optS fun μ => match pyW μ x, pyW μ y with
  | some a, some b => if eqOk a b = true then some (.p (.bl (PyData.eqv a b != neg))) else none
  | _, _ => none
theorem op2_eq {neg : Bool} : Op2 X.K X.mg (rEqQ X.K neg) (wEq neg) := by
  intro E π μ H Q x y a b q hh ra rb hm hp
  obtain ⟨w, e, rfl⟩ := optS_inv hm
  split at e
  · rename_i d1 d2 e1 e2
    split at e
    · rename_i ok
      cases e
      exact ⟨d1, d2, pyW_ok hh ra e1, pyW_ok hh rb e2, ok, hp.here hh (.bl _)⟩
    · cases e
  · cases e
/-! ### in -/
def rInQ (K : PySem.W.Frag) (neg : Bool) : R2 := fun x y H Q => ∃ d ds, Dp K H x d ∧ (Dp K H y (.list ds) ∨ Dp K H y (.tuple ds)) ∧ d.canLay0 = true ∧ d.depth ≤ 100 ∧ PyData.canLayAll0 ds = true ∧ Q (.bl ((ds.any fun z => PyData.eqv z d) != neg)) H
def rInSg (neg : Bool) : R2 := fun x y H Q => ∃ (c : Nat) (z : Str), x = .str ⟨#[c]⟩ ∧ y = .str z ∧ Q (.bl (decide (c ∈ z.cps.toList) != neg)) H
def rInDk (neg : Bool) : R2 := fun x y H Q => ∃ (a : Addr) (k : Key) (kvs : List (Key × V)), x = kV k ∧ y = .ref a ∧ Rd H a (.dK kvs) ∧ Q (.bl ((valV kvs k).isSome != neg)) H
theorem op_inQ (hu : X.A.units + 200 < cLine) : OpR X (compareOp .In) (rInQ X.K false) := by
  intro pins s σ H x y v u Q I rx ry h
  obtain ⟨d, ds, hd, he, c1, dp, c2, q⟩ := h
  obtain ⟨as, r1⟩ := Dp.reads I d x v hd rx
  rw [Bool.bne_false] at q
  rcases he with he | he
  · obtain ⟨bs, r2⟩ := Dp.reads I _ y u he ry
    exact SeqAt.in_list_reads r2 r1 c2 c1 (by omega) ⟨.bl _, H, I, rfl, q⟩
  · obtain ⟨bs, r2⟩ := Dp.reads I _ y u he ry
    exact SeqAt.in_tuple_reads r2 r1 c2 c1 (by omega) ⟨.bl _, H, I, rfl, q⟩
theorem op_notInQ (hu : X.A.units + 200 < cLine) : OpR X (compareOp .NotIn) (rInQ X.K true) := by
  intro pins s σ H x y v u Q I rx ry h
  obtain ⟨d, ds, hd, he, c1, dp, c2, q⟩ := h
  obtain ⟨as, r1⟩ := Dp.reads I d x v hd rx
  rw [Bool.bne_true] at q
  rcases he with he | he
  · obtain ⟨bs, r2⟩ := Dp.reads I _ y u he ry
    exact SeqAt.notIn_list_reads r2 r1 c2 c1 (by omega) ⟨.bl _, H, I, rfl, q⟩
  · obtain ⟨bs, r2⟩ := Dp.reads I _ y u he ry
    exact SeqAt.notIn_tuple_reads r2 r1 c2 c1 (by omega) ⟨.bl _, H, I, rfl, q⟩
theorem op_inSg : OpR X (compareOp .In) (rInSg false) := by
  intro pins s σ H x y v u Q I rx ry ⟨c, z, h1, h2, q⟩
  exact op_in_sign pins s σ H x y v u Q I rx ry ⟨c, z, h1, h2, by rw [Bool.bne_false] at q; exact q⟩
theorem op_notInSg : OpR X (compareOp .NotIn) (rInSg true) := by
  intro pins s σ H x y v u Q I rx ry ⟨c, z, h1, h2, q⟩
  exact op_notIn_sign pins s σ H x y v u Q I rx ry ⟨c, z, h1, h2, by rw [Bool.bne_true] at q; exact q⟩
theorem op_inDk (hu : X.A.units + 200 < cLine) : OpR X (compareOp .In) (rInDk false) := by
  intro pins s σ H x y v u Q I rx ry ⟨a, k, kvs, h1, h2, hr, q⟩
  subst h1; subst h2
  obtain rfl : u = Value.ref a := ry
  rw [Bool.bne_false] at q
  exact d_in (o := valV kvs k) (by omega) I (.inl ⟨kvs, k, hr, rfl, rfl⟩) rx fun s3 I3 => ⟨.bl _, H, I3, rfl, q⟩
theorem op_notInDk (hu : X.A.units + 200 < cLine) : OpR X (compareOp .NotIn) (rInDk true) := by
  intro pins s σ H x y v u Q I rx ry ⟨a, k, kvs, h1, h2, hr, q⟩
  subst h1; subst h2
  obtain rfl : u = Value.ref a := ry
  rw [Bool.bne_true] at q
  exact d_notIn (o := valV kvs k) (by omega) I (.inl ⟨kvs, k, hr, rfl, rfl⟩) rx fun s3 I3 => ⟨.bl _, H, I3, rfl, q⟩
def rInAll (K : PySem.W.Frag) (neg : Bool) : R2 := fun x y H Q => (rInQ K neg x y H Q ∨ rInSg neg x y H Q) ∨ rInDk neg x y H Q
theorem op_inA (hu : X.A.units + 200 < cLine) : OpR X (compareOp .In) (rInAll X.K false) := .or (.or (op_inQ hu) op_inSg) (op_inDk hu)
theorem op_notInA (hu : X.A.units + 200 < cLine) : OpR X (compareOp .NotIn) (rInAll X.K true) := .or (.or (op_notInQ hu) op_notInSg) (op_notInDk hu)
/-- the key that a value is -/
def keyW : W → Option Key
  | .p (.int i) => some (.inl i)
  | .p (.str s) => some (.inr s)
  | _ => none
/-- the place of a key -/
def findK (ks : List Key) (k : Key) : Option Nat := ks.findIdx? (fun j => decide (j = k))
/-- what a key has -/
def getK : List Key → List D → Key → Option D
  | j :: ks, d :: ds, k => if j = k then some d else getK ks ds k
  | _, _, _ => none
theorem keyW_ok {K : PySem.W.Frag} {mg : Str → Option Value} {π : PL} {μ : Store} {H : Hp} {v : V} {w : W} {k : Key} (r : RepW K mg π μ H v w) (e : keyW w = some k) : v = kV k := by
  unfold keyW at e
  split at e
  · cases e; exact rep_int r
  · cases e; exact rep_str r
  · cases e
theorem getK_some {K : PySem.W.Frag} {mg : Str → Option Value} {π : PL} {μ : Store} {H : Hp} {k : Key} : ∀ {kvs : List (Key × V)} {ds : List D} {d : D}, Reps K mg π μ H (kvs.map (·.2)) ds → getK (kvs.map (·.1)) ds k = some d → ∃ v, valV kvs k = some v ∧ Rep K mg π μ H v d
  | [], _, _, _, e => by cases e
  | p :: kvs, [], _, r, e => by cases r
  | p :: kvs, d :: ds, d', r, e => by
    simp only [List.map_cons] at r e
    cases r with
    | cons r1 r2 =>
      unfold getK at e
      by_cases h : p.1 = k
      · rw [if_pos h] at e
        cases e
        exact ⟨p.2, valV_pos h, r1⟩
      · rw [if_neg h] at e
        rw [valV_neg h]
        exact getK_some r2 e
theorem getK_none {K : PySem.W.Frag} {mg : Str → Option Value} {π : PL} {μ : Store} {H : Hp} {k : Key} : ∀ {kvs : List (Key × V)} {ds : List D}, Reps K mg π μ H (kvs.map (·.2)) ds → getK (kvs.map (·.1)) ds k = none → valV kvs k = none
  | [], _, _, e => rfl
  | p :: kvs, [], r, e => by cases r
  | p :: kvs, d :: ds, r, e => by
    simp only [List.map_cons] at r e
    cases r with
    | cons r1 r2 =>
      unfold getK at e
      by_cases h : p.1 = k
      · rw [if_pos h] at e
        cases e
      · rw [if_neg h] at e
        rw [valV_neg h]
        exact getK_none r2 e
def sign1 : W → Option Nat
  | .p (.str s) => if s.cps.size = 1 then s.cps[0]? else none
  | _ => none
theorem sign1_ok {w : W} {c : Nat} (e : sign1 w = some c) : w = .p (.str ⟨#[c]⟩) := by
  unfold sign1 at e
  split at e
  · rename_i s
    split at e
    · rename_i h
      obtain ⟨a⟩ := s
      have h1 : a.size = 1 := h
      have : a = #[c] := by
        apply Array.ext
        · simp [h1]
        · intro i h2 h3
          have h3' : i < 1 := by simpa using h3
          have hi : i = 0 := by omega
          subst hi
          have e' : a[0]? = some c := e
          rw [Array.getElem?_eq_getElem h2] at e'
          simpa using e'
      rw [this]
    · cases e
  · cases e
/-- x in y -/
def wInV (neg : Bool) (x y : W) (μ : Store) : Option W :=
  match y with
  | .p (.str z) => (sign1 x).map fun c => .p (.bl (decide (c ∈ z.cps.toList) != neg))
  | y => match rdD μ y with
    | some (ks, ds) => (keyW x).map fun k => .p (.bl ((getK ks ds k).isSome != neg))
    | none => match pyW μ x, pyW μ y with
      | some d, some (.list ds) => if (d.canLay0 && PyData.canLayAll0 ds && decide (d.depth ≤ 100)) = true then some (.p (.bl ((ds.any fun z => PyData.eqv z d) != neg))) else none
      | some d, some (.tuple ds) => if (d.canLay0 && PyData.canLayAll0 ds && decide (d.depth ≤ 100)) = true then some (.p (.bl ((ds.any fun z => PyData.eqv z d) != neg))) else none
      | _, _ => none
def wIn (neg : Bool) : W → W → M W := fun x y => optS (wInV neg x y)
theorem op2_in {neg : Bool} : Op2 X.K X.mg (rInAll X.K neg) (wIn neg) := by
  intro E π μ H Q x y a b q hh ra rb hm hp
  obtain ⟨w, e, rfl⟩ := optS_inv hm
  unfold wInV at e
  split at e
  · rename_i z
    obtain ⟨c, e1, rfl⟩ := Option.map_eq_some_iff.mp e
    rw [sign1_ok e1] at ra
    exact .inl (.inr ⟨c, z, rep_str ra, rep_str rb, hp.here hh (.bl _)⟩)
  · split at e
    · rename_i ks ds ed
      obtain ⟨k, e1, rfl⟩ := Option.map_eq_some_iff.mp e
      obtain ⟨a', kvs, rfl, hr, rfl, rs⟩ := rdD_ok hh rb ed
      refine .inr ⟨a', k, kvs, keyW_ok ra e1, rfl, hr, hp.here hh ?_⟩
      cases eg : getK (kvs.map (·.1)) ds k with
      | none => rw [getK_none rs eg]; exact .bl _
      | some d =>
        obtain ⟨v, ev, _⟩ := getK_some rs eg
        rw [ev]; exact .bl _
    · split at e
      · rename_i d ds e1 e2
        split at e
        · rename_i ok
          cases e
          simp only [Bool.and_eq_true, decide_eq_true_eq] at ok
          exact .inl (.inl ⟨d, ds, pyW_ok hh ra e1, .inl (pyW_ok hh rb e2), ok.1.1, ok.2, ok.1.2, hp.here hh (.bl _)⟩)
        · cases e
      · rename_i d ds e1 e2
        split at e
        · rename_i ok
          cases e
          simp only [Bool.and_eq_true, decide_eq_true_eq] at ok
          exact .inl (.inl ⟨d, ds, pyW_ok hh ra e1, .inr (pyW_ok hh rb e2), ok.1.1, ok.2, ok.1.2, hp.here hh (.bl _)⟩)
        · cases e
      · cases e

/-! ### + -/
def rAddA (K : PySem.W.Frag) : R2 := fun x y H Q => (((∃ i j, x = .int i ∧ y = .int j ∧ Q (.int (i + j)) H) ∨ (∃ i j : Str, x = .str i ∧ y = .str j ∧ i.length + j.length ≤ sizeLine ∧ Q (.str (i ++ j)) H)) ∨ rCatA K x y H Q) ∨ rCat x y H Q
theorem op_addA : OpR X (binaryOp .Add) (rAddA X.K) := .or (.or (.or op_add op_add_str) op_catA) op_cat
def wAddV (x y : W) (μ : Store) : Option W :=
  match x, y with
  | .p (.int i), .p (.int j) => some (.p (.int (i + j)))
  | .p (.str i), .p (.str j) => if i.length + j.length ≤ sizeLine then some (.p (.str (i ++ j))) else none
  | .p (.tup i), .p (.tup j) => if i.length + j.length ≤ sizeLine then some (.p (.tup (i ++ j))) else none
  | x, y => match rdL μ x, rdL μ y with
    | some i, some j => if i.length + j.length ≤ sizeLine then some (.p (.lst (i ++ j))) else none
    | _, _ => none
def wAdd : W → W → M W := fun x y => optS (wAddV x y)
theorem op2_add : Op2 X.K X.mg (rAddA X.K) wAdd := by
  intro E π μ H Q x y a b q hh ra rb hm hp
  obtain ⟨w, e, rfl⟩ := optS_inv hm
  unfold wAddV at e
  split at e
  · cases e
    exact .inl (.inl (.inl ⟨_, _, rep_int ra, rep_int rb, hp.here hh (.int _)⟩))
  · split at e
    · rename_i h
      cases e
      exact .inl (.inl (.inr ⟨_, _, rep_str ra, rep_str rb, h, hp.here hh (.str _)⟩))
    · cases e
  · split at e
    · rename_i h
      cases e
      obtain ⟨p1, v1, rfl, h1, n1, r1⟩ := rep_tup ra
      obtain ⟨p2, v2, rfl, h2, n2, r2⟩ := rep_tup rb
      refine .inl (.inr ⟨p1, p2, v1, v2, rfl, rfl, .of h1, .of h2, by rw [r1.length, r2.length]; exact h, fun z => ?_, fun _ z => ?_, fun _ _ p np => ?_⟩)
      · subst z
        cases r1
        exact hp.here hh rb
      · subst z
        cases r2
        rw [List.append_nil] at hp
        exact hp.here hh ra
      · exact hp.new hh np (.tup upd_same (hh.nlive np) ((r1.append r2).ext (Ext.pure np).toKp))
    · cases e
  · split at e
    · rename_i e1 e2
      split at e
      · rename_i h
        cases e
        obtain ⟨p1, v1, rfl, h1, r1⟩ := rdL_ok hh ra e1
        obtain ⟨p2, v2, rfl, h2, r2⟩ := rdL_ok hh rb e2
        exact .inr ⟨p1, p2, v1, v2, rfl, rfl, h1, h2, by rw [r1.length, r2.length]; exact h, fun p np => hp.new hh np (.lst upd_same (hh.nlive np) ((r1.append r2).ext (Ext.pure np).toKp))⟩
      · cases e
    · cases e
/-! ### * -/
instance (i j : Int) : Decidable (CMulX i j) := inferInstanceAs (Decidable (_ ≤ _))
def strRep (z : Str) (k : Nat) : Str := ⟨(List.replicate k z.cps.toList).flatten.toArray⟩
theorem foldl_app (l : List (Array Nat)) : ∀ acc : Array Nat, l.foldl (· ++ ·) acc = ⟨acc.toList ++ (l.map (·.toList)).flatten⟩ := by
  induction l with
  | nil => intro acc; simp
  | cons a l ih => intro acc; rw [List.foldl_cons, ih]; simp
def rMulS : R2 := fun x y H Q => ∃ (z : Str) (i : Int), x = .str z ∧ y = .int i ∧ 0 ≤ i ∧ i ≤ 1000000 ∧ z.length * i.toNat ≤ 1000000 ∧ Q (.str (strRep z i.toNat)) H
theorem op_mulS : OpR X (binaryOp .Mult) rMulS := by
  intro pins s σ H x y v u Q I rx ry ⟨z, i, h1, h2, h3, h4, h5, q⟩
  subst h1; subst h2
  obtain ⟨t, rfl⟩ := rx
  obtain ⟨t', rfl⟩ := ry
  refine PySem.P.mul_str ?_ (fun a b => ?_) (fun a b => ?_) ?_
  · rw [decide_eq_false (by omega), decide_eq_false (by omega)]; rfl
  · have hz : (z.length : Int) ≤ 1000000 := by
      have : z.length ≤ z.length * i.toNat := Nat.le_mul_of_pos_right _ (by omega)
      omega
    have hd : (1000000 : Int) ≤ (2 ^ 63 - 1) / i := by
      rw [Int.le_ediv_iff_mul_le (by omega)]
      calc (1000000 : Int) * i ≤ 1000000 * 1000000 := by omega
        _ ≤ 2 ^ 63 - 1 := by decide
    omega
  · have hs : sizeLine = 16777216 := by decide
    have h5' : z.length * i.toNat ≤ sizeLine := by omega
    simp only [PySem.Builtin.Str.tooLong, decide_eq_false_iff_not]
    omega
  · have key : (i < 1 → strRep z i.toNat = Str.empty) ∧ (¬ i < 1 → strRep z i.toNat = ⟨(List.replicate i.toNat z.cps).foldl (· ++ ·) #[]⟩) := by
      constructor
      · intro h
        have : i.toNat = 0 := by omega
        unfold strRep
        rw [this]
        rfl
      · intro h
        unfold strRep
        rw [foldl_app]
        simp
    split
    · rename_i h
      exact ⟨by decide, ⟨.str Str.empty, H, I.tok _, ⟨_, rfl⟩, by rw [← key.1 h]; exact q⟩⟩
    · rename_i h
      split
      · rename_i h2
        refine ⟨.str (strRep z i.toNat), H, I, ⟨t, ?_⟩, q⟩
        rcases Bool.or_eq_true_iff.mp h2 with e | e
        · have : i = 1 := by simpa using e
          subst this
          simp [strRep]
        · have e' : z.cps.size = 0 := by simpa [Str.length] using e
          obtain ⟨a⟩ := z
          have ha : a = #[] := Array.eq_empty_of_size_eq_zero e'
          subst ha
          congr 1
          unfold strRep
          simp
      · refine ⟨?_, ⟨.str _, H, I.tok _, ⟨_, rfl⟩, by rw [← key.2 h]; exact q⟩⟩
        rw [← key.2 h]
        have hs : sizeLine = 16777216 := by decide
        have hl : (strRep z i.toNat).length = i.toNat * z.length := by simp [strRep, Str.length]
        rw [hl, Nat.mul_comm]
        omega
end
end Q

set_option Elab.async false
set_option linter.all false
set_option maxRecDepth 100000
/-! Q5: *, subscripts, slices, truth, tests, and, or, displays. -/
namespace Q
open PySem PySem.Spec PyProof.Rows L2
section
variable {X : Cx} {Wx : WX}
def rMulI : R2 := rI CMulX fun i j => .int (i * j)
def rMulA : R2 := fun x y H Q => (rMulI x y H Q ∨ rMulS x y H Q) ∨ rRep x y H Q
theorem op_mulA : OpR X (binaryOp .Mult) rMulA := .or (.or op_mulX op_mulS) op_rep
def wMulV (x y : W) (μ : Store) : Option W :=
  match x, y with
  | .p (.int i), .p (.int j) => if CMulX i j then some (.p (.int (i * j))) else none
  | .p (.str z), .p (.int i) => if 0 ≤ i ∧ i ≤ 1000000 ∧ z.length * i.toNat ≤ 1000000 then some (.p (.str (strRep z i.toNat))) else none
  | x, .p (.int k) => match rdL μ x with
    | some l => if 0 ≤ k ∧ k ≤ 1000000 ∧ l.length * k.toNat ≤ 1000000 then some (.p (.lst (List.replicate k.toNat l).flatten)) else none
    | _ => none
  | _, _ => none
def wMul : W → W → M W := fun x y => optS (wMulV x y)
theorem Reps.rep {K : PySem.W.Frag} {mg : Str → Option Value} {π : PL} {μ : Store} {H : Hp} {vs : List V} {ds : List D} (r : Reps K mg π μ H vs ds) : ∀ k : Nat, Reps K mg π μ H (List.replicate k vs).flatten (List.replicate k ds).flatten
  | 0 => .nil
  | k + 1 => by
    rw [List.replicate_succ, List.replicate_succ, List.flatten_cons, List.flatten_cons]
    exact r.append (Reps.rep r k)
theorem op2_mul : Op2 X.K X.mg rMulA wMul := by
  intro E π μ H Q x y a b q hh ra rb hm hp
  obtain ⟨w, e, rfl⟩ := optS_inv hm
  unfold wMulV at e
  split at e
  · split at e
    · rename_i h
      cases e
      exact .inl (.inl ⟨_, _, rep_int ra, rep_int rb, h, hp.here hh (.int _)⟩)
    · cases e
  · split at e
    · rename_i h
      cases e
      exact .inl (.inr ⟨_, _, rep_str ra, rep_int rb, h.1, h.2.1, h.2.2, hp.here hh (.str _)⟩)
    · cases e
  · split at e
    · rename_i l e1
      split at e
      · rename_i h
        cases e
        obtain ⟨p1, v1, rfl, h1, r1⟩ := rdL_ok hh ra e1
        have hs : sizeLine = 16777216 := by decide
        refine .inr ⟨p1, _, v1, rfl, rep_int rb, h1, by omega, by omega, by rw [r1.length]; omega, fun p np => hp.new hh np (.lst upd_same (hh.nlive np) ((r1.rep _).ext (Ext.pure np).toKp))⟩
      · cases e
    · cases e
  · cases e

/-! ### a[b] -/
def rIxDk : R2 := fun x y H Q => ∃ a v, x = .ref a ∧ DGet H a y (some v) ∧ Q v H
theorem ix_dict (hu : X.A.units + 200 < cLine) : IxR X rIxDk := by
  intro value slice pins s σ H x y v u Q I rx ry ⟨a, w, h1, g, q⟩ hs
  subst h1
  obtain rfl : v = Value.ref a := rx
  have hT := dict_typeIs I g
  unfold subscriptTail
  refine wpAny_bind ?_
  rw [getitemInPython_of_ne hT.not_modules]
  refine wpAny_bind (wpAny_specialOf hT PySem.F.slot_dict_getitem.lookup ?_)
  have fin : wpAny (model X.prog X.w) X.A (subscripted slice false (.ref a) u) (fun r s₃ => wpAny (model X.prog X.w) X.A (letTemporaryGo value (.ref a) r >>= fun _ => pure r) (EP X pins σ Q) X.xe s₃) X.xe s := by
    rw [hs]
    refine wpAny_operating (wpAny_mono (d_getItem (Q := EP X pins σ Q) (by omega) I g ry fun w' s3 I3 rw' => ⟨w, H, I3, rw', q⟩) (fun r s₃ h₃ => wpAny_bind (wpAny_letTemporaryGo (wpAny_pure h₃))) fun _ _ x => x)
  first
    | exact wpAny_pure (wpAny_bind fin)
    | exact wpAny_bind (wpAny_pure (wpAny_bind fin))
    | exact wpAny_bind fin
def rIxA (K : PySem.W.Frag) : R2 := fun x y H Q => rIx K x y H Q ∨ rIxDk x y H Q
theorem ix_all (hu : X.A.units + 200 < cLine) : IxR X (rIxA X.K) := .or ix_seq (ix_dict hu)
def wIxV (x y : W) (μ : Store) : Option W :=
  match x, y with
  | .p (.str z), .p (.int i) => if z.length ≤ sizeLine then (atI z.cps.toList i).map fun c => .p (.str ⟨#[c]⟩) else none
  | x, y => match rdQ μ x, y with
    | some l, .p (.int i) => (atI l i).map .p
    | some _, _ => none
    | none, y => match rdD μ x, keyW y with
      | some (ks, l), some k => (getK ks l k).map .p
      | _, _ => none
def wIx : W → W → M W := fun x y => optS (wIxV x y)
theorem Reps.atI {K : PySem.W.Frag} {mg : Str → Option Value} {π : PL} {μ : Store} {H : Hp} {vs : List V} {ds : List D} {i : Int} {d : D} (r : Reps K mg π μ H vs ds) (h : L2.atI ds i = some d) : ∃ v, L2.atI vs i = some v ∧ Rep K mg π μ H v d := by
  unfold L2.atI at h ⊢
  rw [r.length]
  cases e : ixN ds.length i with
  | none => rw [e] at h; cases h
  | some j =>
    rw [e] at h
    exact r.get h
theorem op2_ix : Op2 X.K X.mg (rIxA X.K) wIx := by
  intro E π μ H Q x y a b q hh ra rb hm hp
  obtain ⟨w, e, rfl⟩ := optS_inv hm
  unfold wIxV at e
  split at e
  · split at e
    · rename_i h
      obtain ⟨c, e1, rfl⟩ := Option.map_eq_some_iff.mp e
      exact .inl (.inr (.inr ⟨_, _, c, rep_str ra, rep_int rb, h, e1, hp.here hh (.str _)⟩))
    · cases e
  · split at e
    · rename_i l i e1 _
      obtain ⟨d, e2, rfl⟩ := Option.map_eq_some_iff.mp e
      obtain ⟨p, vs, rfl, hq, r⟩ := rdQ_ok hh ra e1
      obtain ⟨v, ev, rv⟩ := r.atI e2
      rcases hq with hq | hq
      · exact .inl (.inl ⟨p, vs, _, v, rfl, rep_int rb, hq, ev, hp.here hh rv⟩)
      · exact .inl (.inr (.inl ⟨p, vs, _, v, rfl, rep_int rb, hq, ev, hp.here hh rv⟩))
    · cases e
    · split at e
      · rename_i ks l k e1 e2
        obtain ⟨d, e3, rfl⟩ := Option.map_eq_some_iff.mp e
        obtain ⟨p, kvs, rfl, hr, rfl, rs⟩ := rdD_ok hh ra e1
        obtain ⟨v, ev, rv⟩ := getK_some rs e3
        exact .inr ⟨p, v, rfl, .inl ⟨kvs, k, hr, keyW_ok rb e2, ev.symm⟩, hp.here hh rv⟩
      · cases e
/-! ### slices -/
def oInt : W → Option Int
  | .p (.int i) => some i
  | _ => none
def cut {α : Type} (xs : List α) (lo hi : Option Int) : List α := (xs.drop (HT.sIx xs.length 0 lo)).take (HT.sIx xs.length xs.length hi - HT.sIx xs.length 0 lo)
theorem Reps.cut {K : PySem.W.Frag} {mg : Str → Option Value} {π : PL} {μ : Store} {H : Hp} {vs : List V} {ds : List D} (r : Reps K mg π μ H vs ds) (lo hi : Option Int) : Reps K mg π μ H (cutV vs lo hi) (Q.cut ds lo hi) := by
  unfold cutV Q.cut
  rw [r.length]
  exact (r.drop _).take _
def rSlA' (K : PySem.W.Frag) : V → Option Int → Option Int → Hp → VK → Prop := fun x lo hi H Q => (rSlL K x lo hi H Q ∨ rSlA K x lo hi H Q) ∨ rSlS x lo hi H Q
theorem sl_all : SlR X (rSlA' X.K) := .or (.or sl_list sl_tupA) sl_str
def wSlV (x : W) (lo hi : Option Int) (μ : Store) : Option W :=
  match x with
  | .p (.str z) => if z.length ≤ sizeLine then some (.p (.str (cutS z lo hi))) else none
  | .p (.tup l) => some (.p (.tup (cut l lo hi)))
  | x => (rdLs μ x).map fun l => .p (.lst (cut l lo hi))
def wSl : W → Option Int → Option Int → M W := fun x lo hi => optS (wSlV x lo hi)
/-- an optional part of a slice -/
def oNone : Env → M (Option Int) := fun _ => ret none
def oSome (m : DE) : Env → M (Option Int) := fun ρ => bnd (m ρ) fun w => opt ((oInt w).map some)
def dSl (m : DE) (lo hi : Env → M (Option Int)) : DE := fun ρ => bnd (m ρ) fun x => bnd (lo ρ) fun l => bnd (hi ρ) fun h => wSl x l h
def IsO (_ : PL) (_ : Store) (_ : Hp) (b c : Option Int) : Prop := b = c
theorem stays_O : Stays IsO := fun _ _ _ _ _ _ _ _ _ h => h
abbrev TOd (K : PySem.W.Frag) (mg : Str → Option Value) (Wx : WX) (m : Env → M (Option Int)) : TO := Run K mg IsO Wx m
structure QO (X : Cx) (Wx : WX) (e : Option Expr) (m : Env → M (Option Int)) : Prop where
  t : ∃ t : TO, PO X e t ∧ ∀ σ H Q, TOd X.K X.mg Wx m σ H Q → t σ H Q
theorem qo_none : QO X Wx none oNone := ⟨_, po_none, fun σ H Q ⟨π, ρ, μ, r, hs, hh, hm, hp⟩ => by cases hm; exact hp.here hh rfl⟩
theorem qo_some {e : Expr} {m : DE} (h : QE X Wx e m) : QO X Wx (some e) (oSome m) := ⟨_, po_some h, fun σ H Q h => by
  refine (run_bind (rpa := RepW X.K X.mg) (f := fun w ρ => opt ((oInt w).map some)) h).mono fun x H1 h1 => ?_
  obtain ⟨π, ρ, μ, q, r', hs, hh, rq, hm, hp⟩ := h1
  obtain ⟨o, e, rfl⟩ := opt_inv hm
  obtain ⟨i, e1, rfl⟩ := Option.map_eq_some_iff.mp e
  unfold oInt at e1
  split at e1
  · cases e1
    exact ⟨i, rep_int rq, hp.here hh rfl⟩
  · cases e1⟩
theorem rSl_ok {E : XK} {π : PL} {μ : Store} {H : Hp} {Q : VK} {x : V} {a : W} {lo hi : Option Int} {q : ER W} (hh : HRel X.K X.mg π μ H) (ra : RepW X.K X.mg π μ H x a) (hm : wSl a lo hi μ = some q) (hp : Post X.K X.mg (RepW X.K X.mg) E π μ H Q q) : rSlA' X.K x lo hi H Q := by
  obtain ⟨w, e, rfl⟩ := optS_inv hm
  unfold wSlV at e
  split at e
  · split at e
    · rename_i h
      cases e
      exact .inr ⟨_, rep_str ra, h, hp.here hh (.str _)⟩
    · cases e
  · cases e
    obtain ⟨p1, v1, rfl, h1, n1, r1⟩ := rep_tup ra
    refine .inl (.inr ⟨p1, v1, rfl, .of h1, fun z => ?_, fun _ p np => hp.new hh np (.tup upd_same (hh.nlive np) ((r1.cut lo hi).ext (Ext.pure np).toKp))⟩)
    refine hp.here hh (.tup h1 n1 ?_)
    have e : cutV v1 lo hi = v1 := by
      unfold cutV
      rw [z.1, z.2, List.drop_zero, Nat.sub_zero, List.take_length]
    have q := r1.cut lo hi
    rw [e] at q
    exact q
  · obtain ⟨l, e1, rfl⟩ := Option.map_eq_some_iff.mp e
    obtain ⟨p1, v1, rfl, h1, r1⟩ := rdLs_ok hh ra e1
    exact .inl (.inl ⟨p1, v1, rfl, h1, fun p np => hp.new hh np (.lst upd_same (hh.nlive np) ((r1.cut lo hi).ext (Ext.pure np).toKp))⟩)
theorem q_slice {e : Expr} {lo hi : Option Expr} {m : DE} {ml mh : Env → M (Option Int)} {p2 pos : Pos} (he : QE X Wx e m) (hl : QO X Wx lo ml) (hu : QO X Wx hi mh) : QE X Wx (.Subscript e (.Slice lo hi none p2) pos) (dSl m ml mh) := by
  obtain ⟨tl, hl, il⟩ := hl.t
  obtain ⟨th, hu, iu⟩ := hu.t
  refine pe_imp (pe_slice sl_all he hl hu) fun σ H Q h => ?_
  refine (run_bind (rpa := RepW X.K X.mg) (f := fun x ρ => bnd (ml ρ) fun l => bnd (mh ρ) fun h => wSl x l h) h).mono fun x H1 h1 => il _ _ _ ?_
  refine (mid_bind (rpb := IsO) (f := fun x l ρ => bnd (mh ρ) fun h => wSl x l h) stays_W h1).mono fun y H2 h2 => iu _ _ _ ?_
  refine (mid_bind (rpb := IsO) (f := fun q h ρ => wSl q.1 q.2 h) (stays_both stays_W stays_O) h2).mono fun z H3 h3 => ?_
  obtain ⟨π, ρ, μ, q, r', hs, hh, rq, hm, hp⟩ := h3
  obtain ⟨⟨r1, r2⟩, r3⟩ := rq
  cases r2; cases r3
  exact rSl_ok hh r1 hm hp

/-! ### truth and tests -/
def tru (μ : Store) : W → Option Bool
  | .p .non => some false
  | .p (.bl b) => some b
  | .p (.int i) => some (i != 0)
  | .p (.str z) => if z.length ≤ sizeLine then some ((z.length : Int) != 0) else none
  | w => match rdQ μ w with
    | some l => some (!l.isEmpty)
    | none => none
theorem tru_ok {π : PL} {μ : Store} {H : Hp} {v : V} {w : W} {k : Bool} (hh : HRel X.K X.mg π μ H) (r : RepW X.K X.mg π μ H v w) (e : tru μ w = some k) : TruV X.K v H k := by
  unfold tru at e
  split at e
  · cases e; rw [rep_non r]; rfl
  · cases e; rw [rep_bl r]; rfl
  · cases e; rw [rep_int r]; rfl
  · split at e
    · rename_i h
      cases e; rw [rep_str r]; exact ⟨h, rfl⟩
    · cases e
  · split at e
    · rename_i l e1
      cases e
      obtain ⟨p, vs, rfl, hq, rs⟩ := rdQ_ok hh r e1
      have el : vs.isEmpty = l.isEmpty := by cases rs <;> rfl
      rw [← el]
      rcases hq with hq | hq
      · exact .inl ⟨vs, hq, rfl⟩
      · exact .inr (.inl ⟨vs, hq, rfl⟩)
    · cases e
def cTru (m : DE) : Env → M Bool := fun ρ => bnd (m ρ) fun w => optS fun μ => tru μ w
def cAnd (a b : Env → M Bool) : Env → M Bool := fun ρ => bnd (a ρ) fun c => if c = true then b ρ else ret false
def cOr (a b : Env → M Bool) : Env → M Bool := fun ρ => bnd (a ρ) fun c => if c = true then ret true else b ρ
def cNot (a : Env → M Bool) : Env → M Bool := fun ρ => bnd (a ρ) fun c => ret (!c)
variable {a b : Expr} {es rest : List Expr} {ma mb : DE} {ca cb : Env → M Bool} {pos : Pos}
theorem qt_of (h : QE X Wx a ma) (he : ∀ whole, isTrue a X.env whole = (do let v ← whole; standAt a.pos; holding [v] (truthy v)) := by intro _; rfl) : QT X Wx a (cTru ma) := by
  refine pt_imp (pt_truth h he) fun σ H Q h => ?_
  refine (run_bind (rpa := RepW X.K X.mg) (f := fun w _ => optS fun μ => tru μ w) h).mono fun x H1 h1 => ?_
  obtain ⟨π, ρ, μ, q, r', hs, hh, rq, hm, hp⟩ := h1
  obtain ⟨k, e, rfl⟩ := optS_inv hm
  exact ⟨k, tru_ok hh rq e, hp.here hh rfl⟩
/-- a comparison whose answer is True or False -/
def cBl (m : DE) : Env → M Bool := fun ρ => bnd (m ρ) fun w => opt (match w with
  | .p (.bl b) => some b
  | _ => none)
theorem qt_cmp {op : CmpOp} {r : R2} {f : W → W → M W} (hf : Op2 X.K X.mg r f) (ho : OpR X (compareOp op) r) (hm : behindInMarks op b = false) (ha : QE X Wx a ma) (hb : QE X Wx b mb) : QT X Wx (.Compare a [op] [b] pos) (cBl (d2 f ma mb)) := by
  refine pt_imp (pt_cmpR ho ha hb hm) fun σ H Q h => ?_
  have h1 : TEd X.K X.mg Wx (d2 f ma mb) σ H fun v H1 => ∃ k, v = .bl k ∧ Q k H1 := by
    refine (run_bind (rpa := RepW X.K X.mg) (f := fun w _ => opt (match w with
      | .p (.bl b) => some b
      | _ => none)) h).mono fun x H1 h1 => ?_
    obtain ⟨π, ρ, μ, q, r', hs, hh, rq, hm, hp⟩ := h1
    obtain ⟨k, e, rfl⟩ := opt_inv hm
    split at e
    · cases e
      exact ⟨k, rep_bl rq, hp.here hh rfl⟩
    · cases e
  exact run2 hf h1
theorem cAnd_ok (f : Bool → Env → M Bool) {σ : L2.St} {H : Hp} {Q : Bool → Hp → Prop} (h : TTd X.K X.mg Wx (fun ρ => bnd (ca ρ) fun c => f c ρ) σ H Q) : TTd X.K X.mg Wx ca σ H fun c H1 => TTd X.K X.mg Wx (f c) σ H1 Q := by
  refine (run_bind (rpa := IsB) (f := f) h).mono fun c H1 h1 => ?_
  obtain ⟨π, ρ, μ, q, r', hs, hh, rq, hm, hp⟩ := h1
  cases rq
  exact ⟨π, ρ, μ, r', hs, hh, hm, hp⟩
theorem ttd_ret {c : Bool} {σ : L2.St} {H : Hp} {Q : Bool → Hp → Prop} (h : TTd X.K X.mg Wx (fun _ => ret c) σ H Q) : Q c H := by
  obtain ⟨π, ρ, μ, r', hs, hh, hm, hp⟩ := h
  cases hm
  exact hp.here hh rfl
/-- and, or, one of them left -/
abbrev QW (X : Cx) (Wx : WX) (e : Expr) (m : Env → M Bool) : Prop := PW X e (TTd X.K X.mg Wx m)
theorem qw_and1 (h : QT X Wx a ca) : QW X Wx (.BoolOp .And [a] pos) ca := pw_and1 h
theorem qw_or1 (h : QT X Wx a ca) : QW X Wx (.BoolOp .Or [a] pos) ca := pw_or1 h
theorem qw_and (ha : QT X Wx a ca) (hb : QW X Wx (.BoolOp .And (b :: rest) pos) cb) : QW X Wx (.BoolOp .And (a :: b :: rest) pos) (cAnd ca cb) := by
  refine pw_imp (pw_and ha hb) fun σ H Q h => ?_
  have h1 := cAnd_ok (fun c ρ => if c = true then cb ρ else ret false) h
  refine Run.mono h1 fun c H1 h2 => ?_
  cases c with
  | true => exact h2
  | false => exact ttd_ret h2
theorem qw_or (ha : QT X Wx a ca) (hb : QW X Wx (.BoolOp .Or (b :: rest) pos) cb) : QW X Wx (.BoolOp .Or (a :: b :: rest) pos) (cOr ca cb) := by
  refine pw_imp (pw_or ha hb) fun σ H Q h => ?_
  have h1 := cAnd_ok (fun c ρ => if c = true then ret true else cb ρ) h
  refine Run.mono h1 fun c H1 h2 => ?_
  cases c with
  | false => exact h2
  | true => exact ttd_ret h2
theorem qt_w (h : QW X Wx a ca) : QT X Wx a ca := h.pt
theorem qt_not (h : QT X Wx a ca) : QT X Wx (.UnaryOp .Not a pos) (cNot ca) := by
  refine pt_imp (pt_not h) fun σ H Q h => ?_
  have h1 := cAnd_ok (fun c _ => ret (!c)) h
  exact Run.mono h1 fun c H1 h2 => ttd_ret h2
/-! ### .. as values -/
def dNot (m : DE) : DE := fun ρ => bnd (m ρ) fun w => optS fun μ => (tru μ w).map fun b => .p (.bl (!b))
def dAnd (ma mb : DE) : DE := fun ρ => bnd (ma ρ) fun w => bnd (optS fun μ => tru μ w) fun c => if c = true then mb ρ else ret w
def dOr (ma mb : DE) : DE := fun ρ => bnd (ma ρ) fun w => bnd (optS fun μ => tru μ w) fun c => if c = true then ret w else mb ρ
theorem q_not (h : QE X Wx a ma) : QE X Wx (.UnaryOp .Not a pos) (dNot ma) := by
  refine pe_imp (pe_notT h) fun σ H Q h => ?_
  refine (run_bind (rpa := RepW X.K X.mg) (f := fun w _ => optS fun μ => (tru μ w).map fun b => W.p (D.bl (!b))) h).mono fun x H1 h1 => ?_
  obtain ⟨π, ρ, μ, q, r', hs, hh, rq, hm, hp⟩ := h1
  obtain ⟨w, e, rfl⟩ := optS_inv hm
  obtain ⟨k, e1, rfl⟩ := Option.map_eq_some_iff.mp e
  exact ⟨k, tru_ok hh rq e1, hp.here hh (.bl _)⟩
theorem q_one {op} (h : QE X Wx a ma) : QE X Wx (.BoolOp op [a] pos) ma := pe_one h
theorem q_and (ha : QE X Wx a ma) (hb : QE X Wx (.BoolOp .And (b :: rest) pos) mb) : QE X Wx (.BoolOp .And (a :: b :: rest) pos) (dAnd ma mb) := by
  refine pe_imp (pe_andT ha hb) fun σ H Q h => ?_
  refine (run_bind (rpa := RepW X.K X.mg) (f := fun w ρ => bnd (optS fun μ => tru μ w) fun c => if c = true then mb ρ else ret w) h).mono fun x H1 h1 => ?_
  obtain ⟨π, ρ, μ, w, r', hs, hh, rq, hm, hp⟩ := h1
  rcases bnd_some hm with ⟨k, μ1, e1, e2⟩ | ⟨n, μ1, e1, _⟩
  · obtain ⟨k', e, z⟩ := optS_inv e1
    cases z
    refine ⟨k, tru_ok hh rq e, ?_⟩
    cases k with
    | true => rw [if_pos rfl] at e2 ⊢; exact ⟨π, ρ, μ, r', hs, hh, e2, hp⟩
    | false => rw [if_neg (by simp)] at e2 ⊢; cases e2; exact hp.here hh rq
  · obtain ⟨k', e, z⟩ := optS_inv e1
    cases z
theorem q_or (ha : QE X Wx a ma) (hb : QE X Wx (.BoolOp .Or (b :: rest) pos) mb) : QE X Wx (.BoolOp .Or (a :: b :: rest) pos) (dOr ma mb) := by
  refine pe_imp (pe_orT ha hb) fun σ H Q h => ?_
  refine (run_bind (rpa := RepW X.K X.mg) (f := fun w ρ => bnd (optS fun μ => tru μ w) fun c => if c = true then ret w else mb ρ) h).mono fun x H1 h1 => ?_
  obtain ⟨π, ρ, μ, w, r', hs, hh, rq, hm, hp⟩ := h1
  rcases bnd_some hm with ⟨k, μ1, e1, e2⟩ | ⟨n, μ1, e1, _⟩
  · obtain ⟨k', e, z⟩ := optS_inv e1
    cases z
    refine ⟨k, tru_ok hh rq e, ?_⟩
    cases k with
    | false => rw [if_neg (by simp)] at e2 ⊢; exact ⟨π, ρ, μ, r', hs, hh, e2, hp⟩
    | true => rw [if_pos rfl] at e2 ⊢; cases e2; exact hp.here hh rq
  · obtain ⟨k', e, z⟩ := optS_inv e1
    cases z
def dIfE (c : Env → M Bool) (ma mb : DE) : DE := fun ρ => bnd (c ρ) fun k => if k = true then ma ρ else mb ρ
/-! ### displays -/
def pureW : W → Option D
  | .p d => some d
  | _ => none
def pureWs : List W → Option (List D)
  | [] => some []
  | w :: ws => match pureW w, pureWs ws with
    | some d, some ds => some (d :: ds)
    | _, _ => none
theorem pureWs_ok {K : PySem.W.Frag} {mg : Str → Option Value} {π : PL} {μ : Store} {H : Hp} : ∀ {ws : List W} {vs : List V} {ds : List D}, RepWs K mg π μ H vs ws → pureWs ws = some ds → Reps K mg π μ H vs ds
  | [], [], _, _, e => by simp [pureWs] at e; subst e; exact .nil
  | [], _ :: _, _, r, _ => r.elim
  | _ :: _, [], _, r, _ => r.elim
  | w :: ws, v :: vs, ds, r, e => by
    unfold pureWs at e
    split at e
    · rename_i d ds' e1 e2
      cases e
      cases w with
      | p d' => cases e1; exact .cons r.1 (pureWs_ok r.2 e2)
      | l k => cases e1
    · cases e
def wTup (ws : List W) : M W := opt ((pureWs ws).bind fun ds => if ds.length ≤ sizeLine then some (.p (.tup ds)) else none)
def wLstP (ws : List W) : M W := opt ((pureWs ws).bind fun ds => if ds.length ≤ sizeLine then some (.p (.lst ds)) else none)
/-- a new object of one's own -/
def alloc (c : Cell) : M W := fun μ => some (.ok (.l μ.length) (μ ++ [c]))
def wLstO (ws : List W) : M W := match (pureWs ws).bind fun ds => if ds.length ≤ sizeLine then some ds else none with
  | some ds => alloc (.lst ds)
  | none => stk
theorem q_tup {x1} {mas : Env → M (List W)} (h : QA X Wx es mas) : QE X Wx (.Tuple es x1 pos) (dN wTup mas) := by
  refine pe_imp (pe_tup h) fun σ H Q h => runN (r := fun xs H1 Q => xs.length ≤ sizeLine ∧ ∀ p, H1 p = none → Q (.ref p) (upd H1 p (.tup xs))) ?_ h
  intro E π μ H Q xs ws q hh ra hm hp
  obtain ⟨w, e, rfl⟩ := opt_inv hm
  obtain ⟨ds, e1, e2⟩ := Option.bind_eq_some_iff.mp e
  split at e2
  · rename_i hl
    cases e2
    have r := pureWs_ok ra e1
    exact ⟨by rw [r.length]; exact hl, fun p np => hp.new hh np (.tup upd_same (hh.nlive np) (r.ext (Ext.pure np).toKp))⟩
  · cases e2
theorem q_lstP {mas : Env → M (List W)} (h : QA X Wx es mas) : QE X Wx (.List es pos) (dN wLstP mas) := by
  refine pe_imp (pe_lst h) fun σ H Q h => runN (r := fun xs H1 Q => xs.length ≤ sizeLine ∧ ∀ p, H1 p = none → Q (.ref p) (upd H1 p (.lst xs))) ?_ h
  intro E π μ H Q xs ws q hh ra hm hp
  obtain ⟨w, e, rfl⟩ := opt_inv hm
  obtain ⟨ds, e1, e2⟩ := Option.bind_eq_some_iff.mp e
  split at e2
  · rename_i hl
    cases e2
    have r := pureWs_ok ra e1
    exact ⟨by rw [r.length]; exact hl, fun p np => hp.new hh np (.lst upd_same (hh.nlive np) (r.ext (Ext.pure np).toKp))⟩
  · cases e2
theorem q_lstO {mas : Env → M (List W)} (h : QA X Wx es mas) : QE X Wx (.List es pos) (dN wLstO mas) := by
  refine pe_imp (pe_lst h) fun σ H Q h => runN (r := fun xs H1 Q => xs.length ≤ sizeLine ∧ ∀ p, H1 p = none → Q (.ref p) (upd H1 p (.lst xs))) ?_ h
  intro E π μ H Q xs ws q hh ra hm hp
  unfold wLstO at hm
  generalize ho : ((pureWs ws).bind fun ds => if ds.length ≤ sizeLine then some ds else none) = o at hm
  cases o with
  | none => cases hm
  | some ds =>
    cases hm
    obtain ⟨ds', e1, e2⟩ := Option.bind_eq_some_iff.mp ho
    split at e2
    · rename_i hl
      cases e2
      have r := pureWs_ok ra e1
      refine ⟨by rw [r.length]; exact hl, fun p np => hp.own hh np (by intro z; cases z) ⟨xs, upd_same, r.ext (Ext.own hh np (by intro z; cases z)).toKp⟩ ⟨p, rfl, by rw [← hh.len]; simp [PL.snoc]⟩⟩
    · cases e2
end
end Q

set_option Elab.async false
set_option linter.all false
set_option maxRecDepth 100000
/-! Q6: what a def is worth (a function over values and its own cells), calls of defs. -/
namespace Q
open PySem PySem.Spec PyProof.Rows L2

def SpD (K : PySem.W.Frag) (mg : Str → Option Value) (n : Nat) (F : List W → M W) : Sp := fun vs H Q E =>
  vs.length = n ∧ ∃ (π : PL) (μ : Store) (ws : List W) (r : ER W), HRel K mg π μ H ∧ RepWs K mg π μ H vs ws ∧ F ws μ = some r ∧ Post K mg (RepW K mg) E π μ H Q r

/-! ### the callee's own places -/
def locsOf : List W → List Nat
  | [] => []
  | .l k :: ws => k :: locsOf ws
  | .p _ :: ws => locsOf ws
def renum : List W → Nat → List W
  | [], _ => []
  | .l _ :: ws, n => .l n :: renum ws (n + 1)
  | .p d :: ws, n => .p d :: renum ws n
def pick (μ : Store) : List Nat → Option (List Cell)
  | [] => some []
  | k :: ks => match μ[k]?, pick μ ks with
    | some c, some cs => some (c :: cs)
    | _, _ => none
def putAll : Store → List Nat → List Cell → Store
  | μ, k :: ks, c :: cs => putAll (μ.set k c) ks cs
  | μ, _, _ => μ
def isDead : Cell → Bool
  | .dead => true
  | _ => false
def backD (μ : Store) (ks : List Nat) : ER W → Option (ER W)
  | .ok (.p d) cs => some (.ok (.p d) (putAll μ ks cs))
  | .ok (.l j) cs => if ks.length ≤ j then (match cs[j]? with
      | some c => if isDead c = false then some (.ok (.l μ.length) (putAll μ ks cs ++ [c])) else none
      | none => none) else none
  | .ex n cs => some (.ex n (putAll μ ks cs))
def callD (F : List W → M W) (ws : List W) : M W := fun μ =>
  if (locsOf ws).Nodup then
    match pick μ (locsOf ws) with
    | some cs => match F (renum ws 0) cs with
      | some r => backD μ (locsOf ws) r
      | none => none
    | none => none
  else none
theorem pick_len : ∀ {ks : List Nat} {μ : Store} {cs : List Cell}, pick μ ks = some cs → cs.length = ks.length
  | [], _, _, e => by simp [pick] at e; subst e; rfl
  | k :: ks, μ, cs, e => by
    unfold pick at e
    split at e
    · rename_i c cs' e1 e2
      cases e
      simp [pick_len e2]
    · cases e
theorem pick_get : ∀ {ks : List Nat} {μ : Store} {cs : List Cell} {i : Nat} {k : Nat}, pick μ ks = some cs → ks[i]? = some k → cs[i]? = μ[k]? ∧ (μ[k]?).isSome
  | [], _, _, _, _, _, e => by simp at e
  | k :: ks, μ, cs, i, k', e, h => by
    unfold pick at e
    split at e
    · rename_i c cs' e1 e2
      cases e
      cases i with
      | zero => simp at h; subst h; simp [e1]
      | succ i => simpa using pick_get e2 (by simpa using h)
    · cases e
theorem putAll_len : ∀ {ks : List Nat} {cs : List Cell} {μ : Store}, (putAll μ ks cs).length = μ.length
  | [], _, _ => by simp [putAll]
  | _ :: _, [], _ => by simp [putAll]
  | k :: ks, c :: cs, μ => by unfold putAll; rw [putAll_len]; simp
theorem putAll_out : ∀ {ks : List Nat} {cs : List Cell} {μ : Store} {j : Nat}, j ∉ ks → (putAll μ ks cs)[j]? = μ[j]?
  | [], _, _, _, _ => by simp [putAll]
  | _ :: _, [], _, _, _ => by simp [putAll]
  | k :: ks, c :: cs, μ, j, h => by
    unfold putAll
    rw [putAll_out (fun z => h (List.mem_cons_of_mem _ z)), List.getElem?_set_ne (fun z => h (by rw [z]; exact List.mem_cons_self))]
theorem putAll_in : ∀ {ks : List Nat} {cs : List Cell} {μ : Store} {i k : Nat} {c : Cell}, ks.Nodup → ks[i]? = some k → cs[i]? = some c → k < μ.length → (putAll μ ks cs)[k]? = some c
  | [], _, _, _, _, _, _, h, _, _ => by simp at h
  | _ :: _, [], _, _, _, _, _, _, h, _ => by simp at h
  | k' :: ks, c' :: cs, μ, 0, k, c, nd, h1, h2, hl => by
    simp at h1 h2
    subst h1; subst h2
    unfold putAll
    rw [putAll_out (List.nodup_cons.mp nd).1, List.getElem?_set_self hl]
  | k' :: ks, c' :: cs, μ, i + 1, k, c, nd, h1, h2, hl => by
    unfold putAll
    exact putAll_in (i := i) (List.nodup_cons.mp nd).2 (by simpa using h1) (by simpa using h2) (by simpa using hl)
/-- the addresses at places -/
def addrs (l : List Addr) (ks : List Nat) : List Addr := ks.map fun k => l.getD k 0
section
variable {K : PySem.W.Frag} {mg : Str → Option Value} {π : PL} {μ : Store} {H : Hp}
theorem addrs_get {l : List Addr} {ks : List Nat} {i : Nat} {a : Addr} (h : (addrs l ks)[i]? = some a) (hl : ∀ k ∈ ks, k < l.length) : ∃ k, ks[i]? = some k ∧ l[k]? = some a := by
  unfold addrs at h
  rw [List.getElem?_map] at h
  cases e : ks[i]? with
  | none => rw [e] at h; cases h
  | some k =>
    rw [e] at h
    have hk := hl k (List.mem_of_getElem? e)
    refine ⟨k, rfl, ?_⟩
    simp only [Option.map_some, Option.some.injEq] at h
    rw [List.getElem?_eq_getElem hk]
    rw [List.getD_eq_getElem?_getD, List.getElem?_eq_getElem hk] at h
    simpa using h
theorem addrs_at {l : List Addr} {ks : List Nat} {i k : Nat} {a : Addr} (h : ks[i]? = some k) (e : l[k]? = some a) : (addrs l ks)[i]? = some a := by
  unfold addrs
  rw [List.getElem?_map, h]
  simp [List.getD_eq_getElem?_getD, e]
theorem nodup_addrs {l : List Addr} (hl : l.Nodup) : ∀ {ks : List Nat}, (∀ k ∈ ks, k < l.length) → ks.Nodup → (addrs l ks).Nodup
  | [], _, _ => .nil
  | k :: ks, h, nd => by
    have nd' := List.nodup_cons.mp nd
    show ((l.getD k 0) :: addrs l ks).Nodup
    refine List.nodup_cons.mpr ⟨fun hm => ?_, nodup_addrs hl (fun j hj => h j (List.mem_cons_of_mem _ hj)) nd'.2⟩
    obtain ⟨i, hi⟩ := List.mem_iff_getElem?.mp hm
    obtain ⟨k', e1, e2⟩ := addrs_get hi (fun j hj => h j (List.mem_cons_of_mem _ hj))
    have hk := h k List.mem_cons_self
    have q : l[k]? = some (l.getD k 0) := by rw [List.getElem?_eq_getElem hk, List.getD_eq_getElem?_getD, List.getElem?_eq_getElem hk]; rfl
    have z := nodup_at hl q e2
    subst z
    exact nd'.1 (List.mem_of_getElem? e1)
/-- the callee's places: those at ks; what else is live is far -/
def subPL (π : PL) (μ : Store) (ks : List Nat) : PL := ⟨addrs π.l ks, fun a => π.f a ∨ ∃ (j : Nat) (c : Cell), j ∉ ks ∧ π.l[j]? = some a ∧ μ[j]? = some c ∧ c ≠ .dead⟩
theorem live_sub {ks : List Nat} {cs : List Cell} (hh : HRel K mg π μ H) (hp : pick μ ks = some cs) {a : Addr} : live (subPL π μ ks) cs a ↔ live π μ a := by
  have hlt : ∀ k ∈ ks, k < π.l.length := fun k hk => by
    obtain ⟨i, hi⟩ := List.mem_iff_getElem?.mp hk
    have q := (pick_get hp hi).2
    rw [hh.len]
    cases e : μ[k]? with
    | none => rw [e] at q; cases q
    | some c => exact (List.getElem?_eq_some_iff.mp e).1
  constructor
  · rintro ((f | ⟨j, c, _, h1, h2, h3⟩) | ⟨i, c, h1, h2, h3⟩)
    · exact .inl f
    · exact .inr ⟨j, c, h1, h2, h3⟩
    · obtain ⟨k, e1, e2⟩ := addrs_get h1 hlt
      exact .inr ⟨k, c, e2, by rw [← (pick_get hp e1).1]; exact h2, h3⟩
  · rintro (f | ⟨j, c, h1, h2, h3⟩)
    · exact .inl (.inl f)
    · by_cases hj : j ∈ ks
      · obtain ⟨i, hi⟩ := List.mem_iff_getElem?.mp hj
        exact .inr ⟨i, c, addrs_at hi h1, by rw [(pick_get hp hi).1]; exact h2, h3⟩
      · exact .inl (.inr ⟨j, c, hj, h1, h2, h3⟩)
theorem kp_sub {ks : List Nat} {cs : List Cell} (hh : HRel K mg π μ H) (hp : pick μ ks = some cs) : Kp π μ H (subPL π μ ks) cs H :=
  .of fun a o h n => ⟨h, fun z => n ((live_sub hh hp).mp z)⟩
theorem hrel_sub {ks : List Nat} {cs : List Cell} (hh : HRel K mg π μ H) (nd : ks.Nodup) (hp : pick μ ks = some cs) : HRel K mg (subPL π μ ks) cs H := by
  have hlt : ∀ k ∈ ks, k < π.l.length := fun k hk => by
    obtain ⟨i, hi⟩ := List.mem_iff_getElem?.mp hk
    have q := (pick_get hp hi).2
    rw [hh.len]
    cases e : μ[k]? with
    | none => rw [e] at q; cases q
    | some c => exact (List.getElem?_eq_some_iff.mp e).1
  refine ⟨by simp [subPL, addrs, pick_len hp], ?_, fun i a c h1 h2 => ?_, ?_, ?_⟩
  · show (addrs π.l ks).Nodup
    exact nodup_addrs hh.nd hlt nd
  · obtain ⟨k, e1, e2⟩ := addrs_get h1 hlt
    exact (hh.ok k a c e2 (by rw [← (pick_get hp e1).1]; exact h2)).ext (kp_sub hh hp) fun _ z => z
  · rintro a (f | ⟨j, c, _, h1, h2, h3⟩)
    · exact hh.fh a f
    · exact hh.has h1
  · rintro a f hm
    obtain ⟨i, hi⟩ := List.mem_iff_getElem?.mp hm
    obtain ⟨k, e1, e2⟩ := addrs_get hi hlt
    rcases f with f | ⟨j, c, hj, h1, h2, h3⟩
    · exact hh.fd a f (List.mem_of_getElem? e2)
    · have := nodup_at hh.nd h1 e2
      subst this
      exact hj (List.mem_of_getElem? e1)
theorem reps_sub {ks : List Nat} {cs : List Cell} (hh : HRel K mg π μ H) (hp : pick μ ks = some cs) : ∀ {ws : List W} {vs : List V} {pre : List Nat}, ks = pre ++ locsOf ws → RepWs K mg π μ H vs ws → RepWs K mg (subPL π μ ks) cs H vs (renum ws pre.length)
  | [], [], _, _, _ => trivial
  | [], _ :: _, _, _, r => r.elim
  | _ :: _, [], _, _, r => r.elim
  | .p d :: ws, v :: vs, pre, e, r => ⟨Rep.ext (kp_sub hh hp) r.1, reps_sub hh hp (by rw [e]; rfl) r.2⟩
  | .l k :: ws, v :: vs, pre, e, r => by
    obtain ⟨a, rfl, ha⟩ := r.1
    refine ⟨⟨a, rfl, ?_⟩, ?_⟩
    · exact addrs_at (k := k) (by rw [e]; simp [locsOf]) ha
    · have q := reps_sub hh hp (ws := ws) (vs := vs) (pre := pre ++ [k]) (by rw [e]; simp [locsOf]) r.2
      simpa using q
end

section
variable {K : PySem.W.Frag} {mg : Str → Option Value} {E : XK} {π : PL} {μ : Store} {H : Hp} {Q : VK}
theorem dead_nlive {k : Nat} {a : Addr} (hh : HRel K mg π μ H) (h1 : π.l[k]? = some a) (h2 : μ[k]? = some .dead) : ¬ live π μ a := by
  rintro (f | ⟨j', c', z1, z2, z3⟩)
  · exact hh.fd a f (List.mem_of_getElem? h1)
  · have := nodup_at hh.nd h1 z1
    subst this
    rw [h2] at z2
    exact z3 (Option.some.inj z2).symm
theorem dlike_rd {a : Addr} {o : HO} (ho : H a = some o) (d : DLike o) : ∃ kvs, Rd H a (.dK kvs) := by
  cases o with
  | dK kvs => exact ⟨kvs, .inl ho⟩
  | frz ob u =>
    cases u with
    | dK kvs => exact ⟨kvs, .inr ⟨ob, ho⟩⟩
    | _ => exact d.elim
  | _ => exact d.elim
/-- back in the caller: its places, the callee's cells put back -/
theorem back_rel {ks : List Nat} {cs cs' : List Cell} {π' πf : PL} {μf : Store} {H' : Hp} (hh : HRel K mg π μ H) (nd : ks.Nodup) (hp : pick μ ks = some cs)
    (e : Ext (subPL π μ ks) cs H π' cs' H') (hr : HRel K mg π' cs' H') (lv : ∀ b, live πf μf b → live π' cs' b) :
    Kp π μ H πf μf H' ∧ ∀ (j : Nat) (a : Addr) (c : Cell), π.l[j]? = some a → (putAll μ ks cs')[j]? = some c → CellOk K mg πf μf H' a c := by
  have hlt : ∀ k ∈ ks, k < μ.length := fun k hk => by
    obtain ⟨i, hi⟩ := List.mem_iff_getElem?.mp hk
    have q := (pick_get hp hi).2
    cases e : μ[k]? with
    | none => rw [e] at q; cases q
    | some c => exact (List.getElem?_eq_some_iff.mp e).1
  have hlen : ks.length ≤ cs'.length := by
    rw [← hr.len]
    by_cases h0 : ks.length = 0
    · omega
    · have h1 : ks.length - 1 < (subPL π μ ks).l.length := by show _ < (addrs π.l ks).length; simp [addrs]; omega
      have q := e.pre _ _ (List.getElem?_eq_getElem h1)
      have := (List.getElem?_eq_some_iff.mp q).1
      omega
  have kp : Kp π μ H πf μf H' := by
    refine ⟨fun a o h n d => ?_, fun a kvs h n => ?_⟩
    · obtain ⟨q1, q2⟩ := e.kp a o h (fun z => n ((live_sub hh hp).mp z)) d
      exact ⟨q1, fun z => q2 (lv _ z)⟩
    · obtain ⟨q1, q2⟩ := e.kd a kvs h (fun z => n ((live_sub hh hp).mp z))
      exact ⟨q1, fun z => q2 (lv _ z)⟩
  have kb : Kp π' cs' H' πf μf H' := .of fun a o h n => ⟨h, fun z => n (lv _ z)⟩
  refine ⟨kp, fun j a c h1 h2 => ?_⟩
  by_cases hj : j ∈ ks
  · obtain ⟨i, hi⟩ := List.mem_iff_getElem?.mp hj
    have hi' : i < cs'.length := Nat.lt_of_lt_of_le (List.getElem?_eq_some_iff.mp hi).1 hlen
    have q := putAll_in (cs := cs') nd hi (List.getElem?_eq_getElem hi') (hlt j hj)
    rw [q] at h2
    cases h2
    exact (hr.ok i a _ (e.pre _ _ (addrs_at hi h1)) (List.getElem?_eq_getElem hi')).ext kb fun _ z => z
  · rw [putAll_out hj] at h2
    by_cases hd : c = .dead
    · subst hd
      obtain ⟨o, ho⟩ := hh.has h1
      have nl := dead_nlive hh h1 h2
      by_cases d : DLike o
      · obtain ⟨kvs, rd⟩ := dlike_rd ho d
        rcases (kp.kd a kvs rd nl).1 with z | ⟨ob, z⟩
        · exact ⟨_, z⟩
        · exact ⟨_, z⟩
      · exact ⟨o, (kp.kp a o ho nl d).1⟩
    · exact (hh.ok j a c h1 h2).ext kp fun o z => e.far a o (.inr ⟨j, c, hj, h1, h2, hd⟩) z
/-- what is live in the caller behind -/
theorem back_live {ks : List Nat} {cs cs' : List Cell} {π' : PL} {H' : Hp} (hh : HRel K mg π μ H) (nd : ks.Nodup) (hp : pick μ ks = some cs)
    (e : Ext (subPL π μ ks) cs H π' cs' H') (hr : HRel K mg π' cs' H') : ∀ b, live π (putAll μ ks cs') b → live π' cs' b := fun b hl => by
  have hlt : ∀ k ∈ ks, k < μ.length := fun k hk => by
    obtain ⟨i, hi⟩ := List.mem_iff_getElem?.mp hk
    have q := (pick_get hp hi).2
    cases e : μ[k]? with
    | none => rw [e] at q; cases q
    | some c => exact (List.getElem?_eq_some_iff.mp e).1
  rcases hl with f | ⟨j, c, h1, h2, h3⟩
  · exact .inl (by rw [e.fe]; exact .inl f)
  · by_cases hj : j ∈ ks
    · obtain ⟨i, hi⟩ := List.mem_iff_getElem?.mp hj
      have h1' := e.pre _ _ (addrs_at hi h1)
      have hi' : i < cs'.length := by rw [← hr.len]; exact (List.getElem?_eq_some_iff.mp h1').1
      have q := putAll_in (cs := cs') nd hi (List.getElem?_eq_getElem hi') (hlt j hj)
      rw [q] at h2
      cases h2
      exact .inr ⟨i, _, h1', List.getElem?_eq_getElem hi', h3⟩
    · rw [putAll_out hj] at h2
      exact .inl (by rw [e.fe]; exact .inr ⟨j, c, hj, h1, h2, h3⟩)
theorem callD_ok {n : Nat} {F : List W → M W} {vs : List V} {ws : List W} {r : ER W} (hn : vs.length = n) (hh : HRel K mg π μ H) (ra : RepWs K mg π μ H vs ws) (hm : callD F ws μ = some r) (hp : Post K mg (RepW K mg) E π μ H Q r) : SpD K mg n F vs H Q E := by
  unfold callD at hm
  split at hm
  · rename_i nd
    split at hm
    · rename_i cs hpk
      split at hm
      · rename_i r0 hF
        have plain : ∀ {π' : PL} {cs' : Store} {H' : Hp}, Ext (subPL π μ (locsOf ws)) cs H π' cs' H' → HRel K mg π' cs' H' → Ext π μ H π (putAll μ (locsOf ws) cs') H' ∧ HRel K mg π (putAll μ (locsOf ws) cs') H' ∧ (∀ b, live π (putAll μ (locsOf ws) cs') b → live π' cs' b) := fun {π' cs' H'} e hr => by
          have lv := back_live hh nd hpk e hr
          obtain ⟨kp, cl⟩ := back_rel hh nd hpk e hr lv
          exact ⟨⟨kp, fun _ _ h => h, rfl, fun a o f h => e.far a o (.inl f) h⟩, ⟨by rw [putAll_len]; exact hh.len, hh.nd, cl, fun a f => let ⟨o, z⟩ := hh.fh a f; ⟨o, e.far a o (.inl f) z⟩, hh.fd⟩, lv⟩
        refine ⟨hn, subPL π μ (locsOf ws), cs, renum ws 0, r0, hrel_sub hh nd hpk, reps_sub (pre := []) hh hpk rfl ra, hF, ?_⟩
        cases r0 with
        | ex n cs' =>
          cases hm
          intro π' H' c e hr hc
          obtain ⟨ex, hr', _⟩ := plain e hr
          exact hp π H' c ex hr' hc
        | ok w cs' =>
          cases w with
          | p d =>
            cases hm
            intro π' v H' e hr rv
            obtain ⟨ex, hr', lv⟩ := plain e hr
            refine hp π v H' ex hr' (Rep.ext (.of fun a o h n => ⟨h, fun z => n (lv _ z)⟩) rv)
          | l j =>
            simp only [backD] at hm
            split at hm
            · rename_i hj
              split at hm
              · rename_i c hc
                split at hm
                · rename_i hd
                  cases hm
                  have hd' : c ≠ .dead := by rintro rfl; cases hd
                  intro π' v H' e hr rv
                  obtain ⟨a, rfl, ha⟩ := rv
                  have lv := back_live hh nd hpk e hr
                  have la : live π' cs' a := .inr ⟨j, c, ha, hc, hd'⟩
                  have na : a ∉ π.l := fun hm => by
                    obtain ⟨k, hk⟩ := List.mem_iff_getElem?.mp hm
                    by_cases hkk : k ∈ locsOf ws
                    · obtain ⟨i, hi⟩ := List.mem_iff_getElem?.mp hkk
                      have q := nodup_at hr.nd (e.pre _ _ (addrs_at hi hk)) ha
                      have := (List.getElem?_eq_some_iff.mp hi).1
                      omega
                    · have hl : k < μ.length := by rw [← hh.len]; exact (List.getElem?_eq_some_iff.mp hk).1
                      have hkc := List.getElem?_eq_getElem hl
                      by_cases hdd : μ[k] = .dead
                      · rw [hdd] at hkc
                        obtain ⟨o, ho⟩ := hh.has hk
                        have nl : ¬ live (subPL π μ (locsOf ws)) cs a := fun z => dead_nlive hh hk hkc ((live_sub hh hpk).mp z)
                        by_cases d : DLike o
                        · obtain ⟨kvs, rd⟩ := dlike_rd ho d
                          exact (e.kd a kvs rd nl).2 la
                        · exact (e.kp a o ho nl d).2 la
                      · exact hr.fd a (by rw [e.fe]; exact .inr ⟨k, _, hkk, hk, hkc, hdd⟩) (List.mem_of_getElem? ha)
                  have nf : ¬ π.f a := fun f => hr.fd a (by rw [e.fe]; exact .inl f) (List.mem_of_getElem? ha)
                  have hl2 : π.l.length = (putAll μ (locsOf ws) cs').length := by rw [putAll_len]; exact hh.len
                  have lv2 : ∀ b, live (π.snoc a) (putAll μ (locsOf ws) cs' ++ [c]) b → live π' cs' b := fun b hb => by
                    rcases (live_snoc hl2 hd').mp hb with z | rfl
                    · exact lv b z
                    · exact la
                  obtain ⟨kk, cl⟩ := back_rel hh nd hpk e hr lv2
                  have kb : Kp π' cs' H' (π.snoc a) (putAll μ (locsOf ws) cs' ++ [c]) H' := .of fun b o h n => ⟨h, fun z => n (lv2 b z)⟩
                  have hlen : (π.l ++ [a])[π.l.length]? = some a := by simp
                  refine hp (π.snoc a) (.ref a) H' ⟨kk, fun k b h => ?_, rfl, fun b o f h => e.far b o (.inl f) h⟩ ⟨by simp [PL.snoc, hl2], ?_, fun k b cc h1 h2 => ?_, fun b f => let ⟨o, z⟩ := hh.fh b f; ⟨o, e.far b o (.inl f) z⟩, fun b f hm => ?_⟩ ⟨a, rfl, by rw [← hh.len]; exact hlen⟩
                  · show (π.l ++ [a])[k]? = _
                    rw [List.getElem?_append_left (List.getElem?_eq_some_iff.mp h).1]; exact h
                  · show (π.l ++ [a]).Nodup
                    rw [List.nodup_append]
                    exact ⟨hh.nd, by simp, fun x hx y hy => by simp at hy; subst hy; rintro rfl; exact na hx⟩
                  · have h1 : (π.l ++ [a])[k]? = some b := h1
                    by_cases hk : k < π.l.length
                    · rw [List.getElem?_append_left hk] at h1
                      rw [List.getElem?_append_left (by rw [← hl2]; exact hk)] at h2
                      exact cl k b cc h1 h2
                    · have q := (List.getElem?_eq_some_iff.mp h1).1
                      simp at q
                      have hk0 : k = π.l.length := by omega
                      subst hk0
                      rw [hlen] at h1
                      rw [hl2, List.getElem?_append_right (Nat.le_refl _)] at h2
                      simp at h1 h2
                      subst h1; subst h2
                      exact (hr.ok j a c ha hc).ext kb fun _ z => z
                  · have hm : b ∈ π.l ++ [a] := hm
                    rcases List.mem_append.mp hm with q | q
                    · exact hh.fd b f q
                    · simp at q
                      subst q
                      exact nf f
                · cases hm
              · cases hm
            · cases hm
      · cases hm
    · cases hm
  · cases hm
end
end Q

set_option Elab.async false
set_option linter.all false
set_option maxRecDepth 100000
/-! Q7: a def from its body; calls of defs, methods, classes; methods and functions that are built in. -/
namespace Q
open PySem PySem.Spec PyProof.Rows L2

/-! ### statements' frame -/
abbrev QS (X : Cx) (Wx : WX) (st : Stmt) (m : DS) : Prop := PS X st (TSd X.K X.mg Wx m)
abbrev QSs (X : Cx) (Wx : WX) (st : List Stmt) (m : DS) : Prop := PSs X st (TSd X.K X.mg Wx m)

def startE (N : Nat) (ws : List W) : Env := ws.map some ++ List.replicate (N - ws.length) none
/-- what a def hands back: data (an own list, dict, instance is given up), or (own) a new own object -/
def fnOut (own : Bool) (n : Nat) : SR → Option (ER W)
  | .nx _ μ => some (.ok (.p .non) (μ.take n))
  | .rt (.p d) μ => some (.ok (.p d) (μ.take n))
  | .rt (.l k) μ => if n ≤ k then (match μ[k]? with
      | some c => if isDead c = true then none else if own = true then some (.ok (.l n) (μ.take n ++ [c])) else (match c with
        | .lst l => some (.ok (.p (.lst l)) (μ.take n))
        | .dk ks l => some (.ok (.p (.dk ks l)) (μ.take n))
        | .obj C fs l => some (.ok (.p (.obj C fs l)) (μ.take n))
        | .dead => none)
      | none => none) else none
  | .ex e _ μ => some (.ex e (μ.take n))
  | .bk _ _ => none
  | .ct _ _ => none
def runF (own : Bool) (N : Nat) (m : DS) : List W → M W := fun ws μ => match m (startE N ws) μ with
  | some r => fnOut own μ.length r
  | none => none

section
variable {K : PySem.W.Frag} {mg : Str → Option Value} {π : PL} {μ : Store} {H : Hp}
theorem RepWs.get : ∀ {vs : List V} {ws : List W} {i : Nat} {w : W}, RepWs K mg π μ H vs ws → ws[i]? = some w → ∃ v, vs[i]? = some v ∧ RepW K mg π μ H v w
  | [], [], _, _, _, e => by simp at e
  | [], _ :: _, _, _, r, _ => r.elim
  | _ :: _, [], _, _, r, _ => r.elim
  | v :: vs, w :: ws, 0, _, r, e => by simp at e; subst e; exact ⟨v, rfl, r.1⟩
  | v :: vs, w :: ws, i + 1, w', r, e => by
    obtain ⟨u, h1, h2⟩ := RepWs.get (i := i) r.2 (by simpa using e)
    exact ⟨u, by simpa using h1, h2⟩
theorem RepWs.length : ∀ {vs : List V} {ws : List W}, RepWs K mg π μ H vs ws → vs.length = ws.length
  | [], [], _ => rfl
  | [], _ :: _, r => r.elim
  | _ :: _, [], r => r.elim
  | v :: vs, w :: ws, r => congrArg (· + 1) (RepWs.length r.2)
theorem srel_start {N : List Str} {vs : List V} {ws : List W} (r : RepWs K mg π μ H vs ws) : SRel K mg π μ H (L2.start N vs) (startE N.length ws) := by
  have e := r.length
  refine ⟨by simp [L2.start, startE, e], fun i w h => ?_⟩
  unfold startE at h
  unfold L2.start
  by_cases hi : i < ws.length
  · rw [List.getElem?_append_left (by simpa using hi), List.getElem?_map] at h
    cases q : ws[i]? with
    | none => rw [q] at h; cases h
    | some w' =>
      rw [q] at h
      cases h
      obtain ⟨v, h1, h2⟩ := r.get q
      exact ⟨v, by rw [List.getElem?_append_left (by simp [e]; exact hi), List.getElem?_map, h1]; rfl, h2⟩
  · rw [List.getElem?_append_right (by simpa using hi), List.getElem?_replicate] at h
    split at h <;> cases h
/-- a def's own places are left -/
theorem leave {π' : PL} {μ' : Store} {H' : Hp} (hh : HRel K mg π μ H) (e : Ext π μ H π' μ' H') (hr : HRel K mg π' μ' H') :
    (∀ b, live π (μ'.take μ.length) b → live π' μ' b) ∧ Ext π μ H π (μ'.take μ.length) H' ∧ HRel K mg π (μ'.take μ.length) H' := by
  have lv : ∀ b, live π (μ'.take μ.length) b → live π' μ' b := fun b hl => by
    rcases hl with f | ⟨j, c, h1, h2, h3⟩
    · exact .inl (by rw [e.fe]; exact f)
    · have hj : j < μ.length := by rw [← hh.len]; exact (List.getElem?_eq_some_iff.mp h1).1
      rw [List.getElem?_take_of_lt hj] at h2
      exact .inr ⟨j, c, e.pre _ _ h1, h2, h3⟩
  have kb : Kp π' μ' H' π (μ'.take μ.length) H' := .of fun a o h n => ⟨h, fun z => n (lv _ z)⟩
  have hle : μ.length ≤ μ'.length := by
    rw [← hr.len]
    by_cases h0 : μ.length = 0
    · omega
    · have h1 : μ.length - 1 < π.l.length := by rw [hh.len]; omega
      have q := e.pre _ _ (List.getElem?_eq_getElem h1)
      have := (List.getElem?_eq_some_iff.mp q).1
      omega
  refine ⟨lv, ⟨e.toKp.trans kb, fun _ _ h => h, rfl, e.far⟩, ⟨by rw [List.length_take, hh.len]; omega, hh.nd, fun j a c h1 h2 => ?_, fun a f => let ⟨o, z⟩ := hh.fh a f; ⟨o, e.far a o f z⟩, hh.fd⟩⟩
  have hj : j < μ.length := by rw [← hh.len]; exact (List.getElem?_eq_some_iff.mp h1).1
  rw [List.getElem?_take_of_lt hj] at h2
  exact (hr.ok j a c (e.pre _ _ h1) h2).ext kb fun _ z => z
end
section
variable {P : Program} {w : World} {K : PySem.W.Frag} {mg : Str → Option Value} {base : Heap}
theorem out_ok {own : Bool} {N : List Str} {n : Nat} {m : DS} {vs : List V} {H : Hp} {Q : VK} {E : XK} (h : SpD K mg n (runF own N.length m) vs H Q E) :
    TSd K mg (fun c d _ H' => E c d H') m { nx := fun _ H' => Q .non H', rt := Q } (L2.start N vs) H := by
  obtain ⟨_, π, μ, ws, r, hh, ra, hF, hp⟩ := h
  unfold runF at hF
  split at hF
  · rename_i r0 hm
    refine ⟨π, startE N.length ws, μ, r0, srel_start ra, hh, hm, ?_⟩
    cases r0 with
    | nx ρ' μ' =>
      cases hF
      intro π' σ' H' e hr hs
      obtain ⟨lv, ex, hr'⟩ := leave hh e hr
      exact hp π .non H' ex hr' .non
    | bk ρ' μ' => cases hF
    | ct ρ' μ' => cases hF
    | ex en ρ' μ' =>
      cases hF
      intro π' σ' H' c e hr hs hc
      obtain ⟨lv, ex, hr'⟩ := leave hh e hr
      exact hp π H' c ex hr' hc
    | rt w' μ' =>
      cases w' with
      | p d =>
        cases hF
        intro π' v H' e hr rv
        obtain ⟨lv, ex, hr'⟩ := leave hh e hr
        exact hp π v H' ex hr' (Rep.ext (.of fun a o h n => ⟨h, fun z => n (lv _ z)⟩) rv)
      | l k =>
        simp only [fnOut] at hF
        split at hF
        · rename_i hk
          split at hF
          · rename_i c hc
            intro π' v H' e hr rv
            obtain ⟨a, rfl, ha⟩ := rv
            obtain ⟨lv, ex, hr'⟩ := leave hh e hr
            have na : a ∉ π.l := fun hm => by
              obtain ⟨j, hj⟩ := List.mem_iff_getElem?.mp hm
              have q := nodup_at hr.nd (e.pre _ _ hj) ha
              have := (List.getElem?_eq_some_iff.mp hj).1
              rw [hh.len] at this
              omega
            have nf : ¬ π.f a := fun f => hr.fd a (by rw [e.fe]; exact f) (List.mem_of_getElem? ha)
            have nl : ¬ live π (μ'.take μ.length) a := fun z => (live_lt z).elim nf na
            have kb : Kp π' μ' H' π (μ'.take μ.length) H' := .of fun a o h n => ⟨h, fun z => n (lv _ z)⟩
            split at hF
            · cases hF
            · rename_i hd
              split at hF
              · cases hF
                have hd' : c ≠ .dead := by rintro rfl; exact hd rfl
                have lv2 : ∀ b, live (π.snoc a) (μ'.take μ.length ++ [c]) b → live π' μ' b := fun b hb => by
                  rcases (live_snoc hr'.len hd').mp hb with z | rfl
                  · exact lv b z
                  · exact .inr ⟨k, c, ha, hc, hd'⟩
                have kb2 : Kp π' μ' H' (π.snoc a) (μ'.take μ.length ++ [c]) H' := .of fun b o h n => ⟨h, fun z => n (lv2 b z)⟩
                have hlen : (π.l ++ [a])[π.l.length]? = some a := by simp
                refine hp (π.snoc a) (.ref a) H' ⟨e.toKp.trans kb2, fun j b h => ?_, rfl, e.far⟩ ⟨by simp only [PL.snoc, List.length_append, hr'.len]; rfl, ?_, fun j b cc h1 h2 => ?_, hr'.fh, fun b f hm => ?_⟩ ⟨a, rfl, by rw [← hh.len]; exact hlen⟩
                · show (π.l ++ [a])[j]? = _
                  rw [List.getElem?_append_left (List.getElem?_eq_some_iff.mp h).1]; exact h
                · show (π.l ++ [a]).Nodup
                  rw [List.nodup_append]
                  exact ⟨hh.nd, by simp, fun x hx y hy => by simp at hy; subst hy; rintro rfl; exact na hx⟩
                · have h1 : (π.l ++ [a])[j]? = some b := h1
                  by_cases hj : j < π.l.length
                  · rw [List.getElem?_append_left hj] at h1
                    rw [List.getElem?_append_left (by rw [← hr'.len]; exact hj), List.getElem?_take_of_lt (by rw [← hh.len]; exact hj)] at h2
                    exact (hr.ok j b cc (e.pre _ _ h1) h2).ext kb2 fun _ z => z
                  · have q := (List.getElem?_eq_some_iff.mp h1).1
                    simp at q
                    have hj0 : j = π.l.length := by omega
                    subst hj0
                    rw [hlen] at h1
                    rw [hr'.len, List.getElem?_append_right (Nat.le_refl _)] at h2
                    simp at h1 h2
                    subst h1; subst h2
                    exact (hr.ok k a c ha hc).ext kb2 fun _ z => z
                · have hm : b ∈ π.l ++ [a] := hm
                  rcases List.mem_append.mp hm with q | q
                  · exact hh.fd b f q
                  · simp at q
                    subst q
                    exact nf f
              · have ck := hr.ok k a c ha hc
                split at hF
                · cases hF
                  obtain ⟨vs, h1, r1⟩ := ck
                  exact hp π _ H' ex hr' (.lst h1 nl (r1.ext kb))
                · cases hF
                  obtain ⟨kvs, h1, q, r1⟩ := ck
                  exact hp π _ H' ex hr' (.dk (.inl h1) nl q (r1.ext kb))
                · cases hF
                  obtain ⟨c', dx, fvs, h0, h1, q, r1⟩ := ck
                  exact hp π _ H' ex hr' (.obj h0 h1 nl q (r1.ext kb))
                · cases hF
          · cases hF
        · cases hF
  · cases hF
/-- a def: how it is called, what it is worth -/
structure Fn (P : Program) (w : World) (K : PySem.W.Frag) (mg : Str → Option Value) (base : Heap) (k : Nat) (f : Addr) (n : Nat) (F : List W → M W) : Prop where
  ex : ∃ (fd : FuncData) (ps : List Str), FnOk P w K mg base (L2.CX P w) k f fd ps (SpD K mg n F) ∧ Binds K fd ps []
  kp : PySem.W.keepIn K (.ref f) = true
theorem SpD.imp {n : Nat} {F F' : List W → M W} (h : ∀ ws μ r, ws.length = n → F ws μ = some r → F' ws μ = some r) {vs : List V} {H : Hp} {Q : VK} {E : XK} (s : SpD K mg n F vs H Q E) : SpD K mg n F' vs H Q E := by
  obtain ⟨hn, π, μ, ws, r, hh, ra, hF, hp⟩ := s
  exact ⟨hn, π, μ, ws, r, hh, ra, h ws μ r (by rw [← ra.length]; exact hn) hF, hp⟩
theorem Fn.imp {k f n : Nat} {F F' : List W → M W} (c : Fn P w K mg base k f n F') (h : ∀ ws μ r, ws.length = n → F ws μ = some r → F' ws μ = some r) : Fn P w K mg base k f n F := by
  obtain ⟨fd, ps, G, b⟩ := c.ex
  exact ⟨⟨fd, ps, G.imp fun vs H Q E s => s.imp h, b⟩, c.kp⟩
theorem Fn.mono {j k f n : Nat} {F : List W → M W} (c : Fn P w K mg base j f n F) (h : j ≤ k) : Fn P w K mg base k f n F := by
  obtain ⟨fd, ps, G, b⟩ := c.ex
  exact ⟨⟨fd, ps, G.mono h, b⟩, c.kp⟩
/-- nothing is promised -/
theorem Fn.never {k f n : Nat} {F : List W → M W} {fd : FuncData} {ps : List Str} (b : Binds K fd ps []) (kp : PySem.W.keepIn K (.ref f) = true) (h : ∀ ws μ r, ws.length = n → F ws μ ≠ some r) : Fn P w K mg base k f n F := by
  have no : ∀ vs H Q E, ¬ SpD K mg n F vs H Q E := fun vs H Q E ⟨hn, π, μ, ws, r, hh, ra, hF, hp⟩ => h ws μ r (by rw [← ra.length]; exact hn) hF
  exact ⟨⟨fd, ps, ⟨fun vs H Q E h => absurd h (no vs H Q E), fun A outer s H args us vs Q E _ _ _ _ h => absurd h (no vs H Q E)⟩, b⟩, kp⟩
/-- THE RULE: a def by its body's meaning -/
theorem fn_body {own : Bool} {x qual : Str} {st : Stmt} {f : Addr} {fd : FuncData} {N ps : List Str} {k : Nat} {m : DS} (F : Fun K x qual st f fd) (S : FnScope N ps (defScope st)) (b : Binds K fd ps [])
    (hbody : ∀ (cdv : Value) (A : Around) (outer : List PySem.Env) (s : Shared) (H : Hp) (E : XK), Room k (A.deeper (envOfC qual (defScope st) s.heap.objs.size f cdv)) →
      Takes (cxOf (L2.CX P w) P w K mg base N qual (defScope st) f cdv A outer s H E) (fun c d _ H' => E c d H') →
      QSs (cxOf (L2.CX P w) P w K mg base N qual (defScope st) f cdv A outer s H E) (fun c d _ H' => E c d H') (defBody st) m) : Fn P w K mg base (k + 1) f ps.length (runF own N.length m) :=
  ⟨⟨fd, ps, F.okX S (fun vs H Q E h => h.1) fun cdv A outer s H vs Q E hr h => ⟨_, hbody cdv A outer s H E hr (takes_of rfl rfl rfl rfl), out_ok h⟩, b⟩, F.kp⟩
end
end Q

set_option Elab.async false
set_option linter.all false
set_option maxRecDepth 100000
/-! Q8: calls. -/
namespace Q
open PySem PySem.Spec PyProof.Rows L2
section
variable {X : Cx} {Wx : WX} {k j n : Nat} {f C : Addr} {F : List W → M W} {x m : Str} {p pos apos : Pos} {e o : Expr} {es : List Expr} {mas : Env → M (List W)} {ma mo : DE}
/-- a def by its name -/
structure Cal (P : Program) (w : World) (K : PySem.W.Frag) (mg : Str → Option Value) (base : Heap) (k : Nat) (x : Str) (n : Nat) (F : List W → M W) : Prop where
  ex : ∃ f, mg x = some (.ref f) ∧ Fn P w K mg base k f n F
/-- a method by its class's name and its name -/
structure Met (P : Program) (w : World) (K : PySem.W.Frag) (mg : Str → Option Value) (base : Heap) (k : Nat) (Cn m : Str) (n : Nat) (F : List W → M W) : Prop where
  ex : ∃ C f, cnOf mg Cn = some C ∧ Cls K C ∧ Meth K C m f ∧ Fn P w K mg base k f n F
/-- a class by its name: its __init__ -/
structure Mak (P : Program) (w : World) (K : PySem.W.Frag) (mg : Str → Option Value) (base : Heap) (k : Nat) (Cn : Str) (n : Nat) (F : List W → M W) : Prop where
  ex : ∃ C f, mg Cn = some (.ref C) ∧ Mk K C f ∧ Fn P w K mg base k f n F
def callN (n : Nat) (F : List W → M W) (ws : List W) : M W := if ws.length = n then callD F ws else stk
theorem callN_ok {E : XK} {π : PL} {μ : Store} {H : Hp} {Q : VK} {vs : List V} {ws : List W} {r : ER W} (hh : HRel X.K X.mg π μ H) (ra : RepWs X.K X.mg π μ H vs ws) (hm : callN n F ws μ = some r) (hp : Post X.K X.mg (RepW X.K X.mg) E π μ H Q r) : SpD X.K X.mg n F vs H Q E := by
  unfold callN at hm
  split at hm
  · rename_i h
    exact callD_ok (by rw [ra.length]; exact h) hh ra hm hp
  · cases hm
theorem q_call (c : Cal X.prog X.w X.K X.mg X.base k x n F) (hr : Room j X.A) (hk : k ≤ j) (hg : Gl X x) (tk : Takes X Wx) (ha : QA X Wx (e :: es) mas) (hdb : (x == ("__debug__" : Str)) = false := by decide)
    (he : starEach (e :: es) X.env = (false, eval e X.env) :: starEach es X.env := by rfl) (hpl : (backTo pos (starEach es X.env)).any (·.1) = false := by rfl) : QE X Wx (.Call (.Name x p) (e :: es) [] pos) (dN (callN n F) mas) := by
  obtain ⟨f, hm, G⟩ := c.ex
  obtain ⟨fd, ps, G1, b⟩ := G.ex
  refine pe_imp (pe_callS G1 (hr.mono hk) hg hm G.kp b (fun σ => passAt tk σ) ha hdb he hpl) fun σ H Q h => ?_
  refine (run_bind (rpa := RepWs X.K X.mg) (f := fun ws _ => callN n F ws) h).mono fun vs H1 h1 => ?_
  obtain ⟨π, ρ, μ, ws, r', hs, hh, rq, hm, hp⟩ := h1
  exact callN_ok hh rq hm hp
theorem q_call0 (c : Cal X.prog X.w X.K X.mg X.base k x n F) (hr : Room j X.A) (hk : k ≤ j) (hg : Gl X x) (tk : Takes X Wx) (hdb : (x == ("__debug__" : Str)) = false := by decide) : QE X Wx (.Call (.Name x p) [] [] pos) (dN (callN n F) aNil) := by
  obtain ⟨f, hm, G⟩ := c.ex
  obtain ⟨fd, ps, G1, b⟩ := G.ex
  refine pe_imp (t := fun σ H Q => SpD X.K X.mg n F [] H Q (WE Wx σ)) ⟨fun pins s σ H Q I h => ?_⟩ fun σ H Q h => ?_
  · refine wpAny_Call_Name_kw (ld_glob I hg hm ?_ hdb)
    exact PySem.W.callWith_K0 I.kIn G.kp (run_fnS (us := []) G1 (hr.mono hk) b (passAt tk σ) I .nil h)
  · obtain ⟨π, ρ, μ, r', hs, hh, hm, hp⟩ := h
    exact callN_ok (ws := []) hh trivial hm hp

/-- the class and the fields of an instance -/
def insOf (μ : Store) : W → Option (Str × List Str × List D)
  | .p (.obj C fs l) => some (C, fs, l)
  | .l k => match μ[k]? with
    | some (.obj C fs l) => some (C, fs, l)
    | _ => none
  | _ => none
theorem insOf_ok {π : PL} {μ : Store} {H : Hp} {v : V} {w : W} {Cn : Str} {fs : List Str} {ds : List D} (hh : HRel X.K X.mg π μ H) (r : RepW X.K X.mg π μ H v w) (e : insOf μ w = some (Cn, fs, ds)) :
    ∃ (a c dx : Addr) (fvs : List (Str × V)), v = .ref a ∧ cnOf X.mg Cn = some c ∧ H a = some (.ins c dx fvs) ∧ fvs.map (·.1) = fs ∧ Reps X.K X.mg π μ H (fvs.map (·.2)) ds := by
  unfold insOf at e
  split at e
  · cases e
    cases r with
    | obj h0 h n q r => exact ⟨_, _, _, _, rfl, h0, h, q, r⟩
  · rename_i k
    obtain ⟨a, rfl, hk⟩ := r
    split at e
    · rename_i l hc
      cases e
      obtain ⟨c, dx, fvs, h0, h, q, r⟩ := hh.ok k a _ hk hc
      exact ⟨a, c, dx, fvs, rfl, h0, h, q, r⟩
    · cases e
  · cases e
theorem lookup_none {m : Str} : ∀ {fvs : List (Str × V)}, (fvs.map (·.1)).contains m = false → fvs.lookup m = none
  | [], _ => rfl
  | (y, v) :: r, h => by
    simp only [List.map_cons, List.contains_cons, Bool.or_eq_false_iff] at h
    rw [List.lookup_cons, h.1]
    exact lookup_none h.2
/-- a method may be called of this -/
def recv (Cn m : Str) (w : W) : M Unit := optS fun μ => match insOf μ w with
  | some (C, fs, _) => if (decide (C = Cn) && !fs.contains m) = true then some () else none
  | none => none
theorem recv_ok {Cn : Str} {w : W} {μ : Store} {r : ER Unit} (h : recv Cn m w μ = some r) : r = .ok () μ ∧ ∃ fs ds, insOf μ w = some (Cn, fs, ds) ∧ fs.contains m = false := by
  obtain ⟨u, e, rfl⟩ := optS_inv h
  split at e
  · rename_i C fs ds e1
    split at e
    · rename_i h
      simp only [Bool.and_eq_true, decide_eq_true_eq, Bool.not_eq_true'] at h
      cases e
      obtain ⟨rfl, h2⟩ := h
      exact ⟨rfl, fs, ds, e1, h2⟩
    · cases e
  · cases e
def dMeth (Cn m : Str) (n : Nat) (F : List W → M W) (mo : DE) (mas : Env → M (List W)) : DE := fun ρ => bnd (mo ρ) fun w => bnd (recv Cn m w) fun _ => bnd (mas ρ) fun ws => callN n F (w :: ws)
theorem pe_methS {pl : Sem Bool} {fd : FuncData} {ps : List Str} {sp : Sp} {ta : TE} {t : TA} (he : PE X o ta) (c : Cls X.K C) (hm : Meth X.K C m f) (G : FnOk X.prog X.w X.K X.mg X.base (L2.CX X.prog X.w) k f fd ps sp) (hr : Room k X.A) (hb : Binds X.K fd ps []) (tk : Takes X Wx) (ha : PA X (e :: es) t)
    (hst : starEach (e :: es) X.env = (false, eval e X.env) :: starEach es X.env := by rfl) (hpl : (backTo pos (starEach es X.env)).any (·.1) = false := by rfl)
    (ht : eval (.Call (.Attribute o m apos) (e :: es) [] pos) X.env = (do
      let ov ← eval o X.env
      standAt apos.atName
      let (f, first) ← holding [ov] (getMethod ov m pl)
      callWith pos f first (backTo pos (starEach (e :: es) X.env)) (backToKw pos (keywordEach [] X.env))) := by rfl) :
    PE X (.Call (.Attribute o m apos) (e :: es) [] pos) (fun σ H Q => ta σ H fun x H1 => ∃ a dx fs, x = .ref a ∧ H1 a = some (.ins C dx fs) ∧ fs.lookup m = none ∧ t σ H1 fun vs H2 => sp (x :: vs) H2 Q (WE Wx σ)) := by
  refine ⟨fun pins s σ H Q I h => ?_⟩
  refine PySem.W.methodCall_KW (pl := pl) (thn (he.run pins s σ H _ I h) fun u s1 ⟨x, H1, I1, rx, a, dx, fs, ex, ea, l, q⟩ => ?_) ht
  subst ex
  obtain rfl : u = Value.ref a := rx
  refine getmeth_ok I1 ea c hm l ?_
  refine PySem.W.callWith_K (first := [.ref a]) (h₀ := X.base) I.ok.mod.kin hm.kp (thn (ha.run pos pins s1 σ H1 _ I1 q) fun us s2 ⟨vs, H2, I2, r, q2⟩ => ⟨I2.kIn, ?_⟩) hst hpl
  exact run_fnS (us := .ref a :: us) (vs := .ref a :: vs) G hr hb (passAt tk σ) I2 (.cons rfl r) q2
theorem pe_methS0 {pl : Sem Bool} {fd : FuncData} {ps : List Str} {sp : Sp} {ta : TE} (he : PE X o ta) (c : Cls X.K C) (hm : Meth X.K C m f) (G : FnOk X.prog X.w X.K X.mg X.base (L2.CX X.prog X.w) k f fd ps sp) (hr : Room k X.A) (hb : Binds X.K fd ps []) (tk : Takes X Wx)
    (ht : eval (.Call (.Attribute o m apos) [] [] pos) X.env = (do
      let ov ← eval o X.env
      standAt apos.atName
      let (f, first) ← holding [ov] (getMethod ov m pl)
      callWith pos f first (backTo pos (starEach [] X.env)) (backToKw pos (keywordEach [] X.env))) := by rfl) :
    PE X (.Call (.Attribute o m apos) [] [] pos) (fun σ H Q => ta σ H fun x H1 => ∃ a dx fs, x = .ref a ∧ H1 a = some (.ins C dx fs) ∧ fs.lookup m = none ∧ sp [x] H1 Q (WE Wx σ)) := by
  refine ⟨fun pins s σ H Q I h => ?_⟩
  refine PySem.W.methodCall_KW (pl := pl) (thn (he.run pins s σ H _ I h) fun u s1 ⟨x, H1, I1, rx, a, dx, fs, ex, ea, l, q⟩ => ?_) ht
  subst ex
  obtain rfl : u = Value.ref a := rx
  refine getmeth_ok I1 ea c hm l ?_
  exact PySem.W.callWith_K0 (first := [.ref a]) I1.kIn hm.kp (run_fnS (us := [.ref a]) (vs := [.ref a]) G hr hb (passAt tk σ) I1 (.cons rfl .nil) q)
theorem recv_rd {Cn : Str} {π : PL} {μ : Store} {H : Hp} {v : V} {w : W} {C' : Addr} (hC : cnOf X.mg Cn = some C') (hh : HRel X.K X.mg π μ H) (r : RepW X.K X.mg π μ H v w) (h : ∃ fs ds, insOf μ w = some (Cn, fs, ds) ∧ fs.contains m = false) :
    ∃ a dx fs, v = .ref a ∧ H a = some (.ins C' dx fs) ∧ fs.lookup m = none := by
  obtain ⟨fs, ds, e, hc⟩ := h
  obtain ⟨a, c, dx, fvs, rfl, h0, h1, rfl, _⟩ := insOf_ok hh r e
  rw [hC] at h0
  cases h0
  exact ⟨a, dx, fvs, rfl, h1, lookup_none hc⟩
theorem q_meth {Cn : Str} {pl : Sem Bool} (c : Met X.prog X.w X.K X.mg X.base k Cn m n F) (hr : Room j X.A) (hk : k ≤ j) (tk : Takes X Wx) (he : QE X Wx o mo) (ha : QA X Wx (e :: es) mas)
    (hst : starEach (e :: es) X.env = (false, eval e X.env) :: starEach es X.env := by rfl) (hpl : (backTo pos (starEach es X.env)).any (·.1) = false := by rfl)
    (ht : eval (.Call (.Attribute o m apos) (e :: es) [] pos) X.env = (do
      let ov ← eval o X.env
      standAt apos.atName
      let (f, first) ← holding [ov] (getMethod ov m pl)
      callWith pos f first (backTo pos (starEach (e :: es) X.env)) (backToKw pos (keywordEach [] X.env))) := by rfl) :
    QE X Wx (.Call (.Attribute o m apos) (e :: es) [] pos) (dMeth Cn m n F mo mas) := by
  obtain ⟨C, f, hC, cl, hm, G⟩ := c.ex
  obtain ⟨fd, ps, G1, b⟩ := G.ex
  refine pe_imp (pe_methS he cl hm G1 (hr.mono hk) b tk ha hst hpl ht) fun σ H Q h => ?_
  refine (run_bind (rpa := RepW X.K X.mg) (f := fun w ρ => bnd (recv Cn m w) fun _ => bnd (mas ρ) fun ws => callN n F (w :: ws)) h).mono fun v H1 h1 => ?_
  obtain ⟨π, ρ, μ, w, r', hs, hh, rq, hm, hp⟩ := h1
  rcases bnd_some hm with ⟨u, μ1, e1, e2⟩ | ⟨en, μ1, e1, _⟩
  · obtain ⟨z, hi⟩ := recv_ok e1
    cases z
    obtain ⟨a, dx, fs, rfl, h1, h2⟩ := recv_rd hC hh rq hi
    refine ⟨a, dx, fs, rfl, h1, h2, ?_⟩
    have hM : Mid X.K X.mg (RepW X.K X.mg) Wx (RepW X.K X.mg) (fun w ρ => bnd (mas ρ) fun ws => callN n F (w :: ws)) σ Q (.ref a) H1 := ⟨π, ρ, μ, w, r', hs, hh, rq, e2, hp⟩
    refine (mid_bind (rpb := RepWs X.K X.mg) (f := fun w ws _ => callN n F (w :: ws)) stays_W hM).mono fun vs H2 h2 => ?_
    obtain ⟨π, ρ, μ, q, r', hs, hh, rq, hm, hp⟩ := h2
    exact callN_ok (vs := .ref a :: vs) (ws := q.1 :: q.2) hh ⟨rq.1, rq.2⟩ hm hp
  · obtain ⟨z, hi⟩ := recv_ok e1
    cases z
theorem q_meth0 {Cn : Str} {pl : Sem Bool} (c : Met X.prog X.w X.K X.mg X.base k Cn m n F) (hr : Room j X.A) (hk : k ≤ j) (tk : Takes X Wx) (he : QE X Wx o mo)
    (ht : eval (.Call (.Attribute o m apos) [] [] pos) X.env = (do
      let ov ← eval o X.env
      standAt apos.atName
      let (f, first) ← holding [ov] (getMethod ov m pl)
      callWith pos f first (backTo pos (starEach [] X.env)) (backToKw pos (keywordEach [] X.env))) := by rfl) :
    QE X Wx (.Call (.Attribute o m apos) [] [] pos) (dMeth Cn m n F mo aNil) := by
  obtain ⟨C, f, hC, cl, hm, G⟩ := c.ex
  obtain ⟨fd, ps, G1, b⟩ := G.ex
  refine pe_imp (pe_methS0 he cl hm G1 (hr.mono hk) b tk ht) fun σ H Q h => ?_
  refine (run_bind (rpa := RepW X.K X.mg) (f := fun w ρ => bnd (recv Cn m w) fun _ => bnd (aNil ρ) fun ws => callN n F (w :: ws)) h).mono fun v H1 h1 => ?_
  obtain ⟨π, ρ, μ, w, r', hs, hh, rq, hm, hp⟩ := h1
  rcases bnd_some hm with ⟨u, μ1, e1, e2⟩ | ⟨en, μ1, e1, _⟩
  · obtain ⟨z, hi⟩ := recv_ok e1
    cases z
    obtain ⟨a, dx, fs, rfl, h1, h2⟩ := recv_rd hC hh rq hi
    exact ⟨a, dx, fs, rfl, h1, h2, callN_ok (vs := [.ref a]) (ws := [w]) hh ⟨rq, trivial⟩ e2 hp⟩
  · obtain ⟨z, hi⟩ := recv_ok e1
    cases z

/-! ### C(..) -/
/-- a new instance; own: it stays one's own; else it is given up to be data -/
def makeD (own : Bool) (Cn : Str) (n : Nat) (F : List W → M W) (ws : List W) : M W := fun μ =>
  match callN n F (.l μ.length :: ws) (μ ++ [.obj Cn [] []]) with
  | some (.ok (.p .non) μ') => if own = true then some (.ok (.l μ.length) μ') else (match μ'[μ.length]? with
    | some (.obj C fs l) => some (.ok (.p (.obj C fs l)) (μ'.take μ.length))
    | _ => none)
  | some (.ex en μ') => some (.ex en (μ'.take μ.length))
  | _ => none
def dMake (own : Bool) (Cn : Str) (n : Nat) (F : List W → M W) (mas : Env → M (List W)) : DE := dN (makeD own Cn n F) mas
theorem run_makeS {fd : FuncData} {ps : List Str} {sp : Sp} {pins : List (Addr × Obj)} {σ : L2.St} {H : Hp} {s : Shared} {Q : VK} {us : List Value} {vs : List V} (M : Mk X.K C f) (G : FnOk X.prog X.w X.K X.mg X.base (L2.CX X.prog X.w) k f fd ps sp) (hr : Room (k + 1) X.A) (hb : Binds X.K fd ps [])
    (tk : Takes X Wx) (I : L2.Inv X pins σ H s) (r : Vals vs us)
    (h : ∀ x dx, H x = none → H dx = none → dx ≠ x → sp (.ref x :: vs) (upd (upd H dx (.own x)) x (.ins C dx [])) (fun v H2 => v = .non ∧ Q (.ref x) H2) (WE Wx σ)) :
    wpAny (model X.prog X.w) X.A (call (.ref C) us) (EP X pins σ Q) X.xe s := by
  have hq := h (s.heap.objs.size + 1) s.heap.objs.size (I.hok.fresh (Nat.le_succ _)) (I.hok.fresh (Nat.le_refl _)) (Nat.ne_of_lt (Nat.lt_succ_self _))
  have I2 := L2.Inv.made (C := C) I
  have r2 : Vals (V.ref (s.heap.objs.size + 1) :: vs) (Value.ref (s.heap.objs.size + 1) :: us) := .cons rfl r
  have hl : (Value.ref (s.heap.objs.size + 1) :: us ++ []).length = ps.length := by
    have e := r2.length
    rw [G.len _ _ _ _ hq] at e
    rw [List.append_nil]
    exact e.symm
  refine wpAny_call (make_map (f := f) I.kIn M.makes M.init (beq_iff_eq.mp M.fn) (codeAny_mono (G.run _ X.stack _ _ ⟨Value.ref (s.heap.objs.size + 1) :: us, []⟩ (Value.ref (s.heap.objs.size + 1) :: us) _ _ (WE Wx σ) (hr.make C us [])
    (I2.env0.make C us []) (by have q := hb _ (Value.ref (s.heap.objs.size + 1) :: us) I2.kIn hl; rw [List.append_nil] at q; exact q) r2 hq) fun r s' hq' => ?_))
  cases r with
  | error e => exact passAt tk σ pins _ _ e s' I2 hq'
  | ok fl =>
    cases fl with
    | ret u =>
      obtain ⟨v, H', I3, rv, ev, q3⟩ := I2.after hq'
      subst ev
      exact ⟨rv, ⟨V.ref (s.heap.objs.size + 1), H', I3, rfl, q3⟩⟩
    | next => exact False.elim hq'
    | brk => exact False.elim hq'
    | cont => exact False.elim hq'
theorem makeD_ok {own : Bool} {Cn : Str} {E : XK} {π : PL} {μ : Store} {H : Hp} {Q : VK} {vs : List V} {ws : List W} {r : ER W} (hC : X.mg Cn = some (.ref C)) (hh : HRel X.K X.mg π μ H) (ra : RepWs X.K X.mg π μ H vs ws) (hm : makeD own Cn n F ws μ = some r) (hp : Post X.K X.mg (RepW X.K X.mg) E π μ H Q r)
    {x dx : Addr} (hx : H x = none) (hdx : H dx = none) (ne : dx ≠ x) : SpD X.K X.mg n F (.ref x :: vs) (upd (upd H dx (.own x)) x (.ins C dx [])) (fun v H2 => v = .non ∧ Q (.ref x) H2) E := by
  have cC : cnOf X.mg Cn = some C := by unfold cnOf; rw [hC]
  have hx' : (upd H dx (.own x)) x = none := by rw [upd_ne ne.symm]; exact hx
  have h1 := hh.pure (o := .own x) hdx
  have nd : (Cell.obj Cn [] []) ≠ .dead := by intro z; cases z
  have e1 : Ext π μ H π μ (upd H dx (.own x)) := .pure hdx
  have e2 : Ext π μ (upd H dx (.own x)) (π.snoc x) (μ ++ [.obj Cn [] []]) (upd (upd H dx (.own x)) x (.ins C dx [])) := .own h1 hx' nd
  have h2 : HRel X.K X.mg (π.snoc x) (μ ++ [.obj Cn [] []]) (upd (upd H dx (.own x)) x (.ins C dx [])) := h1.own hx' nd ⟨C, dx, [], cC, upd_same, rfl, .nil⟩
  have e3 := e1.trans e2
  have hx3 : (π.l ++ [x])[μ.length]? = some x := by rw [← hh.len]; simp
  have rx : RepWs X.K X.mg (π.snoc x) (μ ++ [.obj Cn [] []]) (upd (upd H dx (.own x)) x (.ins C dx [])) (.ref x :: vs) (.l μ.length :: ws) := ⟨⟨x, rfl, hx3⟩, ra.ext e3⟩
  unfold makeD at hm
  cases hc : callN n F (.l μ.length :: ws) (μ ++ [.obj Cn [] []]) with
  | none => rw [hc] at hm; cases hm
  | some r0 =>
    rw [hc] at hm
    refine callN_ok (r := r0) h2 rx hc ?_
    cases r0 with
    | ex en μ' =>
      cases hm
      intro π' H' c e hr hcn
      obtain ⟨lv, ex, hr'⟩ := leave hh (e3.trans e) hr
      exact hp π H' c ex hr' hcn
    | ok w μ' =>
      cases w with
      | l k => cases hm
      | p d =>
        cases d with
        | non =>
          simp only at hm
          intro π' v H' e hr rv
          refine ⟨rep_non rv, ?_⟩
          split at hm
          · cases hm
            exact hp π' _ H' (e3.trans e) hr ⟨x, rfl, e.pre _ _ hx3⟩
          · split at hm
            · rename_i C' fs l hc'
              cases hm
              obtain ⟨lv, ex, hr'⟩ := leave hh (e3.trans e) hr
              have hax := e.pre _ _ hx3
              obtain ⟨c', dx', fvs, q0, q1, q2, q3⟩ := hr.ok _ _ _ hax hc'
              have nx : x ∉ π.l := hh.notin hx
              have nf : ¬ π.f x := hh.notfar hx
              have nl : ¬ live π (μ'.take μ.length) x := fun z => (live_lt z).elim nf nx
              exact hp π _ H' ex hr' (.obj q0 q1 nl q2 (q3.ext (.of fun a o h n => ⟨h, fun z => n (lv _ z)⟩)))
            · cases hm
        | _ => cases hm
theorem q_make {own : Bool} (c : Mak X.prog X.w X.K X.mg X.base k x n F) (hr : Room j X.A) (hk : k + 1 ≤ j) (hg : Gl X x) (tk : Takes X Wx) (ha : QA X Wx (e :: es) mas) (hdb : (x == ("__debug__" : Str)) = false := by decide)
    (he : starEach (e :: es) X.env = (false, eval e X.env) :: starEach es X.env := by rfl) (hpl : (backTo pos (starEach es X.env)).any (·.1) = false := by rfl) : QE X Wx (.Call (.Name x p) (e :: es) [] pos) (dMake own x n F mas) := by
  obtain ⟨C, f, hm, M, G⟩ := c.ex
  obtain ⟨fd, ps, G1, b⟩ := G.ex
  refine pe_imp (t := fun σ H Q => TAd X.K X.mg Wx mas σ H fun vs H1 => ∀ x dx, H1 x = none → H1 dx = none → dx ≠ x → SpD X.K X.mg n F (.ref x :: vs) (upd (upd H1 dx (.own x)) x (.ins C dx [])) (fun v H2 => v = .non ∧ Q (.ref x) H2) (WE Wx σ)) ⟨fun pins s σ H Q I h => ?_⟩ fun σ H Q h => ?_
  · refine wpAny_Call_Name_kw (ld_glob I hg hm ?_ hdb)
    refine PySem.W.callWith_K (h₀ := X.base) I.ok.mod.kin M.kp (thn (ha.run pos pins s σ H _ I h) fun us s1 ⟨vs, H1, I1, r, q⟩ => ⟨I1.kIn, ?_⟩) he hpl
    exact run_makeS M G1 (hr.mono hk) b tk I1 r q
  · refine (run_bind (rpa := RepWs X.K X.mg) (f := fun ws _ => makeD own x n F ws) h).mono fun vs H1 h1 => ?_
    obtain ⟨π, ρ, μ, ws, r', hs, hh, rq, hm', hp⟩ := h1
    intro x' dx h1 h2 h3
    exact makeD_ok hm hh rq hm' hp h1 h2 h3
end
end Q

set_option Elab.async false
set_option linter.all false
set_option maxRecDepth 100000
/-! Q9: built-in functions and methods. -/
namespace Q
open PySem PySem.Spec PyProof.Rows L2
section
variable {X : Cx} {Wx : WX} {x : Str} {p pos apos : Pos} {e o a : Expr} {es : List Expr} {mas : Env → M (List W)} {ma mo : DE} {r : List V → Hp → VK → Prop} {f : List W → M W} {id T : String}
theorem q_callB (hf : OpN X.K X.mg r f) (hc : CallR X (.builtin id) r) (hg : Gl X x) (hm : X.mg x = none) (hv : bootBuiltins x = some (.builtin id)) (ha : QA X Wx (e :: es) mas) (hn : x ≠ "__name__" := by decide) (hdb : (x == ("__debug__" : Str)) = false := by decide)
    (he : starEach (e :: es) X.env = (false, eval e X.env) :: starEach es X.env := by rfl) (hpl : (backTo pos (starEach es X.env)).any (·.1) = false := by rfl) : QE X Wx (.Call (.Name x p) (e :: es) [] pos) (dN f mas) :=
  pe_imp (pe_callB hc hg hm hv ha hn hdb he hpl) fun σ H Q h => runN hf h
theorem q_callTy (hf : OpN X.K X.mg r f) (hc : CallR X (.type T) r) (hg : Gl X x) (hm : X.mg x = none) (hv : bootBuiltins x = some (.type T)) (ha : QA X Wx (e :: es) mas) (hn : x ≠ "__name__" := by decide) (hdb : (x == ("__debug__" : Str)) = false := by decide)
    (he : starEach (e :: es) X.env = (false, eval e X.env) :: starEach es X.env := by rfl) (hpl : (backTo pos (starEach es X.env)).any (·.1) = false := by rfl) : QE X Wx (.Call (.Name x p) (e :: es) [] pos) (dN f mas) :=
  pe_imp (pe_callTy hc hg hm hv ha hn hdb he hpl) fun σ H Q h => runN hf h
/-- of one value -/
def one (g : W → Store → Option W) : List W → M W
  | [w] => optS (g w)
  | _ => stk
theorem opN_one {g : W → Store → Option W} (h : ∀ {E : XK} {π : PL} {μ : Store} {H : Hp} {Q : VK} {v : V} {w w' : W}, HRel X.K X.mg π μ H → RepW X.K X.mg π μ H v w → g w μ = some w' → Post X.K X.mg (RepW X.K X.mg) E π μ H Q (.ok w' μ) → r [v] H Q) : OpN X.K X.mg r (one g) := by
  intro E π μ H Q xs ws q hh ra hm hp
  unfold one at hm
  split at hm
  · rename_i w
    cases xs with
    | nil => exact ra.elim
    | cons v vs =>
      cases vs with
      | cons _ _ => exact ra.2.elim
      | nil =>
        obtain ⟨w', e, rfl⟩ := optS_inv hm
        exact h hh ra.1 e hp
  · cases hm
/-! len -/
def lenV (w : W) (μ : Store) : Option Nat :=
  match w with
  | .p (.str z) => if z.length ≤ sizeLine then some z.length else none
  | w => match rdQ μ w with
    | some l => some l.length
    | none => (rdD μ w).map fun q => q.2.length
def wLen : List W → M W := one fun w μ => (lenV w μ).map fun (n : Nat) => .p (.int (n : Int))
theorem call_lenDR : CallR X (.builtin "len") (fun xs H Q => ∃ a kvs, xs = [V.ref a] ∧ Rd H a (.dK kvs) ∧ Q (.int kvs.length) H) := by
  intro pins s σ H xs us Q I r h
  obtain ⟨a, kvs, rfl, ha, q⟩ := h
  obtain ⟨u, rfl, ru⟩ := vals1 r
  cases ru
  exact d_len I ha fun t s' I' => ⟨.int kvs.length, H, I', ⟨t, rfl⟩, q⟩
def rLen (K : PySem.W.Frag) : List V → Hp → VK → Prop := fun xs H Q => (∃ x n, xs = [x] ∧ LenV K x H n ∧ Q (.int n) H) ∨ (∃ a kvs, xs = [V.ref a] ∧ Rd H a (.dK kvs) ∧ Q (.int (kvs.length : Nat)) H)
theorem call_lenA : CallR X (.builtin "len") (rLen X.K) := .or call_len call_lenDR
theorem opN_len : OpN X.K X.mg (rLen X.K) wLen := opN_one fun {E π μ H Q v w w'} hh ra e hp => by
  obtain ⟨n, e0, rfl⟩ := Option.map_eq_some_iff.mp e
  unfold lenV at e0
  split at e0
  · split at e0
    · rename_i h
      cases e0
      exact .inl ⟨_, _, rfl, by rw [rep_str ra]; exact ⟨h, rfl⟩, hp.here hh (.int _)⟩
    · cases e0
  · split at e0
    · rename_i l e1
      cases e0
      obtain ⟨p, vs, rfl, hq, rs⟩ := rdQ_ok hh ra e1
      refine .inl ⟨_, l.length, rfl, ?_, hp.here hh (.int _)⟩
      rcases hq with hq | hq
      · exact .inl ⟨vs, hq, rs.length.symm⟩
      · exact .inr ⟨vs, hq, rs.length.symm⟩
    · obtain ⟨⟨ks, l⟩, e1, rfl⟩ := Option.map_eq_some_iff.mp e0
      obtain ⟨p, kvs, rfl, hr, _, rs⟩ := rdD_ok hh ra e1
      refine .inr ⟨p, kvs, rfl, hr, ?_⟩
      have el : kvs.length = l.length := by rw [← rs.length, List.length_map]
      rw [el]
      exact hp.here hh (.int _)
/-! sum of whole numbers -/
def intsD : List D → Option (List Int)
  | [] => some []
  | .int i :: ds => (intsD ds).map (i :: ·)
  | _ => none
theorem ints_ok {K : PySem.W.Frag} {mg : Str → Option Value} {π : PL} {μ : Store} {H : Hp} : ∀ {ds : List D} {vs : List V} {ns : List Int}, Reps K mg π μ H vs ds → intsD ds = some ns → vs = ns.map V.int
  | [], _, _, .nil, e => by simp [intsD] at e; subst e; rfl
  | .int i :: ds, _, _, .cons r t, e => by
    simp only [intsD, Option.map_eq_some_iff] at e
    obtain ⟨ns, e, rfl⟩ := e
    rw [rep_int r, ints_ok t e]
    rfl
def wSum : List W → M W := one fun w μ => (rdLs μ w).bind fun l => (intsD l).map fun ns => .p (.int ns.sum)
theorem opN_sum : OpN X.K X.mg (rSum X.K) wSum := opN_one fun {E π μ H Q v w w'} hh ra e hp => by
  obtain ⟨l, e1, e2⟩ := Option.bind_eq_some_iff.mp e
  obtain ⟨ns, e3, rfl⟩ := Option.map_eq_some_iff.mp e2
  obtain ⟨p, vs, rfl, hq, rs⟩ := rdLs_ok hh ra e1
  rw [ints_ok rs e3] at hq
  exact ⟨p, ns, rfl, hq, hp.here hh (.int _)⟩
/-! min, max of two -/
def two (g : Int → Int → Int) : List W → M W
  | [.p (.int i), .p (.int j)] => ret (.p (.int (g i j)))
  | _ => stk
theorem opN_two {g : Int → Int → Int} : OpN X.K X.mg (fun xs H Q => ∃ i j, xs = [.int i, .int j] ∧ Q (.int (g i j)) H) (two g) := by
  intro E π μ H Q xs ws q hh ra hm hp
  unfold two at hm
  split at hm
  · rename_i i j
    match xs, ra with
    | [u, v], ra =>
      cases hm
      exact ⟨i, j, by rw [rep_int ra.1, rep_int ra.2.1], hp.here hh (.int _)⟩
  · cases hm
def wMin : List W → M W := two fun i j => if j < i then j else i
def wMax : List W → M W := two fun i j => if j > i then j else i
theorem opN_min : OpN X.K X.mg (fun xs H Q => ∃ i j, xs = [.int i, .int j] ∧ Q (.int (if j < i then j else i)) H) wMin := opN_two
theorem opN_max : OpN X.K X.mg (fun xs H Q => ∃ i j, xs = [.int i, .int j] ∧ Q (.int (if j > i then j else i)) H) wMax := opN_two
/-! int -/
def wInt : List W → M W := one fun w _ => match w with
  | .p (.int i) => some (.p (.int i))
  | .p (.bl b) => some (.p (.int (if b then 1 else 0)))
  | _ => none
def rIntT : List V → Hp → VK → Prop := fun xs H Q => (∃ i, xs = [.int i] ∧ Q (.int i) H) ∨ ∃ k, xs = [.bl k] ∧ Q (.int (if k then 1 else 0)) H
theorem opN_int : OpN X.K X.mg rIntT wInt := opN_one (r := rIntT) fun {E π μ H Q v w w'} hh ra e hp => by
  split at e
  · cases e; exact .inl ⟨_, by rw [rep_int ra], hp.here hh (.int _)⟩
  · cases e; exact .inr ⟨_, by rw [rep_bl ra], hp.here hh (.int _)⟩
  · cases e
/-! list, tuple of a list or a tuple -/
def wListP : List W → M W := one fun w μ => (rdQ μ w).map fun l => .p (.lst l)
def rList (K : PySem.W.Frag) : List V → Hp → VK → Prop := fun xs H Q => ∃ p ys, xs = [.ref p] ∧ (SqL K H p ys ∨ SqT K H p ys) ∧ ∀ l, H l = none → Q (.ref l) (upd H l (.lst ys))
theorem opN_listP : OpN X.K X.mg (rList X.K) wListP := opN_one fun {E π μ H Q v w w'} hh ra e hp => by
  obtain ⟨l, e1, rfl⟩ := Option.map_eq_some_iff.mp e
  obtain ⟨p, vs, rfl, hq, rs⟩ := rdQ_ok hh ra e1
  exact ⟨p, vs, rfl, hq, fun q nq => hp.new hh nq (.lst upd_same (hh.nlive nq) (rs.ext (Ext.pure nq).toKp))⟩
def wListO : List W → M W
  | [w] => fun μ => match rdQ μ w with
    | some l => alloc (.lst l) μ
    | none => none
  | _ => stk
theorem opN_listO : OpN X.K X.mg (rList X.K) wListO := by
  intro E π μ H Q xs ws q hh ra hm hp
  unfold wListO at hm
  split at hm
  · rename_i w
    match xs, ra with
    | [v], ra =>
      split at hm
      · rename_i l e1
        cases hm
        obtain ⟨p, vs, rfl, hq, rs⟩ := rdQ_ok hh ra.1 e1
        have nd : (Cell.lst l) ≠ .dead := by intro z; cases z
        exact ⟨p, vs, rfl, hq, fun q nq => hp.own hh nq nd ⟨vs, upd_same, rs.ext (Ext.own hh nq nd).toKp⟩ ⟨q, rfl, by rw [← hh.len]; simp [PL.snoc]⟩⟩
      · cases hm
  · cases hm
def wTuple : List W → M W := one fun w μ => (rdQ μ w).map fun l => .p (.tup l)
def rTupleQ (K : PySem.W.Frag) : List V → Hp → VK → Prop := fun xs H Q => ∃ p ys, xs = [.ref p] ∧ ((SqL K H p ys ∧ ∀ l, H l = none → Q (.ref l) (upd H l (.tup ys))) ∨ (SqT K H p ys ∧ Q (.ref p) H))
theorem rdQ_tup {K : PySem.W.Frag} {mg : Str → Option Value} {π : PL} {μ : Store} {H : Hp} {v : V} {w : W} {l : List D} (hh : HRel K mg π μ H) (r : RepW K mg π μ H v w) (e : rdQ μ w = some l) :
    (∃ a vs, v = .ref a ∧ SqL K H a vs ∧ Reps K mg π μ H vs l) ∨ (w = .p (.tup l)) := by
  unfold rdQ at e
  split at e
  · cases e; exact .inr rfl
  · cases e
    obtain ⟨a, vs, rfl, h, r⟩ := scr_ok r
    exact .inl ⟨a, vs, rfl, h, r⟩
  · obtain ⟨a, vs, rfl, h, r⟩ := rdL_ok hh r e
    exact .inl ⟨a, vs, rfl, .of h, r⟩
theorem opN_tuple : OpN X.K X.mg (rTupleQ X.K) wTuple := opN_one fun {E π μ H Q v w w'} hh ra e hp => by
  obtain ⟨l, e1, rfl⟩ := Option.map_eq_some_iff.mp e
  rcases rdQ_tup hh ra e1 with ⟨a, vs, rfl, hq, rs⟩ | rfl
  · exact ⟨a, vs, rfl, .inl ⟨hq, fun q nq => hp.new hh nq (.tup upd_same (hh.nlive nq) (rs.ext (Ext.pure nq).toKp))⟩⟩
  · obtain ⟨a, vs, rfl, h1, n1, r1⟩ := rep_tup ra
    exact ⟨a, vs, rfl, .inr ⟨.of h1, hp.here hh ra⟩⟩
/-! dict of a dict -/
def wDictP : List W → M W := one fun w μ => (rdD μ w).map fun q => .p (.dk q.1 q.2)
def rDictD : List V → Hp → VK → Prop := fun xs H Q => ∃ (a : Addr) (kvs : List (Key × V)), xs = [.ref a] ∧ Rd H a (.dK kvs) ∧ ∀ p, H p = none → Q (.ref p) (upd H p (.dK kvs))
theorem opN_dictP : OpN X.K X.mg rDictD wDictP := opN_one fun {E π μ H Q v w w'} hh ra e hp => by
  obtain ⟨⟨ks, l⟩, e1, rfl⟩ := Option.map_eq_some_iff.mp e
  obtain ⟨p, kvs, rfl, hr, rfl, rs⟩ := rdD_ok hh ra e1
  exact ⟨p, kvs, rfl, hr, fun q nq => hp.new hh nq (.dk (.inl upd_same) (hh.nlive nq) rfl (rs.ext (Ext.pure nq).toKp))⟩
def wDictO : List W → M W
  | [w] => fun μ => match rdD μ w with
    | some q => alloc (.dk q.1 q.2) μ
    | none => none
  | _ => stk
theorem opN_dictO : OpN X.K X.mg rDictD wDictO := by
  intro E π μ H Q xs ws q hh ra hm hp
  unfold wDictO at hm
  split at hm
  · rename_i w
    match xs, ra with
    | [v], ra =>
      split at hm
      · rename_i l e1
        cases hm
        obtain ⟨ks, ds⟩ := l
        obtain ⟨p, kvs, rfl, hr, rfl, rs⟩ := rdD_ok hh ra.1 e1
        have nd : (Cell.dk (kvs.map (·.1)) ds) ≠ .dead := by intro z; cases z
        exact ⟨p, kvs, rfl, hr, fun q nq => hp.own hh nq nd ⟨kvs, upd_same, rfl, rs.ext (Ext.own hh nq nd).toKp⟩ ⟨q, rfl, by rw [← hh.len]; simp [PL.snoc]⟩⟩
      · cases hm
  · cases hm
/-! isinstance with a built-in class -/
inductive Ty where
  | non | bl | int | str | tup | lst | dk
  deriving DecidableEq
def Ty.nm : Ty → String
  | .non => "NoneType" | .bl => "bool" | .int => "int" | .str => "str" | .tup => "tuple" | .lst => "list" | .dk => "dict"
def Ty.sub (t T : Ty) : Bool := decide (t = T) || (decide (t = .bl) && decide (T = .int))
theorem kit_sub (t T : Ty) : kitB t.nm T.nm = some (t.sub T) := by cases t <;> cases T <;> decide +kernel
def tyW (μ : Store) : W → Option Ty
  | .p .non => some .non
  | .p (.bl _) => some .bl
  | .p (.int _) => some .int
  | .p (.str _) => some .str
  | .p (.tup _) => some .tup
  | .p (.lst _) => some .lst
  | .p (.dk _ _) => some .dk
  | .l k => match μ[k]? with
    | some (.lst _) => some .lst
    | some (.dk _ _) => some .dk
    | _ => none
  | _ => none
theorem tyW_ok {K : PySem.W.Frag} {mg : Str → Option Value} {π : PL} {μ : Store} {H : Hp} {v : V} {w : W} {t : Ty} (hh : HRel K mg π μ H) (r : RepW K mg π μ H v w) (e : tyW μ w = some t) : TyX K H v (.type t.nm) := by
  unfold tyW at e
  split at e
  · cases e; rw [rep_non r]; exact .base .non
  · cases e; rw [rep_bl r]; exact .base (.bl _)
  · cases e; rw [rep_int r]; exact .base (.int _)
  · cases e; rw [rep_str r]; exact .base (.str _)
  · cases e
    obtain ⟨a, vs, rfl, h, _⟩ := rep_tup r
    exact .base (.tup h)
  · cases e
    cases r with
    | lst h n r => exact .base (.lst h)
  · cases e
    cases r with
    | dk h n q r =>
      rcases h with h | ⟨o, h⟩
      · exact .base (.dK h)
      · exact .fDict h
  · obtain ⟨a, rfl, hk⟩ := r
    split at e
    · rename_i l hc
      cases e
      obtain ⟨vs, h, _⟩ := hh.ok _ a _ hk hc
      exact .base (.lst h)
    · rename_i ks l hc
      cases e
      obtain ⟨vs, h, _⟩ := hh.ok _ a _ hk hc
      exact .base (.dK h)
    · cases e
  · cases e
def wIsi (T : Ty) : W → M W := fun w => optS fun μ => (tyW μ w).map fun t => .p (.bl (t.sub T))
theorem q_isi (T : Ty) {tn : Str} {p2 : Pos} (hg : Gl X "isinstance") (hm : X.mg "isinstance" = none) (hgT : Gl X tn) (hmT : X.mg tn = none) (hvT : bootBuiltins tn = some (.type T.nm)) (ha : QE X Wx a ma) (hv : bootBuiltins "isinstance" = some (.builtin "isinstance") := by decide +kernel)
    (hnT : tn ≠ "__name__" := by decide) (hdT : (tn == ("__debug__" : Str)) = false := by decide)
    (h1 : starEach [a, .Name tn p2] X.env = (false, eval a X.env) :: starEach [.Name tn p2] X.env := by rfl) (h2 : starEach [.Name tn p2] X.env = (false, eval (.Name tn p2) X.env) :: starEach [] X.env := by rfl)
    (hpl : (backTo pos (starEach [.Name tn p2] X.env)).any (·.1) = false := by rfl) : QE X Wx (.Call (.Name "isinstance" p) [a, .Name tn p2] [] pos) (d1 (wIsi T) ma) := by
  refine pe_imp (pe_callB call_isi hg hm hv (pa_cons ha (pa_cons (pe_bltn (v := .ty T.nm) hgT hmT hvT rfl hnT hdT) pa_nil h2) h1) (he := h1) (hpl := hpl)) fun σ H Q h => ?_
  refine (run_bind (rpa := RepW X.K X.mg) (f := fun w _ => wIsi T w) h).mono fun v H1 h1 => ?_
  obtain ⟨π, ρ, μ, w, r', hs, hh, rq, hm, hp⟩ := h1
  obtain ⟨w', e, rfl⟩ := optS_inv hm
  obtain ⟨t, e1, rfl⟩ := Option.map_eq_some_iff.mp e
  exact ⟨v, .ty T.nm, .type t.nm, .type T.nm, t.sub T, rfl, .ty _, tyW_ok hh rq e1, kit_ty (kit_sub t T), hp.here hh (.bl _)⟩
/-! ### methods of lists -/
theorem tyV_lst {K : PySem.W.Frag} {a : Addr} {vs : List V} {H : Hp} (h : SqL K H a vs) : tyV K "list" (.ref a) H := Or.inl ⟨rfl, vs, h⟩
/-- the list of one's own that is changed -/
def ownL (μ : Store) : W → Option (Nat × List D)
  | .l k => match μ[k]? with
    | some (.lst l) => some (k, l)
    | _ => none
  | _ => none
theorem ownL_ok {K : PySem.W.Frag} {mg : Str → Option Value} {π : PL} {μ : Store} {H : Hp} {v : V} {w : W} {k : Nat} {l : List D} (hh : HRel K mg π μ H) (r : RepW K mg π μ H v w) (e : ownL μ w = some (k, l)) :
    w = .l k ∧ μ[k]? = some (.lst l) ∧ ∃ a vs, v = .ref a ∧ π.l[k]? = some a ∧ H a = some (.lst vs) ∧ Reps K mg π μ H vs l := by
  unfold ownL at e
  split at e
  · rename_i k'
    obtain ⟨a, rfl, hk⟩ := r
    split at e
    · rename_i l' hc
      cases e
      obtain ⟨vs, h, rs⟩ := hh.ok _ a _ hk hc
      exact ⟨rfl, hc, a, vs, rfl, hk, h, rs⟩
    · cases e
  · cases e
/-- a method of a built-in class: its receiver looked at ahead -/
def dBM (ok : W → Store → Bool) (g : W → List W → M W) (mo : DE) (mas : Env → M (List W)) : DE := fun ρ => bnd (mo ρ) fun w => bnd (optS fun μ => if ok w μ = true then some () else none) fun _ => bnd (mas ρ) fun ws => g w ws
theorem q_bm {rm : V → List V → Hp → VK → Prop} {ok : W → Store → Bool} {g : W → List W → M W} {name : Str} (hf : OpM X.K X.mg rm g) (ht : ∀ {π : PL} {μ : Store} {H : Hp} {v : V} {w : W}, HRel X.K X.mg π μ H → RepW X.K X.mg π μ H v w → ok w μ = true → tyV X.K T v H)
    (pa : PlainAttrs T) (slot : Slot T name id) (hty : typeOf (.builtin id) = pure (.type "method_descriptor")) (hmt : MtR X id rm) (ho : QE X Wx o mo) (ha : QA X Wx (e :: es) mas)
    (h : PE X (.Call (.Attribute o name apos) (e :: es) [] pos) (tBM X.K T rm (TEd X.K X.mg Wx mo) (TAd X.K X.mg Wx mas))) : QE X Wx (.Call (.Attribute o name apos) (e :: es) [] pos) (dBM ok g mo mas) := by
  refine pe_imp h fun σ H Q h => ?_
  refine (run_bind (rpa := RepW X.K X.mg) (f := fun w ρ => bnd (optS fun μ => if ok w μ = true then some () else none) fun _ => bnd (mas ρ) fun ws => g w ws) h).mono fun v H1 h1 => ?_
  obtain ⟨π, ρ, μ, w, r', hs, hh, rq, hm, hp⟩ := h1
  rcases bnd_some hm with ⟨u, μ1, e1, e2⟩ | ⟨en, μ1, e1, _⟩
  · obtain ⟨u', e3, z⟩ := optS_inv e1
    cases z
    split at e3
    · rename_i hok
      refine ⟨ht hh rq hok, ?_⟩
      have hM : Mid X.K X.mg (RepW X.K X.mg) Wx (RepW X.K X.mg) (fun w ρ => bnd (mas ρ) fun ws => g w ws) σ Q v H1 := ⟨π, ρ, μ, w, r', hs, hh, rq, e2, hp⟩
      refine (mid_bind (rpb := RepWs X.K X.mg) (f := fun w ws _ => g w ws) stays_W hM).mono fun vs H2 h2 => ?_
      obtain ⟨π, ρ, μ, q, r', hs, hh, rq, hm, hp⟩ := h2
      exact hf hh rq.1 rq.2 hm hp
    · cases e3
  · obtain ⟨u', e3, z⟩ := optS_inv e1
    cases z
def dBM0 (ok : W → Store → Bool) (g : W → List W → M W) (mo : DE) : DE := fun ρ => bnd (mo ρ) fun w => bnd (optS fun μ => if ok w μ = true then some () else none) fun _ => g w []
theorem q_bm0 {rm : V → List V → Hp → VK → Prop} {ok : W → Store → Bool} {g : W → List W → M W} {name : Str} (hf : OpM X.K X.mg rm g) (ht : ∀ {π : PL} {μ : Store} {H : Hp} {v : V} {w : W}, HRel X.K X.mg π μ H → RepW X.K X.mg π μ H v w → ok w μ = true → tyV X.K T v H)
    (h : PE X (.Call (.Attribute o name apos) [] [] pos) (tBM0 X.K T rm (TEd X.K X.mg Wx mo))) : QE X Wx (.Call (.Attribute o name apos) [] [] pos) (dBM0 ok g mo) := by
  refine pe_imp h fun σ H Q h => ?_
  refine (run_bind (rpa := RepW X.K X.mg) (f := fun w ρ => bnd (optS fun μ => if ok w μ = true then some () else none) fun _ => g w []) h).mono fun v H1 h1 => ?_
  obtain ⟨π, ρ, μ, w, r', hs, hh, rq, hm, hp⟩ := h1
  rcases bnd_some hm with ⟨u, μ1, e1, e2⟩ | ⟨en, μ1, e1, _⟩
  · obtain ⟨u', e3, z⟩ := optS_inv e1
    cases z
    split at e3
    · rename_i hok
      exact ⟨ht hh rq hok, hf (ws := []) hh rq trivial e2 hp⟩
    · cases e3
  · obtain ⟨u', e3, z⟩ := optS_inv e1
    cases z
/-! append, pop, extend of one's own list -/
def okL (w : W) (μ : Store) : Bool := (rdLs μ w).isSome
theorem okL_ty {π : PL} {μ : Store} {H : Hp} {v : V} {w : W} (hh : HRel X.K X.mg π μ H) (r : RepW X.K X.mg π μ H v w) (e : okL w μ = true) : tyV X.K "list" v H := by
  obtain ⟨l, e⟩ := Option.isSome_iff_exists.mp e
  obtain ⟨a, vs, rfl, h, _⟩ := rdLs_ok hh r e
  exact tyV_lst h
def wAppend : W → List W → M W
  | w, [.p d] => fun μ => match ownL μ w with
    | some (k, l) => if l.length < sizeLine then some (.ok (.p .non) (μ.set k (.lst (l ++ [d])))) else none
    | none => none
  | _, _ => stk
theorem opM_append : OpM X.K X.mg rAppend wAppend := by
  intro E π μ H Q x xs a ws q hh ra rs hm hp
  unfold wAppend at hm
  split at hm
  · rename_i w d
    match xs, rs with
    | [y], rs =>
      split at hm
      · rename_i k l e1
        split at hm
        · rename_i hl
          cases hm
          obtain ⟨rfl, hc, p, vs, rfl, hk, h, r1⟩ := ownL_ok hh ra e1
          have nd : (Cell.lst l) ≠ .dead := by intro z; cases z
          refine ⟨p, vs, y, rfl, rfl, h, by rw [r1.length]; exact hl, hp.put hh hk hc nd ⟨_, upd_same, ?_⟩ .non⟩
          exact (r1.append (.cons rs.1 .nil)).ext (Ext.put hh hk hc nd).toKp
        · cases hm
      · cases hm
  · cases hm
theorem q_append (ho : QE X Wx o mo) (ha : QA X Wx (e :: es) mas) (h : PE X (.Call (.Attribute o "append" apos) (e :: es) [] pos) (tBM X.K "list" rAppend (TEd X.K X.mg Wx mo) (TAd X.K X.mg Wx mas)) := by exact pe_bm PySem.F.plainAttrs_list PySem.F.slot_list_append PySem.F.type_list_append mt_append ho ha) :
    QE X Wx (.Call (.Attribute o "append" apos) (e :: es) [] pos) (dBM okL wAppend mo mas) := q_bm opM_append okL_ty PySem.F.plainAttrs_list PySem.F.slot_list_append PySem.F.type_list_append mt_append ho ha h
def wPop : W → List W → M W
  | w, [] => fun μ => match ownL μ w with
    | some (k, l) => (match l[l.length - 1]? with
      | some d => some (.ok (.p d) (μ.set k (.lst l.dropLast)))
      | none => none)
    | none => none
  | _, _ => stk
theorem Reps.dropLast {K : PySem.W.Frag} {mg : Str → Option Value} {π : PL} {μ : Store} {H : Hp} {vs : List V} {ds : List D} (r : Reps K mg π μ H vs ds) : Reps K mg π μ H vs.dropLast ds.dropLast := by
  rw [List.dropLast_eq_take, List.dropLast_eq_take, r.length]
  exact r.take _
theorem opM_pop : OpM X.K X.mg rPop wPop := by
  intro E π μ H Q x xs a ws q hh ra rs hm hp
  unfold wPop at hm
  split at hm
  · rename_i w
    match xs, rs with
    | [], rs =>
      split at hm
      · rename_i k l e1
        split at hm
        · rename_i d e2
          cases hm
          obtain ⟨rfl, hc, p, vs, rfl, hk, h, r1⟩ := ownL_ok hh ra e1
          have nd : (Cell.lst l) ≠ .dead := by intro z; cases z
          obtain ⟨y, hy, ry⟩ := r1.get e2
          have ex := Ext.put (c' := .lst l.dropLast) (o := .lst vs.dropLast) hh hk hc nd
          exact ⟨p, vs, y, rfl, rfl, h, by rw [r1.length]; exact hy, hp.put hh hk hc nd ⟨_, upd_same, r1.dropLast.ext ex.toKp⟩ (ry.ext ex.toKp)⟩
        · cases hm
      · cases hm
  · cases hm
theorem q_pop (ho : QE X Wx o mo) (h : PE X (.Call (.Attribute o "pop" apos) [] [] pos) (tBM0 X.K "list" rPop (TEd X.K X.mg Wx mo)) := by exact pe_bm0 PySem.F.plainAttrs_list PySem.F.slot_list_pop PySem.F.type_list_pop mt_pop ho) :
    QE X Wx (.Call (.Attribute o "pop" apos) [] [] pos) (dBM0 okL wPop mo) := q_bm0 opM_pop okL_ty h
def wExtend : W → List W → M W
  | w, [u] => fun μ => match ownL μ w, rdL μ u with
    | some (k, l), some m => if l.length + m.length ≤ sizeLine then some (.ok (.p .non) (μ.set k (.lst (l ++ m)))) else none
    | _, _ => none
  | _, _ => stk
theorem opM_extend : OpM X.K X.mg rExtend wExtend := by
  intro E π μ H Q x xs a ws q hh ra rs hm hp
  unfold wExtend at hm
  split at hm
  · rename_i w u
    match xs, rs with
    | [y], rs =>
      split at hm
      · rename_i k l m e1 e2
        split at hm
        · rename_i hl
          cases hm
          obtain ⟨rfl, hc, p, vs, rfl, hk, h, r1⟩ := ownL_ok hh ra e1
          obtain ⟨p2, vs2, rfl, h2, r2⟩ := rdL_ok hh rs.1 e2
          have nd : (Cell.lst l) ≠ .dead := by intro z; cases z
          refine ⟨p, p2, vs, vs2, rfl, rfl, h, h2, by rw [r1.length, r2.length]; exact hl, hp.put hh hk hc nd ⟨_, upd_same, ?_⟩ .non⟩
          exact (r1.append r2).ext (Ext.put hh hk hc nd).toKp
        · cases hm
      · cases hm
  · cases hm
theorem q_extend (ho : QE X Wx o mo) (ha : QA X Wx (e :: es) mas) (h : PE X (.Call (.Attribute o "extend" apos) (e :: es) [] pos) (tBM X.K "list" rExtend (TEd X.K X.mg Wx mo) (TAd X.K X.mg Wx mas)) := by exact pe_bm PySem.F.plainAttrs_list PySem.F.slot_list_extend PySem.F.type_list_extend mt_extend ho ha) :
    QE X Wx (.Call (.Attribute o "extend" apos) (e :: es) [] pos) (dBM okL wExtend mo mas) := q_bm opM_extend okL_ty PySem.F.plainAttrs_list PySem.F.slot_list_extend PySem.F.type_list_extend mt_extend ho ha h
end
end Q

set_option Elab.async false
set_option linter.all false
set_option maxRecDepth 100000
/-! Q10: statements, targets, loops. -/
namespace Q
open PySem PySem.Spec PyProof.Rows L2
def dSkip : DS := fun ρ μ => some (.nx ρ μ)
def dSeq (a b : DS) : DS := fun ρ μ => match a ρ μ with
  | some (.nx ρ' μ') => b ρ' μ'
  | r => r
def liftE {α : Type} (m : Env → M α) (k : α → Env → Store → Option SR) : DS := fun ρ μ => match m ρ μ with
  | some (.ok a μ') => k a ρ μ'
  | some (.ex n μ') => some (.ex n ρ μ')
  | none => none
def dRet (m : DE) : DS := liftE m fun w _ μ => some (.rt w μ)
def dRetN : DS := fun _ μ => some (.rt (.p .non) μ)
def dExpr (m : DE) : DS := liftE m fun _ ρ μ => some (.nx ρ μ)
def dIf (c : Env → M Bool) (a b : DS) : DS := liftE c fun k => if k = true then a else b
abbrev DG := W → Env → M Env
abbrev DGs := List D → Env → M Env
def dAsg (m : DE) (g : DG) : DS := liftE m fun w ρ μ => match g w ρ μ with
  | some (.ok ρ' μ') => some (.nx ρ' μ')
  | some (.ex n μ') => some (.ex n ρ μ')
  | none => none
def gNm (i : Nat) : DG := fun w ρ => ret (ρ.set i (some w))
def gsNil : DGs := fun ds ρ => match ds with
  | [] => ret ρ
  | _ => stk
def gsCons (g : DG) (gs : DGs) : DGs := fun ds ρ => match ds with
  | d :: ds => bnd (g (.p d) ρ) (gs ds)
  | _ => stk
def gTp (n : Nat) (gs : DGs) : DG := fun w ρ => match w with
  | .p (.tup ds) => if ds.length = n then gs ds ρ else stk
  | _ => stk
/-- a loop over data -/
def loopD (g : DG) (body : DS) : List D → DS
  | [], ρ, μ => some (.nx ρ μ)
  | d :: ds, ρ, μ => match g (.p d) ρ μ with
    | some (.ok ρ1 μ1) => (match body ρ1 μ1 with
      | some (.nx ρ2 μ2) => loopD g body ds ρ2 μ2
      | some (.ct ρ2 μ2) => loopD g body ds ρ2 μ2
      | some (.bk ρ2 μ2) => some (.nx ρ2 μ2)
      | r => r)
    | some (.ex n μ1) => some (.ex n ρ μ1)
    | none => none
abbrev DI := Env → M (List D)
def dFor (mi : DI) (g : DG) (body : DS) : DS := liftE mi fun ds => loopD g body ds
/-- a while of so many turns at most -/
def whileD (c : Env → M Bool) (body : DS) : Nat → DS
  | 0, _, _ => none
  | n + 1, ρ, μ => match c ρ μ with
    | some (.ok true μ1) => (match body ρ μ1 with
      | some (.nx ρ2 μ2) => whileD c body n ρ2 μ2
      | some (.ct ρ2 μ2) => whileD c body n ρ2 μ2
      | some (.bk ρ2 μ2) => some (.nx ρ2 μ2)
      | r => r)
    | some (.ok false μ1) => some (.nx ρ μ1)
    | some (.ex n μ1) => some (.ex n ρ μ1)
    | none => none
/-- an own list, dict, instance in a slot is given up to be data -/
def dFrz (i : Nat) : DS := fun ρ μ => match ρ[i]? with
  | some (some (.l k)) => (match μ[k]? with
    | some (.lst l) => some (.nx (ρ.set i (some (.p (.lst l)))) (μ.set k .dead))
    | some (.dk ks l) => some (.nx (ρ.set i (some (.p (.dk ks l)))) (μ.set k .dead))
    | some (.obj C fs l) => some (.nx (ρ.set i (some (.p (.obj C fs l)))) (μ.set k .dead))
    | _ => none)
  | _ => none
section
variable {K : PySem.W.Frag} {mg : Str → Option Value} {Wx : WX}
def PostG (K : PySem.W.Frag) (mg : Str → Option Value) (Wx : WX) (π : PL) (μ : Store) (H : Hp) (σ : L2.St) (Q : L2.St → Hp → Prop) : ER Env → Prop
  | .ok ρ' μ' => ∀ π' σ' H', Ext π μ H π' μ' H' → HRel K mg π' μ' H' → SRel K mg π' μ' H' σ' ρ' → Q σ' H'
  | .ex n μ' => ∀ π' H' c, Ext π μ H π' μ' H' → HRel K mg π' μ' H' → cnOf mg n = some c → Wx (.ref c) none σ H'
def TGd (K : PySem.W.Frag) (mg : Str → Option Value) (Wx : WX) (g : DG) : TG := fun v σ H Q => ∃ (π : PL) (ρ : Env) (μ : Store) (w : W) (r : ER Env), SRel K mg π μ H σ ρ ∧ HRel K mg π μ H ∧ RepW K mg π μ H v w ∧ g w ρ μ = some r ∧ PostG K mg Wx π μ H σ Q r
def TGsd (K : PySem.W.Frag) (mg : Str → Option Value) (Wx : WX) (gs : DGs) : TGs := fun vs σ H Q => ∃ (π : PL) (ρ : Env) (μ : Store) (ds : List D) (r : ER Env), SRel K mg π μ H σ ρ ∧ HRel K mg π μ H ∧ Reps K mg π μ H vs ds ∧ gs ds ρ μ = some r ∧ PostG K mg Wx π μ H σ Q r
/-- what is walked: data, that lie still -/
def ItOk (K : PySem.W.Frag) (mg : Str → Option Value) (π : PL) (μ : Store) (H : Hp) (J : It) (ds : List D) : Prop := ∀ (π1 : PL) (μ1 : Store) (H1 : Hp), Kp π μ H π1 μ1 H1 → HRel K mg π1 μ1 H1 →
  J.stop ds.length H1 ∧ ∀ (i : Nat) (d : D), ds[i]? = some d → J.go i H1 ∧ ∀ (x : V) (H2 : Hp), J.yld i H1 x H2 → Ext π1 μ1 H1 π1 μ1 H2 ∧ HRel K mg π1 μ1 H2 ∧ Rep K mg π1 μ1 H2 x d
abbrev TId (K : PySem.W.Frag) (mg : Str → Option Value) (Wx : WX) (m : DI) : TI := Run K mg (ItOk K mg) Wx m
theorem SRel.set {π : PL} {μ : Store} {H : Hp} {σ : L2.St} {ρ : Env} {i : Nat} {v : V} {w : W} (s : SRel K mg π μ H σ ρ) (r : RepW K mg π μ H v w) : SRel K mg π μ H (σ.set i (some v)) (ρ.set i (some w)) := by
  refine ⟨by simp [s.len], fun j w' h => ?_⟩
  by_cases e : i = j
  · subst e
    have hl : i < ρ.length := by simpa using (List.getElem?_eq_some_iff.mp h).1
    rw [List.getElem?_set_self hl] at h
    cases h
    exact ⟨v, by rw [List.getElem?_set_self (by rw [s.len]; exact hl)], r⟩
  · rw [List.getElem?_set_ne e] at h
    obtain ⟨u, h1, h2⟩ := s.ok j w' h
    exact ⟨u, by rw [List.getElem?_set_ne e]; exact h1, h2⟩
theorem PostG.pull {π π' : PL} {μ μ' : Store} {H H' : Hp} {σ : L2.St} {Q : L2.St → Hp → Prop} (e : Ext π μ H π' μ' H') : ∀ {r : ER Env}, PostG K mg Wx π μ H σ Q r → PostG K mg Wx π' μ' H' σ Q r
  | .ok _ _, h => fun π2 s H2 e2 hr rb => h π2 s H2 (e.trans e2) hr rb
  | .ex _ _, h => fun π2 H2 c e2 hr hc => h π2 H2 c (e.trans e2) hr hc
end
section
variable {X : Cx} {Wx : WX} {st : Stmt} {sts : List Stmt} {e : Expr} {es : List Expr} {me : DE} {ms ms2 : DS} {pos : Pos}
abbrev QG (X : Cx) (Wx : WX) (t : Expr) (g : DG) : Prop := PG X t (TGd X.K X.mg Wx g)
abbrev QGs (X : Cx) (Wx : WX) (ts : List Expr) (gs : DGs) : Prop := PGs X ts (TGsd X.K X.mg Wx gs)
abbrev QI (X : Cx) (Wx : WX) (tg it : Expr) (m : DI) : Prop := PI X tg it (TId X.K X.mg Wx m)
theorem pg_imp {t : Expr} {g g' : TG} (h : PG X t g) (i : ∀ v σ H Q, g' v σ H Q → g v σ H Q) : PG X t g' := ⟨fun pins s σ H v u Q I r q => h.run pins s σ H v u Q I r (i _ _ _ _ q)⟩
theorem pgs_imp {ts : List Expr} {g g' : TGs} (h : PGs X ts g) (i : ∀ v σ H Q, g' v σ H Q → g v σ H Q) : PGs X ts g' := ⟨fun pins s σ H v u Q I r q => h.run pins s σ H v u Q I r (i _ _ _ _ q)⟩
theorem pi_imp {tg it : Expr} {t t' : TI} (h : PI X tg it t) (i : ∀ σ H R, t' σ H R → t σ H R) : PI X tg it t' := ⟨fun pins s σ H R I q => h.run pins s σ H R I (i _ _ _ q)⟩

theorem qss_nil : QSs X Wx [] dSkip := pss_imp pss_nil fun D σ H ⟨π, ρ, μ, r, hs, hh, hm, hp⟩ => by
  cases hm
  exact hp π σ H .refl hh hs
theorem qss_cons (h1 : QS X Wx st ms) (h2 : QSs X Wx sts ms2) : QSs X Wx (st :: sts) (dSeq ms ms2) := pss_imp (pss_cons h1 h2) fun D σ H ⟨π, ρ, μ, r, hs, hh, hm, hp⟩ => by
  unfold dSeq at hm
  split at hm
  · rename_i ρ' μ' e
    refine ⟨π, ρ, μ, _, hs, hh, e, fun π' σ' H' ex hr hs' => ?_⟩
    exact ⟨π', ρ', μ', r, hs', hr, hm, hp.pull ex⟩
  · rename_i r' hne
    refine ⟨π, ρ, μ, r, hs, hh, hm, ?_⟩
    cases r with
    | nx ρ' μ' => exact absurd hm (hne _ _)
    | _ => exact hp
theorem qss_one (h1 : QS X Wx st ms) : QSs X Wx [st] ms := pss_one h1
/-- a step of the proof alone, ahead of the rest -/
theorem qss_frz {i : Nat} (h : QSs X Wx sts ms) : QSs X Wx sts (dSeq (dFrz i) ms) := pss_imp h fun D σ H ⟨π, ρ, μ, r, hs, hh, hm, hp⟩ => by
  unfold dSeq at hm
  have key : ∃ ρ' μ', dFrz i ρ μ = some (.nx ρ' μ') ∧ Ext π μ H π μ' H ∧ HRel X.K X.mg π μ' H ∧ SRel X.K X.mg π μ' H σ ρ' := by
    have fin : ∀ (k : Nat) (d : Q.D), ρ[i]? = some (some (.l k)) → (∀ a, π.l[k]? = some a → Rep X.K X.mg π (μ.set k .dead) H (.ref a) d) → SRel X.K X.mg π (μ.set k .dead) H σ (ρ.set i (some (.p d))) := fun k d hk hr => by
      have hs2 := hs.ext (Ext.kill (k := k))
      obtain ⟨v, h1, a, rfl, ha⟩ := hs.ok i _ hk
      have q := hs2.set (i := i) (v := .ref a) (w := .p d) (hr a ha)
      have hl : i < σ.length := (List.getElem?_eq_some_iff.mp h1).1
      have e : σ.set i (some (V.ref a)) = σ := by
        apply List.ext_getElem?
        intro j
        by_cases hj : i = j
        · subst hj; rw [List.getElem?_set_self hl, h1]
        · rw [List.getElem?_set_ne hj]
      rw [e] at q
      exact q
    unfold dFrz at hm ⊢
    cases e1 : ρ[i]? with
    | none => rw [e1] at hm; cases hm
    | some o =>
      rw [e1] at hm
      cases o with
      | none => cases hm
      | some w =>
        cases w with
        | p d => cases hm
        | l k =>
          simp only at hm ⊢
          cases e2 : μ[k]? with
          | none => rw [e2] at hm; cases hm
          | some c =>
            rw [e2] at hm
            have kb : Kp π μ H π (μ.set k .dead) H := (Ext.kill (k := k)).toKp
            cases c with
            | dead => cases hm
            | lst l => exact ⟨_, _, rfl, .kill, hh.kill, fin k _ e1 fun a ha => by
                obtain ⟨vs, h, r⟩ := hh.ok k a _ ha e2
                exact .lst h (nlive_kill hh ha) (r.ext kb)⟩
            | dk ks l => exact ⟨_, _, rfl, .kill, hh.kill, fin k _ e1 fun a ha => by
                obtain ⟨vs, h, q, r⟩ := hh.ok k a _ ha e2
                exact .dk (.inl h) (nlive_kill hh ha) q (r.ext kb)⟩
            | obj C fs l => exact ⟨_, _, rfl, .kill, hh.kill, fin k _ e1 fun a ha => by
                obtain ⟨c, dx, fvs, h0, h, q, r⟩ := hh.ok k a _ ha e2
                exact .obj h0 h (nlive_kill hh ha) q (r.ext kb)⟩
  obtain ⟨ρ', μ', e, ex, hr, hs'⟩ := key
  rw [e] at hm
  exact ⟨π, ρ', μ', r, hs', hr, hm, hp.pull ex⟩
theorem lift_ok {α β : Type} {rp : PL → Store → Hp → β → α → Prop} {m : Env → M α} {k : α → Env → Store → Option SR} {D : Ends} {σ : L2.St} {H : Hp} (h : TSd X.K X.mg Wx (liftE m k) D σ H) :
    Run X.K X.mg rp Wx m σ H fun b H1 => ∃ a π ρ μ r, rp π μ H1 b a ∧ SRel X.K X.mg π μ H1 σ ρ ∧ HRel X.K X.mg π μ H1 ∧ k a ρ μ = some r ∧ PostS X.K X.mg Wx π μ H1 D r := by
  obtain ⟨π, ρ, μ, r, hs, hh, hm, hp⟩ := h
  unfold liftE at hm
  cases e : m ρ μ with
  | none => rw [e] at hm; cases hm
  | some q =>
    rw [e] at hm
    cases q with
    | ok a μ1 => exact ⟨π, ρ, μ, _, hs, hh, e, fun π' b H' ex hr rb => ⟨a, π', ρ, μ1, r, rb, hs.ext ex, hr, hm, hp.pull ex⟩⟩
    | ex n μ1 =>
      cases hm
      exact ⟨π, ρ, μ, _, hs, hh, e, fun π' H' c ex hr hc => hp π' σ H' c ex hr (hs.ext ex) hc⟩
theorem qs_pass : QS X Wx (.Pass pos) dSkip := ps_imp ps_pass fun D σ H ⟨π, ρ, μ, r, hs, hh, hm, hp⟩ => by
  cases hm
  exact hp π σ H .refl hh hs
def dBrk : DS := fun ρ μ => some (.bk ρ μ)
theorem qs_break : QS X Wx (.Break pos) dBrk := ps_imp ps_break fun D σ H ⟨π, ρ, μ, r, hs, hh, hm, hp⟩ => by
  cases hm
  exact hp π σ H .refl hh hs
theorem qs_expr (he : QE X Wx e me) (hs : swapsWith e none pos.line X.env = pure false := by rfl) : QS X Wx (.Expr e pos) (dExpr me) := ps_imp (ps_expr he hs) fun D σ H h => by
  refine (lift_ok (rp := RepW X.K X.mg) h).mono fun v H1 ⟨w, π, ρ, μ, r, rw, hs, hh, hk, hp⟩ => ?_
  cases hk
  exact hp π σ H1 .refl hh hs
theorem qs_ret (he : QE X Wx e me) : QS X Wx (.Return (some e) pos) (dRet me) := ps_imp (ps_ret he) fun D σ H h => by
  refine (lift_ok (rp := RepW X.K X.mg) h).mono fun v H1 ⟨w, π, ρ, μ, r, rw, hs, hh, hk, hp⟩ => ?_
  cases hk
  exact hp π v H1 .refl hh rw
theorem qs_retN : QS X Wx (.Return none pos) dRetN := ps_imp ps_retN fun D σ H ⟨π, ρ, μ, r, hs, hh, hm, hp⟩ => by
  cases hm
  exact hp π .non H .refl hh .non
theorem qs_if {c : Expr} {a b : List Stmt} {mc : Env → M Bool} (hc : QT X Wx c mc) (ha : QSs X Wx a ms) (hb : QSs X Wx b ms2) : QS X Wx (.If c a b pos) (dIf mc ms ms2) := ps_imp (ps_if hc ha hb) fun D σ H h => by
  refine (lift_ok (rp := IsB) h).mono fun k H1 ⟨w, π, ρ, μ, r, rw, hs, hh, hk, hp⟩ => ?_
  cases rw
  cases k with
  | true => exact ⟨π, ρ, μ, r, hs, hh, hk, hp⟩
  | false => exact ⟨π, ρ, μ, r, hs, hh, hk, hp⟩
/-! targets -/
theorem qg_name {i : Nat} {x : Str} (hN : X.N.Nodup) (hi : X.N[i]? = some x) (hx : Loc X.env.scope x) (hf : X.fn x = true ∨ X.env.scope.names.lookup x = some .local := by first | exact .inl rfl | exact .inr rfl | assumption) : QG X Wx (.Name x pos) (gNm i) :=
  pg_imp (pg_name hN hi hx hf) fun v σ H Q ⟨π, ρ, μ, w, r, hs, hh, rw, hm, hp⟩ => by
    cases hm
    exact hp π _ H .refl hh (hs.set rw)
theorem qgs_nil : QGs X Wx [] gsNil := pgs_imp pgs_nil fun v σ H Q ⟨π, ρ, μ, ds, r, hs, hh, rw, hm, hp⟩ => by
  cases rw with
  | nil =>
    cases hm
    exact ⟨rfl, hp π σ H .refl hh hs⟩
  | cons _ _ => cases hm
theorem qgs_cons {t : Expr} {ts : List Expr} {g : DG} {gs : DGs} (h1 : QG X Wx t g) (h2 : QGs X Wx ts gs) (nx : ∀ w ρ μ n μ', g w ρ μ ≠ some (.ex n μ')) (nx2 : ∀ ds ρ μ n μ', gs ds ρ μ ≠ some (.ex n μ')) (hsa : (assignEach (t :: ts) X.env).map (·.2) = assign t X.env :: (assignEach ts X.env).map (·.2) := by rfl) : QGs X Wx (t :: ts) (gsCons g gs) := pgs_imp (pgs_cons h1 h2 hsa) fun v σ H Q ⟨π, ρ, μ, ds, r, hs, hh, rw, hm, hp⟩ => by
  cases rw with
  | nil => cases hm
  | @cons v vs d ds r1 r2 =>
    refine ⟨v, vs, rfl, ?_⟩
    rcases bnd_some hm with ⟨ρ1, μ1, e1, e2⟩ | ⟨n, μ1, e1, _⟩
    · refine ⟨π, ρ, μ, .p d, _, hs, hh, r1, e1, fun π' σ' H' ex hr hs' => ?_⟩
      refine ⟨π', ρ1, μ1, ds, r, hs', hr, r2.ext ex.toKp, e2, ?_⟩
      cases r with
      | ok ρ2 μ2 => exact fun π2 s H2 e2 hr rb => hp π2 s H2 (ex.trans e2) hr rb
      | ex n μ2 => exact absurd e2 (nx2 _ _ _ _ _)
    · exact absurd e1 (nx _ _ _ _ _)
theorem qg_tup {ts : List Expr} {k n : Nat} {gs : DGs} (hc : X.calm = true) (h : QGs X Wx ts gs) (hn : ts.length = n) (hg : PG X (.Tuple ts k pos) (gTup X.K n (TGsd X.K X.mg Wx gs))) : QG X Wx (.Tuple ts k pos) (gTp n gs) := pg_imp hg fun v σ H Q ⟨π, ρ, μ, w, r, hs, hh, rw, hm, hp⟩ => by
  unfold gTp at hm
  split at hm
  · rename_i ds
    split at hm
    · rename_i hl
      obtain ⟨a, vs, rfl, h1, n1, r1⟩ := rep_tup rw
      exact ⟨a, vs, rfl, .of h1, by rw [r1.length]; exact hl, π, ρ, μ, ds, r, hs, hh, r1, hm, hp⟩
    · cases hm
  · cases hm
theorem asg_ok {g : DG} {D : Ends} {σ : L2.St} {H : Hp} (h : TSd X.K X.mg Wx (dAsg me g) D σ H) : TEd X.K X.mg Wx me σ H fun v H1 => TGd X.K X.mg Wx g v σ H1 D.nx := by
  refine (lift_ok (rp := RepW X.K X.mg) h).mono fun v H1 ⟨w, π, ρ, μ, r, rw, hs, hh, hk, hp⟩ => ?_
  split at hk
  · rename_i ρ' μ' e1
    cases hk
    exact ⟨π, ρ, μ, w, _, hs, hh, rw, e1, hp⟩
  · rename_i n μ' e1
    cases hk
    exact ⟨π, ρ, μ, w, _, hs, hh, rw, e1, fun π' H' c ex hr hc => hp π' σ H' c ex hr (hs.ext ex) hc⟩
  · cases hk
theorem qs_asg {tg : Expr} {g : DG} (he : QE X Wx e me) (hg : QG X Wx tg g) (hs : swapsWithSole [tg] e pos.line X.env = pure false := by rfl) (hw : swappedStores [tg] e X.env = pure none := by rfl) (h : PS X (.Assign [tg] e pos) (tAsg (TEd X.K X.mg Wx me) (TGd X.K X.mg Wx g)) := by exact ps_asg he hg hs hw) : QS X Wx (.Assign [tg] e pos) (dAsg me g) :=
  ps_imp h fun D σ H h => asg_ok h
def dSet (i : Nat) (m : DE) : DS := dAsg m (gNm i)
theorem qs_set {i : Nat} {x : Str} {pos' : Pos} (hN : X.N.Nodup) (hi : X.N[i]? = some x) (hx : Loc X.env.scope x) (he : QE X Wx e me) (hs : swapsWith e (some (.Name x pos')) pos.line X.env = pure false := by rfl) (hf : X.fn x = true ∨ X.env.scope.names.lookup x = some .local := by first | exact .inl rfl | exact .inr rfl | assumption) :
    QS X Wx (.Assign [.Name x pos'] e pos) (dSet i me) := ps_imp (ps_set hN hi hx he hs hf) fun D σ H h => by
  refine (asg_ok h).mono fun v H1 ⟨π, ρ, μ, w, r, hs, hh, rw, hm, hp⟩ => ?_
  cases hm
  exact hp π _ H1 .refl hh (hs.set rw)
/-! for -/
theorem for_ok {mi : DI} {g : DG} {tb : DS} {D : Ends} {σ : L2.St} {H : Hp} (h : TSd X.K X.mg Wx (dFor mi g tb) D σ H) : tFor (TId X.K X.mg Wx mi) (TGd X.K X.mg Wx g) (TSd X.K X.mg Wx tb) D σ H := by
  refine (lift_ok (rp := ItOk X.K X.mg) h).mono fun J H1 ⟨ds, π1, ρ1, μ1, r1, it, hs1, hh1, hk1, hp1⟩ => ?_
  refine ⟨fun i m σ H => i ≤ ds.length ∧ m = ds.length - i ∧ ∃ π ρ μ r, Ext π1 μ1 H1 π μ H ∧ SRel X.K X.mg π μ H σ ρ ∧ HRel X.K X.mg π μ H ∧ loopD g tb (ds.drop i) ρ μ = some r ∧ PostS X.K X.mg Wx π μ H D r, ⟨ds.length, Nat.zero_le _, rfl, π1, ρ1, μ1, r1, .refl, hs1, hh1, by rw [List.drop_zero]; exact hk1, hp1⟩, ?_⟩
  rintro i m σ H ⟨hi, rfl, π, ρ, μ, r, ex, hs, hh, hl, hp⟩
  obtain ⟨st, go⟩ := it π μ H ex.toKp hh
  by_cases hd : i < ds.length
  · have hdr : ds.drop i = ds[i] :: ds.drop (i + 1) := List.drop_eq_getElem_cons hd
    rw [hdr] at hl
    obtain ⟨g1, y1⟩ := go i ds[i] (List.getElem?_eq_getElem hd)
    refine .inr ⟨g1, fun σ' H' => ∃ π' ρ' μ', Ext π μ H π' μ' H' ∧ SRel X.K X.mg π' μ' H' σ' ρ' ∧ HRel X.K X.mg π' μ' H' ∧ loopD g tb (ds.drop (i + 1)) ρ' μ' = some r, fun σ' H' ⟨π', ρ', μ', e', s', h', l'⟩ => ?_, fun x H' hy => ?_⟩
    · exact ⟨ds.length - (i + 1), by omega, by omega, rfl, π', ρ', μ', r, ex.trans e', s', h', l', hp.pull e'⟩
    · obtain ⟨e2, h2, rx⟩ := y1 x H' hy
      unfold loopD at hl
      cases eg : g (.p ds[i]) ρ μ with
      | none => rw [eg] at hl; cases hl
      | some q =>
        rw [eg] at hl
        refine ⟨π, ρ, μ, .p ds[i], q, hs.ext e2, h2, rx, eg, ?_⟩
        cases q with
        | ex n μ2 =>
          cases hl
          exact fun π' H' c e3 hr hc => hp π' σ H' c (e2.trans e3) hr ((hs.ext e2).ext e3) hc
        | ok ρ2 μ2 =>
          intro π3 σ3 H3 e3 hr3 hs3
          simp only at hl
          cases eb : tb ρ2 μ2 with
          | none => rw [eb] at hl; cases hl
          | some rb =>
            rw [eb] at hl
            refine ⟨π3, ρ2, μ2, rb, hs3, hr3, eb, ?_⟩
            cases rb with
            | nx ρ4 μ4 => exact fun π4 σ4 H4 e4 hr4 hs4 => ⟨π4, ρ4, μ4, (e2.trans e3).trans e4, hs4, hr4, hl⟩
            | ct ρ4 μ4 => exact fun π4 σ4 H4 e4 hr4 hs4 => ⟨π4, ρ4, μ4, (e2.trans e3).trans e4, hs4, hr4, hl⟩
            | bk ρ4 μ4 =>
              cases hl
              exact fun π4 σ4 H4 e4 hr4 hs4 => hp π4 σ4 H4 ((e2.trans e3).trans e4) hr4 hs4
            | rt w μ4 =>
              cases hl
              exact fun π4 v4 H4 e4 hr4 hs4 => hp π4 v4 H4 ((e2.trans e3).trans e4) hr4 hs4
            | ex n ρ4 μ4 =>
              cases hl
              exact fun π4 σ4 H4 c e4 hr4 hs4 hc => hp π4 σ4 H4 c ((e2.trans e3).trans e4) hr4 hs4 hc
  · have hd0 : i = ds.length := by omega
    subst hd0
    rw [List.drop_length] at hl
    cases hl
    exact .inl ⟨st, hp π σ H .refl hh hs⟩
theorem qs_for {tg iter : Expr} {body : List Stmt} {mi : DI} {g : DG} {mb : DS} (hp : PassesOwn (model X.prog X.w) X.A X.env X.xe) (hc : X.calm = true) (hi : QI X Wx tg iter mi) (hg : QG X Wx tg g) (hb : QSs X Wx body mb)
    (h : PS X (.For tg iter body [] pos) (tFor (TId X.K X.mg Wx mi) (TGd X.K X.mg Wx g) (TSd X.K X.mg Wx mb))) : QS X Wx (.For tg iter body [] pos) (dFor mi g mb) := ps_imp h fun D σ H h => for_ok h
/-! while -/
theorem while_ok {c : Env → M Bool} {tb : DS} {N : Nat} {D : Ends} {σ : L2.St} {H : Hp} (h : TSd X.K X.mg Wx (whileD c tb N) D σ H) : tWhile (TTd X.K X.mg Wx c) (TSd X.K X.mg Wx tb) D σ H := by
  obtain ⟨π, ρ, μ, r, hs, hh, hm, hp⟩ := h
  refine ⟨fun m σ H => ∃ π ρ μ r, SRel X.K X.mg π μ H σ ρ ∧ HRel X.K X.mg π μ H ∧ whileD c tb m ρ μ = some r ∧ PostS X.K X.mg Wx π μ H D r, ⟨N, π, ρ, μ, r, hs, hh, hm, hp⟩, ?_⟩
  rintro m σ H ⟨π, ρ, μ, r, hs, hh, hm, hp⟩
  cases m with
  | zero => cases hm
  | succ m =>
    unfold whileD at hm
    cases ec : c ρ μ with
    | none => rw [ec] at hm; cases hm
    | some q =>
      rw [ec] at hm
      refine ⟨π, ρ, μ, q, hs, hh, ec, ?_⟩
      cases q with
      | ex n μ2 =>
        cases hm
        exact fun π' H' c e3 hr hc => hp π' σ H' c e3 hr (hs.ext e3) hc
      | ok k μ2 =>
        intro π3 b H3 e3 hr3 hb
        cases hb
        cases k with
        | false =>
          cases hm
          exact hp π3 σ H3 e3 hr3 (hs.ext e3)
        | true =>
          simp only at hm
          cases eb : tb ρ μ2 with
          | none => rw [eb] at hm; cases hm
          | some rb =>
            rw [eb] at hm
            refine ⟨fun σ' H' => ∃ π' ρ' μ', Ext π μ H π' μ' H' ∧ SRel X.K X.mg π' μ' H' σ' ρ' ∧ HRel X.K X.mg π' μ' H' ∧ whileD c tb m ρ' μ' = some r, fun σ' H' ⟨π', ρ', μ', e', s', h', l'⟩ => ⟨m, Nat.lt_succ_self m, π', ρ', μ', r, s', h', l', hp.pull e'⟩, ?_⟩
            refine ⟨π3, ρ, μ2, rb, hs.ext e3, hr3, eb, ?_⟩
            cases rb with
            | nx ρ4 μ4 => exact fun π4 σ4 H4 e4 hr4 hs4 => ⟨π4, ρ4, μ4, e3.trans e4, hs4, hr4, hm⟩
            | ct ρ4 μ4 => exact fun π4 σ4 H4 e4 hr4 hs4 => ⟨π4, ρ4, μ4, e3.trans e4, hs4, hr4, hm⟩
            | bk ρ4 μ4 =>
              cases hm
              exact fun π4 σ4 H4 e4 hr4 hs4 => hp π4 σ4 H4 (e3.trans e4) hr4 hs4
            | rt w μ4 =>
              cases hm
              exact fun π4 v4 H4 e4 hr4 hs4 => hp π4 v4 H4 (e3.trans e4) hr4 hs4
            | ex n ρ4 μ4 =>
              cases hm
              exact fun π4 σ4 H4 c e4 hr4 hs4 hc => hp π4 σ4 H4 c (e3.trans e4) hr4 hs4 hc
theorem qs_while {c : Expr} {body : List Stmt} {mc : Env → M Bool} {mb : DS} (N : Nat) (hp : PassesOwn (model X.prog X.w) X.A X.env X.xe) (hc : QT X Wx c mc) (hb : QSs X Wx body mb) : QS X Wx (.While c body [] pos) (whileD mc mb N) := ps_imp (ps_while hp hc hb) fun D σ H h => while_ok h
end
end Q

set_option Elab.async false
set_option linter.all false
set_option maxRecDepth 100000
/-! Q11: what is walked; comprehensions. -/
namespace Q
open PySem PySem.Spec PyProof.Rows L2 RZ RT
section
variable {X : Cx} {Wx : WX} {tg it e e2 : Expr} {me : DE} {mas : Env → M (List W)} {pos p tpos : Pos} {elts : List Expr} {kk : Nat}
/-- data in a row -/
def seqP : W → Option (List D)
  | .p (.lst l) => some l
  | .p (.tup l) => some l
  | .p (.scr l) => some l
  | _ => none
def lstP : W → Option (List D)
  | .p (.lst l) => some l
  | .p (.scr l) => some l
  | _ => none
theorem seqP_ok {π : PL} {μ : Store} {H : Hp} {v : V} {w : W} {l : List D} (r : RepW X.K X.mg π μ H v w) (e : seqP w = some l) :
    ∃ a, v = .ref a ∧ ((∀ π1 μ1 H1, Kp π μ H π1 μ1 H1 → ∃ vs, SqL X.K H1 a vs ∧ Reps X.K X.mg π1 μ1 H1 vs l) ∨ (∀ π1 μ1 H1, Kp π μ H π1 μ1 H1 → ∃ vs, SqT X.K H1 a vs ∧ Reps X.K X.mg π1 μ1 H1 vs l)) := by
  unfold seqP at e
  split at e
  · cases e
    cases id r with
    | lst h n rs => exact ⟨_, rfl, .inl fun π1 μ1 H1 ex => ⟨_, .of (ex.kp _ _ h n (fun z => z)).1, rs.ext ex⟩⟩
  · cases e
    cases id r with
    | tup h n rs => exact ⟨_, rfl, .inr fun π1 μ1 H1 ex => ⟨_, .of (ex.kp _ _ h n (fun z => z)).1, rs.ext ex⟩⟩
  · cases e
    cases id r with
    | scr h rs =>
      rcases h with ⟨⟨o, h⟩, n⟩ | h
      · exact ⟨_, rfl, .inl fun π1 μ1 H1 ex => ⟨_, .inl (.inr ⟨o, (ex.kp _ _ h n (fun z => z)).1⟩), rs.ext ex⟩⟩
      · exact ⟨_, rfl, .inl fun π1 μ1 H1 ex => ⟨_, .inr h, rs.ext ex⟩⟩
  · cases e
theorem lstP_ok {π : PL} {μ : Store} {H : Hp} {v : V} {w : W} {l : List D} (r : RepW X.K X.mg π μ H v w) (e : lstP w = some l) :
    ∃ a, v = .ref a ∧ (∀ π1 μ1 H1, Kp π μ H π1 μ1 H1 → ∃ vs, SqL X.K H1 a vs ∧ Reps X.K X.mg π1 μ1 H1 vs l) := by
  unfold lstP at e
  split at e
  · cases e
    cases id r with
    | lst h n rs => exact ⟨_, rfl, fun π1 μ1 H1 ex => ⟨_, .of (ex.kp _ _ h n (fun z => z)).1, rs.ext ex⟩⟩
  · cases e
    cases id r with
    | scr h rs =>
      rcases h with ⟨⟨o, h⟩, n⟩ | h
      · exact ⟨_, rfl, fun π1 μ1 H1 ex => ⟨_, .inl (.inr ⟨o, (ex.kp _ _ h n (fun z => z)).1⟩), rs.ext ex⟩⟩
      · exact ⟨_, rfl, fun π1 μ1 H1 ex => ⟨_, .inr h, rs.ext ex⟩⟩
  · cases e
/-- a list or a tuple is walked -/
theorem pi_seq {l : Expr} {tl : TE} (hl : PE X l tl) : PI X tg l (fun σ H R => tl σ H fun x H1 => ∃ a, x = .ref a ∧ (((∃ xs, SqL X.K H1 a xs) ∧ R (Itl X.K a) H1) ∨ ((∃ xs, SqT X.K H1 a xs) ∧ R (Itt X.K a) H1))) := by
  refine ⟨fun pins s σ H R I h => ?_⟩
  refine thn (hl.run pins s σ H _ I h) fun v s1 ⟨x, H1, I1, r1, q1⟩ => ?_
  obtain ⟨a, e, q1⟩ := q1
  subst e
  cases r1
  rcases q1 with ⟨⟨xs, hq⟩, q⟩ | ⟨⟨xs, hq⟩, q⟩
  · obtain ⟨its, rv, p, hz⟩ := I1.list hq
    refine wpAny_pyIter_list p.isList ?_
    refine ⟨s1.heap.objs.size, [s1.heap.objs.size], _, _, H1, rfl, I1.kept (t' := s1.toks) fun b o e => Heap.get?_push_of_some _ e, turn_list a _, ⟨_, Heap.get?_push_size _ rfl, rfl, rfl⟩, fun b hb => ?_, q⟩
    have e : b = s1.heap.objs.size := by simpa using hb
    subst e
    exact I1.fpOk (Nat.le_refl _) (I1.hok.fresh (Nat.le_refl _))
  · obtain ⟨its, rv, p, hz⟩ := I1.tuple hq
    refine wpAny_pyIter_tuple (show s1.heap.IsTuple a its.toArray from p) ?_
    refine ⟨s1.heap.objs.size, [s1.heap.objs.size], _, _, H1, rfl, I1.kept (t' := s1.toks) fun b o e => Heap.get?_push_of_some _ e, turn_tuple a _, ⟨_, Heap.get?_push_size _ rfl, rfl, rfl⟩, fun b hb => ?_, q⟩
    have e : b = s1.heap.objs.size := by simpa using hb
    subst e
    exact I1.fpOk (Nat.le_refl _) (I1.hok.fresh (Nat.le_refl _))
/-- of one value: what is walked -/
def iOf (f : W → Option (List D)) (m : DE) : DI := fun ρ => bnd (m ρ) fun w => opt (f w)
theorem run_iOf {f : W → Option (List D)} {σ : L2.St} {H : Hp} {R : It → Hp → Prop} (h : TId X.K X.mg Wx (iOf f me) σ H R) : TEd X.K X.mg Wx me σ H fun v H1 => ∃ (π : PL) (μ : Store) (w : W) (ds : List D), HRel X.K X.mg π μ H1 ∧ RepW X.K X.mg π μ H1 v w ∧ f w = some ds ∧ ∀ J, ItOk X.K X.mg π μ H1 J ds → R J H1 := by
  refine (run_bind (rpa := RepW X.K X.mg) (f := fun w _ => opt (f w)) h).mono fun v H1 h1 => ?_
  obtain ⟨π, ρ, μ, w, r', hs, hh, rq, hm, hp⟩ := h1
  obtain ⟨ds, e, rfl⟩ := opt_inv hm
  exact ⟨π, μ, w, ds, hh, rq, e, fun J hJ => hp.here hh hJ⟩
theorem itOk_list {π : PL} {μ : Store} {H : Hp} {a : Addr} {l : List D} (h : ∀ π1 μ1 H1, Kp π μ H π1 μ1 H1 → ∃ vs, SqL X.K H1 a vs ∧ Reps X.K X.mg π1 μ1 H1 vs l) : ItOk X.K X.mg π μ H (Itl X.K a) l := by
  intro π1 μ1 H1 ex hr
  obtain ⟨vs, hq, rs⟩ := h π1 μ1 H1 ex
  refine ⟨⟨vs, hq, by rw [rs.length]; exact Nat.le_refl _⟩, fun i d hd => ?_⟩
  obtain ⟨x, hx, rx⟩ := rs.get hd
  refine ⟨⟨vs, x, hq, hx⟩, fun y H2 hy => ?_⟩
  obtain ⟨rfl, h2⟩ := hy
  have q := h2 vs hq
  rw [hx] at q
  cases q
  exact ⟨.refl, hr, rx⟩
theorem itOk_tup {π : PL} {μ : Store} {H : Hp} {a : Addr} {l : List D} (h : ∀ π1 μ1 H1, Kp π μ H π1 μ1 H1 → ∃ vs, SqT X.K H1 a vs ∧ Reps X.K X.mg π1 μ1 H1 vs l) : ItOk X.K X.mg π μ H (Itt X.K a) l := by
  intro π1 μ1 H1 ex hr
  obtain ⟨vs, hq, rs⟩ := h π1 μ1 H1 ex
  refine ⟨⟨vs, hq, by rw [rs.length]; exact Nat.le_refl _⟩, fun i d hd => ?_⟩
  obtain ⟨x, hx, rx⟩ := rs.get hd
  refine ⟨⟨vs, x, hq, hx⟩, fun y H2 hy => ?_⟩
  obtain ⟨rfl, h2⟩ := hy
  have q := h2 vs hq
  rw [hx] at q
  cases q
  exact ⟨.refl, hr, rx⟩
theorem qi_seq (he : QE X Wx e me) : QI X Wx tg e (iOf seqP me) := pi_imp (pi_seq he) fun σ H R h => (run_iOf h).mono fun v H1 ⟨π, μ, w, ds, hh, rw, hf, hR⟩ => by
  obtain ⟨a, rfl, hq⟩ := seqP_ok rw hf
  refine ⟨a, rfl, ?_⟩
  rcases hq with hq | hq
  · obtain ⟨vs, h1, _⟩ := hq _ _ _ .refl
    exact .inl ⟨⟨vs, h1⟩, hR _ (itOk_list hq)⟩
  · obtain ⟨vs, h1, _⟩ := hq _ _ _ .refl
    exact .inr ⟨⟨vs, h1⟩, hR _ (itOk_tup hq)⟩
/-! a text -/
def strP : W → Option (List D)
  | .p (.str z) => some (z.cps.toList.map fun c => .str ⟨#[c]⟩)
  | _ => none
theorem qi_str (he : QE X Wx e me) : QI X Wx tg e (iOf strP me) := pi_imp (pi_str he) fun σ H R h => (run_iOf h).mono fun v H1 ⟨π, μ, w, ds, hh, rw, hf, hR⟩ => by
  unfold strP at hf
  split at hf
  · rename_i z
    cases hf
    refine ⟨z, rep_str rw, hR _ fun π1 μ1 H2 ex hr => ⟨?_, fun i d hd => ?_⟩⟩
    · show z.cps.size ≤ _
      simp
    · rw [List.getElem?_map] at hd
      cases e1 : z.cps.toList[i]? with
      | none => rw [e1] at hd; cases hd
      | some c =>
        rw [e1] at hd
        cases hd
        have e2 : z.cps[i]? = some c := by rw [← Array.getElem?_toList]; exact e1
        have hi : i < z.cps.size := by
          have := (List.getElem?_eq_some_iff.mp e1).1
          simpa using this
        refine ⟨hi, fun y H3 ⟨h1, c', h2, h3⟩ => ?_⟩
        subst h1; subst h3
        rw [e2] at h2
        cases h2
        exact ⟨.refl, hr, .str _⟩
  · cases hf
/-! range -/
def iOfN (f : List W → Option (List D)) (m : Env → M (List W)) : DI := fun ρ => bnd (m ρ) fun w => opt (f w)
theorem run_iOfN {f : List W → Option (List D)} {σ : L2.St} {H : Hp} {R : It → Hp → Prop} (h : TId X.K X.mg Wx (iOfN f mas) σ H R) : TAd X.K X.mg Wx mas σ H fun vs H1 => ∃ (π : PL) (μ : Store) (ws : List W) (ds : List D), HRel X.K X.mg π μ H1 ∧ RepWs X.K X.mg π μ H1 vs ws ∧ f ws = some ds ∧ ∀ J, ItOk X.K X.mg π μ H1 J ds → R J H1 := by
  refine (run_bind (rpa := RepWs X.K X.mg) (f := fun w _ => opt (f w)) h).mono fun v H1 h1 => ?_
  obtain ⟨π, ρ, μ, w, r', hs, hh, rq, hm, hp⟩ := h1
  obtain ⟨ds, e, rfl⟩ := opt_inv hm
  exact ⟨π, μ, w, ds, hh, rq, e, fun J hJ => hp.here hh hJ⟩
def upto (lo c : Int) (n : Nat) : List D := (List.range n).map fun i => .int (lo + (i : Nat) * c)
theorem itOk_rng {π : PL} {μ : Store} {H : Hp} {lo : Int} {n : Nat} : ItOk X.K X.mg π μ H (Itr lo n) (upto lo 1 n) := by
  intro π1 μ1 H1 ex hr
  refine ⟨by show n ≤ _; simp [upto], fun i d hd => ?_⟩
  unfold upto at hd
  rw [List.getElem?_map] at hd
  cases e1 : (List.range n)[i]? with
  | none => rw [e1] at hd; cases hd
  | some j =>
    rw [e1] at hd
    cases hd
    obtain ⟨hi, hj⟩ := List.getElem?_eq_some_iff.mp e1
    rw [List.getElem_range] at hj
    subst hj
    rw [List.length_range] at hi
    refine ⟨hi, fun y H3 ⟨h1, h2⟩ => ?_⟩
    subst h1; subst h2
    refine ⟨.refl, hr, ?_⟩
    show Rep _ _ _ _ _ (V.int (lo + i)) (.int (lo + (i : Nat) * (1 : Int)))
    have : lo + (i : Nat) * (1 : Int) = lo + i := by omega
    rw [this]
    exact .int _
theorem itOk_rngC {π : PL} {μ : Store} {H : Hp} {lo c : Int} {n : Nat} : ItOk X.K X.mg π μ H (Itc lo c n) (upto lo c n) := by
  intro π1 μ1 H1 ex hr
  refine ⟨by show n ≤ _; simp [upto], fun i d hd => ?_⟩
  unfold upto at hd
  rw [List.getElem?_map] at hd
  cases e1 : (List.range n)[i]? with
  | none => rw [e1] at hd; cases hd
  | some j =>
    rw [e1] at hd
    cases hd
    obtain ⟨hi, hj⟩ := List.getElem?_eq_some_iff.mp e1
    rw [List.getElem_range] at hj
    subst hj
    rw [List.length_range] at hi
    refine ⟨hi, fun y H3 ⟨h1, h2⟩ => ?_⟩
    subst h1; subst h2
    exact ⟨.refl, hr, .int _⟩
def sm (i : Int) : Bool := decide (-(2 ^ 62) ≤ i) && decide (i < 2 ^ 62)
def rng1 : List W → Option (List D)
  | [.p (.int j)] => if sm j = true then some (upto 0 1 j.toNat) else none
  | _ => none
def rng2 : List W → Option (List D)
  | [.p (.int i), .p (.int j)] => if (sm i && sm j) = true then some (upto i 1 (j - i).toNat) else none
  | _ => none
theorem qi_range1 {a : Expr} (hg : Gl X "range") (hm : X.mg "range" = none) (ha : QA X Wx [a] mas) (hs : starEach [a] X.env = [(false, eval a X.env)] := by rfl) : QI X Wx tg (.Call (.Name "range" p) [a] [] pos) (iOfN rng1 mas) :=
  pi_imp (pi_range1 hg hm ha hs) fun σ H R h => (run_iOfN h).mono fun vs H1 ⟨π, μ, ws, ds, hh, rw, hf, hR⟩ => by
    unfold rng1 at hf
    split at hf
    · rename_i j
      split at hf
      · rename_i hj
        cases hf
        match vs, rw with
        | [v], rw =>
          simp only [sm, Bool.and_eq_true, decide_eq_true_eq] at hj
          exact ⟨j, by rw [rep_int rw.1], hj.1, hj.2, hR _ itOk_rng⟩
      · cases hf
    · cases hf
theorem qi_range2 {a b : Expr} (hg : Gl X "range") (hm : X.mg "range" = none) (ha : QA X Wx [a, b] mas) (hs : starEach [a, b] X.env = [(false, eval a X.env), (false, eval b X.env)] := by rfl) (hs2 : starEach [b] X.env = [(false, eval b X.env)] := by rfl) : QI X Wx tg (.Call (.Name "range" p) [a, b] [] pos) (iOfN rng2 mas) :=
  pi_imp (pi_range2 hg hm ha hs hs2) fun σ H R h => (run_iOfN h).mono fun vs H1 ⟨π, μ, ws, ds, hh, rw, hf, hR⟩ => by
    unfold rng2 at hf
    split at hf
    · rename_i i j
      split at hf
      · rename_i hj
        cases hf
        match vs, rw with
        | [v, u], rw =>
          simp only [sm, Bool.and_eq_true, decide_eq_true_eq] at hj
          exact ⟨i, j, by rw [rep_int rw.1, rep_int rw.2.1], ⟨hj.1.1, hj.1.2, hj.2.1, hj.2.2⟩, hR _ itOk_rng⟩
      · cases hf
    · cases hf
/-- the turns of range(i, j, c), c above nought -/
def rngN (i j c : Int) : Nat := if i < j then ((j - i - 1) / c + 1).toNat else 0
def rng3 : List W → Option (List D)
  | [.p (.int i), .p (.int j), .p (.int c)] => if 0 < c ∧ c < 1000 ∧ 0 ≤ i ∧ i ≤ 1000000 ∧ 0 ≤ j ∧ j ≤ 1000000 then some (upto i c (rngN i j c)) else none
  | _ => none
theorem rngC_ok {i j c : Int} (h : 0 < c ∧ c < 1000 ∧ 0 ≤ i ∧ i ≤ 1000000 ∧ 0 ≤ j ∧ j ≤ 1000000) : RgC i j c (rngN i j c) := by
  obtain ⟨h1, h2, h3, h4, h5, h6⟩ := h
  have hq : i < j → 0 ≤ (j - i - 1) / c ∧ (j - i - 1) / c ≤ 1000000 := fun hl => by
    refine ⟨Int.ediv_nonneg (by omega) (by omega), ?_⟩
    have := Int.ediv_le_self c (a := j - i - 1) (by omega)
    omega
  have hs : Builtin.Range.rangeSize i j c = ((rngN i j c : Nat) : Int) := by
    unfold Builtin.Range.rangeSize rngN
    rw [if_pos h1]
    by_cases hl : i < j
    · rw [if_pos hl, if_pos hl]
      have := hq hl
      omega
    · rw [if_neg hl, if_neg hl]; rfl
  have hn : (rngN i j c : Int) ≤ 1000001 := by
    unfold rngN
    by_cases hl : i < j
    · rw [if_pos hl]
      have := hq hl
      omega
    · rw [if_neg hl]; decide
  refine ⟨by omega, by omega, ?_, hs⟩
  unfold Builtin.Range.small
  rw [hs]
  simp only [Builtin.Range.rangeFitsLong, Bool.and_eq_true, Bool.or_eq_true, decide_eq_true_eq, beq_iff_eq, if_pos h1]
  omega
theorem qi_range3 {a b c : Expr} (hg : Gl X "range") (hm : X.mg "range" = none) (ha : QA X Wx [a, b, c] mas) (hs : starEach [a, b, c] X.env = (false, eval a X.env) :: starEach [b, c] X.env := by rfl) (hpl : (backTo pos (starEach [b, c] X.env)).any (·.1) = false := by rfl) :
    QI X Wx tg (.Call (.Name "range" p) [a, b, c] [] pos) (iOfN rng3 mas) :=
  pi_imp (pi_range3 hg hm ha hs hpl) fun σ H R h => (run_iOfN h).mono fun vs H1 ⟨π, μ, ws, ds, hh, rw, hf, hR⟩ => by
    unfold rng3 at hf
    split at hf
    · rename_i i j c
      split at hf
      · rename_i hj
        cases hf
        match vs, rw with
        | [v, u, w], rw => exact ⟨i, j, c, _, by rw [rep_int rw.1, rep_int rw.2.1, rep_int rw.2.2.1], rngC_ok hj, hR _ itOk_rngC⟩
      · cases hf
    · cases hf
/-! enumerate, zip, reversed -/
def numbered : Nat → List D → List D
  | _, [] => []
  | n, d :: ds => .tup [.int (n : Nat), d] :: numbered (n + 1) ds
theorem numbered_get : ∀ {l : List D} {n i : Nat}, (numbered n l)[i]? = (l[i]?).map fun d => .tup [.int ((n + i : Nat) : Int), d]
  | [], _, _ => by simp [numbered]
  | d :: l, n, 0 => by simp [numbered]
  | d :: l, n, i + 1 => by
    simp only [numbered, List.getElem?_cons_succ]
    rw [numbered_get]
    have : n + 1 + i = n + (i + 1) := by omega
    rw [this]
theorem numbered_len : ∀ {l : List D} {n : Nat}, (numbered n l).length = l.length
  | [], _ => rfl
  | d :: l, n => by simp [numbered, numbered_len]
def enumP : List W → Option (List D)
  | [w] => (lstP w).map (numbered 0)
  | _ => none
theorem qi_enum (hg : Gl X "enumerate") (hm : X.mg "enumerate" = none) (ha : QA X Wx [e] mas) (hs : starEach [e] X.env = [(false, eval e X.env)] := by rfl) : QI X Wx (.Tuple elts kk tpos) (.Call (.Name "enumerate" p) [e] [] pos) (iOfN enumP mas) :=
  pi_imp (pi_enum hg hm ha hs) fun σ H R h => (run_iOfN h).mono fun vs H1 ⟨π, μ, ws, ds, hh, rw, hf, hR⟩ => by
    unfold enumP at hf
    split at hf
    · rename_i w
      obtain ⟨l, e1, rfl⟩ := Option.map_eq_some_iff.mp hf
      match vs, rw with
      | [v], rw =>
        obtain ⟨a, rfl, hq⟩ := lstP_ok rw.1 e1
        obtain ⟨vs, h1, _⟩ := hq _ _ _ .refl
        refine ⟨a, vs, rfl, h1, hR _ fun π1 μ1 H2 ex hr => ?_⟩
        obtain ⟨us, hu, rs⟩ := hq π1 μ1 H2 ex
        refine ⟨⟨us, hu, by rw [rs.length, numbered_len]; exact Nat.le_refl _⟩, fun i d hd => ?_⟩
        rw [numbered_get] at hd
        obtain ⟨d', e2, rfl⟩ := Option.map_eq_some_iff.mp hd
        obtain ⟨x, hx, rx⟩ := rs.get e2
        refine ⟨⟨us, x, hu, hx⟩, fun y H3 ⟨T, x', h2, h3, h4, h5⟩ => ?_⟩
        subst h2; subst h4
        have q := h5 us hu
        rw [hx] at q
        cases q
        have ep := (Ext.pure (π := π1) (μ := μ1) (o := .tup [.int ((i : Nat) : Int), x]) h3)
        refine ⟨ep, hr.pure h3, .tup upd_same (hr.nlive h3) (.cons ?_ (.cons (rx.ext ep.toKp) .nil))⟩
        rw [Nat.zero_add]
        exact .int _
    · cases hf
def pairUp : List D → List D → List D
  | a :: as, b :: bs => .tup [a, b] :: pairUp as bs
  | _, _ => []
theorem pairUp_get : ∀ {as bs : List D} {i : Nat} {d : D}, (pairUp as bs)[i]? = some d → ∃ a b, as[i]? = some a ∧ bs[i]? = some b ∧ d = .tup [a, b]
  | [], _, _, _, h => by simp [pairUp] at h
  | _ :: _, [], _, _, h => by simp [pairUp] at h
  | a :: as, b :: bs, 0, _, h => by simp [pairUp] at h; subst h; exact ⟨a, b, rfl, rfl, rfl⟩
  | a :: as, b :: bs, i + 1, d, h => by
    obtain ⟨x, y, h1, h2, h3⟩ := pairUp_get (as := as) (bs := bs) (i := i) (by simpa [pairUp] using h)
    exact ⟨x, y, by simpa using h1, by simpa using h2, h3⟩
theorem pairUp_len : ∀ {as bs : List D}, as.length ≤ (pairUp as bs).length ∨ bs.length ≤ (pairUp as bs).length
  | [], _ => .inl (by simp)
  | _ :: _, [] => .inr (by simp)
  | a :: as, b :: bs => by
    rcases pairUp_len (as := as) (bs := bs) with h | h
    · exact .inl (by simp [pairUp]; exact h)
    · exact .inr (by simp [pairUp]; exact h)
def tupP : W → Option (List D)
  | .p (.tup l) => some l
  | _ => none
theorem tupP_ok {π : PL} {μ : Store} {H : Hp} {v : V} {w : W} {l : List D} (r : RepW X.K X.mg π μ H v w) (e : tupP w = some l) :
    ∃ a, v = .ref a ∧ (∀ π1 μ1 H1, Kp π μ H π1 μ1 H1 → ∃ vs, SqT X.K H1 a vs ∧ Reps X.K X.mg π1 μ1 H1 vs l) := by
  unfold tupP at e
  split at e
  · cases e
    cases id r with
    | tup h n rs => exact ⟨_, rfl, fun π1 μ1 H1 ex => ⟨_, .of (ex.kp _ _ h n (fun z => z)).1, rs.ext ex⟩⟩
  · cases e
/-- zip of two lists, of two tuples -/
def zipP : List W → Option (List D)
  | [w, u] => match lstP w, lstP u with
    | some a, some b => some (pairUp a b)
    | _, _ => match tupP w, tupP u with
      | some a, some b => some (pairUp a b)
      | _, _ => none
  | _ => none
theorem qi_zip (hg : Gl X "zip") (hm : X.mg "zip" = none) (ha : QA X Wx [e, e2] mas) (hs : starEach [e, e2] X.env = (false, eval e X.env) :: starEach [e2] X.env := by rfl) (hpl : (backTo pos (starEach [e2] X.env)).any (·.1) = false := by rfl) :
    QI X Wx (.Tuple elts kk tpos) (.Call (.Name "zip" p) [e, e2] [] pos) (iOfN zipP mas) :=
  pi_imp (pi_zipA hg hm ha hs hpl) fun σ H R h => (run_iOfN h).mono fun vs H1 ⟨π, μ, ws, ds, hh, rw, hf, hR⟩ => by
    unfold zipP at hf
    split at hf
    · rename_i w u
      match vs, rw with
      | [v1, v2], rw =>
        split at hf
        · rename_i as bs e1 e2
          cases hf
          obtain ⟨a, rfl, hq⟩ := lstP_ok rw.1 e1
          obtain ⟨b, rfl, hq2⟩ := lstP_ok rw.2.1 e2
          obtain ⟨vs1, h1, _⟩ := hq _ _ _ .refl
          obtain ⟨vs2, h2, _⟩ := hq2 _ _ _ .refl
          refine ⟨a, b, vs1, vs2, rfl, .inl ⟨h1, h2, hR _ fun π1 μ1 H2 ex hr => ?_⟩⟩
          obtain ⟨us, hu, rs⟩ := hq π1 μ1 H2 ex
          obtain ⟨us2, hu2, rs2⟩ := hq2 π1 μ1 H2 ex
          refine ⟨⟨us, us2, hu, hu2, by rw [rs.length, rs2.length]; exact pairUp_len⟩, fun i d hd => ?_⟩
          obtain ⟨x, y, q1, q2, rfl⟩ := pairUp_get hd
          obtain ⟨x', hx, rx⟩ := rs.get q1
          obtain ⟨y', hy, ry⟩ := rs2.get q2
          refine ⟨⟨us, us2, x', y', hu, hu2, hx, hy⟩, fun z H3 ⟨T, x2, y2, g1, g2, g3, g4, g5⟩ => ?_⟩
          subst g1; subst g3
          have k1 := g4 us hu
          have k2 := g5 us2 hu2
          rw [hx] at k1; rw [hy] at k2
          cases k1; cases k2
          have ep := (Ext.pure (π := π1) (μ := μ1) (o := .tup [x', y']) g2)
          exact ⟨ep, hr.pure g2, .tup upd_same (hr.nlive g2) (.cons (rx.ext ep.toKp) (.cons (ry.ext ep.toKp) .nil))⟩
        · split at hf
          · rename_i as bs e1 e2
            cases hf
            obtain ⟨a, rfl, hq⟩ := tupP_ok rw.1 e1
            obtain ⟨b, rfl, hq2⟩ := tupP_ok rw.2.1 e2
            obtain ⟨vs1, h1, _⟩ := hq _ _ _ .refl
            obtain ⟨vs2, h2, _⟩ := hq2 _ _ _ .refl
            refine ⟨a, b, vs1, vs2, rfl, .inr ⟨h1, h2, hR _ fun π1 μ1 H2 ex hr => ?_⟩⟩
            obtain ⟨us, hu, rs⟩ := hq π1 μ1 H2 ex
            obtain ⟨us2, hu2, rs2⟩ := hq2 π1 μ1 H2 ex
            refine ⟨⟨us, us2, hu, hu2, by rw [rs.length, rs2.length]; exact pairUp_len⟩, fun i d hd => ?_⟩
            obtain ⟨x, y, q1, q2, rfl⟩ := pairUp_get hd
            obtain ⟨x', hx, rx⟩ := rs.get q1
            obtain ⟨y', hy, ry⟩ := rs2.get q2
            refine ⟨⟨us, us2, x', y', hu, hu2, hx, hy⟩, fun z H3 ⟨T, x2, y2, g1, g2, g3, g4, g5⟩ => ?_⟩
            subst g1; subst g3
            have k1 := g4 us hu
            have k2 := g5 us2 hu2
            rw [hx] at k1; rw [hy] at k2
            cases k1; cases k2
            have ep := (Ext.pure (π := π1) (μ := μ1) (o := .tup [x', y']) g2)
            exact ⟨ep, hr.pure g2, .tup upd_same (hr.nlive g2) (.cons (rx.ext ep.toKp) (.cons (ry.ext ep.toKp) .nil))⟩
          · cases hf
    · cases hf
end
/-! ### comprehensions -/
section
variable {K : PySem.W.Frag} {mg : Str → Option Value}
/-- one more address is another's -/
def PL.far (π : PL) (p : Addr) : PL := ⟨π.l, fun a => π.f a ∨ a = p⟩
theorem live_far {π : PL} {μ : Store} {p a : Addr} : live (π.far p) μ a ↔ live π μ a ∨ a = p := by
  unfold live PL.far
  constructor
  · rintro ((f | f) | h)
    · exact .inl (.inl f)
    · exact .inr f
    · exact .inl (.inr h)
  · rintro ((f | h) | f)
    · exact .inl (.inl f)
    · exact .inr h
    · exact .inl (.inr f)
def wipeE (ρ : Env) : List Nat → Env
  | [] => ρ
  | v :: vs => (wipeE ρ vs).set v none
theorem SRel.unset {π : PL} {μ : Store} {H : Hp} {σ : L2.St} {ρ : Env} (s : SRel K mg π μ H σ ρ) (i : Nat) : SRel K mg π μ H (σ.set i none) (ρ.set i none) := by
  refine ⟨by simp [s.len], fun j w h => ?_⟩
  by_cases e : i = j
  · subst e
    have hl : i < ρ.length := by simpa using (List.getElem?_eq_some_iff.mp h).1
    rw [List.getElem?_set_self hl] at h
    cases h
  · rw [List.getElem?_set_ne e] at h ⊢
    exact s.ok j w h
theorem SRel.wipe {π : PL} {μ : Store} {H : Hp} {σ : L2.St} {ρ : Env} (s : SRel K mg π μ H σ ρ) : ∀ vs : List Nat, SRel K mg π μ H (L2.wipe σ vs) (wipeE ρ vs)
  | [] => s
  | v :: vs => (SRel.wipe s vs).unset v
theorem SRel.kp {π π' : PL} {μ μ' : Store} {H H' : Hp} {σ : L2.St} {ρ : Env} (k : Kp π μ H π' μ' H') (pre : ∀ (j : Nat) (a : Addr), π.l[j]? = some a → π'.l[j]? = some a) (s : SRel K mg π μ H σ ρ) : SRel K mg π' μ' H' σ ρ :=
  ⟨s.len, fun i w h => by
    obtain ⟨v, h1, h2⟩ := s.ok i w h
    refine ⟨v, h1, ?_⟩
    cases w with
    | p d => exact Rep.ext k h2
    | l j => obtain ⟨a, rfl, ha⟩ := h2; exact ⟨a, rfl, pre _ _ ha⟩⟩
theorem wipe_set {σ : L2.St} {i : Nat} {v : V} : ∀ {vs : List Nat}, i ∈ vs → L2.wipe (σ.set i (some v)) vs = L2.wipe σ vs
  | u :: vs, h => by
    unfold L2.wipe
    by_cases e : i = u
    · subst e
      by_cases hm : i ∈ vs
      · rw [wipe_set hm]
      · have gen : ∀ {us : List Nat}, i ∉ us → L2.wipe (σ.set i (some v)) us = (L2.wipe σ us).set i (some v) := fun {us} => by
          induction us with
          | nil => intro _; rfl
          | cons u us ih =>
            intro hn
            unfold L2.wipe
            rw [ih (fun z => hn (List.mem_cons_of_mem _ z)), List.set_comm _ _ (fun z => hn (by rw [z]; exact List.mem_cons_self))]
        rw [gen hm, List.set_set]
    · rw [wipe_set ((List.mem_cons.mp h).resolve_left e)]
/-- a target that stores in the slots vs alone -/
def TgOk (K : PySem.W.Frag) (mg : Str → Option Value) (vs : List Nat) (t : TG) (g : DG) : Prop := ∀ (v : V) (σ : L2.St) (H : Hp) (Q : L2.St → Hp → Prop) (π : PL) (ρ ρ' : Env) (μ μ' : Store) (w : W),
  SRel K mg π μ H σ ρ → HRel K mg π μ H → RepW K mg π μ H v w → g w ρ μ = some (.ok ρ' μ') → (∀ σ', μ' = μ → SRel K mg π μ H σ' ρ' → L2.wipe σ' vs = L2.wipe σ vs → Q σ' H) → t v σ H Q
def TgsOk (K : PySem.W.Frag) (mg : Str → Option Value) (vs : List Nat) (t : TGs) (g : DGs) : Prop := ∀ (us : List V) (σ : L2.St) (H : Hp) (Q : L2.St → Hp → Prop) (π : PL) (ρ ρ' : Env) (μ μ' : Store) (ds : List D),
  SRel K mg π μ H σ ρ → HRel K mg π μ H → Reps K mg π μ H us ds → g ds ρ μ = some (.ok ρ' μ') → (∀ σ', μ' = μ → SRel K mg π μ H σ' ρ' → L2.wipe σ' vs = L2.wipe σ vs → Q σ' H) → t us σ H Q
theorem tg_name {vs : List Nat} {i : Nat} (hi : i ∈ vs) : TgOk K mg vs (gName i) (gNm i) := by
  intro v σ H Q π ρ ρ' μ μ' w hs hh rw hm q
  cases hm
  exact q _ rfl (hs.set rw) (wipe_set hi)
theorem tgs_nil {vs : List Nat} : TgsOk K mg vs gNil gsNil := by
  intro v σ H Q π ρ ρ' μ μ' w hs hh rw hm q
  cases rw with
  | nil => cases hm; exact ⟨rfl, q σ rfl hs rfl⟩
  | cons _ _ => cases hm
theorem tgs_cons {vs : List Nat} {t : TG} {ts : TGs} {g : DG} {gs : DGs} (h1 : TgOk K mg vs t g) (h2 : TgsOk K mg vs ts gs) : TgsOk K mg vs (gCons t ts) (gsCons g gs) := by
  intro v σ H Q π ρ ρ' μ μ' ds hs hh rw hm q
  cases rw with
  | nil => cases hm
  | @cons v vs d ds r1 r2 =>
    refine ⟨v, vs, rfl, ?_⟩
    rcases bnd_some hm with ⟨ρ1, μ1, e1, e2⟩ | ⟨n, μ1, e1, e2⟩
    · refine h1 v σ H _ π ρ ρ1 μ μ1 (.p d) hs hh r1 e1 fun σ' eμ hs' hw => ?_
      subst eμ
      exact h2 vs σ' H Q π ρ1 ρ' μ1 μ' ds hs' hh r2 e2 fun σ2 eμ2 hs2 hw2 => q σ2 eμ2 hs2 (hw2.trans hw)
    · cases e2
theorem tg_tup {vs : List Nat} {n : Nat} {ts : TGs} {gs : DGs} (h : TgsOk K mg vs ts gs) : TgOk K mg vs (gTup K n ts) (gTp n gs) := by
  intro v σ H Q π ρ ρ' μ μ' w hs hh rw hm q
  unfold gTp at hm
  split at hm
  · rename_i ds
    split at hm
    · rename_i hl
      obtain ⟨a, us, rfl, h1, n1, r1⟩ := rep_tup rw
      exact ⟨a, us, rfl, .of h1, by rw [r1.length]; exact hl, h us σ H Q π ρ ρ' μ μ' ds hs hh r1 hm q⟩
    · cases hm
  · cases hm
/-- the items of a comprehension; nothing may be raised in it -/
def compD (g : DG) (c : Env → M Bool) (m : DE) (ρ : Env) : List D → List D → Store → Option (List D × Store)
  | [], acc, μ => some (acc, μ)
  | d :: ds, acc, μ => match g (.p d) ρ μ with
    | some (.ok ρ1 μ1) => (match c ρ1 μ1 with
      | some (.ok true μ2) => (match m ρ1 μ2 with
        | some (.ok (.p y) μ3) => if acc.length < sizeLine then compD g c m ρ ds (acc ++ [y]) μ3 else none
        | _ => none)
      | some (.ok false μ2) => compD g c m ρ ds acc μ2
      | _ => none)
    | _ => none
/-- [elt for .. in .. if ..] -/
def dLc (own : Bool) (vs : List Nat) (mi : DI) (g : DG) (c : Env → M Bool) (m : DE) : DE := fun ρ => bnd (mi ρ) fun ds μ => match compD g c m (wipeE ρ vs) ds [] μ with
  | some (l, μ') => if own = true then some (.ok (.l μ'.length) (μ' ++ [.lst l])) else some (.ok (.p (.lst l)) μ')
  | none => none
def cYes : Env → M Bool := fun _ => ret true
end
section
variable {X : Cx} {Wx : WX}
def W0 : WX := fun _ _ _ _ => False
theorem wipe_none {σ : L2.St} {i : Nat} : ∀ {vs : List Nat}, L2.wipe (σ.set i none) vs = (L2.wipe σ vs).set i none
  | [] => rfl
  | u :: vs => by
    unfold L2.wipe
    rw [wipe_none]
    by_cases e : i = u
    · subst e; rw [List.set_set]
    · rw [List.set_comm _ _ e]
theorem wipe_wipe {σ : L2.St} : ∀ {vs us : List Nat}, (∀ v ∈ vs, v ∈ us) → L2.wipe (L2.wipe σ vs) us = L2.wipe σ us
  | [], _, _ => rfl
  | v :: vs, us, h => by
    show L2.wipe ((L2.wipe σ vs).set v none) us = _
    rw [wipe_none, wipe_wipe (fun x hx => h x (List.mem_cons_of_mem _ hx))]
    have gen : ∀ {us : List Nat}, v ∈ us → (L2.wipe σ us).set v none = L2.wipe σ us := fun {us} => by
      induction us with
      | nil => intro h; cases h
      | cons u us ih =>
        intro hm
        unfold L2.wipe
        by_cases e : v = u
        · subst e; rw [List.set_set]
        · rw [List.set_comm _ _ (Ne.symm e), ih ((List.mem_cons.mp hm).resolve_left e)]
    exact gen (h v List.mem_cons_self)
theorem lc_ok {own : Bool} {vs : List Nat} {mi : DI} {g : TG} {gd : DG} {c : Env → M Bool} {m : DE} (hg : TgOk X.K X.mg vs g gd) {σ : L2.St} {H : Hp} {Q : VK} (h : TEd X.K X.mg Wx (dLc own vs mi gd c m) σ H Q) :
    tLc (TId X.K X.mg Wx mi) g (TTd X.K X.mg W0 c) (TEd X.K X.mg W0 m) vs σ H Q := by
  refine (run_bind (rpa := ItOk X.K X.mg) (f := fun ds ρ μ => match compD gd c m (wipeE ρ vs) ds [] μ with
    | some (l, μ') => if own = true then some (ER.ok (W.l μ'.length) (μ' ++ [Cell.lst l])) else some (ER.ok (W.p (D.lst l)) μ')
    | none => none) h).mono fun J H1 h1 => ?_
  obtain ⟨π1, ρ1, μ1, ds, r', hs1, hh1, it, hm, hp⟩ := h1
  intro Dd hD
  cases hc : compD gd c m (wipeE ρ1 vs) ds [] μ1 with
  | none => simp only [hc] at hm; cases hm
  | some q =>
  obtain ⟨l, μf⟩ := q
  simp only [hc] at hm
  -- the state at a turn
  refine ⟨fun i n H => i ≤ ds.length ∧ n = ds.length - i ∧ ∃ (π : PL) (μ : Store) (av : List V) (ad : List D), (∀ (j : Nat) (a : Addr), π1.l[j]? = some a → π.l[j]? = some a) ∧ π.f = (π1.far Dd).f ∧ Kp π1 μ1 H1 π μ H ∧ (∀ a o, π1.f a → H1 a = some o → H a = some o) ∧
      HRel X.K X.mg π μ H ∧ H Dd = some (.lst av) ∧ Reps X.K X.mg π μ H av ad ∧ compD gd c m (wipeE ρ1 vs) (ds.drop i) ad μ = some (l, μf), ⟨ds.length, Nat.zero_le _, rfl, π1.far Dd, μ1, [], [], fun _ _ h => h, rfl, ?_, fun a o f h => by rw [upd_ne (ne_of_none h hD)]; exact h, ?_, upd_same, .nil, by rw [List.drop_zero]; exact hc⟩, ?_⟩
  · exact .of fun a o h n => ⟨by rw [upd_ne (ne_of_none h hD)]; exact h, fun z => (live_far.mp z).elim n (ne_of_none h hD)⟩
  · have kp : Kp π1 μ1 H1 (π1.far Dd) μ1 (upd H1 Dd (.lst [])) := .of fun a o h n => ⟨by rw [upd_ne (ne_of_none h hD)]; exact h, fun z => (live_far.mp z).elim n (ne_of_none h hD)⟩
    refine ⟨hh1.len, hh1.nd, fun k a cc h1 h2 => (hh1.ok k a cc h1 h2).ext kp fun o z => by rw [upd_ne (ne_of_none z hD)]; exact z, ?_, ?_⟩
    · rintro a (f | rfl)
      · obtain ⟨o, z⟩ := hh1.fh a f
        exact ⟨o, by rw [upd_ne (ne_of_none z hD)]; exact z⟩
      · exact ⟨_, upd_same⟩
    · rintro a (f | rfl)
      · exact hh1.fd a f
      · exact hh1.notin hD
  · rintro i n H ⟨hi, rfl, π, μ, av, ad, pre, hf, kp, far, hh, hDv, ra, hl⟩
    -- the walked data lie still in the state without the new list
    have ex1 : Ext π1 μ1 H1 ⟨π.l, π1.f⟩ μ H := by
      refine ⟨kp.trans (.of fun a o h n => ⟨h, fun z => n ?_⟩), pre, rfl, far⟩
      rcases z with f | z
      · exact .inl (by rw [hf]; exact .inl f)
      · exact .inr z
    have hD2 : ¬ live ⟨π.l, π1.f⟩ μ Dd := by
      rintro (f | ⟨j, cc, h1, h2, h3⟩)
      · exact hh1.notfar hD f
      · exact hh.fd Dd (by rw [hf]; exact .inr rfl) (List.mem_of_getElem? h1)
    have kpU : Kp π μ H ⟨π.l, π1.f⟩ μ H := .of fun a o h n => ⟨h, fun z => n (by
      rcases z with f | z
      · exact .inl (by rw [hf]; exact .inl f)
      · exact .inr z)⟩
    have hh2 : HRel X.K X.mg ⟨π.l, π1.f⟩ μ H := ⟨hh.len, hh.nd, fun k a cc h1 h2 => (hh.ok k a cc h1 h2).ext kpU fun _ z => z, fun a f => hh.fh a (by rw [hf]; exact .inl f), fun a f => hh.fd a (by rw [hf]; exact .inl f)⟩
    obtain ⟨st, go⟩ := it π μ H kp hh
    by_cases hd : i < ds.length
    · have hdr : ds.drop i = ds[i] :: ds.drop (i + 1) := List.drop_eq_getElem_cons hd
      rw [hdr] at hl
      obtain ⟨g1, y1⟩ := go i ds[i] (List.getElem?_eq_getElem hd)
      refine .inr ⟨g1, fun H' => i + 1 ≤ ds.length ∧ ∃ (π : PL) (μ : Store) (av : List V) (ad : List D), (∀ (j : Nat) (a : Addr), π1.l[j]? = some a → π.l[j]? = some a) ∧ π.f = (π1.far Dd).f ∧ Kp π1 μ1 H1 π μ H' ∧ (∀ a o, π1.f a → H1 a = some o → H' a = some o) ∧
        HRel X.K X.mg π μ H' ∧ H' Dd = some (.lst av) ∧ Reps X.K X.mg π μ H' av ad ∧ compD gd c m (wipeE ρ1 vs) (ds.drop (i + 1)) ad μ = some (l, μf), fun H' ⟨q1, q2⟩ => ⟨ds.length - (i + 1), by omega, q1, rfl, q2⟩, fun x H' hy => ?_⟩
      obtain ⟨e2, h2, rx⟩ := y1 x H' hy
      have hDf : π.f Dd := by rw [hf]; exact .inr rfl
      have hlD : ∀ (μ : Store), live π μ Dd := fun μ => .inl hDf
      have hs2 : SRel X.K X.mg π μ H' (L2.wipe σ vs) (wipeE ρ1 vs) := ((hs1.kp kp pre).ext e2).wipe vs
      unfold compD at hl
      cases eg : gd (.p ds[i]) (wipeE ρ1 vs) μ with
      | none => rw [eg] at hl; cases hl
      | some q =>
        rw [eg] at hl
        cases q with
        | ex n μ2 => cases hl
        | ok ρ2 μ2 =>
          refine hg x _ H' _ π (wipeE ρ1 vs) ρ2 μ μ2 (.p ds[i]) hs2 h2 rx eg fun σ' eμ hs' hw => ⟨hw.trans (wipe_wipe fun _ z => z), ?_⟩
          subst eμ
          simp only at hl
          have d0 : H' Dd = some (.lst av) := e2.far _ _ hDf hDv
          have ra2 := ra.ext e2.toKp
          -- the next turn, from a state behind
          have nxt : ∀ (π3 : PL) (μ3 : Store) (H3 : Hp) (ad' : List D) (av' : List V), Ext π μ2 H' π3 μ3 H3 → HRel X.K X.mg π3 μ3 H3 → H3 Dd = some (.lst av') → Reps X.K X.mg π3 μ3 H3 av' ad' → compD gd c m (wipeE ρ1 vs) (ds.drop (i + 1)) ad' μ3 = some (l, μf) → 
            i + 1 ≤ ds.length ∧ ∃ (π : PL) (μ : Store) (av : List V) (ad : List D), (∀ (j : Nat) (a : Addr), π1.l[j]? = some a → π.l[j]? = some a) ∧ π.f = (π1.far Dd).f ∧ Kp π1 μ1 H1 π μ H3 ∧ (∀ a o, π1.f a → H1 a = some o → H3 a = some o) ∧
              HRel X.K X.mg π μ H3 ∧ H3 Dd = some (.lst av) ∧ Reps X.K X.mg π μ H3 av ad ∧ compD gd c m (wipeE ρ1 vs) (ds.drop (i + 1)) ad μ = some (l, μf) := fun π3 μ3 H3 ad' av' e3 h3 q1 q2 q3 =>
            ⟨by omega, π3, μ3, av', ad', fun j a h => e3.pre j a (pre j a h), e3.fe.trans hf, kp.trans (e2.toKp.trans e3.toKp), fun a o f h => e3.far a o (by rw [hf]; exact .inl f) (e2.far a o (by rw [hf]; exact .inl f) (far a o f h)), h3, q1, q2, q3⟩
          cases ec : c ρ2 μ2 with
          | none => rw [ec] at hl; cases hl
          | some qc =>
            rw [ec] at hl
            cases qc with
            | ex n μ3 => cases hl
            | ok k μ3 =>
              refine ⟨π, ρ2, μ2, _, hs', h2, ec, fun π3 b H3 e3 h3 hb => ?_⟩
              cases hb
              cases k with
              | false =>
                rw [if_neg (by simp)]
                simp only at hl
                exact nxt π3 μ3 H3 ad av e3 h3 (e3.far _ _ hDf d0) (ra2.ext e3.toKp) hl
              | true =>
                rw [if_pos rfl]
                simp only at hl
                cases em : m ρ2 μ3 with
                | none => rw [em] at hl; cases hl
                | some qm =>
                  rw [em] at hl
                  cases qm with
                  | ex n μ4 => cases hl
                  | ok w μ4 =>
                    cases w with
                    | l k => cases hl
                    | p y =>
                      simp only at hl
                      split at hl
                      · rename_i hlen
                        refine ⟨π3, ρ2, μ3, _, hs'.ext e3, h3, em, fun π4 v4 H4 e4 h4 r4 => ?_⟩
                        have e34 := e3.trans e4
                        have d4 : H4 Dd = some (.lst av) := e34.far _ _ hDf d0
                        have ra4 := ra2.ext e34.toKp
                        have hDf4 : π4.f Dd := by rw [e34.fe]; exact hDf
                        have k5 : Kp π4 μ4 H4 π4 μ4 (upd H4 Dd (.lst (av ++ [v4]))) := .of fun a o h n => by
                          have na : a ≠ Dd := fun z => n (.inl (by rw [z]; exact hDf4))
                          exact ⟨by rw [upd_ne na]; exact h, n⟩
                        have h5 : HRel X.K X.mg π4 μ4 (upd H4 Dd (.lst (av ++ [v4]))) := by
                          refine ⟨h4.len, h4.nd, fun k a cc h1 h2 => (h4.ok k a cc h1 h2).ext k5 fun o z => ?_, fun a f => ?_, h4.fd⟩
                          · have na : a ≠ Dd := fun z => h4.fd Dd hDf4 (by rw [← z]; exact List.mem_of_getElem? h1)
                            rw [upd_ne na]; exact z
                          · by_cases na : a = Dd
                            · subst na; exact ⟨_, upd_same⟩
                            · obtain ⟨o, z⟩ := h4.fh a f
                              exact ⟨o, by rw [upd_ne na]; exact z⟩
                        refine ⟨av, d4, by rw [ra4.length]; exact hlen, ?_⟩
                        refine ⟨by omega, π4, μ4, av ++ [v4], ad ++ [y], fun j a h => e34.pre j a (pre j a h), e34.fe.trans hf, kp.trans (e2.toKp.trans (e34.toKp.trans k5)), fun a o f h => ?_, h5, upd_same, (ra4.append (.cons r4 .nil)).ext k5, hl⟩
                        have na : a ≠ Dd := ne_of_none h hD
                        rw [upd_ne na]
                        exact e34.far a o (by rw [hf]; exact .inl f) (e2.far a o (by rw [hf]; exact .inl f) (far a o f h))
                      · cases hl
    · have hd0 : i = ds.length := by omega
      subst hd0
      rw [List.drop_length] at hl
      cases hl
      refine .inl ⟨st, ?_⟩
      split at hm
      · cases hm
        have nd : (Cell.lst l) ≠ .dead := by intro z; cases z
        have hDl : Dd ∉ π.l := hh.fd Dd (by rw [hf]; exact .inr rfl)
        have hl2 : π.l.length = μf.length := hh.len
        have hlen : (π.l ++ [Dd])[π.l.length]? = some Dd := by simp
        have lv : ∀ a, live (PL.snoc ⟨π.l, π1.f⟩ Dd) (μf ++ [.lst l]) a → live π μf a := fun a hl => by
          rcases (live_snoc (π := ⟨π.l, π1.f⟩) hl2 nd).mp hl with z | rfl
          · rcases z with f | z
            · exact .inl (by rw [hf]; exact .inl f)
            · exact .inr z
          · exact .inl (by rw [hf]; exact .inr rfl)
        have kb : Kp π μf H (PL.snoc ⟨π.l, π1.f⟩ Dd) (μf ++ [.lst l]) H := .of fun a o h n => ⟨h, fun z => n (lv a z)⟩
        refine hp (PL.snoc ⟨π.l, π1.f⟩ Dd) (.ref Dd) H ⟨kp.trans kb, fun j a h => ?_, rfl, far⟩ ⟨by simp [PL.snoc, hl2], ?_, fun j a cc h1 h2 => ?_, fun a f => hh.fh a (by rw [hf]; exact .inl f), fun a f hm => ?_⟩ ⟨Dd, rfl, by rw [← hl2]; exact hlen⟩
        · show (π.l ++ [Dd])[j]? = _
          have q := pre j a h
          rw [List.getElem?_append_left (List.getElem?_eq_some_iff.mp q).1]; exact q
        · show (π.l ++ [Dd]).Nodup
          rw [List.nodup_append]
          exact ⟨hh.nd, by simp, fun x hx y hy => by simp at hy; subst hy; rintro rfl; exact hDl hx⟩
        · have h1 : (π.l ++ [Dd])[j]? = some a := h1
          by_cases hj : j < π.l.length
          · rw [List.getElem?_append_left hj] at h1
            rw [List.getElem?_append_left (by rw [← hl2]; exact hj)] at h2
            exact (hh.ok j a cc h1 h2).ext kb fun _ z => z
          · have q := (List.getElem?_eq_some_iff.mp h1).1
            simp at q
            have hj0 : j = π.l.length := by omega
            subst hj0
            rw [hlen] at h1
            rw [hl2, List.getElem?_append_right (Nat.le_refl _)] at h2
            simp at h1 h2
            subst h1; subst h2
            exact ⟨av, hDv, ra.ext kb⟩
        · have hm : a ∈ π.l ++ [Dd] := hm
          rcases List.mem_append.mp hm with q | q
          · exact hh.fd a (by rw [hf]; exact .inl f) q
          · simp at q
            subst q
            exact hh1.notfar hD f
      · cases hm
        exact hp _ _ H ex1 hh2 (.lst hDv hD2 (ra.ext kpU))
end
end Q

set_option Elab.async false
set_option linter.all false
set_option maxRecDepth 100000
/-! Q12: exceptions: raised, caught and kept, asked for their class. -/
namespace Q
open PySem PySem.Spec PyProof.Rows L2
section
variable {X : Cx} {Wx : WX} {x n y : Str} {i j : Nat} {pos p p2 : Pos}
/-- the caught exception's object, from now on tracked -/
theorem inv_track {pins : List (Addr × Obj)} {σ : L2.St} {H : Hp} {s sI : Shared} {a : Addr} {o : HO} {σ' : L2.St} {H' : Hp} (I : L2.Inv X pins σ H s) (na : H a = none) (oa : Obj) (ha : s.heap.get? a = some oa) (hcell : ∀ v, oa.data ≠ .cell v) (nL : a ≠ X.env.locals)
    (hx : X.ex = []) (J : L2.Inv X pins σ' H' sI) (new : sI.heap.get? a = none) (hnew : ObjOk X.prog X.w (upd H a o) s.heap a o) : L2.Inv X pins σ (upd H a o) s := by
  have n0 : ∀ b ob, X.s_0.heap.get? b = some ob → b ≠ a := fun b ob e z => by
    obtain ⟨o', h⟩ := J.base.there b ob e (by rw [hx]; simp)
    rw [z, new] at h; cases h
  refine ⟨I.ok, I.os, I.bare, ⟨I.base.keep, I.base.slot, fun b ob e nb hb => by rw [upd_ne (n0 b ob e)]; exact I.base.free b ob e nb hb, I.base.there, fun b xs e => ?_, fun b ob u e => ?_, fun b ps e => ?_⟩, I.loc, I.cell, ?_, fun c cc e => ?_, fun q hq => ?_, fun b u e => ?_, I.len⟩
  · have q := I.base.tups b xs e
    rw [upd_ne (ne_of_none q na)]; exact q
  · have q := I.base.frzs b ob u e
    rw [upd_ne (ne_of_none q na)]; exact q
  · obtain ⟨more, q⟩ := I.base.tbls b ps e
    exact ⟨more, by rw [upd_ne (ne_of_none q na)]; exact q⟩
  · rw [upd_ne nL.symm]; exact I.free
  · obtain ⟨v, oc, h1, h2⟩ := I.cell c cc e
    have ne : cc ≠ a := fun z => by rw [z, ha] at h1; cases h1; exact hcell v h2
    rw [upd_ne ne]; exact I.freeC c cc e
  · obtain ⟨q1, q2, q3, q4, q5⟩ := I.pin q hq
    obtain ⟨r1, _⟩ := J.pin q hq
    have ne : q.1 ≠ a := fun z => by rw [z, new] at r1; cases r1
    exact ⟨q1, by rw [upd_ne ne]; exact q2, q3, q4, q5⟩
  · by_cases hb : b = a
    · subst hb
      rw [upd_same] at e; cases e; exact hnew
    · rw [upd_ne hb] at e
      exact (I.hok b u e).stay (fun _ _ _ q => q) (fun c q => by rw [upd_ne (ne_of_none q na)]; exact q) fun c xs q => by rw [upd_ne (ne_of_none q na)]; exact q
theorem exQ_ok {P : Program} {w : World} {H : Hp} {h : Heap} {a : Addr} {cls : Value} {oe : Obj} {vs : Array Value} (e : h.get? a = some oe) (z : Zc cls none oe) (d : oe.data = .fields vs) : ObjOk P w H h a (ExQ cls a) :=
  ⟨⟨oe, vs, e, z, d⟩, ⟨oe, e⟩, fun h1 h2 ⟨oe, vs, e, r⟩ k => ⟨oe, vs, k _ e, r⟩⟩
/-- what 'except c as n: y = n' wishes of an exception -/
def wKeep (K : PySem.W.Frag) (c : Value) (i j : Nat) (Wout : WX) (D : Ends) : WX := fun cls d σ H =>
  ∃ b, PySem.W.exmOne K cls c = some b ∧ (b = true → d = none ∧ ∀ a, H a = none → D.nx ((σ.set j (some (.ref a))).set i none) (upd H a (ExQ cls a))) ∧ (b = false → Wout cls d σ H)
theorem ps_try_keep {c : Value} {body : List Stmt} {np pos' yp np2 sp : Pos} {tb : WX → TS} {Wout : WX} (hs : X.stack = X.env :: X.outer) (hf : X.env.frame = some X.env.locals) (hex : X.ex = []) (hN : X.N.Nodup) (hi : X.N[i]? = some n) (hj : X.N[j]? = some y) (hij : i ≠ j) (hln : X.env.kindOf n = some .local) (hly : X.env.kindOf y = some .local) (hc : Names X x c) (tk : Takes X Wout)
    (hb : ∀ (W : WX) (pn : List (Addr × Obj)) (xe : Value → Shared → Prop), Takes (X.tr pn xe) W → PassesOwn (model X.prog X.w) X.A X.env xe → PSs (X.tr pn xe) body (tb W))
    (hst : ∀ (a : Addr) (oe : Obj) (pn : List (Addr × Obj)), PS (X.suite a ((a, oe) :: pn)) (.Assign [.Name y yp] (.Name n np2) sp) (tAsg (tVar i) (gName j))) :
    PS X (.Try body [.ExceptHandler (some (.Name x np)) (some n) [.Assign [.Name y yp] (.Name n np2) sp] pos'] [] [] pos) (fun D σ H => tb (wKeep X.K c i j Wout D) D σ H) := by
  refine ⟨fun pins s σ H D I h => ?_⟩
  have ok := I.ok
  have hfr : X.A.frames = some (X.env :: X.outer) := by rw [ok.frames, hs]
  have hloc : Loc X.env.scope n := .inl hln
  refine wpAny_Try_except ?_
  refine wpAny_mono ((hb (wKeep X.K c i j Wout D) (X.pn ++ pins) (fun e s₁ => wpAny (model X.prog X.w) X.A (noteFrame e X.env) (fun _ s₂ => wpAny (model X.prog X.w) X.A (setFlight e none) (fun _ s₃ =>
    wpAny (model X.prog X.w) X.A (handleBy e X.env [.ExceptHandler (some (.Name x np)) (some n) [.Assign [.Name y yp] (.Name n np2) sp] pos']) (SP X pins D) X.xe s₃) X.xe s₂) X.xe s₁) (fun u s' xx => ?_) PassesOwn.looking).run [] s σ H D (I.toTry _) h) (fun f s1 hsp => ?_) (fun e s1 he => he)
  · obtain ⟨a, B, sI, pins', σ', H', cls, d, rfl, J', nb, up, sky, na, os, ag, b, hb1, hyes, hno⟩ := xx
    have J : L2.Inv X pins σ' H' sI := J'.ofTry ok
    have sky' : Sky B (X.env :: X.outer) a (Zc cls d) X.env.locals s'.heap := by rw [← hs]; exact sky
    show wpAny (model X.prog X.w) X.A (noteFrame (.ref a) X.env) _ _ _
    refine Sky.land Zc.steady hfr hf sky' fun h3 fl3 up3 => ?_
    have J3 : L2.Inv X pins σ' H' { s' with heap := h3 } := J.landed nb fl3.1 (up.trans up3) os ag
    obtain ⟨oe3, vs3, he3, hz3, hd3⟩ := fl3.there
    have notFr : ∀ {h : Heap} {o : Obj} {vs : Array Value}, h.FunFrames B (X.env :: X.outer) → h.get? a = some o → o.data = .fields vs → a ∉ frs (X.env :: X.outer) := fun {h o vs} ff e dd hm => by
      obtain ⟨_, o', e', hnf⟩ := ff.mem hm
      rw [e] at e'; cases e'
      exact hnf _ dd
    have nfr := notFr fl3.2.2.1 he3 hd3
    have nL : a ≠ X.env.locals := fun z => nfr (List.mem_filterMap.mpr ⟨X.env, List.mem_cons_self, by rw [hf, z]⟩)
    have nF : a ∉ X.fs := fun hm => by
      obtain ⟨e, he, q⟩ := List.mem_filterMap.mp hm
      exact nfr (List.mem_filterMap.mpr ⟨e, List.mem_cons_of_mem _ he, q⟩)
    have newI : sI.heap.get? a = none := by
      cases e : sI.heap.get? a with
      | none => rfl
      | some ob =>
        have q := nb a ob e (by rw [hs]; exact nfr)
        rw [fl3.2.1] at q; cases q
    have S3 := J3.suite he3 hd3 na nL nF
    refine wpAny_handleBy_cons (codeAny_handlers_test ?_) (by intro q; cases q)
    have LT : PySem.W.Looks (model X.prog X.w) h3 (typeOf (.ref a)) cls := fun A Q E s k q => wpAny_typeOf_ref (k _ _ he3) (by rw [hz3.1]; exact q)
    have LM := PySem.W.exm_one (M := model X.prog X.w) (J3.kIn) LT hb1
    have test : ∀ {Q : Value → Shared → Prop} {E : Value → Shared → Prop}, Q c { s' with heap := h3 } → wpAny (model X.prog X.w) (X.A.mark (some (.ref a))) (eval (.Name x np) X.env) Q E { s' with heap := h3 } := fun {Q E} q => by
      obtain ⟨hg, hdbg, hm | ⟨hm, hv, hnn⟩⟩ := hc
      · exact ld_glob (X := X.suite a ((a, oe3) :: (X.pn ++ pins))) S3 hg hm q hdbg
      · exact ld_blt (X := X.suite a ((a, oe3) :: (X.pn ++ pins))) S3 hg hm hv q hnn hdbg
    refine test (LM.here ?_)
    cases b with
    | true =>
      refine codeAny_handlers_suite_as ?_
      refine HandSPX.lands_againZ fl3 fun h4 fl4 up4 => ?_
      have J4 : L2.Inv X pins σ' H' { s' with heap := h4 } := J.landed nb fl4.1 ((up.trans up3).trans up4) os ag
      obtain ⟨oe4, vs4, he4, hz4, hd4⟩ := fl4.there
      have S4 := J4.suite he4 hd4 na nL nF
      refine store_ok (X := X.suite a ((a, oe4) :: (X.pn ++ pins))) (v := .ref a) S4 hN hi hloc rfl (fun s5 S5 => ?_) (.inr hln)
      obtain ⟨hd0, hyes⟩ := hyes rfl
      have hl : i < σ'.length := by rw [J.len]; exact (List.getElem?_eq_some_iff.mp hi).1
      refine wpAny_mono ((pss_one (hst a oe4 (X.pn ++ pins))).run [] s5 _ H' { nx := fun σ6 H6 => σ6 = (σ'.set i (some (.ref a))).set j (some (.ref a)) ∧ H6 = H', rt := fun _ _ => False } S5 ⟨.ref a, by rw [List.getElem?_set_self hl], rfl, rfl⟩) (fun f s6 hsp => ?_) (fun _ _ z => False.elim z)
      cases f with
      | next =>
        obtain ⟨σ6, H6, S6, rfl, rfl⟩ := hsp
        obtain ⟨pa, pb, pc, pd, pe⟩ := S6.pin (a, oe4) (List.mem_append_left _ List.mem_cons_self)
        have K6 : L2.Inv X pins _ (upd H6 a (ExQ cls a)) s6 := inv_track (S6.unsuite ok) na oe4 pa pe nL hex J newI (exQ_ok pa (by rw [← hd0]; exact hz4) hd4)
        refine gone_ok K6 hN hi hln fun s7 J7 => ?_
        have e : ((σ'.set i (some (V.ref a))).set j (some (V.ref a))).set i none = (σ'.set j (some (V.ref a))).set i none := by
          rw [List.set_comm _ _ hij, List.set_set]
        rw [e] at J7
        exact ⟨_, _, J7, hyes a na⟩
      | brk => obtain ⟨_, _, _, q⟩ := hsp; exact q.elim
      | cont => obtain ⟨_, _, _, q⟩ := hsp; exact q.elim
      | ret u => obtain ⟨_, _, _, _, _, q⟩ := hsp; exact q.elim
    | false =>
      show wpAny _ X.A (handleBy (.ref a) X.env []) _ _ _
      refine wpAny_handleBy_nil ?_
      obtain ⟨k1, k2, k3, oe, vs, T, oT, ts', he, hz, hd, h1, hr⟩ := id fl3
      unfold PySem.passOn
      refine wpAny_bind (wpAny_field he hd h1 ?_)
      rw [if_neg (show ¬ ((Value.ref T == Value.none) = true) from by simp)]
      have fin : wpAny (model X.prog X.w) X.A (setFlight (.ref a) X.env.frame) (fun _ s4 => wpAny (model X.prog X.w) X.A (throw (.ref a) : Sem Flow) (SP X pins D) X.xe s4) X.xe { s' with heap := h3 } := by
        rw [hf]
        refine HandSPX.setFlight_upZ fl3 fun h4 hh4 up4 => wpAny_throw (tk _ _ ?_)
        exact ⟨a, B, sI, pins, σ', H', cls, d, rfl, J, nb, (up.trans up3).trans up4, .inr (.inr (by rw [hs]; exact hh4)), na, os, ag, hno rfl⟩
      first
        | exact wpAny_bind (wpAny_pure (wpAny_bind fin))
        | exact wpAny_bind fin
  · cases f with
    | next =>
      obtain ⟨σ', H', J', q⟩ := hsp
      exact wpAny_execs_nil ⟨σ', H', J'.ofTry ok, q⟩
    | brk =>
      obtain ⟨σ', H', J', q⟩ := hsp
      exact ⟨σ', H', J'.ofTry ok, q⟩
    | cont =>
      obtain ⟨σ', H', J', q⟩ := hsp
      exact ⟨σ', H', J'.ofTry ok, q⟩
    | ret u =>
      obtain ⟨v, σ', H', J', r, q⟩ := hsp
      exact ⟨v, σ', H', J'.ofTry ok, r, q⟩
/-! ### by meanings -/
/-- what is known of an exception class by name -/
structure ExCls (K : PySem.W.Frag) (mg : Str → Option Value) (x : Str) : Prop where
  ex : ∃ C, mg x = some (.ref C) ∧ PySem.W.excIn K C [.type "ValueError", .type "Exception", .type "BaseException", .type "object"] "ValueError.__new__" = true ∧ PySem.W.keepIn K (.ref C) = true ∧ PySem.W.subIn K (.ref C) (.type "BaseException") = some true ∧ PySem.W.typeIn K (.ref C) = some (.type "type")
def dRse (x : Str) : DS := fun ρ μ => some (.ex x ρ μ)
theorem qs_raise {m : Str} {k : Nat} {p3 : Pos} (c : ExCls X.K X.mg x) (tk : Takes X Wx) (hg : Gl X x) (hc : X.calm = true) (hdb : (x == ("__debug__" : Str)) = false := by decide) : QS X Wx (.Raise (some (.Call (.Name x p) [.Constant (.str m) k p2] [] p3)) none pos) (dRse x) := by
  obtain ⟨C, gC, q, kC, h1, h2⟩ := c.ex
  refine ps_imp (ps_raise hc tk (pmk_own PySem.F.excBase_ValueError q gC kC (raises_own h1 h2) hg hdb)) fun D σ H ⟨π, ρ, μ, r, hs, hh, hm, hp⟩ => ?_
  cases hm
  exact hp π σ H C .refl hh hs (by unfold cnOf; rw [gC])
/-- which classes a clause catches -/
structure Catch (K : PySem.W.Frag) (mg : Str → Option Value) (c : Value) (l : List (Str × Bool)) : Prop where
  ok : ∀ x b, l.lookup x = some b → ∀ C, cnOf mg x = some C → PySem.W.exmOne K (.ref C) c = some b
def dTryKeep (i j : Nat) (l : List (Str × Bool)) (body : DS) : DS := fun ρ μ => match body ρ μ with
  | some (.ex n ρ' μ') => (match l.lookup n with
    | some true => some (.nx ((ρ'.set j (some (.p (.exc n)))).set i none) μ')
    | some false => some (.ex n ρ' μ')
    | none => none)
  | r => r
theorem try_ok {c : Value} {l : List (Str × Bool)} {body : DS} (hc : Catch X.K X.mg c l) {D : Ends} {σ : L2.St} {H : Hp} (h : TSd X.K X.mg Wx (dTryKeep i j l body) D σ H) : TSd X.K X.mg (wKeep X.K c i j Wx D) body D σ H := by
  obtain ⟨π, ρ, μ, r, hs, hh, hm, hp⟩ := h
  unfold dTryKeep at hm
  cases e : body ρ μ with
  | none => rw [e] at hm; cases hm
  | some rb =>
    rw [e] at hm
    refine ⟨π, ρ, μ, rb, hs, hh, e, ?_⟩
    cases rb with
    | nx ρ' μ' => cases hm; exact hp
    | bk ρ' μ' => cases hm; exact hp
    | ct ρ' μ' => cases hm; exact hp
    | rt w μ' => cases hm; exact hp
    | ex n ρ' μ' =>
      simp only at hm
      intro π' σ' H' C e1 hr hs' hC
      cases hl : l.lookup n with
      | none => rw [hl] at hm; cases hm
      | some b =>
        rw [hl] at hm
        refine ⟨b, hc.ok n b hl C hC, fun hb => ?_, fun hb => ?_⟩
        · subst hb
          cases hm
          refine ⟨rfl, fun a ha => ?_⟩
          have e2 := Ext.pure (π := π') (μ := μ') (o := ExQ (.ref C) a) ha
          exact hp π' _ _ (e1.trans e2) (hr.pure ha) (((hs'.ext e2).set (v := .ref a) (w := .p (.exc n)) (Rep.exc hC upd_same (hr.nlive ha))).unset i)
        · subst hb
          cases hm
          exact hp π' σ' H' C e1 hr hs' hC
theorem qs_try_keep {c : Value} {l : List (Str × Bool)} {body : List Stmt} {mb : DS} {np pos' yp np2 sp : Pos} (hc : Catch X.K X.mg c l) (hs : X.stack = X.env :: X.outer) (hf : X.env.frame = some X.env.locals) (hex : X.ex = []) (hN : X.N.Nodup) (hi : X.N[i]? = some n) (hj : X.N[j]? = some y) (hij : i ≠ j)
    (hln : X.env.kindOf n = some .local) (hly : X.env.kindOf y = some .local) (hnm : Names X x c) (tk : Takes X Wx)
    (hb : ∀ (W : WX) (pn : List (Addr × Obj)) (xe : Value → Shared → Prop), Takes (X.tr pn xe) W → PassesOwn (model X.prog X.w) X.A X.env xe → QSs (X.tr pn xe) W body mb)
    (hst : ∀ (a : Addr) (oe : Obj) (pn : List (Addr × Obj)), PS (X.suite a ((a, oe) :: pn)) (.Assign [.Name y yp] (.Name n np2) sp) (tAsg (tVar i) (gName j))) :
    QS X Wx (.Try body [.ExceptHandler (some (.Name x np)) (some n) [.Assign [.Name y yp] (.Name n np2) sp] pos'] [] [] pos) (dTryKeep i j l mb) :=
  ps_imp (ps_try_keep hs hf hex hN hi hj hij hln hly hnm tk (tb := fun W => TSd X.K X.mg W mb) hb hst) fun D σ H h => try_ok hc h
/-! isinstance with an own class, or with ValueError -/
/-- what a class of exceptions is to isinstance; None too -/
structure Kits (K : PySem.W.Frag) (mg : Str → Option Value) (c : Value) (l : List (Str × Bool)) : Prop where
  ok : ∀ x b, l.lookup x = some b → ∀ C, cnOf mg x = some C → ExcC K C ∧ PySem.W.kitOne K (.ref C) c = some b
  none : PySem.W.kitOne K (.type "NoneType") c = some false
def wIsX (l : List (Str × Bool)) : W → M W := fun w => opt (match w with
  | .p .non => some (.p (.bl false))
  | .p (.exc n) => (l.lookup n).map fun b => .p (.bl b)
  | _ => none)
theorem is_exc {pins : List (Addr × Obj)} {σ : L2.St} {H : Hp} {s : Shared} {a D : Addr} {c : Value} {b : Bool} {Q : Value → Shared → Prop} {A : Around} {E : Value → Shared → Prop} (I : L2.Inv X pins σ H s) (C : ExcC X.K D) (ha : H a = some (ExQ (.ref D) a)) (e : PySem.W.kitOne X.K (.ref D) c = some b) (h : ∀ tk, Q (.bool b) { s with toks := tk }) :
    wpAny (model X.prog X.w) A (call (.builtin "isinstance") [.ref a, c]) Q E s := by
  obtain ⟨⟨oe, vs, hget, hz, hv⟩, _⟩ := (show ObjOk X.prog X.w H s.heap a (ExQ (.ref D) a) from I.hok a _ ha)
  have J : PySem.W.InstAt s.heap a oe D none := by
    obtain ⟨oc, od, oda, osl⟩ := oe
    obtain ⟨h1, h2⟩ := hz
    dsimp only at h1 h2 hv
    subst h1 h2 hv
    exact ⟨hget, rfl, rfl, trivial⟩
  exact PySem.W.kia_one (PySem.W.handS_kitx_exc C.hg C.hk C.hs C.hd C.ha C.hn C.ht C.hm) I.kIn J e (fun z => nomatch z) h
def rIsX (K : PySem.W.Frag) (c : Value) : List V → Hp → VK → Prop := fun xs H Q => ∃ (x cv : V), xs = [x, cv] ∧ (∀ u, RelV cv u → u = c) ∧ ((x = .non ∧ PySem.W.kitOne K (.type "NoneType") c = some false ∧ Q (.bl false) H) ∨ ∃ (a D : Addr) (b : Bool), x = .ref a ∧ H a = some (ExQ (.ref D) a) ∧ ExcC K D ∧ PySem.W.kitOne K (.ref D) c = some b ∧ Q (.bl b) H)
theorem call_isX {c : Value} : CallR X (.builtin "isinstance") (rIsX X.K c) := by
  intro pins s σ H xs us Q I r h
  obtain ⟨x, cv, rfl, hcv, h⟩ := h
  cases r with
  | cons rx rr =>
    cases rr with
    | cons rt rr =>
      cases rr
      have ec := hcv _ rt
      subst ec
      rcases h with ⟨rfl, e, q⟩ | ⟨a, D, b, rfl, ha, C, e, q⟩
      · exact isinst_ok I rx .non e fun tk => ⟨.bl false, H, I.kept (t' := tk) fun _ _ z => z, rfl, q⟩
      · cases rx
        exact is_exc I C ha e fun tk => ⟨.bl b, H, I.kept (t' := tk) fun _ _ z => z, rfl, q⟩
theorem q_isX {e : Expr} {me : DE} {l : List (Str × Bool)} {cv : V} {c : Value} (kt : Kits X.K X.mg c l) (hcv : ∀ u, RelV cv u → u = c) (hg : Gl X "isinstance") (hm : X.mg "isinstance" = none) (hcl : PE X (.Name x p2) (tC cv)) (ha : QE X Wx e me) (hv : bootBuiltins "isinstance" = some (.builtin "isinstance") := by decide +kernel)
    (h1 : starEach [e, .Name x p2] X.env = (false, eval e X.env) :: starEach [.Name x p2] X.env := by rfl) (h2 : starEach [.Name x p2] X.env = (false, eval (.Name x p2) X.env) :: starEach [] X.env := by rfl)
    (hpl : (backTo pos (starEach [.Name x p2] X.env)).any (·.1) = false := by rfl) : QE X Wx (.Call (.Name "isinstance" p) [e, .Name x p2] [] pos) (d1 (wIsX l) me) := by
  refine pe_imp (pe_callB (call_isX (c := c)) hg hm hv (pa_cons ha (pa_cons hcl pa_nil h2) h1) (he := h1) (hpl := hpl)) fun σ H Q h => ?_
  refine (run_bind (rpa := RepW X.K X.mg) (f := fun w _ => wIsX l w) h).mono fun v H1 h1 => ?_
  obtain ⟨π, ρ, μ, w, r', hs, hh, rq, hm, hp⟩ := h1
  obtain ⟨w', e1, rfl⟩ := opt_inv hm
  refine ⟨v, cv, rfl, hcv, ?_⟩
  split at e1
  · cases e1
    exact .inl ⟨rep_non rq, kt.none, hp.here hh (.bl _)⟩
  · rename_i n
    obtain ⟨b, e2, rfl⟩ := Option.map_eq_some_iff.mp e1
    cases rq with
    | @exc a C _ hC hH hn =>
      obtain ⟨k1, k2⟩ := kt.ok n b e2 C hC
      exact .inr ⟨a, C, b, rfl, hH, k1, k2, hp.here hh (.bl _)⟩
  · cases e1
end
end Q

set_option Elab.async false
set_option linter.all false
set_option maxRecDepth 100000
/-! Q13: list(reversed(l)). -/
namespace RT
open PySem PySem.Spec PyProof.Rows L2 PySem.Calls
section
variable {prog : Program} {w : World} {A : Around} {E : Value → Shared → Prop} {s : Shared}
theorem extend_rev {R : Result → Shared → Prop} {it l S : Addr} {items : Array Value} {c₀ : Nat} (hh : A.handled = none) (hit : s.heap.IsRevIter it l ((items.size : Int) - 1)) (hl : s.heap.IsList l items) (hne : l ≠ it) (hn : items.size ≤ sizeLine) (hSi : S ≠ it) (hSl : S ≠ l)
    (hS : s.heap.get? S = some { cls := .type "list", data := .seq #[] c₀ })
    (hR : ∀ (h' : Heap) (tk : Nat) (acc : Array Value) (c' : Nat), (∀ b o, b ≠ it → b ≠ S → s.heap.get? b = some o → h'.get? b = some o) → h'.get? S = some { cls := .type "list", dict := none, data := .seq acc c', slots := #[] } → ItemsOf (fun i v => items[items.size - 1 - i]? = some v) acc items.size → R (.ok (.ret .none)) { s with heap := h', toks := tk }) :
    wpAny (model prog w) A.in1 (Builtin.List.listExtendWith (.ref S) (.ref it) .none)
      (fun fin s' => match fin with | .done f => R (.ok f) s' | .again c' => c'.quiet = true ∧ codeAny (model prog w) A c' R s') (fun e s' => R (.error e) s') s := by
  have W := (Walks.listRev (prog := prog) (w := w) (A := A.in1) hh it l hne items).toS
  have hSf : S ∉ [it, l] := by simp only [List.mem_cons, List.not_mem_nil, or_false, not_or]; exact ⟨hSi, hSl⟩
  have hT : s.TypeIs (.ref it) "list_reverseiterator" := Heap.IsRevIter.typeIs hit
  have h1 : Builtin.List.listSameRef (.ref S) (.ref it) = false := by simp [Builtin.List.listSameRef, hSi]
  unfold Builtin.List.listExtendWith
  refine wpAny_bind (wpAny_typeOf hT ?_)
  rw [if_neg (by rw [h1]; decide)]
  refine wpAny_bind (wpAny_pyIter_revIter hit ?_)
  refine wpAny_bind (wpAny_holding ?_)
  unfold Builtin.List.listLengthHint
  refine wpAny_bind (wpAny_specialOf hT nolen_lri ?_)
  show wpAny _ A.in1 (specialOf (Value.ref it) (Str.ofString "__length_hint__") >>= _) _ _ _
  refine wpAny_bind (wpAny_specialOf hT hint_lri ?_)
  generalize hid : ("list_reverseiterator.__length_hint__" : String) = id0
  wp_delta
  rw [show splitId id0 = some ("list_reverseiterator", "__length_hint__") from by subst hid; decide +kernel]
  subst hid
  refine wpAny_bind (wpAny_isInstance (b := true) hT (by rw [isSubtype_type]; kernel_rfl) ?_)
  refine wpAny_pure ?_
  rw [if_neg (by decide)]
  have e0 : ((items.size : Nat) : Int) - 1 - ((0 : Nat) : Int) = (items.size : Int) - 1 := by omega
  refine wpAny_pure ⟨plainId_quiet F.plain_extend_loop _, codeAny_extend_loopS W hn _ hSf _ items.size 0 _ _ _ rfl (Nat.zero_le _) ⟨Nat.zero_le _, by rw [e0]; exact hit, hl⟩ hS (ItemsOf.nil _) fun s' acc' c' hm hS' hacc => ?_⟩
  rw [Moved.eq_with hm]
  refine hR s'.heap s'.toks acc' c' (fun b o hb hb2 e => hm.heap b o (fun hmem => ?_) e) hS' hacc
  rcases List.mem_cons.mp hmem with e' | hmem
  · exact hb2 e'
  · exact hb (List.mem_singleton.mp hmem)
theorem call_list_rev {it l : Addr} {items : Array Value} {Q : Value → Shared → Prop} (hh : A.handled = none) (hit : s.heap.IsRevIter it l ((items.size : Int) - 1)) (hl : s.heap.IsList l items) (hne : l ≠ it) (hn : items.size ≤ sizeLine)
    (hQ : ∀ (h' : Heap) (tk : Nat) (acc : Array Value) (c' : Nat), (∀ b o, b ≠ it → s.heap.get? b = some o → h'.get? b = some o) → h'.get? s.heap.objs.size = some { cls := .type "list", dict := none, data := .seq acc c', slots := #[] } → ItemsOf (fun i v => items[items.size - 1 - i]? = some v) acc items.size → Q (.ref s.heap.objs.size) { s with heap := h', toks := tk }) :
    wpAny (model prog w) A (call (.type "list") [.ref it]) Q E s := by
  obtain ⟨oi, hoi, _⟩ := id hit
  obtain ⟨ol, hol, _⟩ := id hl
  have hSi : s.heap.objs.size ≠ it := Nat.ne_of_gt (Heap.lt_size hoi)
  have hSl : s.heap.objs.size ≠ l := Nat.ne_of_gt (Heap.lt_size hol)
  refine callType_codes (Q₁ := fun obj s₁ => obj = .ref s.heap.objs.size ∧ s₁ = { s with heap := s.heap.push { cls := .type "list", data := .seq #[] } }) F.called_list (F.typeCall_list_1 _) F.entry_list_init
    (code_list_new _ ⟨rfl, rfl⟩) fun obj s₁ h₁ => ?_
  obtain ⟨rfl, rfl⟩ := h₁
  have hS : (s.heap.push { cls := .type "list", data := .seq #[] }).get? s.heap.objs.size = some { cls := .type "list", data := .seq #[] } := Heap.get?_push_size _ rfl
  have hit1 : (s.heap.push { cls := .type "list", data := .seq #[] }).IsRevIter it l ((items.size : Int) - 1) := hit.at fun o e => Heap.get?_push_of_some _ e
  have hl1 : (s.heap.push { cls := .type "list", data := .seq #[] }).IsList l items := hl.push _
  refine ⟨⟨_, hS, rfl⟩, F.args_list_init_2 _ _, ?_⟩
  show wpAny _ A.in1.in1 (do let old ← Builtin.List.listItems (.ref s.heap.objs.size); Builtin.List.listUpdate (.ref s.heap.objs.size) (fun _ => #[]); letGo old.toList.reverse; Builtin.List.listExtendWith (.ref s.heap.objs.size) (.ref it) .none) _ _ _
  refine wpAny_bind ?_
  unfold Builtin.List.listItems
  refine wpAny_bind (wpAny_seqItems hS rfl (wpAny_pure ?_))
  show wpAny _ A.in1.in1 (updateSeq s.heap.objs.size (fun _ => #[]) >>= fun _ => letGo (#[] : Array Value).toList.reverse >>= fun _ => Builtin.List.listExtendWith (.ref s.heap.objs.size) (.ref it) .none) _ _ _
  refine wpAny_bind (wpAny_updateSeq hS rfl ?_)
  have hS₂ := Heap.get?_update_self (Obj.mapSeq (fun _ => (#[] : Array Value))) hS rfl
  have oth : ∀ b o, b ≠ s.heap.objs.size → (s.heap.push { cls := .type "list", data := .seq #[] }).get? b = some o → ((s.heap.push { cls := .type "list", data := .seq #[] }).update s.heap.objs.size (Obj.mapSeq (fun _ => (#[] : Array Value)))).get? b = some o :=
    fun b o hb e => (Heap.get?_update_other _ _ (Ne.symm hb)).trans e
  refine wpAny_bind (wpAny_letGo ?_)
  refine extend_rev (A := A.in1) (s := { s with heap := _ }) hh (hit1.at fun o e => oth _ o hSi.symm e) ?_ hne hn hSi hSl hS₂ fun h' tk acc c' hk hS' hi => ?_
  · obtain ⟨o, ho, r⟩ := hl1
    exact ⟨o, oth _ o hSl.symm ho, r⟩
  · exact ⟨rfl, hQ h' tk acc c' (fun b o hb e => hk b o hb (Nat.ne_of_lt (Heap.lt_size e)) (oth b o (Nat.ne_of_lt (Heap.lt_size e)) (Heap.get?_push_of_some _ e))) hS' hi⟩
end
end RT

set_option Elab.async false
set_option linter.all false
set_option maxRecDepth 100000
/-! Q14: list(reversed(l)), join, count, index, dicts, items set, fields, op=. -/
namespace Q
open PySem PySem.Spec PyProof.Rows L2 RT
section
variable {X : Cx} {Wx : WX} {x : Str} {i j k : Nat} {pos p p2 apos pos2 : Pos} {e e2 o : Expr} {me me2 mo mi mv : DE} {mas : Env → M (List W)} {es : List Expr}
/-! list(reversed(l)) -/
def tLstRev (K : PySem.W.Frag) (te : TE) : TE := fun σ H Q => te σ H fun v H1 => ∃ (a : Addr) (xs : List V), v = .ref a ∧ SqL K H1 a xs ∧ ∀ q, H1 q = none → Q (.ref q) (upd H1 q (.lst xs.reverse))
theorem pe_lstRev {te : TE} (hx : X.ex = []) (hc : X.calm = true) (hg : Gl X "list") (hm : X.mg "list" = none) (hg2 : Gl X "reversed") (hm2 : X.mg "reversed" = none) (he : PE X e te)
    (hs : starEach [e] X.env = (false, eval e X.env) :: starEach [] X.env := by rfl)
    (hs2 : starEach [.Call (.Name "reversed" p2) [e] [] pos2] X.env = (false, eval (.Call (.Name "reversed" p2) [e] [] pos2) X.env) :: starEach [] X.env := by rfl) :
    PE X (.Call (.Name "list" p) [.Call (.Name "reversed" p2) [e] [] pos2] [] pos) (tLstRev X.K te) := by
  refine ⟨fun pins s σ H Q I h => ?_⟩
  refine Call_ (ld_blt I hg hm boot_list (PyProof.Rows.callWith_type1 (args_cons (Call_ (ld_blt I hg2 hm2 PyProof.Rows.boot_reversed (PyProof.Rows.callWith_type1 (args_cons (thn (he.run pins s σ H _ I h) fun u s1 ⟨v, H1, I1, r1, q1⟩ => args_nil ?_) hs) hs rfl))) hs2) hs2 rfl))
  obtain ⟨a, xs, ev, hq, q⟩ := q1
  subst ev
  obtain rfl : u = Value.ref a := r1
  obtain ⟨its, rv, p', hz⟩ := I1.list hq
  refine call_reversed_list p'.isList (args_nil ?_)
  have k0 : ∀ b o, s1.heap.get? b = some o → (s1.heap.push (revObj a ((its.toArray.size : Int) - 1))).get? b = some o := fun b o e => Heap.get?_push_of_some _ e
  have I2 : L2.Inv X pins σ H1 { s1 with heap := s1.heap.push (revObj a ((its.toArray.size : Int) - 1)) } := I1.kept (t' := s1.toks) k0
  obtain ⟨f0, f1, f2, f3, f4, f5⟩ := I1.fpOk (H' := H1) (b := s1.heap.objs.size) (Nat.le_refl _) (I1.hok.fresh (Nat.le_refl _))
  have hl := p'.isList
  obtain ⟨ol, hol, _⟩ := id hl
  have hne : a ≠ s1.heap.objs.size := Nat.ne_of_lt (Heap.lt_size hol)
  have hn : its.toArray.size ≤ sizeLine := by rw [List.size_toArray, ← rv.length]; exact hz
  refine call_list_rev (s := { s1 with heap := s1.heap.push (revObj a ((its.toArray.size : Int) - 1)) }) (I1.ok.hd hc) ⟨_, Heap.get?_push_size _ rfl, rfl, rfl⟩ (hl.push _) hne hn fun h' tk acc c' hk hS hi => ?_
  have hS0 : H1 (s1.heap.push (revObj a ((its.toArray.size : Int) - 1))).objs.size = none := I2.hok.fresh (Nat.le_refl _)
  have I3 : L2.Inv X pins σ H1 { s1 with heap := h', toks := tk } := I2.turned (t' := tk) (fun b o hb e => hk b o hb e) f0 f1 f3 f4 f5
  have hz2 : xs.reverse.length ≤ sizeLine := by rw [List.length_reverse]; exact hz
  have okN : ObjOk X.prog X.w (upd H1 (s1.heap.push (revObj a ((its.toArray.size : Int) - 1))).objs.size (.lst xs.reverse)) h' (s1.heap.push (revObj a ((its.toArray.size : Int) - 1))).objs.size (.lst xs.reverse) := ⟨hz2, acc.toList, c', vals_rev rv hi, by rw [Array.toArray_toList]; exact hS⟩
  have hlt : X.env.locals < s1.heap.objs.size := I1.lt
  refine ⟨.ref _, upd H1 _ (.lst xs.reverse), inv_track (s := { s1 with heap := h', toks := tk }) I3 hS0 _ hS (fun v z => by cases z) ?_ hx I2 (Heap.get?_none_of_le (Nat.le_refl _)) okN, rfl, q _ hS0⟩
  intro z
  have e1 : (s1.heap.push (revObj a ((its.toArray.size : Int) - 1))).objs.size = s1.heap.objs.size + 1 := by rw [Heap.size_push]
  exact absurd hlt (by rw [← z, e1]; exact Nat.not_lt.mpr (Nat.le_succ _))
def wRevP (w : W) (μ : Store) : Option W := (rdLs μ w).map fun l => .p (.lst l.reverse)
theorem q_lstRevP (hx : X.ex = []) (hc : X.calm = true) (hg : Gl X "list") (hm : X.mg "list" = none) (hg2 : Gl X "reversed") (hm2 : X.mg "reversed" = none) (he : QE X Wx e me)
    (hs : starEach [e] X.env = (false, eval e X.env) :: starEach [] X.env := by rfl)
    (hs2 : starEach [.Call (.Name "reversed" p2) [e] [] pos2] X.env = (false, eval (.Call (.Name "reversed" p2) [e] [] pos2) X.env) :: starEach [] X.env := by rfl) :
    QE X Wx (.Call (.Name "list" p) [.Call (.Name "reversed" p2) [e] [] pos2] [] pos) (d1 (fun w => optS (wRevP w)) me) := pe_imp (pe_lstRev hx hc hg hm hg2 hm2 he hs hs2) fun σ H Q h => by
  refine (run_bind (rpa := RepW X.K X.mg) (f := fun w _ => optS (wRevP w)) h).mono fun v H1 h1 => ?_
  obtain ⟨π, ρ, μ, w, r', hs, hh, rq, hm, hp⟩ := h1
  obtain ⟨w', e1, rfl⟩ := optS_inv hm
  obtain ⟨l, e2, rfl⟩ := Option.map_eq_some_iff.mp e1
  obtain ⟨a, vs, rfl, hq, rs⟩ := rdLs_ok hh rq e2
  exact ⟨a, vs, rfl, hq, fun q nq => hp.new hh nq (.lst upd_same (hh.nlive nq) (rs.reverse.ext (Ext.pure nq).toKp))⟩
def wRevO (w : W) : M W := fun μ => match rdLs μ w with
  | some l => alloc (.lst l.reverse) μ
  | none => none
theorem q_lstRevO (hx : X.ex = []) (hc : X.calm = true) (hg : Gl X "list") (hm : X.mg "list" = none) (hg2 : Gl X "reversed") (hm2 : X.mg "reversed" = none) (he : QE X Wx e me)
    (hs : starEach [e] X.env = (false, eval e X.env) :: starEach [] X.env := by rfl)
    (hs2 : starEach [.Call (.Name "reversed" p2) [e] [] pos2] X.env = (false, eval (.Call (.Name "reversed" p2) [e] [] pos2) X.env) :: starEach [] X.env := by rfl) :
    QE X Wx (.Call (.Name "list" p) [.Call (.Name "reversed" p2) [e] [] pos2] [] pos) (d1 wRevO me) := pe_imp (pe_lstRev hx hc hg hm hg2 hm2 he hs hs2) fun σ H Q h => by
  refine (run_bind (rpa := RepW X.K X.mg) (f := fun w _ => wRevO w) h).mono fun v H1 h1 => ?_
  obtain ⟨π, ρ, μ, w, r', hs, hh, rq, hm, hp⟩ := h1
  have hm : wRevO w μ = some r' := hm
  unfold wRevO at hm
  split at hm
  · rename_i l e2
    cases hm
    obtain ⟨a, vs, rfl, hq, rs⟩ := rdLs_ok hh rq e2
    have nd : (Cell.lst l.reverse) ≠ .dead := by intro z; cases z
    exact ⟨a, vs, rfl, hq, fun q nq => hp.own hh nq nd ⟨_, upd_same, rs.reverse.ext (Ext.own hh nq nd).toKp⟩ ⟨q, rfl, by rw [← hh.len]; simp [PL.snoc]⟩⟩
  · cases hm
/-! sep.join(texts) -/
def strsD : List D → Option (List Str)
  | [] => some []
  | .str z :: ds => (strsD ds).map (z :: ·)
  | _ => none
theorem strsD_ok {K : PySem.W.Frag} {mg : Str → Option Value} {π : PL} {μ : Store} {H : Hp} : ∀ {ds : List D} {vs : List V} {ns : List Str}, Reps K mg π μ H vs ds → strsD ds = some ns → vs = ns.map V.str
  | [], _, _, .nil, e => by simp [strsD] at e; subst e; rfl
  | .str i :: ds, _, _, .cons r t, e => by
    simp only [strsD, Option.map_eq_some_iff] at e
    obtain ⟨ns, e, rfl⟩ := e
    rw [rep_str r, strsD_ok t e]
    rfl
def wJoin : W → W → M W := fun x y => optS fun μ => match x with
  | .p (.str a) => (rdQ μ y).bind fun l => (strsD l).bind fun zs => if (zs.map (·.length)).sum + zs.length * a.length ≤ 16777216 then some (.p (.str (Str.join a zs))) else none
  | _ => none
def isStr (w : W) : M Unit := opt (match w with
  | .p (.str _) => some ()
  | _ => none)
theorem isStr_ok {w : W} {μ : Store} {r : ER Unit} (h : isStr w μ = some r) : r = .ok () μ ∧ ∃ z, w = .p (.str z) := by
  obtain ⟨u, e, rfl⟩ := opt_inv h
  split at e
  · exact ⟨rfl, _, rfl⟩
  · cases e
def dStrM (g : W → W → M W) (mo me : DE) : DE := fun ρ => bnd (mo ρ) fun x => bnd (isStr x) fun _ => bnd (me ρ) fun y => g x y
theorem q_strM {r : V → List V → Hp → VK → Prop} {g : W → W → M W} {name : Str} (hf : Op2 X.K X.mg (fun x y H Q => r x [y] H Q) g) (ho : QE X Wx o mo) (he : QE X Wx e me)
    (h : PE X (.Call (.Attribute o name apos) [e] [] pos) (tM1 r (TEd X.K X.mg Wx mo) (TEd X.K X.mg Wx me))) : QE X Wx (.Call (.Attribute o name apos) [e] [] pos) (dStrM g mo me) := pe_imp h fun σ H Q h => by
  refine (run_bind (rpa := RepW X.K X.mg) (f := fun x ρ => bnd (isStr x) fun _ => bnd (me ρ) fun y => g x y) h).mono fun v H1 h1 => ?_
  obtain ⟨π, ρ, μ, w, r', hs, hh, rq, hm, hp⟩ := h1
  rcases bnd_some hm with ⟨u, μ1, e1, e2⟩ | ⟨en, μ1, e1, _⟩
  · obtain ⟨z, a, rfl⟩ := isStr_ok e1
    cases z
    refine ⟨⟨a, rep_str rq⟩, ?_⟩
    have hM : Mid X.K X.mg (RepW X.K X.mg) Wx (RepW X.K X.mg) (fun x ρ => bnd (me ρ) fun y => g x y) σ Q v H1 := ⟨π, ρ, μ, _, r', hs, hh, rq, e2, hp⟩
    refine (mid_bind (rpb := RepW X.K X.mg) (f := fun x y _ => g x y) stays_W hM).mono fun u H2 h2 => ?_
    obtain ⟨π, ρ, μ, q, r', hs, hh, rq, hm, hp⟩ := h2
    exact hf hh rq.1 rq.2 hm hp
  · obtain ⟨z, _⟩ := isStr_ok e1
    cases z
def rJoin (K : PySem.W.Frag) : V → List V → Hp → VK → Prop := fun x xs H Q => ∃ a p, ∃ ys : List Str, x = .str a ∧ xs = [.ref p] ∧ (SqL K H p (ys.map V.str) ∨ SqT K H p (ys.map V.str)) ∧
      (ys.map (·.length)).sum + ys.length * a.length ≤ 16777216 ∧ Q (.str (Txt.join a ys)) H
theorem op2_join : Op2 X.K X.mg (fun x y H Q => rJoin X.K x [y] H Q) wJoin := by
  intro E π μ H Q x y a b q hh ra rb hm hp
  obtain ⟨w, e, rfl⟩ := optS_inv hm
  split at e
  · rename_i z
    obtain ⟨l, e1, e2⟩ := Option.bind_eq_some_iff.mp e
    obtain ⟨zs, e3, e4⟩ := Option.bind_eq_some_iff.mp e2
    split at e4
    · rename_i hl
      cases e4
      obtain ⟨p, vs, rfl, hq, rs⟩ := rdQ_ok hh rb e1
      rw [strsD_ok rs e3] at hq
      exact ⟨z, p, zs, rep_str ra, rfl, hq, hl, by rw [TL.join_eq]; exact hp.here hh (.str _)⟩
    · cases e4
  · cases e
theorem q_join (ho : QE X Wx o mo) (he : QE X Wx e me) (hs : starEach [e] X.env = [(false, eval e X.env)] := by rfl) (hbase : attributeBase o "join" X.env (eval o X.env) = eval o X.env := by rfl) (hline : (apos.endLine == pos.line) = true := by rfl) :
    QE X Wx (.Call (.Attribute o "join" apos) [e] [] pos) (dStrM wJoin mo me) := q_strM (r := rJoin X.K) op2_join ho he (pe_join ho he hs hbase hline)
/-! l.count(v), l.index(v) -/
theorem mt_countD (hu : X.A.units + 200 < cLine) : MtR X "list.count" (fun x xs H Q => ∃ (a : Addr) (y : V) (d : PyData) (ds : List PyData), x = V.ref a ∧ xs = [y] ∧ Dp X.K H (V.ref a) (.list ds) ∧ Dp X.K H y d ∧ PyData.canLayAll0 ds = true ∧ d.canLay0 = true ∧ d.depth ≤ 100 ∧ Q (.int ((ds.countP fun z => PyData.eqv z d : Nat) : Int)) H) := by
  intro pins s σ H x xs v us Q I rx rxs h
  obtain ⟨a, y, d, ds, rfl, rfl, hl, hy, c1, c2, c3, q⟩ := h
  cases rx
  cases rxs with
  | cons ry rt =>
    rename_i uy ut
    cases rt
    obtain ⟨bs, r1⟩ := Dp.reads I d y uy hy ry
    have hroom : X.A.units + 1 + min (PyData.depthAll ds) d.depth < cLine := by omega
    cases hl with
    | lst hs ha =>
      obtain ⟨its, rv, ⟨⟨cls, dd, data, sls⟩, n, ho, hc, hdn, hdt⟩, hlen⟩ := I.list hs
      simp only at hc hdt
      subst hc hdt
      obtain ⟨as, h4⟩ := Dp.readsAll I ds _ its ha rv
      have hmap : its.map (SeqAt.readOf s.heap) = ds := SeqAt.readsAll_map ds its as c1 h4
      refine call_meets PySem.F.slot_list_count ⟨_, ho, rfl⟩ PySem.F.entry_list_count (PySem.F.args_list_count_2 _ _)
        (SeqAt.list_countAt a its.toArray n dd sls uy (fun u => PyData.eqv (SeqAt.readOf s.heap u) d)) ⟨ho, SeqAt.items_eqAt (vs := its.toArray) (show ReadsAll s.heap its.toArray.toList ds as from h4) r1 c1 c2 hroom, ?_⟩
      have ec : its.toArray.toList.countP (fun u => PyData.eqv (SeqAt.readOf s.heap u) d) = ds.countP fun z => PyData.eqv z d := by
        rw [← hmap, List.countP_map] <;> rfl
      refine ⟨.int ((ds.countP fun z => PyData.eqv z d : Nat) : Int), H, I.tok _, ⟨s.toks, ?_⟩, q⟩
      rw [← ec]
def wCount : W → List W → M W
  | w, [y] => optS fun μ => match pyW μ w, pyW μ y with
    | some (.list ds), some d => if (PyData.canLayAll0 ds && d.canLay0 && decide (d.depth ≤ 100)) = true then some (.p (.int ((ds.countP fun z => PyData.eqv z d : Nat) : Int))) else none
    | _, _ => none
  | _, _ => stk
def rCountD (K : PySem.W.Frag) : V → List V → Hp → VK → Prop := fun x xs H Q => ∃ (a : Addr) (y : V) (d : PyData) (ds : List PyData), x = V.ref a ∧ xs = [y] ∧ Dp K H (V.ref a) (.list ds) ∧ Dp K H y d ∧ PyData.canLayAll0 ds = true ∧ d.canLay0 = true ∧ d.depth ≤ 100 ∧ Q (.int ((ds.countP fun z => PyData.eqv z d : Nat) : Int)) H
theorem opM_count : OpM X.K X.mg (rCountD X.K) wCount := by
  intro E π μ H Q x xs a ws q hh ra rs hm hp
  unfold wCount at hm
  split at hm
  · rename_i w y
    match xs, rs with
    | [y'], rs =>
      obtain ⟨w', e, rfl⟩ := optS_inv hm
      split at e
      · rename_i ds d e1 e2
        split at e
        · rename_i ok
          cases e
          simp only [Bool.and_eq_true, decide_eq_true_eq] at ok
          have d1 := pyW_ok hh ra e1
          have d2 := pyW_ok hh rs.1 e2
          cases id d1 with
          | lst _ _ => exact ⟨_, y', d, ds, rfl, rfl, d1, d2, ok.1.1, ok.1.2, ok.2, hp.here hh (.int _)⟩
        · cases e
      · cases e
  · cases hm
theorem q_count (hu : X.A.units + 200 < cLine) (ho : QE X Wx o mo) (ha : QA X Wx (e :: es) mas) (h : PE X (.Call (.Attribute o "count" apos) (e :: es) [] pos) (tBM X.K "list" (rCountD X.K) (TEd X.K X.mg Wx mo) (TAd X.K X.mg Wx mas)) := by exact pe_bm PySem.F.plainAttrs_list PySem.F.slot_list_count PySem.F.type_list_count (mt_countD (by assumption)) ho ha) :
    QE X Wx (.Call (.Attribute o "count" apos) (e :: es) [] pos) (dBM okL wCount mo mas) := q_bm opM_count okL_ty PySem.F.plainAttrs_list PySem.F.slot_list_count PySem.F.type_list_count (mt_countD hu) ho ha h
/-- the first place of an equal one -/
theorem mt_indexQ (hu : X.A.units + 200 < cLine) : MtR X "list.index" (fun x xs H Q => ∃ (a : Addr) (y : V) (d : PyData) (ds : List PyData) (j : Nat), x = V.ref a ∧ xs = [y] ∧ Dp X.K H (V.ref a) (.list ds) ∧ Dp X.K H y d ∧ PyData.canLayAll0 ds = true ∧ d.canLay0 = true ∧ d.depth ≤ 100 ∧ (ds.findIdx? fun z => PyData.eqv z d) = some j ∧ Q (.int (j : Nat)) H) := by
  intro pins s σ H x xs v us Q I rx rxs h
  obtain ⟨a, y, d, ds, j, rfl, rfl, hl, hy, c1, c2, c3, hj, q⟩ := h
  cases rx
  cases rxs with
  | cons ry rt =>
    rename_i uy ut
    cases rt
    obtain ⟨bs, r1⟩ := Dp.reads I d y uy hy ry
    have hroom : X.A.units + 1 + min (PyData.depthAll ds) d.depth < cLine := by omega
    cases hl with
    | lst hs ha =>
      obtain ⟨its, rv, ⟨⟨cls, dd, data, sls⟩, n, ho, hc, hdn, hdt⟩, hlen⟩ := I.list hs
      simp only at hc hdt
      subst hc hdt
      obtain ⟨as, h4⟩ := Dp.readsAll I ds _ its ha rv
      have hn : its.length = ds.length := SeqAt.ReadsAll.length ds its as h4
      have hmap : its.map (SeqAt.readOf s.heap) = ds := SeqAt.readsAll_map ds its as c1 h4
      have hvl := rv.length
      have hsl := sizeLine_eq
      obtain ⟨hjd, hj1, hj2⟩ := List.findIdx?_eq_some_iff_getElem.mp hj
      have hjl : j < its.length := by omega
      have hjs : j < its.toArray.size := by simpa using hjl
      have at_ : ∀ (m : Nat) (hm : m < its.toArray.size) (hm2 : m < ds.length), SeqAt.readOf s.heap its.toArray[m] = ds[m] := by
        intro m hm hm2
        have hml : m < its.length := by simpa using hm
        have e1 : (its.map (SeqAt.readOf s.heap))[m]? = ds[m]? := by rw [hmap]
        rw [List.getElem?_map, List.getElem?_eq_getElem hml, List.getElem?_eq_getElem hm2] at e1
        have e2 : SeqAt.readOf s.heap its[m] = ds[m] := Option.some.inj e1
        simpa using e2
      refine call_meets PySem.F.slot_list_index ⟨_, ho, rfl⟩ PySem.F.entry_list_index (PySem.F.args_list_index_2 _ _)
        (SeqAt.list_indexAt a its.toArray n dd sls uy (fun u => PyData.eqv (SeqAt.readOf s.heap u) d) j hjs (by omega) ?_ ?_) ⟨ho, SeqAt.items_eqAt (vs := its.toArray) (show ReadsAll s.heap its.toArray.toList ds as from h4) r1 c1 c2 hroom, ?_⟩
      · show PyData.eqv (SeqAt.readOf s.heap its.toArray[j]) d = true
        rw [at_ j hjs hjd]
        exact hj1
      · intro m hm hmj
        show PyData.eqv (SeqAt.readOf s.heap its.toArray[m]) d = false
        rw [at_ m hm (by omega)]
        exact Bool.eq_false_iff.mpr (hj2 m hmj)
      · exact ⟨.int (j : Nat), H, I.tok _, ⟨_, rfl⟩, q⟩
def wIndex : W → List W → M W
  | w, [y] => optS fun μ => match pyW μ w, pyW μ y with
    | some (.list ds), some d => if (PyData.canLayAll0 ds && d.canLay0 && decide (d.depth ≤ 100)) = true then (ds.findIdx? fun z => PyData.eqv z d).map fun j => .p (.int ((j : Nat) : Int)) else none
    | _, _ => none
  | _, _ => stk
def rIndexQ (K : PySem.W.Frag) : V → List V → Hp → VK → Prop := fun x xs H Q => ∃ (a : Addr) (y : V) (d : PyData) (ds : List PyData) (j : Nat), x = V.ref a ∧ xs = [y] ∧ Dp K H (V.ref a) (.list ds) ∧ Dp K H y d ∧ PyData.canLayAll0 ds = true ∧ d.canLay0 = true ∧ d.depth ≤ 100 ∧ (ds.findIdx? fun z => PyData.eqv z d) = some j ∧ Q (.int (j : Nat)) H
theorem opM_index : OpM X.K X.mg (rIndexQ X.K) wIndex := by
  intro E π μ H Q x xs a ws q hh ra rs hm hp
  unfold wIndex at hm
  split at hm
  · rename_i w y
    match xs, rs with
    | [y'], rs =>
      obtain ⟨w', e, rfl⟩ := optS_inv hm
      split at e
      · rename_i ds d e1 e2
        split at e
        · rename_i ok
          obtain ⟨j, e3, rfl⟩ := Option.map_eq_some_iff.mp e
          simp only [Bool.and_eq_true, decide_eq_true_eq] at ok
          have d1 := pyW_ok hh ra e1
          have d2 := pyW_ok hh rs.1 e2
          cases id d1 with
          | lst _ _ => exact ⟨_, y', d, ds, j, rfl, rfl, d1, d2, ok.1.1, ok.1.2, ok.2, e3, hp.here hh (.int _)⟩
        · cases e
      · cases e
  · cases hm
theorem q_index (hu : X.A.units + 200 < cLine) (ho : QE X Wx o mo) (ha : QA X Wx (e :: es) mas) (h : PE X (.Call (.Attribute o "index" apos) (e :: es) [] pos) (tBM X.K "list" (rIndexQ X.K) (TEd X.K X.mg Wx mo) (TAd X.K X.mg Wx mas)) := by exact pe_bm PySem.F.plainAttrs_list PySem.F.slot_list_index PySem.F.type_list_index (mt_indexQ (by assumption)) ho ha) :
    QE X Wx (.Call (.Attribute o "index" apos) (e :: es) [] pos) (dBM okL wIndex mo mas) := q_bm opM_index okL_ty PySem.F.plainAttrs_list PySem.F.slot_list_index PySem.F.type_list_index (mt_indexQ hu) ho ha h
end
end Q

set_option Elab.async false
set_option linter.all false
set_option maxRecDepth 100000
/-! Q15: items set, fields, dicts, op=. -/
namespace Q
open PySem PySem.Spec PyProof.Rows L2
section
variable {X : Cx} {Wx : WX} {x : Str} {i j k : Nat} {pos p p2 apos pos2 : Pos} {e e2 o it : Expr} {me me2 mo mi mv : DE} {mas : Env → M (List W)} {es : List Expr}
/-! o[i] = v -/
def IsU (_ : PL) (_ : Store) (_ : Hp) (_ _ : Unit) : Prop := True
def Set3 (K : PySem.W.Frag) (mg : Str → Option Value) (t : TSet) (f : W → W → W → M Unit) : Prop := ∀ {E : XK} {π : PL} {μ : Store} {H : Hp} {Q : Unit → Hp → Prop} {x y v : V} {a b c : W} {q : ER Unit},
  HRel K mg π μ H → RepW K mg π μ H x a → RepW K mg π μ H y b → RepW K mg π μ H v c → f a b c μ = some q → Post K mg IsU E π μ H Q q → t x y v H (Q ())
def gSub (f : W → W → W → M Unit) (mo mi : DE) : DG := fun w ρ => bnd (mo ρ) fun a => bnd (mi ρ) fun b => bnd (f a b w) fun _ => ret ρ
theorem qg_sub {t : TSet} {f : W → W → W → M Unit} (hf : Set3 X.K X.mg t f) (ho : QE X Wx o mo) (hi : QE X Wx it mi) (hs : PSet X t)
    (ha : ∀ v, assign (.Subscript o it pos) X.env v = (do
      let ov ← holding [v] (eval o X.env)
      let iv ← holding [v, ov] (eval it X.env)
      standAt pos
      holding [v, ov, iv] (setItem ov iv v)
      release [v, ov, iv] []) := by intro _; rfl) : QG X Wx (.Subscript o it pos) (gSub f mo mi) := pg_imp (pg_sub ho hi hs ha) fun v σ H Q ⟨π, ρ, μ, w, r, hs, hh, rw, hm, hp⟩ => by
  have key : ∀ {m : M Unit} {π : PL} {μ : Store} {H : Hp} {r : ER Env}, SRel X.K X.mg π μ H σ ρ → bnd m (fun _ => ret ρ) μ = some r → PostG X.K X.mg Wx π μ H σ Q r → ∃ q, m μ = some q ∧ Post X.K X.mg IsU (fun c d H' => Wx c d σ H') π μ H (fun _ H' => Q σ H') q := fun {m π μ H r} hs hm hp => by
    rcases bnd_some hm with ⟨u, μ1, e1, e2⟩ | ⟨n, μ1, e1, e2⟩
    · cases e2
      exact ⟨_, e1, fun π' b H' ex hr _ => hp π' σ H' ex hr (hs.ext ex)⟩
    · subst e2
      exact ⟨_, e1, fun π' H' c ex hr hc => hp π' H' c ex hr hc⟩
  unfold gSub at hm
  rcases bnd_some hm with ⟨a, μ1, e1, hm⟩ | ⟨n, μ1, e1, e2⟩
  · refine ⟨π, ρ, μ, _, hs, hh, e1, fun π1 o' H1 ex1 hr1 ro => ?_⟩
    have hs1 := hs.ext ex1
    rcases bnd_some hm with ⟨b, μ2, e2, hm⟩ | ⟨n, μ2, e2, e3⟩
    · refine ⟨π1, ρ, μ1, _, hs1, hr1, e2, fun π2 i' H2 ex2 hr2 ri => ?_⟩
      have hs2 := hs1.ext ex2
      obtain ⟨q, hq1, hq2⟩ := key hs2 hm ((hp.pull ex1).pull ex2)
      exact hf hr2 (ro.ext ex2) ri ((rw.ext ex1).ext ex2) hq1 hq2
    · subst e3
      exact ⟨π1, ρ, μ1, _, hs1, hr1, e2, fun π' H' c ex hr hc => hp π' H' c (ex1.trans ex) hr hc⟩
  · subst e2
    exact ⟨π, ρ, μ, _, hs, hh, e1, fun π' H' c ex hr hc => hp π' H' c ex hr hc⟩
def rSetDk : TSet := fun o i v H Q => ∃ a H4, o = .ref a ∧ DPut H a i v H4 ∧ Q H4
theorem set_dict (hu : X.A.units + 200 < cLine) : PSet X rSetDk := by
  intro pins s σ H o i v ov iv u Q I ro ri rv ⟨a, H4, h1, g, q⟩
  subst h1
  obtain rfl : ov = Value.ref a := ro
  exact d_setItem (by omega) I g ri rv fun s4 I4 => ⟨H4, I4, q⟩
def rSetA : TSet := fun o i v H Q => rSetL o i v H Q ∨ rSetDk o i v H Q
theorem set_all (hu : X.A.units + 200 < cLine) : PSet X rSetA := by
  intro pins s σ H o i v ov iv u Q I ro ri rv h
  rcases h with h | h
  · exact set_list pins s σ H o i v ov iv u Q I ro ri rv h
  · exact set_dict hu pins s σ H o i v ov iv u Q I ro ri rv h
/-- a key's place is filled -/
def putKs : List Key → List D → Key → D → List Key × List D
  | j :: ks, d :: ds, k, v => if j = k then (j :: ks, v :: ds) else let q := putKs ks ds k v; (j :: q.1, d :: q.2)
  | _, _, k, v => ([k], [v])
/-- the first of a key alone is filled: dicts here have each key once -/
def put1 (kvs : List (Key × V)) (k : Key) (v : V) : List (Key × V) := match kvs with
  | [] => [(k, v)]
  | p :: r => if p.1 = k then (p.1, v) :: r else p :: put1 r k v
theorem putK_put1 {k : Key} {v : V} : ∀ {kvs : List (Key × V)}, (kvs.map (·.1)).Nodup → putK kvs k v = put1 kvs k v
  | [], _ => rfl
  | p :: r, h => by
    simp only [List.map_cons, List.nodup_cons] at h
    unfold put1
    by_cases e : p.1 = k
    · rw [if_pos e]
      unfold putK
      have hany : ((p :: r).any fun kv => decide (kv.1 = k)) = true := by simp [e]
      rw [if_pos hany, List.map_cons, if_pos e]
      congr 1
      conv => rhs; rw [← List.map_id r]
      apply List.map_congr_left
      intro q hq
      have : ¬ q.1 = k := fun z => h.1 (by rw [e, ← z]; exact List.mem_map_of_mem hq)
      rw [if_neg this]; rfl
    · rw [if_neg e, ← putK_put1 h.2]
      unfold putK
      have ha : ((p :: r).any fun kv => decide (kv.1 = k)) = (r.any fun kv => decide (kv.1 = k)) := by simp [e]
      rw [ha]
      by_cases hr : (r.any fun kv => decide (kv.1 = k)) = true
      · rw [if_pos hr, if_pos hr, List.map_cons, if_neg e]
      · rw [if_neg hr, if_neg hr, List.cons_append]
theorem put1_rep {K : PySem.W.Frag} {mg : Str → Option Value} {π : PL} {μ : Store} {H : Hp} {k : Key} {v : V} {d : D} (rv : Rep K mg π μ H v d) : ∀ {kvs : List (Key × V)} {ds : List D}, Reps K mg π μ H (kvs.map (·.2)) ds → (put1 kvs k v).map (·.1) = (putKs (kvs.map (·.1)) ds k d).1 ∧ Reps K mg π μ H ((put1 kvs k v).map (·.2)) (putKs (kvs.map (·.1)) ds k d).2
  | [], [], _ => ⟨rfl, .cons rv .nil⟩
  | p :: r, d' :: ds, rs => by
    simp only [List.map_cons] at rs ⊢
    cases rs with
    | cons r1 r2 =>
      unfold put1 putKs
      by_cases e : p.1 = k
      · rw [if_pos e, if_pos e]
        exact ⟨rfl, .cons rv r2⟩
      · rw [if_neg e, if_neg e]
        obtain ⟨h1, h2⟩ := put1_rep (k := k) rv r2
        exact ⟨by simp [h1], .cons r1 h2⟩
/-- the dict of one's own that is changed -/
def ownD (μ : Store) : W → Option (Nat × List Key × List D)
  | .l k => match μ[k]? with
    | some (.dk ks l) => some (k, ks, l)
    | _ => none
  | _ => none
theorem ownD_ok {K : PySem.W.Frag} {mg : Str → Option Value} {π : PL} {μ : Store} {H : Hp} {v : V} {w : W} {k : Nat} {ks : List Key} {l : List D} (hh : HRel K mg π μ H) (r : RepW K mg π μ H v w) (e : ownD μ w = some (k, ks, l)) :
    w = .l k ∧ μ[k]? = some (.dk ks l) ∧ ∃ a kvs, v = .ref a ∧ π.l[k]? = some a ∧ H a = some (.dK kvs) ∧ kvs.map (·.1) = ks ∧ Reps K mg π μ H (kvs.map (·.2)) l := by
  unfold ownD at e
  split at e
  · rename_i k'
    obtain ⟨a, rfl, hk⟩ := r
    split at e
    · rename_i ks' l' hc
      cases e
      obtain ⟨kvs, h, q, rs⟩ := hh.ok _ a _ hk hc
      exact ⟨rfl, hc, a, kvs, rfl, hk, h, q, rs⟩
    · cases e
  · cases e
def wSet (o i v : W) : M Unit := fun μ => match v with
  | .p d => (match ownL μ o, i with
    | some (k, l), .p (.int z) => (match ixN l.length z with
      | some j => some (.ok () (μ.set k (.lst (l.set j d))))
      | none => none)
    | some _, _ => none
    | none, i => match ownD μ o, keyW i with
      | some (k, ks, l), some key => if ks.Nodup ∧ l.length < sizeLine then some (.ok () (μ.set k (.dk (putKs ks l key d).1 (putKs ks l key d).2))) else none
      | _, _ => none)
  | _ => none
theorem set3_all : Set3 X.K X.mg rSetA wSet := by
  intro E π μ H Q x y v a b c q hh ra rb rc hm hp
  unfold wSet at hm
  split at hm
  · rename_i d
    split at hm
    · rename_i k l z e1
      split at hm
      · rename_i j e2
        cases hm
        obtain ⟨rfl, hc, p, vs, rfl, hk, h, r1⟩ := ownL_ok hh ra e1
        have nd : (Cell.lst l) ≠ .dead := by intro z; cases z
        have ex := Ext.put (c' := .lst (l.set j d)) (o := .lst (vs.set j v)) hh hk hc nd
        exact .inl ⟨p, vs, z, j, rfl, rep_int rb, h, by rw [r1.length]; exact e2, hp.put (b := ()) hh hk hc nd ⟨_, upd_same, (r1.set rc j).ext ex.toKp⟩ trivial⟩
      · cases hm
    · cases hm
    · split at hm
      · rename_i k ks l key e1 e2
        split at hm
        · rename_i hnd
          cases hm
          obtain ⟨rfl, hc, p, kvs, rfl, hk, h, rfl, r1⟩ := ownD_ok hh ra e1
          have nd : (Cell.dk (kvs.map (·.1)) l) ≠ .dead := by intro z; cases z
          obtain ⟨q1, q2⟩ := put1_rep (k := key) rc r1
          have ex := Ext.put (c' := .dk (putKs (kvs.map (·.1)) l key d).1 (putKs (kvs.map (·.1)) l key d).2) (o := .dK (putK kvs key v)) hh hk hc nd
          refine .inr ⟨p, _, rfl, .inl ⟨kvs, key, h, keyW_ok rb e2, ?_, rfl⟩, hp.put (b := ()) hh hk hc nd ⟨_, upd_same, ?_, ?_⟩ trivial⟩
          · have := r1.length
            rw [List.length_map] at this
            rw [this]; exact hnd.2
          · rw [putK_put1 hnd.1]; exact q1
          · rw [putK_put1 hnd.1]; exact q2.ext (by rw [← putK_put1 hnd.1]; exact ex.toKp)
        · cases hm
      · cases hm
  · cases hm
theorem qg_item (hu : X.A.units + 200 < cLine) (ho : QE X Wx o mo) (hi : QE X Wx it mi)
    (ha : ∀ v, assign (.Subscript o it pos) X.env v = (do
      let ov ← holding [v] (eval o X.env)
      let iv ← holding [v, ov] (eval it X.env)
      standAt pos
      holding [v, ov, iv] (setItem ov iv v)
      release [v, ov, iv] []) := by intro _; rfl) : QG X Wx (.Subscript o it pos) (gSub wSet mo mi) := qg_sub set3_all ho hi (set_all hu) ha
/-! {} -/
def dDictO : DE := fun _ => alloc (.dk [] [])
def dDictP : DE := fun _ => ret (.p (.dk [] []))
theorem q_dictO : QE X Wx (.Dict [] [] pos) dDictO := pe_imp pe_dnewK fun σ H Q ⟨π, ρ, μ, r, hs, hh, hm, hp⟩ => by
  cases hm
  intro p np
  have nd : (Cell.dk [] []) ≠ .dead := by intro z; cases z
  exact hp.own hh np nd ⟨[], upd_same, rfl, .nil⟩ ⟨p, rfl, by rw [← hh.len]; simp [PL.snoc]⟩
theorem q_dictP : QE X Wx (.Dict [] [] pos) dDictP := pe_imp pe_dnewK fun σ H Q ⟨π, ρ, μ, r, hs, hh, hm, hp⟩ => by
  cases hm
  intro p np
  exact hp.new hh np (.dk (.inl upd_same) (hh.nlive np) rfl .nil)
/-! o.f -/
def getF (fs : List Str) (l : List D) (f : Str) : Option D := match fs, l with
  | g :: fs, d :: l => if f == g then some d else getF fs l f
  | _, _ => none
theorem getF_ok {K : PySem.W.Frag} {mg : Str → Option Value} {π : PL} {μ : Store} {H : Hp} {f : Str} : ∀ {fvs : List (Str × V)} {ds : List D} {d : D}, Reps K mg π μ H (fvs.map (·.2)) ds → getF (fvs.map (·.1)) ds f = some d → ∃ v, fvs.lookup f = some v ∧ Rep K mg π μ H v d
  | [], _, _, _, e => by simp [getF] at e
  | (g, v) :: r, [], _, rs, _ => by cases rs
  | (g, v) :: r, d :: ds, d', rs, e => by
    simp only [List.map_cons] at rs e
    cases rs with
    | cons r1 r2 =>
      unfold getF at e
      rw [List.lookup_cons]
      cases h : f == g with
      | true => rw [h, if_pos rfl] at e; cases e; exact ⟨v, rfl, r1⟩
      | false => rw [h, if_neg (by simp)] at e; exact getF_ok r2 e
/-- a field of the instances of a class -/
structure Fld (K : PySem.W.Frag) (mg : Str → Option Value) (Cn f : Str) : Prop where
  ok : ∀ C, cnOf mg Cn = some C → Cls K C ∧ NoAttr K C f
def wFld (Cn f : Str) (w : W) (μ : Store) : Option W := match insOf μ w with
  | some (C, fs, l) => if C = Cn then (getF fs l f).map .p else none
  | none => none
theorem q_fld {Cn f : Str} (c : Fld X.K X.mg Cn f) (he : QE X Wx e me) (hb : attributeBase e f X.env (eval e X.env) = eval e X.env := by rfl) : QE X Wx (.Attribute e f pos) (d1 (fun w => optS (wFld Cn f w)) me) := pe_imp (pe_fld he hb) fun σ H Q h => by
  refine (run_bind (rpa := RepW X.K X.mg) (f := fun w _ => optS (wFld Cn f w)) h).mono fun v H1 h1 => ?_
  obtain ⟨π, ρ, μ, w, r', hs, hh, rq, hm, hp⟩ := h1
  obtain ⟨w', e1, rfl⟩ := optS_inv hm
  unfold wFld at e1
  split at e1
  · rename_i C fs l e2
    split at e1
    · rename_i hC
      subst hC
      obtain ⟨d, e3, rfl⟩ := Option.map_eq_some_iff.mp e1
      obtain ⟨a, c0, dx, fvs, rfl, h0, hH, rfl, rs⟩ := insOf_ok hh rq e2
      obtain ⟨u, h1, h2⟩ := getF_ok rs e3
      obtain ⟨q1, q2⟩ := c.ok c0 h0
      exact ⟨a, c0, dx, fvs, u, rfl, hH, q1, q2, h1, hp.here hh h2⟩
    · cases e1
  · cases e1
/-! o.f = v -/
def putFs (fs : List Str) (l : List D) (f : Str) (v : D) : List Str × List D := match fs, l with
  | g :: fs, d :: l => if g = f then (g :: fs, v :: l) else let q := putFs fs l f v; (g :: q.1, d :: q.2)
  | _, _ => ([f], [v])
theorem putF_rep {K : PySem.W.Frag} {mg : Str → Option Value} {π : PL} {μ : Store} {H : Hp} {f : Str} {v : V} {d : D} (rv : Rep K mg π μ H v d) : ∀ {fvs : List (Str × V)} {ds : List D}, Reps K mg π μ H (fvs.map (·.2)) ds → (putF f v fvs).map (·.1) = (putFs (fvs.map (·.1)) ds f d).1 ∧ Reps K mg π μ H ((putF f v fvs).map (·.2)) (putFs (fvs.map (·.1)) ds f d).2
  | [], [], _ => ⟨rfl, .cons rv .nil⟩
  | (g, u) :: r, d' :: ds, rs => by
    simp only [List.map_cons] at rs ⊢
    cases rs with
    | cons r1 r2 =>
      unfold putF putFs
      by_cases e : g = f
      · rw [if_pos e, if_pos e]
        exact ⟨rfl, .cons rv r2⟩
      · rw [if_neg e, if_neg e]
        obtain ⟨h1, h2⟩ := putF_rep (f := f) rv r2
        exact ⟨by simp [h1], .cons r1 h2⟩
def setFld (Cn f : Str) (d : D) (w : W) (μ : Store) : Option Store := match w with
  | .l k => match μ[k]? with
    | some (.obj C fs l) => if C = Cn ∧ l.length < 1000 then some (μ.set k (.obj C (putFs fs l f d).1 (putFs fs l f d).2)) else none
    | _ => none
  | _ => none
/-- the value is data, or an own object that is given up here -/
def giveUp (μ : Store) : W → Option (D × Store)
  | .p d => some (d, μ)
  | .l k => match μ[k]? with
    | some (.lst l) => some (.lst l, μ.set k .dead)
    | some (.dk ks l) => some (.dk ks l, μ.set k .dead)
    | some (.obj C fs l) => some (.obj C fs l, μ.set k .dead)
    | _ => none
def dFldSet (Cn f : Str) (mv mo : DE) : DS := liftE mv fun v ρ μ => match mo ρ μ with
  | some (.ok o μ') => (match v with
    | .p d => (setFld Cn f d o μ').map fun μ2 => .nx ρ μ2
    | _ => none)
  | some (.ex n μ') => some (.ex n ρ μ')
  | none => none
theorem qs_fld {Cn f : Str} (c : Fld X.K X.mg Cn f) (ho : QE X Wx o mo) (hv : QE X Wx e me) (hs : swapsWith e (some (.Attribute o f p2)) pos.line X.env = pure false := by rfl) : QS X Wx (.Assign [.Attribute o f p2] e pos) (dFldSet Cn f me mo) := ps_imp (ps_fld ho hv hs) fun D σ H h => by
  refine (lift_ok (rp := RepW X.K X.mg) h).mono fun v H1 ⟨w, π, ρ, μ, r, rw, hs, hh, hk, hp⟩ => ?_
  cases eo : mo ρ μ with
  | none => rw [eo] at hk; cases hk
  | some q =>
    rw [eo] at hk
    refine ⟨π, ρ, μ, q, hs, hh, eo, ?_⟩
    cases q with
    | ex n μ' =>
      cases hk
      exact fun π' H' c ex hr hc => hp π' σ H' c ex hr (hs.ext ex) hc
    | ok o' μ' =>
      simp only at hk
      split at hk
      · rename_i d
        obtain ⟨μ2, e1, rfl⟩ := Option.map_eq_some_iff.mp hk
        intro π1 u H2 ex hr ro
        unfold setFld at e1
        split at e1
        · rename_i k
          obtain ⟨a, rfl, ha⟩ := ro
          split at e1
          · rename_i C fs l hc
            split at e1
            · rename_i hC
              cases e1
              obtain ⟨rfl, hl⟩ := hC
              obtain ⟨c0, dx, fvs, h0, hH, rfl, rs⟩ := hr.ok k a _ ha hc
              obtain ⟨q1, q2⟩ := c.ok c0 h0
              have rv := rw.ext ex
              obtain ⟨p1, p3⟩ := putF_rep (f := f) (d := d) rv rs
              have nd : (Cell.obj C (fvs.map (·.1)) l) ≠ .dead := by intro z; cases z
              have ex2 := Ext.put (c' := .obj C (putFs (fvs.map (·.1)) l f d).1 (putFs (fvs.map (·.1)) l f d).2) (o := .ins c0 dx (putF f v fvs)) hr ha hc nd
              have hln : fvs.length < 1000 := by
                have := rs.length
                rw [List.length_map] at this
                omega
              exact ⟨a, c0, dx, fvs, rfl, hH, q1, q2, hln, hp π1 σ _ (ex.trans ex2) (hr.put ha hc nd ⟨c0, dx, _, h0, upd_same, p1, p3.ext ex2.toKp⟩) ((hs.ext ex).ext ex2)⟩
            · cases e1
          · cases e1
        · cases e1
      · cases hk
end
end Q

set_option Elab.async false
set_option linter.all false
set_option maxRecDepth 100000
/-! Q16: what the top has written; the end. -/
namespace Q
open PySem PySem.Spec PyProof.Rows L2
/-- a def of the top -/
structure DefAt (K : PySem.W.Frag) (mg : Str → Option Value) (x : Str) (st : Stmt) : Prop where
  ex : ∃ f fd, mg x = some (.ref f) ∧ Fun K x x st f fd
theorem defAt_mk {K : PySem.W.Frag} {h : Heap} {mg : Str → Option Value} {x : Str} {st : Stmt} {f : Addr} {oc : Value} {od an : Option Addr} {sl : Array (Option Value)} {kV dc pm cd ct : Value} (X : K.In h) (G : h.Ns mainGlobals mg)
    (a : PySem.W.nsIn K mainGlobals x = some (some (.ref f))) (l : K.lookup f = some ⟨oc, od, .func (PySem.W.fnOf x x (defArgs st) (defBody st) (defScope st) .none kV dc pm an cd ct), sl⟩)
    (c : PySem.W.codeIn K cd x = true) (k : PySem.W.keepIn K (.ref f) = true) : DefAt K mg x st := ⟨f, _, PySem.W.mg_of X G a, fun_mk (st := st) l c k⟩
theorem exCls_mk {K : PySem.W.Frag} {h : Heap} {mg : Str → Option Value} {x : Str} {C : Addr} (X : K.In h) (G : h.Ns mainGlobals mg) (a : PySem.W.nsIn K mainGlobals x = some (some (.ref C)))
    (e : PySem.W.excIn K C [.type "ValueError", .type "Exception", .type "BaseException", .type "object"] "ValueError.__new__" = true) (k : PySem.W.keepIn K (.ref C) = true) (s : PySem.W.subIn K (.ref C) (.type "BaseException") = some true) (t : PySem.W.typeIn K (.ref C) = some (.type "type")) : ExCls K mg x :=
  ⟨C, PySem.W.mg_of X G a, e, k, s, t⟩
end Q

set_option Elab.async false
set_option linter.all false
set_option maxRecDepth 100000
/-! Q17: list comprehensions as expressions and as the value of a name. -/
namespace Q
open PySem PySem.Spec PyProof.Rows L2
section
variable {X : Cx} {Wx : WX}
theorem pts_yes : PTs X [] (TTd X.K X.mg W0 cYes) := ⟨fun pins s σ H Q I h => pts_nil.run pins s σ H Q I (by
  obtain ⟨π, ρ, μ, r, hs, hh, hm, hp⟩ := h
  cases hm
  exact hp.here hh rfl)⟩
theorem gNm_ok {i : Nat} {v : V} {σ : L2.St} {H : Hp} {Q : L2.St → Hp → Prop} (h : TGd X.K X.mg Wx (gNm i) v σ H Q) : gName i v σ H Q := by
  obtain ⟨π, ρ, μ, w, r, hs, hh, rw, hm, hp⟩ := h
  cases hm
  exact hp π _ _ .refl hh (hs.set rw)
variable {b : Bool} {elt tg iter c : Expr} {scope : Scope} {own : List (Str × Nat)} {pos spos py : Pos} {mi : DI} {g : TG} {gd : DG} {m : DE} {mc : Env → M Bool} {i : Nat} {y : Str}
theorem q_lc (hc : X.calm = true) (hN : X.N.Nodup) (hi : QI X Wx tg iter mi) (ok : BlkOk X.N X.env.scope scope own) (hk : TgOk X.K X.mg (own.map (·.2)) g gd)
    (hg : ∀ (s : Shared) (H : Hp) (C : Addr) (cl : List (Str × Addr)) (fp : List Addr), PG (X.blk s H scope (compEnvC scope cl C X.env) fp) tg g)
    (he : ∀ (s : Shared) (H : Hp) (C : Addr) (cl : List (Str × Addr)) (fp : List Addr), QE (X.blk s H scope (compEnvC scope cl C X.env) fp) W0 elt m)
    (hs : ∀ x, foldedSetIterable iter X.env x = pure x := by intro _; rfl) : QE X Wx (.ListComp elt [⟨tg, iter, [], 0⟩] scope pos) (dLc b (own.map (·.2)) mi gd cYes m) :=
  pe_imp (pe_lc hc hN hi ok hg (fun _ _ _ _ _ => pts_yes) he hs) fun σ H Q h => lc_ok hk h
theorem q_lcIf (hc : X.calm = true) (hN : X.N.Nodup) (hi : QI X Wx tg iter mi) (ok : BlkOk X.N X.env.scope scope own) (hk : TgOk X.K X.mg (own.map (·.2)) g gd)
    (hg : ∀ (s : Shared) (H : Hp) (C : Addr) (cl : List (Str × Addr)) (fp : List Addr), PG (X.blk s H scope (compEnvC scope cl C X.env) fp) tg g)
    (ht : ∀ (s : Shared) (H : Hp) (C : Addr) (cl : List (Str × Addr)) (fp : List Addr), QT (X.blk s H scope (compEnvC scope cl C X.env) fp) W0 c mc)
    (he : ∀ (s : Shared) (H : Hp) (C : Addr) (cl : List (Str × Addr)) (fp : List Addr), QE (X.blk s H scope (compEnvC scope cl C X.env) fp) W0 elt m)
    (hs : ∀ x, foldedSetIterable iter X.env x = pure x := by intro _; rfl) : QE X Wx (.ListComp elt [⟨tg, iter, [c], 0⟩] scope pos) (dLc b (own.map (·.2)) mi gd mc m) :=
  pe_imp (pe_lc hc hN hi ok hg (fun s H C cl fp => pts_one (ht s H C cl fp)) he hs) fun σ H Q h => lc_ok hk h
theorem qs_setLc (hc : X.calm = true) (hN : X.N.Nodup) (hy : X.N[i]? = some y) (hyl : X.env.scope.names.lookup y = some .local) (hsw : swapsWith (.ListComp elt [⟨tg, iter, [], 0⟩] scope pos) (some (.Name y py)) spos.line X.env = pure true)
    (hi : QI X Wx tg iter mi) (ok : BlkOk X.N X.env.scope scope own) (hk : TgOk X.K X.mg (own.map (·.2)) g gd)
    (hg : ∀ (s : Shared) (H : Hp) (C : Addr) (cl : List (Str × Addr)) (fp : List Addr), PG (X.blk s H scope (compEnvC scope cl C X.env) fp) tg g)
    (he : ∀ (s : Shared) (H : Hp) (C : Addr) (cl : List (Str × Addr)) (fp : List Addr), QE (X.blk s H scope (compEnvC scope cl C X.env) fp) W0 elt m)
    (hs : ∀ x, foldedSetIterable iter X.env x = pure x := by intro _; rfl) : QS X Wx (.Assign [.Name y py] (.ListComp elt [⟨tg, iter, [], 0⟩] scope pos) spos) (dSet i (dLc b (own.map (·.2)) mi gd cYes m)) :=
  ps_imp (ps_setLc hc hN hy hyl hsw hi ok hg (fun _ _ _ _ _ => pts_yes) he hs) fun D σ H h => lc_ok hk ((asg_ok h).mono fun v H1 hv => gNm_ok hv)
theorem qs_setLcIf (hc : X.calm = true) (hN : X.N.Nodup) (hy : X.N[i]? = some y) (hyl : X.env.scope.names.lookup y = some .local) (hsw : swapsWith (.ListComp elt [⟨tg, iter, [c], 0⟩] scope pos) (some (.Name y py)) spos.line X.env = pure true)
    (hi : QI X Wx tg iter mi) (ok : BlkOk X.N X.env.scope scope own) (hk : TgOk X.K X.mg (own.map (·.2)) g gd)
    (hg : ∀ (s : Shared) (H : Hp) (C : Addr) (cl : List (Str × Addr)) (fp : List Addr), PG (X.blk s H scope (compEnvC scope cl C X.env) fp) tg g)
    (ht : ∀ (s : Shared) (H : Hp) (C : Addr) (cl : List (Str × Addr)) (fp : List Addr), QT (X.blk s H scope (compEnvC scope cl C X.env) fp) W0 c mc)
    (he : ∀ (s : Shared) (H : Hp) (C : Addr) (cl : List (Str × Addr)) (fp : List Addr), QE (X.blk s H scope (compEnvC scope cl C X.env) fp) W0 elt m)
    (hs : ∀ x, foldedSetIterable iter X.env x = pure x := by intro _; rfl) : QS X Wx (.Assign [.Name y py] (.ListComp elt [⟨tg, iter, [c], 0⟩] scope pos) spos) (dSet i (dLc b (own.map (·.2)) mi gd mc m)) :=
  ps_imp (ps_setLc hc hN hy hyl hsw hi ok hg (fun s H C cl fp => pts_one (ht s H C cl fp)) he hs) fun D σ H h => lc_ok hk ((asg_ok h).mono fun v H1 hv => gNm_ok hv)
theorem tk0 : Takes X W0 := fun _ _ ⟨_, _, _, _, _, _, _, _, _, _, _, _, _, _, _, _, w⟩ => w.elim

/-! methods of lists, with the side conditions in one -/
def MSide (X : Cx) (o : Expr) (name : Str) (apos pos : Pos) (e : Expr) (es : List Expr) : Prop :=
  attributeBase o name X.env (eval o X.env) = eval o X.env ∧
  ((backTo pos (starEach (e :: es) X.env)).all (fun x => !x.1) && (backToKw pos (keywordEach [] X.env)).all (fun x => x.1.isSome)
      && decide ((e :: es).length + ([] : List Keyword).length + (if ([] : List Keyword).isEmpty then 0 else 1) < 30)) = true ∧
  (apos.endLine == pos.line) = true ∧ starEach (e :: es) X.env = (false, eval e X.env) :: starEach es X.env ∧ (backTo pos (starEach es X.env)).any (·.1) = false
variable {o e : Expr} {es : List Expr} {apos : Pos} {mo me : DE} {mas : Env → M (List W)}
theorem m_append (ho : QE X Wx o mo) (ha : QA X Wx (e :: es) mas) (z : MSide X o "append" apos pos e es := by exact ⟨rfl, rfl, rfl, rfl, rfl⟩) : QE X Wx (.Call (.Attribute o "append" apos) (e :: es) [] pos) (dBM okL wAppend mo mas) :=
  q_append ho ha (pe_bm PySem.F.plainAttrs_list PySem.F.slot_list_append PySem.F.type_list_append mt_append ho ha z.1 z.2.1 z.2.2.1 z.2.2.2.1 z.2.2.2.2)
theorem m_extend (ho : QE X Wx o mo) (ha : QA X Wx (e :: es) mas) (z : MSide X o "extend" apos pos e es := by exact ⟨rfl, rfl, rfl, rfl, rfl⟩) : QE X Wx (.Call (.Attribute o "extend" apos) (e :: es) [] pos) (dBM okL wExtend mo mas) :=
  q_extend ho ha (pe_bm PySem.F.plainAttrs_list PySem.F.slot_list_extend PySem.F.type_list_extend mt_extend ho ha z.1 z.2.1 z.2.2.1 z.2.2.2.1 z.2.2.2.2)
theorem m_count (hu : X.A.units + 200 < cLine) (ho : QE X Wx o mo) (ha : QA X Wx (e :: es) mas) (z : MSide X o "count" apos pos e es := by exact ⟨rfl, rfl, rfl, rfl, rfl⟩) : QE X Wx (.Call (.Attribute o "count" apos) (e :: es) [] pos) (dBM okL wCount mo mas) :=
  q_count hu ho ha (pe_bm PySem.F.plainAttrs_list PySem.F.slot_list_count PySem.F.type_list_count (mt_countD hu) ho ha z.1 z.2.1 z.2.2.1 z.2.2.2.1 z.2.2.2.2)
theorem m_index (hu : X.A.units + 200 < cLine) (ho : QE X Wx o mo) (ha : QA X Wx (e :: es) mas) (z : MSide X o "index" apos pos e es := by exact ⟨rfl, rfl, rfl, rfl, rfl⟩) : QE X Wx (.Call (.Attribute o "index" apos) (e :: es) [] pos) (dBM okL wIndex mo mas) :=
  q_index hu ho ha (pe_bm PySem.F.plainAttrs_list PySem.F.slot_list_index PySem.F.type_list_index (mt_indexQ hu) ho ha z.1 z.2.1 z.2.2.1 z.2.2.2.1 z.2.2.2.2)
theorem m_pop (ho : QE X Wx o mo) (z : attributeBase o "pop" X.env (eval o X.env) = eval o X.env ∧ (apos.endLine == pos.line) = true := by exact ⟨rfl, rfl⟩) : QE X Wx (.Call (.Attribute o "pop" apos) [] [] pos) (dBM0 okL wPop mo) :=
  q_pop ho (pe_bm0 PySem.F.plainAttrs_list PySem.F.slot_list_pop PySem.F.type_list_pop mt_pop ho z.1 z.2)
/-! loops, tuples as targets -/
theorem qs_forQ {tg iter : Expr} {body : List Stmt} {mi : DI} {g : DG} {mb : DS} (hp : PassesOwn (model X.prog X.w) X.A X.env X.xe) (hc : X.calm = true) (hi : QI X Wx tg iter mi) (hg : QG X Wx tg g) (hb : QSs X Wx body mb)
    (hs : ∀ x, foldedSetIterable iter X.env x = pure x := by intro _; rfl) : QS X Wx (.For tg iter body [] pos) (dFor mi g mb) := qs_for hp hc hi hg hb (ps_for hp hc hi hg hb hs)
theorem qg_tupQ {ts : List Expr} {k n : Nat} {gs : DGs} (hc : X.calm = true) (h : QGs X Wx ts gs) (hn : ts.length = n := by rfl) (h1 : (assignEach ts X.env).length = n := by rfl) (h2 : (assignEach ts X.env).findIdx? (·.1) = none := by rfl) : QG X Wx (.Tuple ts k pos) (gTp n gs) :=
  qg_tup hc h hn (pg_tup hc h h1 h2)
theorem gNm_nx {i : Nat} : ∀ w ρ μ n μ', gNm i w ρ μ ≠ some (.ex n μ') := fun _ _ _ _ _ h => by cases h
theorem gsNil_nx : ∀ ds ρ μ n μ', gsNil ds ρ μ ≠ some (.ex n μ') := fun ds _ _ _ _ h => by cases ds <;> cases h
theorem gsCons_nx {g : DG} {gs : DGs} (h1 : ∀ w ρ μ n μ', g w ρ μ ≠ some (.ex n μ')) (h2 : ∀ ds ρ μ n μ', gs ds ρ μ ≠ some (.ex n μ')) : ∀ ds ρ μ n μ', gsCons g gs ds ρ μ ≠ some (.ex n μ') := fun ds ρ μ n μ' h => by
  cases ds with
  | nil => cases h
  | cons d ds =>
    rcases bnd_some (show bnd (g (.p d) ρ) (gs ds) μ = _ from h) with ⟨a, μ1, _, e2⟩ | ⟨n1, μ1, e1, _⟩
    · exact h2 _ _ _ _ _ e2
    · exact h1 _ _ _ _ _ e1
theorem qg_cls {x : Str} {C : Addr} {p : Pos} (hg : Gl X x) (hm : X.mg x = some (.ref C)) (hd : (x == ("__debug__" : Str)) = false := by decide) : PE X (.Name x p) (tC (.ref C)) := pe_glob hg hm rfl hd
theorem own_cx {P : Program} {w : World} {K : PySem.W.Frag} {mg : Str → Option Value} {base : Heap} {N : List Str} {qual : Str} {f : Addr} {cd : Value} {A : Around} {outer : List PySem.Env} {s : Shared} {H : Hp} {E : XK} {scope : Scope} :
    PassesOwn (model P w) (cxOf (L2.CX P w) P w K mg base N qual scope f cd A outer s H E).A (cxOf (L2.CX P w) P w K mg base N qual scope f cd A outer s H E).env (cxOf (L2.CX P w) P w K mg base N qual scope f cd A outer s H E).xe :=
  passes_of (X := cxOf (L2.CX P w) P w K mg base N qual scope f cd A outer s H E) rfl
end
theorem hu_q {k : Nat} {A : Around} (r : Room k A) : A.units + 200 < cLine := by have := r.un; omega
/-- the statement's iterations' own frame -/
theorem cal_of {P : Program} {w : World} {K : PySem.W.Frag} {mg : Str → Option Value} {base : Heap} {x : Str} {st : Stmt} {k n : Nat} {F : List W → M W} (d : DefAt K mg x st) (h : ∀ f fd, Fun K x x st f fd → Fn P w K mg base k f n F) : Cal P w K mg base k x n F := by
  obtain ⟨f, fd, e, F1⟩ := d.ex
  exact ⟨f, e, h f fd F1⟩
end Q

set_option Elab.async false
set_option linter.all false
set_option maxRecDepth 100000
/-! Q18: the top's facts by an own hook; the end of a law. -/
namespace Q
open PySem PySem.Spec PyProof.Rows L2
inductive Fx where
  | he (f : He.Fa)
  | exo (x : Str)
  | kit (x y : Str) (b : Bool)
  | kitV (x : Str)
  | kitN (y : Str)
  | kitNV
abbrev va : Value := .type "ValueError"
def Fx.ok (K : PySem.W.Frag) : Fx → Bool
  | .he f => f.ok K
  | .exo x => (He.eqO (PySem.W.findIn K (.ref (He.ga K x)) "__getattribute__") (some (some (.builtin "BaseException.__getattribute__"))) && He.eqO (PySem.W.findIn K (.ref (He.ga K x)) "__getattr__") (some none)) &&
      ((decide (PySem.W.subIn K (.ref (He.ga K x)) (.type "BaseException") = some true) && PySem.W.hasDictIn K (He.ga K x)) &&
      ((He.eqO (PySem.W.findIn K (.ref (He.ga K x)) "__class__") (some (some (.builtin "object.__class__"))) && He.eqO (PySem.W.specialIn K (.builtin "object.__class__") "__get__") (some (some (.builtin "getset_descriptor.__get__")))) &&
      (decide (PySem.W.takesIn K (.builtin "object.__class__") = some true) && decide (PySem.W.mroIn K (He.ga K x) (.type "object") = some true))))
  | .kit x y b => decide (PySem.W.kitOne K (.ref (He.ga K x)) (.ref (He.ga K y)) = some b)
  | .kitV x => decide (PySem.W.kitOne K (.ref (He.ga K x)) va = some true)
  | .kitN y => decide (PySem.W.kitOne K (.type "NoneType") (.ref (He.ga K y)) = some false)
  | .kitNV => decide (PySem.W.kitOne K (.type "NoneType") va = some false)
def obsQ (fx : List Fx) (fn : List He.DefD) (K : PySem.W.Frag) : He.AlD := ((fx.all fun f => f.ok K) && fn.all fun d => d.ok K, fn.map fun d => He.fnW K d.at_)
structure SaysQ (fx : List Fx) (fn : List He.DefD) (K : PySem.W.Frag) : Prop where
  e : obsQ fx fn K = He.valD fn
def obsQG (n : Nat) (fx : List Fx) (fn : List He.DefD) (g : Addr → Option Obj) : He.AlD := obsQ fx fn (He.frG g (He.asD g n))
def hookQ (n : Nat) (fx : List Fx) (fn : List He.DefD) : PySem.W.Hook where
  α := He.AlD
  obs := fun s => obsQG n fx fn s.heap.get?
  val := fun _ => He.valD fn
  says := fun _ h => ∃ K : PySem.W.Frag, K.In h ∧ SaysQ fx fn K
  of := fun _ _ e => ⟨_, He.frG_in, ⟨e⟩⟩
  keeps := fun _ _ _ ⟨K, hK, c⟩ k => ⟨K, PySem.W.Frag.In.keeps hK k, c⟩
theorem obsQG_eq {n : Nat} {fx : List Fx} {fn : List He.DefD} {g : Addr → Option Obj} {s : Shared} (h : ∀ a, g a = s.heap.get? a) : obsQG n fx fn g = (hookQ n fx fn).obs s := by
  obtain rfl : g = s.heap.get? := funext h
  rfl
section
variable {fx : List Fx} {fn : List He.DefD} {K : PySem.W.Frag} {mg : Str → Option Value} {h : Heap}
theorem SaysQ.fact (c : SaysQ fx fn K) (i : Nat) {f : Fx} (hi : fx[i]? = some f) : f.ok K = true := by
  have z : ((fx.all fun f => f.ok K) && fn.all fun d => d.ok K) = true := congrArg Prod.fst c.e
  exact List.all_eq_true.mp (He.ba z).1 f (List.mem_of_getElem? hi)
theorem SaysQ.fun_ (c : SaysQ fx fn K) (i : Nat) {d : He.DefD} (hi : fn[i]? = some d) : ∃ fd, FunD K d.name d.qual d.params d.body d.scope (d.dvs K) (d.kws K) (He.fAd K d.at_) fd := by
  have z : ((fx.all fun f => f.ok K) && fn.all fun d => d.ok K) = true := congrArg Prod.fst c.e
  have y : fn.map (fun d => He.fnW K d.at_) = fn.map He.DefD.val := congrArg Prod.snd c.e
  have x : He.fnW K d.at_ = d.val := by
    have x1 := congrArg (fun l => l[i]?) y
    simp only [List.getElem?_map, hi, Option.map_some, Option.some.injEq] at x1
    exact x1
  exact He.DefD.funD x (List.all_eq_true.mp (He.ba z).2 d (List.mem_of_getElem? hi))
/-- no defaults: as the layer wants it -/
theorem fun_of {x qual : Str} {st : Stmt} {f : Addr} {fd : FuncData} (F : FunD K x qual (defArgs st) (defBody st) (defScope st) [] [] f fd) : Fun K x qual st f fd := by
  obtain ⟨oc, od, dV, kV, doc, pm, an, cdv, ct, osl, e, lk, cd, dd, _⟩ := F.ex
  rcases dd with ⟨_, z⟩ | ⟨z, _⟩
  · subst z
    exact ⟨⟨oc, od, kV, doc, pm, an, cdv, ct, osl, e, lk, cd⟩, F.kp⟩
  · exact absurd rfl z
abbrev defD (x : Str) (st : Stmt) : He.DefD := ⟨(x, none), x, x, defArgs st, defBody st, defScope st, [], []⟩
theorem SaysQ.defAt (c : SaysQ fx fn K) (X : K.In h) (G : h.Ns mainGlobals mg) (i j : Nat) {x : Str} {st : Stmt} (hi : fn[i]? = some (defD x st)) (hj : fx[j]? = some (.he (.glo x))) : DefAt K mg x st := by
  obtain ⟨fd, F⟩ := c.fun_ i hi
  exact ⟨_, fd, He.glo_ok X G (c.fact j hj), fun_of F⟩
theorem SaysQ.free (c : SaysQ fx fn K) (X : K.In h) (G : h.Ns mainGlobals mg) (j : Nat) {x : Str} (hj : fx[j]? = some (.he (.free x))) : mg x = none := He.free_ok X G (c.fact j hj)
/-- an own class of exceptions -/
structure XCls (K : PySem.W.Frag) (mg : Str → Option Value) (x : Str) : Prop where
  g : mg x = some (.ref (He.ga K x))
  c : ExCls K mg x
  e : ExcC K (He.ga K x)
theorem SaysQ.xcls (c : SaysQ fx fn K) (X : K.In h) (G : h.Ns mainGlobals mg) (j k l : Nat) {x : Str} (hj : fx[j]? = some (.he (.glo x))) (hk : fx[k]? = some (.he (.exc x))) (hl : fx[l]? = some (.exo x)) : XCls K mg x := by
  have g := He.glo_ok X G (c.fact j hj)
  refine ⟨g, ⟨_, g, He.exc_ok (c.fact k hk)⟩, ?_⟩
  obtain ⟨a, b⟩ := He.ba (c.fact l hl)
  obtain ⟨a1, a2⟩ := He.ba a
  obtain ⟨b, d⟩ := He.ba b
  obtain ⟨b1, b2⟩ := He.ba b
  obtain ⟨d1, d2⟩ := He.ba d
  obtain ⟨d3, d4⟩ := He.ba d1
  obtain ⟨d5, d6⟩ := He.ba d2
  exact ⟨He.eqO_ok a1, He.eqO_ok a2, of_decide_eq_true b1, b2, He.eqO_ok d3, He.eqO_ok d4, of_decide_eq_true d5, of_decide_eq_true d6⟩
theorem cn_of {x : Str} {C : Addr} (g : mg x = some (.ref C)) : cnOf mg x = some C := by unfold cnOf; rw [g]
theorem XCls.cn {x : Str} (c : XCls K mg x) : cnOf mg x = some (He.ga K x) := cn_of c.g
/-- a clause that catches y, asked of the exceptions in l -/
def CatchL (K : PySem.W.Frag) (mg : Str → Option Value) (y : Str) (l : List (Str × Bool)) : Prop := ∀ p ∈ l, mg p.1 = some (.ref (He.ga K p.1)) ∧ PySem.W.exmOne K (.ref (He.ga K p.1)) (.ref (He.ga K y)) = some p.2
theorem lookup_mem {α : Type} {x : Str} {b : α} : ∀ {l : List (Str × α)}, l.lookup x = some b → (x, b) ∈ l
  | [], h => by cases h
  | (y, c) :: l, h => by
    rw [List.lookup_cons] at h
    split at h
    · rename_i e
      cases h
      rw [eq_of_beq e]
      exact List.mem_cons_self ..
    · exact List.mem_cons_of_mem _ (lookup_mem h)
theorem CatchL.ok {y : Str} {l : List (Str × Bool)} (c : CatchL K mg y l) : Catch K mg (.ref (He.ga K y)) l := ⟨fun x b e C hC => by
  obtain ⟨g, z⟩ := c _ (lookup_mem e)
  rw [cn_of g] at hC
  cases hC
  exact z⟩
def KitL (K : PySem.W.Frag) (mg : Str → Option Value) (v : Value) (l : List (Str × Bool)) : Prop := PySem.W.kitOne K (.type "NoneType") v = some false ∧ ∀ p ∈ l, XCls K mg p.1 ∧ PySem.W.kitOne K (.ref (He.ga K p.1)) v = some p.2
theorem KitL.ok {v : Value} {l : List (Str × Bool)} (c : KitL K mg v l) : Kits K mg v l := ⟨fun x b e C hC => by
  obtain ⟨g, z⟩ := c.2 _ (lookup_mem e)
  rw [g.cn] at hC
  cases hC
  exact ⟨g.e, z⟩, c.1⟩
theorem SaysQ.kit (c : SaysQ fx fn K) (j : Nat) {x y : Str} {b : Bool} (hj : fx[j]? = some (.kit x y b)) : PySem.W.kitOne K (.ref (He.ga K x)) (.ref (He.ga K y)) = some b := of_decide_eq_true (c.fact j hj)
theorem SaysQ.kitV (c : SaysQ fx fn K) (j : Nat) {x : Str} (hj : fx[j]? = some (.kitV x)) : PySem.W.kitOne K (.ref (He.ga K x)) va = some true := of_decide_eq_true (c.fact j hj)
theorem SaysQ.kitN (c : SaysQ fx fn K) (j : Nat) {y : Str} (hj : fx[j]? = some (.kitN y)) : PySem.W.kitOne K (.type "NoneType") (.ref (He.ga K y)) = some false := of_decide_eq_true (c.fact j hj)
theorem SaysQ.kitNV (c : SaysQ fx fn K) (j : Nat) (hj : fx[j]? = some .kitNV) : PySem.W.kitOne K (.type "NoneType") va = some false := of_decide_eq_true (c.fact j hj)
theorem SaysQ.exm (c : SaysQ fx fn K) (j : Nat) {x y : Str} {b : Bool} (hj : fx[j]? = some (.he (.exm x y b))) : PySem.W.exmOne K (.ref (He.ga K x)) (.ref (He.ga K y)) = some b := He.exm_ok (c.fact j hj)
end
/-! ### the end -/
theorem fn_ok {P : Program} {w : World} {K : PySem.W.Frag} {mg : Str → Option Value} {base : Heap} {own : Bool} {x qual : Str} {st : Stmt} {f : Addr} {fd : FuncData} {N ps : List Str} {k : Nat} {m : DS} (F : Fun K x qual st f fd) (S : FnScope N ps (defScope st))
    (hbody : ∀ (cdv : Value) (A : Around) (outer : List PySem.Env) (s : Shared) (H : Hp) (E : XK), Room k (A.deeper (envOfC qual (defScope st) s.heap.objs.size f cdv)) →
      Takes (cxOf (L2.CX P w) P w K mg base N qual (defScope st) f cdv A outer s H E) (fun c d _ H' => E c d H') →
      QSs (cxOf (L2.CX P w) P w K mg base N qual (defScope st) f cdv A outer s H E) (fun c d _ H' => E c d H') (defBody st) m) : FnOk P w K mg base (L2.CX P w) (k + 1) f fd ps (SpD K mg ps.length (runF own N.length m)) :=
  F.okX S (fun vs H Q E h => h.1) fun cdv A outer s H vs Q E hr h => ⟨_, hbody cdv A outer s H E hr (takes_of rfl rfl rfl rfl), out_ok h⟩
theorem rep_ints {K : PySem.W.Frag} {mg : Str → Option Value} {π : PL} {μ : Store} {H : Hp} : ∀ ns : List Int, Reps K mg π μ H (ns.map V.int) (ns.map D.int)
  | [] => .nil
  | n :: ns => .cons (.int n) (rep_ints ns)
theorem hrel0 {K : PySem.W.Frag} {mg : Str → Option Value} {H : Hp} : HRel K mg ⟨[], fun _ => False⟩ [] H := ⟨rfl, .nil, fun _ _ _ e => absurd e (by simp), fun _ h => False.elim h, fun _ h => False.elim h⟩
theorem live0 {a : Addr} : ¬ live ⟨[], fun _ => False⟩ [] a := fun h => by
  rcases h with h | ⟨k, c, e, _⟩
  · exact h
  · cases e
theorem law_end {l : PySem.W.OpenLaw} {k : Nat} {q : Program} {loose : List Str} {XP : (Str → Option Value) → Heap → Prop} {d : DefRec} {fx : List Fx} {fn : List He.DefD} {F : List W → M W} {x : Str}
    (hn : l.most = some 63) (hdf : d.params.defaults = []) (hr : Room k callerA)
    (H1 : ∀ (w : World) (mg : Str → Option Value) (fa : Addr) (h : Heap) (K : PySem.W.Frag), K.In h → h.Ns mainGlobals mg → SaysQ fx fn K → mg d.name = some (.ref fa) →
      ∃ fd : FuncData, (∀ (s : Shared) (u : Value), BindsTo s fd ⟨[u], []⟩ [(x, u)]) ∧ ∀ base : Heap, FnOk l.prog w K mg base (L2.CX l.prog w) k fa fd [x] (SpD K mg 1 F))
    (H2 : ∀ ns : List Int, ns.length ≤ 63 → (∀ z ∈ ns, Builtin.Int.intBits z ≤ 1048576) → F [.p (.scr (ns.map D.int))] [] = some (.ok (.p (.bl true)) [])) :
    PySem.W.WalkO q loose XP (hookQ 4 fx fn).says l.row.toRowW d [] (fun f vs => PySem.call f vs) := by
  refine Att.attach_callB hn hdf fun w s₀ s₁ mg mb fa o pm cd doc a vs ns G Y ho hd hcd hmg hobj hints hlen hbits hg => ?_
  obtain ⟨K, KX, c⟩ := Y
  obtain ⟨fd, hb, hF⟩ := H1 w mg fa _ K KX G.T.g c hmg
  refine law_call KX G.T.g G.T.b G.T.builtins G.T.nolimit hg hobj hints (Nat.le_trans hlen (by decide)) hr (fun base _ _ => hF base) hb (fun H hO hS => ?_) fun H e s' z => ?_
  · refine ⟨rfl, ⟨[], fun _ => False⟩, [], [.p (.scr (ns.map D.int))], _, hrel0, ⟨?_, trivial⟩, H2 ns hlen hbits, ?_⟩
    · refine Rep.scr ?_ (rep_ints ns)
      rcases hS with z | z
      · rcases z with z | z
        · rcases hO a with y | ⟨o, xs, y⟩
          · rw [z] at y; cases y
          · rw [z] at y; cases y
        · exact .inl ⟨z, live0⟩
      · exact .inr z
    · intro π' b H' ex hh rb
      cases rb
      rfl
  · obtain ⟨_, _, _, _, _, _, _, _, _, _, _, _, z⟩ := z
    exact z
end Q

set_option Elab.async false
set_option linter.all false
set_option maxRecDepth 100000
/-! Q19: what meanings are worth: rules to work them out. -/
namespace Q
open PySem L2
/-! sizes of numbers -/
def Bd (b : Nat) (i : Int) : Prop := i.natAbs < 2 ^ b
theorem bits_le {b : Nat} {i : Int} (h : Bd b i) : Builtin.Int.intBits i ≤ b := by
  unfold Builtin.Int.intBits
  split
  · exact Nat.zero_le _
  · rename_i hi
    have h0 : i.natAbs ≠ 0 := fun z => hi (by rw [Int.natAbs_eq_zero.mp z]; rfl)
    exact (Nat.log2_lt h0).mpr h
theorem bd_of {b : Nat} {i : Int} (h : Builtin.Int.intBits i ≤ b) : Bd b i := by
  unfold Builtin.Int.intBits at h
  split at h
  · rename_i hi
    rw [eq_of_beq hi]
    exact Nat.two_pow_pos b
  · rename_i hi
    have h0 : i.natAbs ≠ 0 := fun z => hi (by rw [Int.natAbs_eq_zero.mp z]; rfl)
    exact (Nat.log2_lt h0).mp h
theorem Bd.mono {a b : Nat} {i : Int} (h : Bd a i) (l : a ≤ b) : Bd b i := Nat.lt_of_lt_of_le h (Nat.pow_le_pow_right (by decide) l)
theorem Bd.mul {a b : Nat} {i j : Int} (h : Bd a i) (g : Bd b j) : Bd (a + b) (i * j) := by
  unfold Bd at *
  rw [Int.natAbs_mul, Nat.pow_add]
  exact Nat.mul_lt_mul'' h g
theorem Bd.add {b : Nat} {i j : Int} (h : Bd b i) (g : Bd b j) : Bd (b + 1) (i + j) := by
  unfold Bd at *
  rw [Nat.pow_succ]
  omega
theorem Bd.sub {b : Nat} {i j : Int} (h : Bd b i) (g : Bd b j) : Bd (b + 1) (i - j) := by
  unfold Bd at *
  rw [Nat.pow_succ]
  omega
theorem bd_lit {b : Nat} {n : Nat} (h : n < 2 ^ b) : Bd b (n : Int) := by
  unfold Bd
  rw [Int.natAbs_natCast]
  exact h
theorem Bd.div {b : Nat} {i : Int} {j : Int} (h : Bd b i) : Bd b (i / j) := Nat.lt_of_le_of_lt (Int.natAbs_ediv_le_natAbs i j) h
theorem bd_range {b : Nat} {i n : Int} (h0 : 0 ≤ i) (h1 : i < n) (hn : n ≤ 2 ^ b) : Bd b i := by
  unfold Bd
  have : ((i.natAbs : Nat) : Int) < ((2 ^ b : Nat) : Int) := by
    rw [Int.natAbs_of_nonneg h0]
    have e : ((2 ^ b : Nat) : Int) = (2 : Int) ^ b := by simp
    omega
  exact Int.ofNat_lt.mp this
theorem cmul {a b : Nat} {i j : Int} (h : Bd a i) (g : Bd b j) (l : a + b ≤ 134217728) : CMulX i j := by
  have h1 := bits_le h
  have h2 := bits_le g
  unfold CMulX
  omega
theorem Bd.sum {b : Nat} : ∀ {l : List Int}, (∀ x ∈ l, Bd b x) → Bd (b + l.length) l.sum
  | [], _ => Nat.two_pow_pos _
  | x :: l, h => by
    have h1 := Bd.mono (h x (List.mem_cons_self ..)) (show b ≤ b + l.length by omega)
    have h2 := Bd.sum (l := l) fun y hy => h y (List.mem_cons_of_mem _ hy)
    rw [List.sum_cons, List.length_cons]
    exact h1.add h2
/-! calls over data -/
theorem callN_p {F : List W → M W} {ds : List D} {n : Nat} {μ : Store} {d : D} (hn : ds.length = n) (h : F (ds.map .p) [] = some (.ok (.p d) [])) : callN n F (ds.map .p) μ = some (.ok (.p d) μ) := by
  have a : ∀ l : List D, locsOf (l.map .p) = [] := fun l => by induction l <;> simp_all [locsOf]
  have b : ∀ (l : List D) (n : Nat), renum (l.map .p) n = l.map .p := fun l => by induction l <;> simp_all [renum]
  unfold callN callD
  rw [if_pos (by rw [List.length_map]; exact hn), a, b, if_pos List.nodup_nil]
  simp only [pick, h, backD, putAll]
theorem callN_x {F : List W → M W} {ds : List D} {n : Nat} {μ : Store} {x : Str} (hn : ds.length = n) (h : F (ds.map .p) [] = some (.ex x [])) : callN n F (ds.map .p) μ = some (.ex x μ) := by
  have a : ∀ l : List D, locsOf (l.map .p) = [] := fun l => by induction l <;> simp_all [locsOf]
  have b : ∀ (l : List D) (n : Nat), renum (l.map .p) n = l.map .p := fun l => by induction l <;> simp_all [renum]
  unfold callN callD
  rw [if_pos (by rw [List.length_map]; exact hn), a, b, if_pos List.nodup_nil]
  simp only [pick, h, backD, putAll]
/-- a fresh own place handed back -/
theorem callN_pO {F : List W → M W} {ds : List D} {n : Nat} {μ : Store} {c : Cell} (hn : ds.length = n) (hc : isDead c = false) (h : F (ds.map .p) [] = some (.ok (.l 0) [c])) : callN n F (ds.map .p) μ = some (.ok (.l μ.length) (μ ++ [c])) := by
  have a : ∀ l : List D, locsOf (l.map .p) = [] := fun l => by induction l <;> simp_all [locsOf]
  have b : ∀ (l : List D) (n : Nat), renum (l.map .p) n = l.map .p := fun l => by induction l <;> simp_all [renum]
  unfold callN callD
  rw [if_pos (by rw [List.length_map]; exact hn), a, b, if_pos List.nodup_nil]
  simp [pick, h, backD, putAll, hc]
/-! loops -/
theorem loop_inv {g : DG} {body : DS} {I : Nat → Env → Store → Prop} : ∀ {ds : List D} {n : Nat} {ρ : Env} {μ : Store}, I n ρ μ →
    (∀ i d ρ μ, ds[i]? = some d → I (n + i) ρ μ → ∃ ρ1 μ1 ρ2 μ2, g (.p d) ρ μ = some (.ok ρ1 μ1) ∧ body ρ1 μ1 = some (.nx ρ2 μ2) ∧ I (n + i + 1) ρ2 μ2) → ∃ ρ' μ', loopD g body ds ρ μ = some (.nx ρ' μ') ∧ I (n + ds.length) ρ' μ'
  | [], n, ρ, μ, h, _ => ⟨ρ, μ, rfl, h⟩
  | d :: ds, n, ρ, μ, h, step => by
    obtain ⟨ρ1, μ1, ρ2, μ2, e1, e2, h2⟩ := step 0 d ρ μ rfl h
    obtain ⟨ρ', μ', e3, h3⟩ := loop_inv (g := g) (body := body) (I := I) (ds := ds) (n := n + 1) h2 fun i d ρ μ e hi => by
      obtain ⟨a, b, c, d', x, y, z⟩ := step (i + 1) d ρ μ e (by rw [show n + (i + 1) = n + 1 + i by omega]; exact hi)
      exact ⟨a, b, c, d', x, y, by rw [show n + 1 + i + 1 = n + (i + 1) + 1 by omega]; exact z⟩
    refine ⟨ρ', μ', ?_, by rw [List.length_cons, show n + (ds.length + 1) = n + 1 + ds.length by omega]; exact h3⟩
    unfold loopD
    simp only [e1, e2]
    exact e3
theorem comp_ok {g : DG} {c : Env → M Bool} {m : DE} {ρ : Env} {μ : Store} {p : D → Bool} {f : D → D} : ∀ {ds acc : List D},
    (∀ d ∈ ds, ∃ ρ1, g (.p d) ρ μ = some (.ok ρ1 μ) ∧ c ρ1 μ = some (.ok (p d) μ) ∧ (p d = true → m ρ1 μ = some (.ok (.p (f d)) μ))) → acc.length + ds.length ≤ sizeLine → compD g c m ρ ds acc μ = some (acc ++ (ds.filter p).map f, μ)
  | [], acc, _, _ => by simp [compD]
  | d :: ds, acc, h, hl => by
    obtain ⟨ρ1, e1, e2, e3⟩ := h d (List.mem_cons_self ..)
    have hr : ∀ d ∈ ds, ∃ ρ1, g (.p d) ρ μ = some (.ok ρ1 μ) ∧ c ρ1 μ = some (.ok (p d) μ) ∧ (p d = true → m ρ1 μ = some (.ok (.p (f d)) μ)) := fun x hx => h x (List.mem_cons_of_mem _ hx)
    rw [List.length_cons] at hl
    unfold compD
    simp only [e1, e2]
    cases hp : p d with
    | true =>
      simp only [e3 hp]
      rw [if_pos (by omega), comp_ok hr (by rw [List.length_append, List.length_singleton]; omega)]
      simp [hp]
    | false =>
      simp only
      rw [comp_ok hr (by omega)]
      simp [hp]
theorem lc_p {vs : List Nat} {mi : DI} {g : DG} {c : Env → M Bool} {m : DE} {ρ : Env} {μ : Store} {ds : List D} {p : D → Bool} {f : D → D} (hi : mi ρ μ = some (.ok ds μ))
    (h : ∀ d ∈ ds, ∃ ρ1, g (.p d) (wipeE ρ vs) μ = some (.ok ρ1 μ) ∧ c ρ1 μ = some (.ok (p d) μ) ∧ (p d = true → m ρ1 μ = some (.ok (.p (f d)) μ))) (hl : ds.length ≤ sizeLine) : dLc false vs mi g c m ρ μ = some (.ok (.p (.lst ((ds.filter p).map f))) μ) := by
  unfold dLc bnd
  simp only [hi]
  rw [comp_ok h (by simpa using hl)]
  simp
theorem lc_all {vs : List Nat} {mi : DI} {g : DG} {m : DE} {ρ : Env} {μ : Store} {ds : List D} {f : D → D} (hi : mi ρ μ = some (.ok ds μ))
    (h : ∀ d ∈ ds, ∃ ρ1, g (.p d) (wipeE ρ vs) μ = some (.ok ρ1 μ) ∧ m ρ1 μ = some (.ok (.p (f d)) μ)) (hl : ds.length ≤ sizeLine) : dLc false vs mi g cYes m ρ μ = some (.ok (.p (.lst (ds.map f))) μ) := by
  have z := lc_p (c := cYes) (p := fun _ => true) (vs := vs) (g := g) (m := m) (f := f) hi (fun d hd => by
    obtain ⟨ρ1, e1, e2⟩ := h d hd
    exact ⟨ρ1, e1, rfl, fun _ => e2⟩) hl
  rw [z, List.filter_eq_self.mpr fun _ _ => rfl]

/-! defs -/
theorem runF_p {own : Bool} {N : Nat} {m : DS} {ws : List W} {d : D} {μ μ1 : Store} (h : m (startE N ws) μ = some (.rt (.p d) μ1)) : runF own N m ws μ = some (.ok (.p d) (μ1.take μ.length)) := by
  unfold runF
  simp only [h, fnOut]
theorem runF_x {own : Bool} {N : Nat} {m : DS} {ws : List W} {x : Str} {ρ : Env} {μ μ1 : Store} (h : m (startE N ws) μ = some (.ex x ρ μ1)) : runF own N m ws μ = some (.ex x (μ1.take μ.length)) := by
  unfold runF
  simp only [h, fnOut]
theorem runF_l {N : Nat} {m : DS} {ws : List W} {k : Nat} {l : List D} {μ1 : Store} (h : m (startE N ws) [] = some (.rt (.l k) μ1)) (hc : μ1[k]? = some (.lst l)) : runF false N m ws [] = some (.ok (.p (.lst l)) []) := by
  unfold runF
  simp [h, fnOut, hc, isDead]
theorem runF_o {N : Nat} {m : DS} {ws : List W} {k : Nat} {l : List D} {μ1 : Store} (h : m (startE N ws) [] = some (.rt (.l k) μ1)) (hc : μ1[k]? = some (.lst l)) : runF true N m ws [] = some (.ok (.l 0) [.lst l]) := by
  unfold runF
  simp [h, fnOut, hc, isDead]
theorem seq_nx {a b : DS} {ρ ρ1 : Env} {μ μ1 : Store} (h : a ρ μ = some (.nx ρ1 μ1)) : dSeq a b ρ μ = b ρ1 μ1 := by
  unfold dSeq
  simp only [h]
theorem seq_rt {a b : DS} {ρ : Env} {w : W} {μ μ1 : Store} (h : a ρ μ = some (.rt w μ1)) : dSeq a b ρ μ = some (.rt w μ1) := by
  unfold dSeq
  simp only [h]
theorem seq_ex {a b : DS} {ρ ρ1 : Env} {x : Str} {μ μ1 : Store} (h : a ρ μ = some (.ex x ρ1 μ1)) : dSeq a b ρ μ = some (.ex x ρ1 μ1) := by
  unfold dSeq
  simp only [h]
theorem set_ok {i : Nat} {m : DE} {ρ : Env} {w : W} {μ μ1 : Store} (h : m ρ μ = some (.ok w μ1)) : dSet i m ρ μ = some (.nx (ρ.set i (some w)) μ1) := by
  simp [dSet, dAsg, liftE, h, gNm, Q.ret]
theorem set_seq {i : Nat} {m : DE} {b : DS} {ρ : Env} {w : W} {μ μ1 : Store} (h : m ρ μ = some (.ok w μ1)) : dSeq (dSet i m) b ρ μ = b (ρ.set i (some w)) μ1 := seq_nx (set_ok h)
theorem if_ok {c : Env → M Bool} {a b : DS} {ρ : Env} {k : Bool} {μ μ1 : Store} (h : c ρ μ = some (.ok k μ1)) : dIf c a b ρ μ = (if k = true then a else b) ρ μ1 := by
  simp [dIf, liftE, h]
theorem if_t {c : Env → M Bool} {a b : DS} {ρ : Env} {μ μ1 : Store} (h : c ρ μ = some (.ok true μ1)) : dIf c a b ρ μ = a ρ μ1 := if_ok h
theorem if_f {c : Env → M Bool} {a b : DS} {ρ : Env} {μ μ1 : Store} (h : c ρ μ = some (.ok false μ1)) : dIf c a b ρ μ = b ρ μ1 := by rw [if_ok h]; rfl
/-- a guard that is not met -/
theorem if_skip {c : Env → M Bool} {a b : DS} {ρ : Env} {μ μ1 : Store} (h : c ρ μ = some (.ok false μ1)) : dSeq (dIf c a dSkip) b ρ μ = b ρ μ1 := seq_nx (by rw [if_f h]; rfl)
theorem ret_ok {m : DE} {ρ : Env} {w : W} {μ μ1 : Store} (h : m ρ μ = some (.ok w μ1)) : dRet m ρ μ = some (.rt w μ1) := by
  simp [dRet, liftE, h]
theorem expr_ok {m : DE} {ρ : Env} {w : W} {μ μ1 : Store} (h : m ρ μ = some (.ok w μ1)) : dExpr m ρ μ = some (.nx ρ μ1) := by
  simp [dExpr, liftE, h]
theorem for_go {mi : DI} {g : DG} {body : DS} {ρ : Env} {μ μ1 : Store} {ds : List D} (h : mi ρ μ = some (.ok ds μ1)) : dFor mi g body ρ μ = loopD g body ds ρ μ1 := by
  simp [dFor, liftE, h]
theorem bnd_go {α β : Type} {m : M α} {f : α → M β} {a : α} {μ μ1 : Store} (h : m μ = some (.ok a μ1)) : bnd m f μ = f a μ1 := by
  unfold bnd
  simp only [h]
theorem atI_nat {α : Type} (l : List α) (k : Nat) (h : k < l.length) : atI l (k : Int) = some l[k] := by
  unfold atI ixN
  rw [if_pos (by omega), if_pos (by omega)]
  simp [h]
theorem atI_int {α : Type} (l : List α) (k : Int) (h0 : 0 ≤ k) (h : k < l.length) : ∃ a, atI l k = some a ∧ a ∈ l := by
  obtain ⟨n, rfl⟩ := Int.eq_ofNat_of_zero_le h0
  exact ⟨_, atI_nat l n (by omega), List.getElem_mem _⟩
/-! what is drawn: sums over the script -/
theorem rngN_mem {i j c : Int} (hc : 0 < c) {d : D} (h : d ∈ upto i c (rngN i j c)) : ∃ k : Int, d = .int k ∧ i ≤ k ∧ k < j := by
  unfold upto at h
  obtain ⟨t, ht, rfl⟩ := List.mem_map.mp h
  rw [List.mem_range] at ht
  refine ⟨_, rfl, ?_, ?_⟩
  · have := Int.mul_nonneg (Int.natCast_nonneg t) (Int.le_of_lt hc)
    omega
  · unfold rngN at ht
    split at ht
    · have h1 : (t : Int) ≤ (j - i - 1) / c := by omega
      have h2 := (Int.le_ediv_iff_mul_le hc).mp h1
      omega
    · omega
theorem intsD_map (l : List Int) : intsD (l.map .int) = some l := by
  induction l with
  | nil => rfl
  | cons x l ih => simp [intsD, ih]
def dDrawn (v : Nat) : DE := dN wSum (aCons (dLc false (List.map Prod.snd ([("_law_k", v)] : List (Str × Nat))) (iOfN rng3 (aCons (dVar 1) (aCons (dN wMin (aCons (dN wLen (aCons (dVar 0) aNil)) (aCons (dC (.int 63)) aNil))) (aCons (dVar 2) aNil)))) (gNm v) cYes (d2 wIx (dVar 0) (dVar v))) aNil)
theorem drawn_ok {v : Nat} {ns : List Int} {at_ many : Nat} {ρ : Env} {μ : Store} (hns : ns.length ≤ 63) (hb : ∀ z ∈ ns, Bd 1048576 z) (h0 : ρ[0]? = some (some (.p (.scr (ns.map .int))))) (h1 : ρ[1]? = some (some (.p (.int at_)))) (h2 : ρ[2]? = some (some (.p (.int many))))
    (hv : 2 < v) (hvl : v < ρ.length) (ha : at_ ≤ 1000) (hm : 0 < many) (hm2 : many < 1000) : ∃ s : Int, Bd 1048700 s ∧ dDrawn v ρ μ = some (.ok (.p (.int s)) μ) := by
  have hmin : (if (63 : Int) < (((ns.map D.int).length : Nat) : Int) then (63 : Int) else (((ns.map D.int).length : Nat) : Int)) = (ns.length : Int) := by
    rw [List.length_map, if_neg (by omega)]
  have hr : rng3 [.p (.int at_), .p (.int (ns.length : Int)), .p (.int many)] = some (upto at_ many (rngN at_ ns.length many)) := by
    exact if_pos ⟨by omega, by omega, by omega, by omega, by omega, by omega⟩
  have hi : iOfN rng3 (aCons (dVar 1) (aCons (dN wMin (aCons (dN wLen (aCons (dVar 0) aNil)) (aCons (dC (.int 63)) aNil))) (aCons (dVar 2) aNil))) ρ μ = some (.ok (upto at_ many (rngN at_ ns.length many)) μ) := by
    simp only [iOfN, aCons, aNil, dVar, dN, wMin, wLen, one, two, lenV, rdQ, dC, bnd, Q.ret, opt, optS, h0, h1, h2, Option.join_some, hmin, Option.map_some, hr]
  have hl : (upto at_ many (rngN at_ ns.length many)).length ≤ sizeLine := by
    unfold upto
    rw [List.length_map, List.length_range]
    unfold rngN
    split
    · have : ((ns.length : Int) - at_ - 1) / many ≤ (ns.length : Int) - at_ - 1 := Int.ediv_le_self _ (by omega)
      have e : sizeLine = 16777216 := by decide
      omega
    · exact Nat.zero_le _
  have hf : ∀ d ∈ upto (at_ : Int) many (rngN at_ ns.length many), ∃ ρ1, gNm v (.p d) (wipeE ρ [v]) μ = some (.ok ρ1 μ) ∧ d2 wIx (dVar 0) (dVar v) ρ1 μ = some (.ok (.p ((fun d => match d with | .int k => .int (ns.getD k.toNat 0) | d => d) d)) μ) := by
    intro d hd
    obtain ⟨k, rfl, hk0, hk1⟩ := rngN_mem (by omega) hd
    obtain ⟨n, rfl⟩ := Int.eq_ofNat_of_zero_le (show (0 : Int) ≤ k by omega)
    have hn : n < ns.length := by omega
    have a0 : (((ρ.set v none).set v (some (.p (.int (n : Int)))))[0]?) = some (some (.p (.scr (ns.map .int)))) := by
      rw [List.getElem?_set_ne (by omega), List.getElem?_set_ne (by omega)]
      exact h0
    have av : (((ρ.set v none).set v (some (.p (.int (n : Int)))))[v]?) = some (some (.p (.int (n : Int)))) := by
      rw [List.getElem?_set_self (by rw [List.length_set]; exact hvl)]
    refine ⟨_, rfl, ?_⟩
    have hx := atI_nat (ns.map D.int) n (by rw [List.length_map]; exact hn)
    rw [List.getElem_map] at hx
    have e : ns.getD n 0 = ns[n] := by simp [List.getD, hn]
    simp only [wipeE, d2, dVar, bnd, opt, optS, wIx, wIxV, rdQ, a0, av, Option.join_some, hx, Option.map_some, Q.ret, Int.toNat_natCast, e]
  have hlc := lc_all (vs := List.map Prod.snd ([("_law_k", v)] : List (Str × Nat))) hi hf hl
  let zs : List Int := (upto (at_ : Int) many (rngN at_ ns.length many)).map fun d => match d with | .int k => ns.getD k.toNat 0 | _ => 0
  have hzs : (upto (at_ : Int) many (rngN at_ ns.length many)).map (fun d => match d with | .int k => D.int (ns.getD k.toNat 0) | d => d) = zs.map D.int := by
    show _ = List.map D.int (List.map _ _)
    rw [List.map_map]
    refine List.map_congr_left fun d hd => ?_
    obtain ⟨k, rfl, _, _⟩ := rngN_mem (by omega) hd
    rfl
  rw [hzs] at hlc
  refine ⟨zs.sum, ?_, ?_⟩
  · have hz : ∀ z ∈ zs, Bd 1048576 z := by
      intro z hz
      obtain ⟨d, hd, rfl⟩ := List.mem_map.mp hz
      obtain ⟨k, rfl, h0', h1'⟩ := rngN_mem (by omega) hd
      have hk : k.toNat < ns.length := by omega
      show Bd _ (ns.getD k.toNat 0)
      rw [show ns.getD k.toNat 0 = ns[k.toNat] by simp [List.getD, hk]]
      exact hb _ (List.getElem_mem _)
    refine (Bd.sum hz).mono ?_
    have : zs.length ≤ 63 := by
      show (List.map _ _).length ≤ 63
      rw [List.length_map]
      unfold upto
      rw [List.length_map, List.length_range]
      unfold rngN
      split
      · have : ((ns.length : Int) - at_ - 1) / many ≤ (ns.length : Int) - at_ - 1 := Int.ediv_le_self _ (by omega)
        omega
      · omega
    omega
  · simp only [dDrawn, dN, aCons, aNil, bnd, hlc, Q.ret, wSum, one, optS, opt, rdLs, rdL, Option.bind_some, intsD_map, Option.map_some]

/-! single steps -/
theorem o_add {i j : Int} {μ : Store} : wAdd (.p (.int i)) (.p (.int j)) μ = some (.ok (.p (.int (i + j))) μ) := rfl
theorem o_sub {i j : Int} {μ : Store} : wSub (.p (.int i)) (.p (.int j)) μ = some (.ok (.p (.int (i - j))) μ) := rfl
theorem o_neg {i : Int} {μ : Store} : wNeg (.p (.int i)) μ = some (.ok (.p (.int (-i))) μ) := rfl
theorem o_mul {i j : Int} {μ : Store} (h : CMulX i j) : wMul (.p (.int i)) (.p (.int j)) μ = some (.ok (.p (.int (i * j))) μ) := by
  simp only [wMul, wMulV, optS, h, if_true, opt, Q.ret]
theorem o_fdv {i j : Int} {μ : Store} (h : 0 < j) (g : j < 18446744073709551616) : wFdv (.p (.int i)) (.p (.int j)) μ = some (.ok (.p (.int (i / j))) μ) := by
  have g2 : j.natAbs < 2 ^ 8000 := Nat.lt_of_lt_of_le (show j.natAbs < 2 ^ 64 by omega) (Nat.pow_le_pow_right (by omega) (by omega))
  simp only [wFdv, wII, opt, h, g2, and_self, if_true, Option.map_some, Q.ret]
theorem o_mod {i j : Int} {μ : Store} (h : 0 < j) : wMod (.p (.int i)) (.p (.int j)) μ = some (.ok (.p (.int (i % j))) μ) := by
  simp only [wMod, wII, opt, h, if_true, Option.map_some, Q.ret]
theorem o_pow {i j : Int} {μ : Store} (h : 0 ≤ j) (h2 : j ≤ 1000000) (g : i.natAbs < 2 ^ 64) : wPow (.p (.int i)) (.p (.int j)) μ = some (.ok (.p (.int (i ^ j.toNat))) μ) := by
  simp only [wPow, wII, opt, h, h2, g, and_self, if_true, Option.map_some, Q.ret]
theorem o_lt {i j : Int} {μ : Store} : wLt (.p (.int i)) (.p (.int j)) μ = some (.ok (.p (.bl (decide (i < j)))) μ) := rfl
theorem o_le {i j : Int} {μ : Store} : wLe (.p (.int i)) (.p (.int j)) μ = some (.ok (.p (.bl (decide (i ≤ j)))) μ) := rfl
theorem o_gt {i j : Int} {μ : Store} : wGt (.p (.int i)) (.p (.int j)) μ = some (.ok (.p (.bl (decide (j < i)))) μ) := rfl
theorem o_ge {i j : Int} {μ : Store} : wGe (.p (.int i)) (.p (.int j)) μ = some (.ok (.p (.bl (decide (j ≤ i)))) μ) := rfl
theorem o_eqI {i j : Int} {neg : Bool} {μ : Store} : wEq neg (.p (.int i)) (.p (.int j)) μ = some (.ok (.p (.bl (decide (i = j) != neg))) μ) := rfl
theorem o_eqS {s t : Str} {neg : Bool} {μ : Store} (h : PyData.strOk s = true) (g : PyData.strOk t = true) : wEq neg (.p (.str s)) (.p (.str t)) μ = some (.ok (.p (.bl (decide (s = t) != neg))) μ) := by
  have ok : eqOk (.str s) (.str t) = true := by
    unfold eqOk
    simp [PyData.canLay0, PyData.depth, h, g]
  have e : (s == t) = decide (s = t) := by
    cases h : decide (s = t) with
    | true => rw [of_decide_eq_true h]; exact beq_self_eq_true t
    | false => exact beq_eq_false_iff_ne.mpr (of_decide_eq_false h)
  simp only [wEq, optS, opt, pyW, py, ok, if_true, PyData.eqv, Q.ret, e]
theorem o_ixL {l : List D} {d : D} {k : Int} {μ : Store} (h : atI l k = some d) : wIx (.p (.lst l)) (.p (.int k)) μ = some (.ok (.p d) μ) := by
  simp only [wIx, wIxV, rdQ, rdL, optS, opt, h, Option.map_some, Q.ret]
theorem o_ixT {l : List D} {d : D} {k : Int} {μ : Store} (h : atI l k = some d) : wIx (.p (.tup l)) (.p (.int k)) μ = some (.ok (.p d) μ) := by
  simp only [wIx, wIxV, rdQ, rdL, optS, opt, h, Option.map_some, Q.ret]
theorem o_ixR {l : List D} {d : D} {k : Int} {μ : Store} (h : atI l k = some d) : wIx (.p (.scr l)) (.p (.int k)) μ = some (.ok (.p d) μ) := by
  simp only [wIx, wIxV, rdQ, rdL, optS, opt, h, Option.map_some, Q.ret]
theorem o_ixO {l : List D} {d : D} {j : Nat} {k : Int} {μ : Store} (hc : μ[j]? = some (.lst l)) (h : atI l k = some d) : wIx (.l j) (.p (.int k)) μ = some (.ok (.p d) μ) := by
  simp only [wIx, wIxV, rdQ, rdL, optS, opt, hc, h, Option.map_some, Q.ret]
theorem o_ixS {z : Str} {c : Nat} {k : Int} {μ : Store} (hz : z.length ≤ sizeLine) (h : atI z.cps.toList k = some c) : wIx (.p (.str z)) (.p (.int k)) μ = some (.ok (.p (.str ⟨#[c]⟩)) μ) := by
  simp only [wIx, wIxV, optS, opt, hz, if_true, h, Option.map_some, Q.ret]
theorem atI_0 {α : Type} {a : α} {l : List α} : atI (a :: l) 0 = some a := atI_nat (a :: l) 0 (Nat.succ_pos _)
theorem atI_1 {α : Type} {a b : α} {l : List α} : atI (a :: b :: l) 1 = some b := atI_nat (a :: b :: l) 1 (by simp)
theorem atI_2 {α : Type} {a b c : α} {l : List α} : atI (a :: b :: c :: l) 2 = some c := atI_nat (a :: b :: c :: l) 2 (by simp)
theorem d2_ok {f : W → W → M W} {ma mb : DE} {ρ : Env} {μ μ1 μ2 : Store} {x y : W} {r : Option (ER W)} (ha : ma ρ μ = some (.ok x μ1)) (hb : mb ρ μ1 = some (.ok y μ2)) (h : f x y μ2 = r) : d2 f ma mb ρ μ = r := by
  unfold d2
  rw [bnd_go ha, bnd_go hb]
  exact h
theorem d1_ok {f : W → M W} {ma : DE} {ρ : Env} {μ μ1 : Store} {x : W} {r : Option (ER W)} (ha : ma ρ μ = some (.ok x μ1)) (h : f x μ1 = r) : d1 f ma ρ μ = r := by
  unfold d1
  rw [bnd_go ha]
  exact h
theorem dN_ok {f : List W → M W} {ma : Env → M (List W)} {ρ : Env} {μ μ1 : Store} {x : List W} {r : Option (ER W)} (ha : ma ρ μ = some (.ok x μ1)) (h : f x μ1 = r) : dN f ma ρ μ = r := by
  unfold dN
  rw [bnd_go ha]
  exact h
theorem a_nil {ρ : Env} {μ : Store} : aNil ρ μ = some (.ok [] μ) := rfl
theorem a_cons {ma : DE} {mas : Env → M (List W)} {ρ : Env} {μ μ1 μ2 : Store} {x : W} {xs : List W} (ha : ma ρ μ = some (.ok x μ1)) (hb : mas ρ μ1 = some (.ok xs μ2)) : aCons ma mas ρ μ = some (.ok (x :: xs) μ2) := by
  unfold aCons
  rw [bnd_go ha, bnd_go hb]
  rfl
theorem c_bl {m : DE} {ρ : Env} {μ μ1 : Store} {b : Bool} (h : m ρ μ = some (.ok (.p (.bl b)) μ1)) : cBl m ρ μ = some (.ok b μ1) := by
  unfold cBl
  rw [bnd_go h]
  rfl
theorem c_or_t {a b : Env → M Bool} {ρ : Env} {μ μ1 : Store} (h : a ρ μ = some (.ok true μ1)) : cOr a b ρ μ = some (.ok true μ1) := by
  unfold cOr
  rw [bnd_go h]
  rfl
theorem c_or_f {a b : Env → M Bool} {ρ : Env} {μ μ1 : Store} (h : a ρ μ = some (.ok false μ1)) : cOr a b ρ μ = b ρ μ1 := by
  unfold cOr
  rw [bnd_go h]
  rfl
theorem c_and_f {a b : Env → M Bool} {ρ : Env} {μ μ1 : Store} (h : a ρ μ = some (.ok false μ1)) : cAnd a b ρ μ = some (.ok false μ1) := by
  unfold cAnd
  rw [bnd_go h]
  rfl
theorem c_and_t {a b : Env → M Bool} {ρ : Env} {μ μ1 : Store} (h : a ρ μ = some (.ok true μ1)) : cAnd a b ρ μ = b ρ μ1 := by
  unfold cAnd
  rw [bnd_go h]
  rfl
theorem c_not {a : Env → M Bool} {ρ : Env} {μ μ1 : Store} {b : Bool} (h : a ρ μ = some (.ok b μ1)) : cNot a ρ μ = some (.ok (!b) μ1) := by
  unfold cNot
  rw [bnd_go h]
  rfl
theorem c_tru {m : DE} {ρ : Env} {μ μ1 : Store} {w : W} {b : Bool} (h : m ρ μ = some (.ok w μ1)) (e : tru μ1 w = some b) : cTru m ρ μ = some (.ok b μ1) := by
  unfold cTru
  rw [bnd_go h]
  simp only [optS, opt, e, Q.ret]
theorem sl_ok {m : DE} {lo hi : Env → M (Option Int)} {ρ : Env} {μ μ1 μ2 μ3 : Store} {x : W} {l h : Option Int} {r : Option (ER W)} (a : m ρ μ = some (.ok x μ1)) (b : lo ρ μ1 = some (.ok l μ2)) (c : hi ρ μ2 = some (.ok h μ3)) (e : wSl x l h μ3 = r) : dSl m lo hi ρ μ = r := by
  unfold dSl
  rw [bnd_go a, bnd_go b, bnd_go c]
  exact e
theorem o_some {m : DE} {ρ : Env} {μ μ1 : Store} {i : Int} (a : m ρ μ = some (.ok (.p (.int i)) μ1)) : oSome m ρ μ = some (.ok (some i) μ1) := by
  unfold oSome
  rw [bnd_go a]
  rfl
theorem o_none {ρ : Env} {μ : Store} : oNone ρ μ = some (.ok none μ) := rfl
theorem o_tup {ws : List W} {ds : List D} {μ : Store} (h : pureWs ws = some ds) (hl : ds.length ≤ sizeLine) : wTup ws μ = some (.ok (.p (.tup ds)) μ) := by
  simp only [wTup, opt, h, Option.bind_some, hl, if_true, Q.ret]
theorem o_lenT {l : List D} {μ : Store} : wLen [.p (.tup l)] μ = some (.ok (.p (.int (l.length : Nat))) μ) := rfl
theorem o_lenL {l : List D} {μ : Store} : wLen [.p (.lst l)] μ = some (.ok (.p (.int (l.length : Nat))) μ) := rfl
theorem o_catT {i j : List D} {μ : Store} (h : i.length + j.length ≤ sizeLine) : wAdd (.p (.tup i)) (.p (.tup j)) μ = some (.ok (.p (.tup (i ++ j))) μ) := by
  simp only [wAdd, wAddV, optS, opt, h, if_true, Q.ret]
theorem o_catL {i j : List D} {μ : Store} (h : i.length + j.length ≤ sizeLine) : wAdd (.p (.lst i)) (.p (.lst j)) μ = some (.ok (.p (.lst (i ++ j))) μ) := by
  simp only [wAdd, wAddV, rdL, optS, opt, h, if_true, Q.ret]
theorem o_catS {i j : Str} {μ : Store} (h : i.length + j.length ≤ sizeLine) : wAdd (.p (.str i)) (.p (.str j)) μ = some (.ok (.p (.str (i ++ j))) μ) := by
  simp only [wAdd, wAddV, optS, opt, h, if_true, Q.ret]
theorem o_slT {l : List D} {lo hi : Option Int} {μ : Store} : wSl (.p (.tup l)) lo hi μ = some (.ok (.p (.tup (cut l lo hi))) μ) := rfl
theorem o_slL {l : List D} {lo hi : Option Int} {μ : Store} : wSl (.p (.lst l)) lo hi μ = some (.ok (.p (.lst (cut l lo hi))) μ) := rfl
theorem o_append {k : Nat} {l : List D} {d : D} {mo : DE} {mas : Env → M (List W)} {ρ : Env} {μ μ1 μ2 : Store} (a : mo ρ μ = some (.ok (.l k) μ1)) (c : μ1[k]? = some (.lst l)) (b : mas ρ μ1 = some (.ok [.p d] μ2)) (c2 : μ2[k]? = some (.lst l)) (hl : l.length < sizeLine) :
    dBM okL wAppend mo mas ρ μ = some (.ok (.p .non) (μ2.set k (.lst (l ++ [d])))) := by
  unfold dBM
  have ok : okL (.l k) μ1 = true := by simp [okL, rdLs, rdL, c]
  rw [bnd_go a, bnd_go (a := ()) (μ1 := μ1) (by simp [optS, opt, ok, Q.ret]), bnd_go b]
  simp only [wAppend, ownL, c2, hl, if_true]
theorem o_pop {k : Nat} {l : List D} {d : D} {mo : DE} {ρ : Env} {μ μ1 : Store} (a : mo ρ μ = some (.ok (.l k) μ1)) (c : μ1[k]? = some (.lst (l ++ [d]))) : dBM0 okL wPop mo ρ μ = some (.ok (.p d) (μ1.set k (.lst l))) := by
  unfold dBM0
  have ok : okL (.l k) μ1 = true := by simp [okL, rdLs, rdL, c]
  rw [bnd_go a, bnd_go (a := ()) (μ1 := μ1) (by simp [optS, opt, ok, Q.ret])]
  simp [wPop, ownL, c]
/-- a call that hands an own list over -/
theorem callN_o3 {F : List W → M W} {a b d : D} {j : Nat} {c c' : Cell} {μ : Store} (hj : μ[j]? = some c) (h : F [.p a, .l 0, .p b] [c] = some (.ok (.p d) [c'])) : callN 3 F [.p a, .l j, .p b] μ = some (.ok (.p d) (μ.set j c')) := by
  unfold callN callD
  simp [locsOf, renum, pick, hj, h, backD, putAll]
theorem o_mulS {z : Str} {i : Int} {μ : Store} (h : 0 ≤ i ∧ i ≤ 1000000 ∧ z.length * i.toNat ≤ 1000000) : wMul (.p (.str z)) (.p (.int i)) μ = some (.ok (.p (.str (strRep z i.toNat))) μ) := by
  simp only [wMul, wMulV, optS, h, and_self, if_true, opt, Q.ret]
theorem opt_go {α : Type} {o : Option α} {a : α} {μ : Store} (h : o = some a) : opt o μ = some (.ok a μ) := by
  subst h
  rfl
theorem i_ofN {f : List W → Option (List D)} {m : Env → M (List W)} {ρ : Env} {μ μ1 : Store} {ws : List W} {ds : List D} (h : m ρ μ = some (.ok ws μ1)) (e : f ws = some ds) : iOfN f m ρ μ = some (.ok ds μ1) := by
  unfold iOfN
  rw [bnd_go h]
  exact opt_go e
theorem i_of {f : W → Option (List D)} {m : DE} {ρ : Env} {μ μ1 : Store} {w : W} {ds : List D} (h : m ρ μ = some (.ok w μ1)) (e : f w = some ds) : iOf f m ρ μ = some (.ok ds μ1) := by
  unfold iOf
  rw [bnd_go h]
  exact opt_go e
theorem bnd_x {α β : Type} {m : M α} {f : α → M β} {n : Str} {μ μ1 : Store} (h : m μ = some (.ex n μ1)) : bnd m f μ = some (.ex n μ1) := by
  unfold bnd
  simp only [h]
theorem a_consx {ma : DE} {mas : Env → M (List W)} {ρ : Env} {μ μ1 : Store} {n : Str} (h : ma ρ μ = some (.ex n μ1)) : aCons ma mas ρ μ = some (.ex n μ1) := bnd_x h
theorem dN_x {f : List W → M W} {ma : Env → M (List W)} {ρ : Env} {μ μ1 : Store} {n : Str} (h : ma ρ μ = some (.ex n μ1)) : dN f ma ρ μ = some (.ex n μ1) := bnd_x h
theorem set_x {i : Nat} {m : DE} {ρ : Env} {n : Str} {μ μ1 : Store} (h : m ρ μ = some (.ex n μ1)) : dSet i m ρ μ = some (.ex n ρ μ1) := by
  simp [dSet, dAsg, liftE, h]
theorem expr_x {m : DE} {ρ : Env} {n : Str} {μ μ1 : Store} (h : m ρ μ = some (.ex n μ1)) : dExpr m ρ μ = some (.ex n ρ μ1) := by
  simp [dExpr, liftE, h]
theorem cut_to {α : Type} (l : List α) (k : Nat) : Q.cut l none (some (k : Int)) = l.take k := by
  unfold Q.cut
  rw [HT.sIx_none, HT.sIx_nat, List.drop_zero, Nat.sub_zero]
  rcases Nat.le_total k l.length with h | h
  · rw [Nat.min_eq_left h]
  · rw [Nat.min_eq_right h, List.take_of_length_le (Nat.le_refl _), List.take_of_length_le h]
theorem cut_from {α : Type} (l : List α) (k : Nat) : Q.cut l (some (k : Int)) none = l.drop k := by
  unfold Q.cut
  rw [HT.sIx_none, HT.sIx_nat]
  rcases Nat.le_total k l.length with h | h
  · rw [Nat.min_eq_left h, List.take_of_length_le (by rw [List.length_drop]; exact Nat.le_refl _)]
  · rw [Nat.min_eq_right h, Nat.sub_self, List.take_zero, List.drop_of_length_le h]
theorem set_cut {α : Type} (l : List α) (k : Nat) (x : α) (h : k < l.length) : l.take k ++ [x] ++ l.drop (k + 1) = l.set k x := by
  rw [List.set_eq_take_append_cons_drop, if_pos h]
  simp
end Q

set_option Elab.async false
set_option linter.all false
set_option maxRecDepth 100000
set_option maxHeartbeats 4000000
namespace Lk31
open PySem PySem.Spec PyProof.Rows L2 Q
def top (i : Nat) : Stmt := PySem.Challenge.pw_stairsay_k31_places.main.body.getD i (.Pass ⟨0, 0, 0, 0⟩)
abbrev s__law_names : Stmt := top 27
theorem sc__law_names : FnScope ["_law_cell", "_law_count", "_law_letters", "_law_mixed_here", "_law_wide", "_law_at", "_law_base", "_law_step", "_law_got", "_law_k", "_law_turned_on"] ["_law_cell", "_law_count"] (defScope s__law_names) := ⟨rfl, rfl, rfl, by decide +kernel, rfl, by decide +kernel, by decide +kernel⟩
def d__law_names : DS :=
    (dSeq (dSet 2 (dC (.str "abcdefghijklmnopqrstuvwxyz")))
    (dSeq (dSet 3 (d2 wMul (d2 wAdd (d2 wAdd (d2 wMul (dVar 0) (dVar 0)) (dVar 0)) (dC (.int 1))) (dC (.int 982451653))))
    (dSeq (dSet 4 (d2 wAdd (dC (.int 1)) (d2 wMod (dVar 3) (dC (.int 12)))))
    (dSeq (dSet 5 (d2 wMod (d2 wFdv (dVar 3) (dC (.int 12))) (dVar 4)))
    (dSeq (dSet 6 (dLc false (List.map Prod.snd ([("_law_k", 9)] : List (Str × Nat))) (iOfN rng1 (aCons (dVar 4) aNil)) (gNm 9) cYes (d2 wIx (dVar 2) (d2 wMod (d2 wAdd (d2 wFdv (dVar 3) (d2 wAdd (dVar 9) (dC (.int 5)))) (d2 wMul (dVar 9) (dVar 9))) (dC (.int 26))))))
    (dSeq (dSet 7 (d2 wIx (dN wLstP (aCons (dC (.int 1)) (aCons (dC (.int 3)) (aCons (dC (.int 5)) (aCons (dC (.int 7)) (aCons (dC (.int 9)) (aCons (dC (.int 11)) aNil))))))) (d2 wMod (d2 wFdv (dVar 3) (dC (.int 144))) (dC (.int 6)))))
    (dSeq (dSet 8 (dN wLstO aNil))
    (dSeq (dFor (iOfN rng1 (aCons (dVar 1) aNil)) (gNm 9)
    (dSeq (dSet 10 (d2 wIx (dVar 2) (d2 wMod (d2 wAdd (d2 wFdv (dVar 3) (dC (.int 864))) (d2 wMul (dVar 9) (dVar 7))) (dC (.int 26)))))
    (dIf (cBl (d2 (wEq false) (d2 wMod (d2 wFdv (dVar 3) (dC (.int 900))) (dC (.int 3))) (dC (.int 1))))
    (dExpr (dBM okL wAppend (dVar 8) (aCons (d2 wMul (d2 wIx (dVar 6) (dC (.int 0))) (d2 wAdd (d2 wMod (d2 wAdd (dVar 9) (d2 wFdv (dVar 3) (dC (.int 7)))) (dC (.int 12))) (dC (.int 1)))) aNil)))
    (dExpr (dBM okL wAppend (dVar 8) (aCons (d2 wAdd (d2 wAdd (dStrM wJoin (dC (.str "")) (dSl (dVar 6) oNone (oSome (dVar 5)))) (dVar 10)) (dStrM wJoin (dC (.str "")) (dSl (dVar 6) (oSome (d2 wAdd (dVar 5) (dC (.int 1)))) oNone))) aNil))))))
    (dRet (dVar 8))))))))))
def F__law_names : List W → M W := runF false 11 (d__law_names)
abbrev s__law_wild : Stmt := top 28
theorem sc__law_wild : FnScope ["_law_names_here", "_law_purse", "_law_down", "_law_digit", "_law_parts", "_law_k"] ["_law_names_here", "_law_purse", "_law_down"] (defScope s__law_wild) := ⟨rfl, rfl, rfl, by decide +kernel, rfl, by decide +kernel, by decide +kernel⟩
def d__law_wild (R : List W → M W) : DS :=
    (dSeq (dSet 3 (dBM0 okL wPop (dVar 1)))
    (dSeq (dIf (cOr (cBl (d2 (wEq false) (dVar 2) (dC (.int 0)))) (cBl (d2 (wEq false) (d2 wMod (dVar 3) (dC (.int 5))) (dC (.int 0)))))
    (dRet (dN wTup (aCons (dC (.str "name")) (aCons (d2 wIx (dVar 0) (d2 wMod (d2 wFdv (dVar 3) (dC (.int 5))) (dN wLen (aCons (dVar 0) aNil)))) aNil))))
    dSkip)
    (dSeq (dSet 4 (dN wLstO aNil))
    (dSeq (dFor (iOfN rng1 (aCons (d2 wIx (dN wLstP (aCons (dC (.int 0)) (aCons (dC (.int 1)) (aCons (dC (.int 2)) (aCons (dC (.int 3)) (aCons (dC (.int 1)) (aCons (dC (.int 2)) aNil))))))) (d2 wMod (d2 wFdv (dVar 3) (dC (.int 5))) (dC (.int 6)))) aNil)) (gNm 5)
    (dExpr (dBM okL wAppend (dVar 4) (aCons (dN (callN 3 R) (aCons (dVar 0) (aCons (dVar 1) (aCons (d2 wSub (dVar 2) (dC (.int 1))) aNil)))) aNil))))
    (dRet (dN wTup (aCons (d2 wIx (dN wLstP (aCons (dC (.str "make")) (aCons (dC (.str "call")) aNil))) (d2 wMod (d2 wFdv (dVar 3) (dC (.int 30))) (dC (.int 2)))) (aCons (d2 wIx (dVar 0) (d2 wMod (d2 wFdv (dVar 3) (dC (.int 60))) (dN wLen (aCons (dVar 0) aNil)))) (aCons (dN wTuple (aCons (dVar 4) aNil)) aNil)))))))))
def F__law_wild : Nat → List W → M W
  | 0 => fun _ => stk
  | k + 1 => runF false 6 (d__law_wild (F__law_wild k))
abbrev s__law_spots : Stmt := top 29
theorem sc__law_spots : FnScope ["_law_expression", "_law_got", "_law_k", "_law_one"] ["_law_expression"] (defScope s__law_spots) := ⟨rfl, rfl, rfl, by decide +kernel, rfl, by decide +kernel, by decide +kernel⟩
def d__law_spots (R : List W → M W) : DS :=
    (dSeq (dSet 1 (dN wLstP (aCons (dN wTup aNil) aNil)))
    (dSeq (dIf (cBl (d2 (wEq true) (d2 wIx (dVar 0) (dC (.int 0))) (dC (.str "name"))))
    (dFor (iOfN rng1 (aCons (dN wLen (aCons (d2 wIx (dVar 0) (dC (.int 2))) aNil)) aNil)) (gNm 2)
    (dSet 1 (d2 wAdd (dVar 1) (dLc false (List.map Prod.snd ([("_law_one", 3)] : List (Str × Nat))) (iOf seqP (dN (callN 1 R) (aCons (d2 wIx (d2 wIx (dVar 0) (dC (.int 2))) (dVar 2)) aNil))) (gNm 3) cYes (d2 wAdd (dN wTup (aCons (dVar 2) aNil)) (dVar 3))))))
    dSkip)
    (dRet (dVar 1))))
def F__law_spots : Nat → List W → M W
  | 0 => fun _ => stk
  | k + 1 => runF false 4 (d__law_spots (F__law_spots k))
abbrev s__law_cell_at : Stmt := top 23
theorem sc__law_cell_at : FnScope ["_law_script", "_law_k"] ["_law_script", "_law_k"] (defScope s__law_cell_at) := ⟨rfl, rfl, rfl, by decide +kernel, rfl, by decide +kernel, by decide +kernel⟩
def d__law_cell_at : DS :=
    (dSeq (dIf (cBl (d2 wLt (dVar 1) (dN wLen (aCons (dVar 0) aNil))))
    (dRet (d2 wIx (dVar 0) (dVar 1)))
    dSkip)
    (dRet (dC (.int 0))))
def F__law_cell_at : List W → M W := runF false 2 (d__law_cell_at)
abbrev s__law_digits : Stmt := top 26
theorem sc__law_digits : FnScope ["_law_script", "_law_at", "_law_parts", "_law_drawn", "_law_got", "_law_first", "_law_rest", "_law_k"] ["_law_script", "_law_at", "_law_parts"] (defScope s__law_digits) := ⟨rfl, rfl, rfl, by decide +kernel, rfl, by decide +kernel, by decide +kernel⟩
def d__law_digits : DS :=
    (dSeq (dSet 3 (dN wSum (aCons (dLc false (List.map Prod.snd ([("_law_k", 7)] : List (Str × Nat))) (iOfN rng3 (aCons (dVar 1) (aCons (dN wMin (aCons (dN wLen (aCons (dVar 0) aNil)) (aCons (dC (.int 63)) aNil))) (aCons (dVar 2) aNil)))) (gNm 7) cYes (d2 wIx (dVar 0) (dVar 7))) aNil)))
    (dSeq (dSet 4 (dN wLstO aNil))
    (dSeq (dSet 5 (d2 wMod (dVar 3) (dC (.int 2147483629))))
    (dSeq (dSet 6 (d2 wFdv (dVar 3) (dC (.int 2))))
    (dSeq (dFor (iOfN rng1 (aCons (dC (.int 150)) aNil)) (gNm 7)
    (dSeq (dSet 5 (d2 wMod (d2 wAdd (d2 wAdd (d2 wMul (dVar 5) (dVar 5)) (dVar 3)) (dVar 7)) (dC (.int 2147483629))))
    (dSeq (dExpr (dBM okL wAppend (dVar 4) (aCons (d2 wMod (d2 wIx (dN wLstP (aCons (dVar 6) (aCons (d2 wMod (d2 wMul (dVar 5) (dVar 5)) (dC (.int 2147483587))) aNil))) (d2 wMod (dVar 3) (dC (.int 2)))) (dC (.int 1000003))) aNil)))
    (dSet 6 (d2 wFdv (dVar 6) (dC (.int 1000003)))))))
    (dRet (d1 wRevO (dVar 4))))))))
def F__law_digits : List W → M W := runF true 8 (d__law_digits)
abbrev s_arguments_of : Stmt := top 18
theorem sc_arguments_of : FnScope ["expression"] ["expression"] (defScope s_arguments_of) := ⟨rfl, rfl, rfl, by decide +kernel, rfl, by decide +kernel, by decide +kernel⟩
def d_arguments_of : DS :=
    (dSeq (dIf (cBl (d2 (wEq false) (d2 wIx (dVar 0) (dC (.int 0))) (dC (.str "name"))))
    (dRet (dN wTup aNil))
    dSkip)
    (dRet (d2 wIx (dVar 0) (dC (.int 2)))))
def F_arguments_of : List W → M W := runF false 1 (d_arguments_of)
abbrev s_argument_at : Stmt := top 19
theorem sc_argument_at : FnScope ["expression", "at", "arguments"] ["expression", "at"] (defScope s_argument_at) := ⟨rfl, rfl, rfl, by decide +kernel, rfl, by decide +kernel, by decide +kernel⟩
def d_argument_at (f_arguments_of : List W → M W) : DS :=
    (dSeq (dSet 2 (dN (callN 1 f_arguments_of) (aCons (dVar 0) aNil)))
    (dSeq (dIf (cOr (cBl (d2 wLt (dVar 1) (dC (.int 0)))) (cBl (d2 wGe (dVar 1) (dN wLen (aCons (dVar 2) aNil)))))
    (dRse "NoPlace")
    dSkip)
    (dRet (d2 wIx (dVar 2) (dVar 1)))))
def F_argument_at : List W → M W := runF false 3 (d_argument_at F_arguments_of)
abbrev s_part_at : Stmt := top 20
theorem sc_part_at : FnScope ["expression", "place", "at"] ["expression", "place"] (defScope s_part_at) := ⟨rfl, rfl, rfl, by decide +kernel, rfl, by decide +kernel, by decide +kernel⟩
def d_part_at (f_argument_at : List W → M W) : DS :=
    (dSeq (dFor (iOf seqP (dVar 1)) (gNm 2)
    (dSet 0 (dN (callN 2 f_argument_at) (aCons (dVar 0) (aCons (dVar 2) aNil)))))
    (dRet (dVar 0)))
def F_part_at : List W → M W := runF false 3 (d_part_at F_argument_at)
abbrev s_put_at : Stmt := top 21
theorem sc_put_at : FnScope ["expression", "place", "other", "at", "made", "word", "name", "arguments"] ["expression", "place", "other"] (defScope s_put_at) := ⟨rfl, rfl, rfl, by decide +kernel, rfl, by decide +kernel, by decide +kernel⟩
def d_put_at (f_argument_at R : List W → M W) : DS :=
    (dSeq (dIf (cBl (d2 (wEq false) (dN wLen (aCons (dVar 1) aNil)) (dC (.int 0))))
    (dRet (dVar 2))
    dSkip)
    (dSeq (dSet 3 (d2 wIx (dVar 1) (dC (.int 0))))
    (dSeq (dSet 4 (dN (callN 3 R) (aCons (dN (callN 2 f_argument_at) (aCons (dVar 0) (aCons (dVar 3) aNil))) (aCons (dSl (dVar 1) (oSome (dC (.int 1))) oNone) (aCons (dVar 2) aNil)))))
    (dSeq (dAsg (dVar 0) (gTp 3 (gsCons (gNm 5) (gsCons (gNm 6) (gsCons (gNm 7) gsNil)))))
    (dRet (dN wTup (aCons (dVar 5) (aCons (dVar 6) (aCons (d2 wAdd (d2 wAdd (dSl (dVar 7) oNone (oSome (dVar 3))) (dN wTup (aCons (dVar 4) aNil))) (dSl (dVar 7) (oSome (d2 wAdd (dVar 3) (dC (.int 1)))) oNone)) aNil)))))))))
def F_put_at : Nat → List W → M W
  | 0 => fun _ => stk
  | k + 1 => runF false 8 (d_put_at F_argument_at (F_put_at k))
abbrev s__law_there : Stmt := top 33
theorem sc__law_there : FnScope ["_law_expression", "_law_place", "_law_at"] ["_law_expression", "_law_place"] (defScope s__law_there) := ⟨rfl, rfl, rfl, by decide +kernel, rfl, by decide +kernel, by decide +kernel⟩
def d__law_there : DS :=
    (dSeq (dFor (iOf seqP (dVar 1)) (gNm 2)
    (dSet 0 (d2 wIx (d2 wIx (dVar 0) (dC (.int 2))) (dVar 2))))
    (dRet (dVar 0)))
def F__law_there : List W → M W := runF false 3 (d__law_there)
abbrev s__law_bad_spot : Stmt := top 36
theorem sc__law_bad_spot : FnScope ["_law_expression", "_law_place", "_law_cell", "_law_at", "_law_one", "_law_many", "_law_odd"] ["_law_expression", "_law_place", "_law_cell"] (defScope s__law_bad_spot) := ⟨rfl, rfl, rfl, by decide +kernel, rfl, by decide +kernel, by decide +kernel⟩
def d__law_bad_spot (f__law_there : List W → M W) : DS :=
    (dSeq (dSet 3 (d2 wMod (dVar 2) (d2 wAdd (dN wLen (aCons (dVar 1) aNil)) (dC (.int 1)))))
    (dSeq (dSet 4 (dN (callN 2 f__law_there) (aCons (dVar 0) (aCons (dSl (dVar 1) oNone (oSome (dVar 3))) aNil))))
    (dSeq (dSet 5 (dC (.int 0)))
    (dSeq (dIf (cBl (d2 (wEq true) (d2 wIx (dVar 4) (dC (.int 0))) (dC (.str "name"))))
    (dSet 5 (dN wLen (aCons (d2 wIx (dVar 4) (dC (.int 2))) aNil)))
    dSkip)
    (dSeq (dSet 6 (d2 wIx (dN wLstP (aCons (dVar 5) (aCons (d2 wAdd (d2 wAdd (dVar 5) (dC (.int 1))) (d2 wMod (d2 wFdv (dVar 2) (dC (.int 7))) (d2 wPow (dC (.int 10)) (dC (.int 40))))) (aCons (d2 wSub (d1 wNeg (dC (.int 1))) (d2 wMod (d2 wFdv (dVar 2) (dC (.int 7))) (dC (.int 3)))) (aCons (d2 wSub (d1 wNeg (dC (.int 1))) (d2 wMod (d2 wFdv (dVar 2) (dC (.int 7))) (d2 wPow (dC (.int 10)) (dC (.int 40))))) aNil))))) (d2 wMod (d2 wFdv (dVar 2) (dC (.int 50))) (dC (.int 4)))))
    (dRet (d2 wAdd (d2 wAdd (dSl (dVar 1) oNone (oSome (dVar 3))) (dN wTup (aCons (dVar 6) aNil))) (dSl (dVar 1) (oSome (d2 wAdd (dVar 3) (dC (.int 1)))) oNone))))))))
def F__law_bad_spot : List W → M W := runF false 7 (d__law_bad_spot F__law_there)
abbrev s__law_shape : Stmt := top 30
theorem sc__law_shape : FnScope ["_law_got", "_law_one"] ["_law_got"] (defScope s__law_shape) := ⟨rfl, rfl, rfl, by decide +kernel, rfl, by decide +kernel, by decide +kernel⟩
def d__law_shape (R : List W → M W) : DS :=
    (dSeq (dIf (cOr (cNot (cTru (d1 (wIsi .tup) (dVar 0)))) (cOr (cBl (d2 wLt (dN wLen (aCons (dVar 0) aNil)) (dC (.int 2)))) (cBl (d2 (wEq true) (dLc false (List.map Prod.snd ([("_law_one", 1)] : List (Str × Nat))) (iOf seqP (dSl (dVar 0) oNone (oSome (dC (.int 2))))) (gNm 1) (cNot (cTru (d1 (wIsi .str) (dVar 1)))) (dVar 1)) (dN wLstP aNil)))))
    (dRet (dC (.bl false)))
    dSkip)
    (dSeq (dIf (cBl (d2 (wEq false) (d2 wIx (dVar 0) (dC (.int 0))) (dC (.str "name"))))
    (dRet (d2 (wEq false) (dN wLen (aCons (dVar 0) aNil)) (dC (.int 2))))
    dSkip)
    (dSeq (dIf (cOr (cBl (d2 (wEq true) (dN wLen (aCons (dVar 0) aNil)) (dC (.int 3)))) (cNot (cTru (d1 (wIsi .tup) (d2 wIx (dVar 0) (dC (.int 2)))))))
    (dRet (dC (.bl false)))
    dSkip)
    (dRet (d2 (wEq false) (dLc false (List.map Prod.snd ([("_law_one", 1)] : List (Str × Nat))) (iOf seqP (d2 wIx (dVar 0) (dC (.int 2)))) (gNm 1) (cNot (cTru (dN (callN 1 R) (aCons (dVar 1) aNil)))) (dVar 1)) (dN wLstP aNil))))))
def F__law_shape : Nat → List W → M W
  | 0 => fun _ => stk
  | k + 1 => runF false 2 (d__law_shape (F__law_shape k))
abbrev s__law_put : Stmt := top 34
theorem sc__law_put : FnScope ["_law_expression", "_law_place", "_law_other", "_law_parts"] ["_law_expression", "_law_place", "_law_other"] (defScope s__law_put) := ⟨rfl, rfl, rfl, by decide +kernel, rfl, by decide +kernel, by decide +kernel⟩
def d__law_put (R : List W → M W) : DS :=
    (dSeq (dIf (cBl (d2 (wEq false) (dVar 1) (dN wTup aNil)))
    (dRet (dVar 2))
    dSkip)
    (dSeq (dSet 3 (dN wListO (aCons (d2 wIx (dVar 0) (dC (.int 2))) aNil)))
    (dSeq (dAsg (dN (callN 3 R) (aCons (d2 wIx (dVar 3) (d2 wIx (dVar 1) (dC (.int 0)))) (aCons (dSl (dVar 1) (oSome (dC (.int 1))) oNone) (aCons (dVar 2) aNil)))) (gSub wSet (dVar 3) (d2 wIx (dVar 1) (dC (.int 0)))))
    (dRet (dN wTup (aCons (d2 wIx (dVar 0) (dC (.int 0))) (aCons (d2 wIx (dVar 0) (dC (.int 1))) (aCons (dN wTuple (aCons (dVar 3) aNil)) aNil))))))))
def F__law_put : Nat → List W → M W
  | 0 => fun _ => stk
  | k + 1 => runF false 4 (d__law_put (F__law_put k))
abbrev s__law_mixed : Stmt := top 25
theorem sc__law_mixed : FnScope ["_law_script", "_law_at", "_law_many", "_law_cell", "_law_first", "_law_k"] ["_law_script", "_law_at", "_law_many"] (defScope s__law_mixed) := ⟨rfl, rfl, rfl, by decide +kernel, rfl, by decide +kernel, by decide +kernel⟩
def d__law_mixed : DS :=
    (dSeq (dSet 3 (dN wSum (aCons (dLc false (List.map Prod.snd ([("_law_k", 5)] : List (Str × Nat))) (iOfN rng3 (aCons (dVar 1) (aCons (dN wMin (aCons (dN wLen (aCons (dVar 0) aNil)) (aCons (dC (.int 63)) aNil))) (aCons (dVar 2) aNil)))) (gNm 5) cYes (d2 wIx (dVar 0) (dVar 5))) aNil)))
    (dSeq (dIf (cBl (d2 (wEq false) (d2 wMod (dVar 3) (dC (.int 2))) (dC (.int 0))))
    (dRet (d2 wMod (d2 wFdv (dVar 3) (dC (.int 2))) (d2 wPow (dC (.int 10)) (dC (.int 60)))))
    dSkip)
    (dSeq (dSet 4 (d2 wMul (d2 wAdd (d2 wAdd (d2 wAdd (d2 wMul (dVar 3) (dVar 3)) (dVar 3)) (dVar 1)) (dC (.int 1))) (dC (.int 982451653))))
    (dRet (d2 wMul (d2 wMod (d2 wMul (dVar 4) (dVar 4)) (d2 wAdd (d2 wPow (dC (.int 10)) (dC (.int 18))) (dC (.int 9)))) (d2 wAdd (d2 wMod (dVar 4) (dC (.int 2147483629))) (dC (.int 7))))))))
def F__law_mixed : List W → M W := runF false 6 (d__law_mixed)
abbrev s__law_classes : Stmt := top 31
theorem sc__law_classes : FnScope ["_law_kept", "_law_got"] ["_law_kept"] (defScope s__law_classes) := ⟨rfl, rfl, rfl, by decide +kernel, rfl, by decide +kernel, by decide +kernel⟩
def d__law_classes : DS :=
    (dSeq (dSet 1 (dN wLstP (aCons (d1 (wIsX [("NoPlace", false)]) (dVar 0)) (aCons (d1 (wIsX [("NoPlace", false)]) (dVar 0)) (aCons (d1 (wIsX [("NoPlace", false)]) (dVar 0)) aNil)))))
    (dSeq (dSet 1 (d2 wAdd (dVar 1) (dN wLstP (aCons (d1 (wIsX [("NoPlace", false)]) (dVar 0)) (aCons (d1 (wIsX [("NoPlace", false)]) (dVar 0)) (aCons (d1 (wIsX [("NoPlace", false)]) (dVar 0)) aNil))))))
    (dSeq (dSet 1 (d2 wAdd (dVar 1) (dN wLstP (aCons (d1 (wIsX [("NoPlace", false)]) (dVar 0)) (aCons (d1 (wIsX [("NoPlace", false)]) (dVar 0)) (aCons (d1 (wIsX [("NoPlace", false)]) (dVar 0)) aNil))))))
    (dSeq (dSet 1 (d2 wAdd (dVar 1) (dN wLstP (aCons (d1 (wIsX [("NoPlace", false)]) (dVar 0)) (aCons (d1 (wIsX [("NoPlace", false)]) (dVar 0)) (aCons (d1 (wIsX [("NoPlace", true)]) (dVar 0)) aNil))))))
    (dRet (d2 wAdd (dVar 1) (dN wLstP (aCons (d1 (wIsX [("NoPlace", false)]) (dVar 0)) (aCons (d1 (wIsX [("NoPlace", false)]) (dVar 0)) (aCons (d1 (wIsX [("NoPlace", false)]) (dVar 0)) aNil))))))))))
def F__law_classes : List W → M W := runF false 2 (d__law_classes)
abbrev s__law_which : Stmt := top 32
theorem sc__law_which : FnScope ["_law_kept"] ["_law_kept"] (defScope s__law_which) := ⟨rfl, rfl, rfl, by decide +kernel, rfl, by decide +kernel, by decide +kernel⟩
def d__law_which (f__law_classes : List W → M W) : DS :=
    (dSeq (dIf (cOr (cNot (cTru (d1 (wIsX [("NoPlace", true)]) (dVar 0)))) (cBl (d2 (wEq true) (dBM okL wCount (dN (callN 1 f__law_classes) (aCons (dVar 0) aNil)) (aCons (dC (.bl true)) aNil)) (dC (.int 1)))))
    (dRet (d1 wNeg (dC (.int 1))))
    dSkip)
    (dRet (dBM okL wIndex (dN (callN 1 f__law_classes) (aCons (dVar 0) aNil)) (aCons (dC (.bl true)) aNil))))
def F__law_which : List W → M W := runF false 1 (d__law_which F__law_classes)
abbrev s__law_refused : Stmt := top 35
theorem sc__law_refused : FnScope ["_law_way", "_law_expression", "_law_place", "_law_other", "_law_kept", "e"] ["_law_way", "_law_expression", "_law_place", "_law_other"] (defScope s__law_refused) := ⟨rfl, rfl, rfl, by decide +kernel, rfl, by decide +kernel, by decide +kernel⟩
def d__law_refused (f__law_which f_part_at f_put_at : List W → M W) : DS :=
    (dSeq (dSet 4 (dC .non))
    (dSeq (dTryKeep 5 4 [("NoPlace", true)]
    (dIf (cBl (d2 (wEq false) (dVar 0) (dC (.int 0))))
    (dExpr (dN (callN 2 f_part_at) (aCons (dVar 1) (aCons (dVar 2) aNil))))
    (dExpr (dN (callN 3 f_put_at) (aCons (dVar 1) (aCons (dVar 2) (aCons (dVar 3) aNil)))))))
    (dRet (d2 (wEq false) (dN (callN 1 f__law_which) (aCons (dVar 4) aNil)) (dC (.int 11))))))
def F__law_refused : List W → M W := runF false 6 (d__law_refused F__law_which F_part_at (F_put_at 12))
abbrev s_law : Stmt := top 37
theorem sc_law : FnScope ["_law_script", "_law_names_here", "_law_expression", "_law_other", "_law_spots_here", "_law_start", "_law_k", "_law_place", "_law_got", "_law_made", "_law_bad"] ["_law_script"] (defScope s_law) := ⟨rfl, rfl, rfl, by decide +kernel, rfl, by decide +kernel, by decide +kernel⟩
def d_law (f__law_names f__law_wild f__law_spots f__law_cell_at f__law_digits f_part_at f_put_at f__law_bad_spot f__law_shape f__law_there f__law_put f__law_mixed f__law_refused : List W → M W) : DS :=
    (dSeq (dSet 1 (dN (callN 2 f__law_names) (aCons (dN (callN 2 f__law_cell_at) (aCons (dVar 0) (aCons (dC (.int 0)) aNil))) (aCons (dC (.int 5)) aNil))))
    (dSeq (dSet 2 (dN (callN 3 f__law_wild) (aCons (dVar 1) (aCons (dN (callN 3 f__law_digits) (aCons (dVar 0) (aCons (dC (.int 1)) (aCons (dC (.int 3)) aNil)))) (aCons (dC (.int 4)) aNil)))))
    (dSeq (dSet 3 (dN (callN 3 f__law_wild) (aCons (dVar 1) (aCons (dN (callN 3 f__law_digits) (aCons (dVar 0) (aCons (dC (.int 2)) (aCons (dC (.int 3)) aNil)))) (aCons (dC (.int 2)) aNil)))))
    (dSeq (dSet 4 (dN (callN 1 f__law_spots) (aCons (dVar 2) aNil)))
    (dSeq (dSet 5 (d2 wMod (dN (callN 2 f__law_cell_at) (aCons (dVar 0) (aCons (dC (.int 1)) aNil))) (dN wLen (aCons (dVar 4) aNil))))
    (dSeq (dFor (iOfN rng1 (aCons (dN wMin (aCons (dC (.int 20)) (aCons (dN wLen (aCons (dVar 4) aNil)) aNil))) aNil)) (gNm 6)
    (dSeq (dSet 7 (d2 wIx (dVar 4) (d2 wMod (d2 wAdd (dVar 5) (dVar 6)) (dN wLen (aCons (dVar 4) aNil)))))
    (dSeq (dSet 8 (dN (callN 2 f_part_at) (aCons (dVar 2) (aCons (dVar 7) aNil))))
    (dSeq (dIf (cOr (cNot (cTru (dN (callN 1 f__law_shape) (aCons (dVar 8) aNil)))) (cBl (d2 (wEq true) (dVar 8) (dN (callN 2 f__law_there) (aCons (dVar 2) (aCons (dVar 7) aNil))))))
    (dRet (dC (.bl false)))
    dSkip)
    (dSeq (dSet 9 (dN (callN 3 f_put_at) (aCons (dVar 2) (aCons (dVar 7) (aCons (dVar 3) aNil)))))
    (dSeq (dIf (cOr (cNot (cTru (dN (callN 1 f__law_shape) (aCons (dVar 9) aNil)))) (cOr (cBl (d2 (wEq true) (dVar 9) (dN (callN 3 f__law_put) (aCons (dVar 2) (aCons (dVar 7) (aCons (dVar 3) aNil)))))) (cBl (d2 (wEq true) (dN (callN 2 f_part_at) (aCons (dVar 9) (aCons (dVar 7) aNil))) (dVar 3)))))
    (dRet (dC (.bl false)))
    dSkip)
    (dSeq (dSet 10 (dN (callN 3 f__law_bad_spot) (aCons (dVar 2) (aCons (dVar 7) (aCons (d2 wFdv (dN (callN 3 f__law_mixed) (aCons (dVar 0) (aCons (d2 wMod (dVar 6) (dC (.int 4))) (aCons (dC (.int 4)) aNil)))) (d2 wAdd (dVar 6) (dC (.int 3)))) aNil)))))
    (dIf (cOr (cNot (cTru (dN (callN 4 f__law_refused) (aCons (dC (.int 0)) (aCons (dVar 2) (aCons (dVar 10) (aCons (dVar 3) aNil))))))) (cNot (cTru (dN (callN 4 f__law_refused) (aCons (dC (.int 1)) (aCons (dVar 2) (aCons (dVar 10) (aCons (dVar 3) aNil))))))))
    (dRet (dC (.bl false)))
    dSkip))))))))
    (dRet (dC (.bl true)))))))))
def F_law : List W → M W := runF false 11 (d_law F__law_names (F__law_wild 12) (F__law_spots 12) F__law_cell_at F__law_digits F_part_at (F_put_at 12) F__law_bad_spot (F__law_shape 12) F__law_there (F__law_put 12) F__law_mixed F__law_refused)
end Lk31

set_option Elab.async false
set_option linter.all false
set_option maxRecDepth 100000
set_option maxHeartbeats 4000000
namespace Lk31
open PySem PySem.Spec PyProof.Rows L2 Q
structure Top (K : PySem.W.Frag) (mg : Str → Option Value) : Prop where
  d__law_names : DefAt K mg "_law_names" s__law_names
  d__law_wild : DefAt K mg "_law_wild" s__law_wild
  d__law_spots : DefAt K mg "_law_spots" s__law_spots
  d__law_cell_at : DefAt K mg "_law_cell_at" s__law_cell_at
  d__law_digits : DefAt K mg "_law_digits" s__law_digits
  d_arguments_of : DefAt K mg "arguments_of" s_arguments_of
  d_argument_at : DefAt K mg "argument_at" s_argument_at
  d_part_at : DefAt K mg "part_at" s_part_at
  d_put_at : DefAt K mg "put_at" s_put_at
  d__law_there : DefAt K mg "_law_there" s__law_there
  d__law_bad_spot : DefAt K mg "_law_bad_spot" s__law_bad_spot
  d__law_shape : DefAt K mg "_law_shape" s__law_shape
  d__law_put : DefAt K mg "_law_put" s__law_put
  d__law_mixed : DefAt K mg "_law_mixed" s__law_mixed
  d__law_classes : DefAt K mg "_law_classes" s__law_classes
  d__law_which : DefAt K mg "_law_which" s__law_which
  d__law_refused : DefAt K mg "_law_refused" s__law_refused
  f_ValueError : mg "ValueError" = none
  f_isinstance : mg "isinstance" = none
  f_len : mg "len" = none
  f_list : mg "list" = none
  f_min : mg "min" = none
  f_range : mg "range" = none
  f_reversed : mg "reversed" = none
  f_str : mg "str" = none
  f_sum : mg "sum" = none
  f_tuple : mg "tuple" = none
  x_BadCount : XCls K mg "BadCount"
  x_BadKind : XCls K mg "BadKind"
  x_BadName : XCls K mg "BadName"
  x_BadText : XCls K mg "BadText"
  x_Groundless : XCls K mg "Groundless"
  x_NoFunction : XCls K mg "NoFunction"
  x_NoKind : XCls K mg "NoKind"
  x_NoMaker : XCls K mg "NoMaker"
  x_NoName : XCls K mg "NoName"
  x_NoPlace : XCls K mg "NoPlace"
  x_NoSaying : XCls K mg "NoSaying"
  x_NotLess : XCls K mg "NotLess"
  x_NotShown : XCls K mg "NotShown"
  x_SayError : XCls K mg "SayError"
  x_TooLong : XCls K mg "TooLong"
  x_Twice : XCls K mg "Twice"
  c_SayError : CatchL K mg "SayError" [("NoPlace", true)]
  k_BadCount : KitL K mg (.ref (He.ga K "BadCount")) [("NoPlace", false)]
  k_Twice : KitL K mg (.ref (He.ga K "Twice")) [("NoPlace", false)]
  k_BadName : KitL K mg (.ref (He.ga K "BadName")) [("NoPlace", false)]
  k_NoMaker : KitL K mg (.ref (He.ga K "NoMaker")) [("NoPlace", false)]
  k_Groundless : KitL K mg (.ref (He.ga K "Groundless")) [("NoPlace", false)]
  k_NoKind : KitL K mg (.ref (He.ga K "NoKind")) [("NoPlace", false)]
  k_NotLess : KitL K mg (.ref (He.ga K "NotLess")) [("NoPlace", false)]
  k_NoFunction : KitL K mg (.ref (He.ga K "NoFunction")) [("NoPlace", false)]
  k_NoName : KitL K mg (.ref (He.ga K "NoName")) [("NoPlace", false)]
  k_NoPlace : KitL K mg (.ref (He.ga K "NoPlace")) [("NoPlace", true)]
  k_TooLong : KitL K mg (.ref (He.ga K "TooLong")) [("NoPlace", false)]
  k_BadKind : KitL K mg (.ref (He.ga K "BadKind")) [("NoPlace", false)]
  k_BadText : KitL K mg (.ref (He.ga K "BadText")) [("NoPlace", false)]
  k_NoSaying : KitL K mg (.ref (He.ga K "NoSaying")) [("NoPlace", false)]
  k_NotShown : KitL K mg (.ref (He.ga K "NotShown")) [("NoPlace", false)]
  k_ValueError : KitL K mg va [("NoPlace", true)]
section
variable {P : Program} {w : World} {K : PySem.W.Frag} {mg : Str → Option Value} {base : Heap}
theorem fn__law_names (T : Top K mg) : Cal P w K mg base 1 "_law_names" 2 F__law_names :=
  cal_of (st := s__law_names) T.d__law_names fun f fd F => fn_body (own := false) F sc__law_names (F.binds (ps := ["_law_cell", "_law_count"]) fun _ _ _ _ _ _ us hl => match us, hl with | [_, _], _ => rfl) fun cdv A outer s H E hr tk =>
    (qss_cons (qs_set sc__law_names.nd rfl (Or.inr rfl) q_str)
    (qss_cons (qs_set sc__law_names.nd rfl (Or.inr rfl) (q_op op2_mul op_mulA (q_op op2_add op_addA (q_op op2_add op_addA (q_op op2_mul op_mulA (q_var 0) (q_var 0)) (q_var 0)) q_int) q_int))
    (qss_cons (qs_set sc__law_names.nd rfl (Or.inl rfl) (q_op op2_add op_addA q_int (q_op op2_mod op_mod (q_var 3) q_int)))
    (qss_cons (qs_set sc__law_names.nd rfl (Or.inl rfl) (q_op op2_mod op_mod (q_op op2_fdv op_fdivW (q_var 3) q_int) (q_var 4)))
    (qss_cons (qs_setLc (b := false) rfl sc__law_names.nd rfl rfl (sw_true rfl rfl rfl (by decide +kernel)) (qi_range1 rfl T.f_range (qa_cons (q_var 4) qa_nil)) (blkOk_by (own := [("_law_k", 9)]) (N := ["_law_cell", "_law_count", "_law_letters", "_law_mixed_here", "_law_wide", "_law_at", "_law_base", "_law_step", "_law_got", "_law_k", "_law_turned_on"]) (sc := defScope s__law_names) (by decide +kernel)) (tg_name (by decide)) (fun _ _ _ _ _ => (pg_name sc__law_names.nd rfl (Or.inl rfl))) (fun _ _ _ _ _ => (q_ix op2_ix (ix_all (hu_q hr)) (q_var 2) (q_op op2_mod op_mod (q_op op2_add op_addA (q_op op2_fdv op_fdivW (q_var 3) (q_op op2_add op_addA (q_var 9) q_int)) (q_op op2_mul op_mulA (q_var 9) (q_var 9))) q_int))))
    (qss_cons (qs_set sc__law_names.nd rfl (Or.inl rfl) (q_ix op2_ix (ix_all (hu_q hr)) (q_lstP (qa_cons q_int (qa_cons q_int (qa_cons q_int (qa_cons q_int (qa_cons q_int (qa_cons q_int qa_nil))))))) (q_op op2_mod op_mod (q_op op2_fdv op_fdivW (q_var 3) q_int) q_int)))
    (qss_cons (qs_set sc__law_names.nd rfl (Or.inl rfl) (q_lstO qa_nil))
    (qss_cons (qs_forQ own_cx rfl (qi_range1 rfl T.f_range (qa_cons (q_var 1) qa_nil)) (qg_name sc__law_names.nd rfl (Or.inl rfl))
    (qss_cons (qs_set sc__law_names.nd rfl (Or.inl rfl) (q_ix op2_ix (ix_all (hu_q hr)) (q_var 2) (q_op op2_mod op_mod (q_op op2_add op_addA (q_op op2_fdv op_fdivW (q_var 3) q_int) (q_op op2_mul op_mulA (q_var 9) (q_var 7))) q_int)))
    (qss_one (qs_if (qt_cmp op2_eq (op_eqQ (hu_q hr)) rfl (q_op op2_mod op_mod (q_op op2_fdv op_fdivW (q_var 3) q_int) q_int) q_int)
    (qss_one (qs_expr (m_append (q_var 8) (qa_cons (q_op op2_mul op_mulA (q_ix op2_ix (ix_all (hu_q hr)) (q_var 6) q_int) (q_op op2_add op_addA (q_op op2_mod op_mod (q_op op2_add op_addA (q_var 9) (q_op op2_fdv op_fdivW (q_var 3) q_int)) q_int) q_int)) qa_nil))))
    (qss_one (qs_expr (m_append (q_var 8) (qa_cons (q_op op2_add op_addA (q_op op2_add op_addA (q_join q_str (q_slice (q_var 6) qo_none (qo_some (q_var 5)))) (q_var 10)) (q_join q_str (q_slice (q_var 6) (qo_some (q_op op2_add op_addA (q_var 5) q_int)) qo_none))) qa_nil))))))))
    (qss_one (qs_ret (q_var 8)))))))))))
theorem fn__law_wild (T : Top K mg) : ∀ k, Cal P w K mg base (0 + k) "_law_wild" 3 (F__law_wild k)
  | 0 => cal_of (st := s__law_wild) T.d__law_wild fun f fd F => Fn.never (F.binds (ps := ["_law_names_here", "_law_purse", "_law_down"]) fun _ _ _ _ _ _ us hl => match us, hl with | [_, _, _], _ => rfl) F.kp fun _ _ _ _ h => by cases h
  | k + 1 => cal_of (st := s__law_wild) T.d__law_wild fun f fd F => have ih := fn__law_wild T k
    fn_body (own := false) F sc__law_wild (F.binds (ps := ["_law_names_here", "_law_purse", "_law_down"]) fun _ _ _ _ _ _ us hl => match us, hl with | [_, _, _], _ => rfl) fun cdv A outer s H E hr tk =>
    (qss_cons (qs_set sc__law_wild.nd rfl (Or.inl rfl) (m_pop (q_var 1)))
    (qss_cons (qs_if (qt_w (qw_or (qt_cmp op2_eq (op_eqQ (hu_q hr)) rfl (q_var 2) q_int) (qw_or1 (qt_cmp op2_eq (op_eqQ (hu_q hr)) rfl (q_op op2_mod op_mod (q_var 3) q_int) q_int))))
    (qss_one (qs_ret (q_tup (qa_cons q_str (qa_cons (q_ix op2_ix (ix_all (hu_q hr)) (q_var 0) (q_op op2_mod op_mod (q_op op2_fdv op_fdivW (q_var 3) q_int) (q_callB opN_len call_lenA rfl T.f_len (by decide +kernel) (qa_cons (q_var 0) qa_nil)))) qa_nil)))))
    qss_nil)
    (qss_cons (qs_set sc__law_wild.nd rfl (Or.inl rfl) (q_lstO qa_nil))
    (qss_cons (qs_forQ own_cx rfl (qi_range1 rfl T.f_range (qa_cons (q_ix op2_ix (ix_all (hu_q hr)) (q_lstP (qa_cons q_int (qa_cons q_int (qa_cons q_int (qa_cons q_int (qa_cons q_int (qa_cons q_int qa_nil))))))) (q_op op2_mod op_mod (q_op op2_fdv op_fdivW (q_var 3) q_int) q_int)) qa_nil)) (qg_name sc__law_wild.nd rfl (Or.inl rfl))
    (qss_one (qs_expr (m_append (q_var 4) (qa_cons (q_call ih hr (by first | omega | (simp only [Nat.add_eq]; omega)) rfl tk (qa_cons (q_var 0) (qa_cons (q_var 1) (qa_cons (q_op op2_sub op_sub (q_var 2) q_int) qa_nil)))) qa_nil)))))
    (qss_one (qs_ret (q_tup (qa_cons (q_ix op2_ix (ix_all (hu_q hr)) (q_lstP (qa_cons q_str (qa_cons q_str qa_nil))) (q_op op2_mod op_mod (q_op op2_fdv op_fdivW (q_var 3) q_int) q_int)) (qa_cons (q_ix op2_ix (ix_all (hu_q hr)) (q_var 0) (q_op op2_mod op_mod (q_op op2_fdv op_fdivW (q_var 3) q_int) (q_callB opN_len call_lenA rfl T.f_len (by decide +kernel) (qa_cons (q_var 0) qa_nil)))) (qa_cons (q_callTy opN_tuple call_tuple_of rfl T.f_tuple (by decide +kernel) (qa_cons (q_var 4) qa_nil)) qa_nil))))))))))
theorem fn__law_spots (T : Top K mg) : ∀ k, Cal P w K mg base (0 + k) "_law_spots" 1 (F__law_spots k)
  | 0 => cal_of (st := s__law_spots) T.d__law_spots fun f fd F => Fn.never (F.binds (ps := ["_law_expression"]) fun _ _ _ _ _ _ us hl => match us, hl with | [_], _ => rfl) F.kp fun _ _ _ _ h => by cases h
  | k + 1 => cal_of (st := s__law_spots) T.d__law_spots fun f fd F => have ih := fn__law_spots T k
    fn_body (own := false) F sc__law_spots (F.binds (ps := ["_law_expression"]) fun _ _ _ _ _ _ us hl => match us, hl with | [_], _ => rfl) fun cdv A outer s H E hr tk =>
    (qss_cons (qs_set sc__law_spots.nd rfl (Or.inl rfl) (q_lstP (qa_cons (q_tup qa_nil) qa_nil)))
    (qss_cons (qs_if (qt_cmp op2_eq (op_neQ (hu_q hr)) rfl (q_ix op2_ix (ix_all (hu_q hr)) (q_var 0) q_int) q_str)
    (qss_one (qs_forQ own_cx rfl (qi_range1 rfl T.f_range (qa_cons (q_callB opN_len call_lenA rfl T.f_len (by decide +kernel) (qa_cons (q_ix op2_ix (ix_all (hu_q hr)) (q_var 0) q_int) qa_nil)) qa_nil)) (qg_name sc__law_spots.nd rfl (Or.inr rfl))
    (qss_one (qs_set sc__law_spots.nd rfl (Or.inl rfl) (q_op op2_add op_addA (q_var 1) (q_lc (b := false) rfl sc__law_spots.nd (qi_seq (q_call ih hr (by first | omega | (simp only [Nat.add_eq]; omega)) rfl tk (qa_cons (q_ix op2_ix (ix_all (hu_q hr)) (q_ix op2_ix (ix_all (hu_q hr)) (q_var 0) q_int) (q_var 2)) qa_nil))) (blkOk_by (own := [("_law_one", 3)]) (N := ["_law_expression", "_law_got", "_law_k", "_law_one"]) (sc := defScope s__law_spots) (by decide +kernel)) (tg_name (by decide)) (fun _ _ _ _ _ => (pg_name sc__law_spots.nd rfl (Or.inl rfl))) (fun _ _ _ _ _ => (q_op op2_add op_addA (q_tup (qa_cons (q_var 2) qa_nil)) (q_var 3)))))))))
    qss_nil)
    (qss_one (qs_ret (q_var 1)))))
theorem fn__law_cell_at (T : Top K mg) : Cal P w K mg base 1 "_law_cell_at" 2 F__law_cell_at :=
  cal_of (st := s__law_cell_at) T.d__law_cell_at fun f fd F => fn_body (own := false) F sc__law_cell_at (F.binds (ps := ["_law_script", "_law_k"]) fun _ _ _ _ _ _ us hl => match us, hl with | [_, _], _ => rfl) fun cdv A outer s H E hr tk =>
    (qss_cons (qs_if (qt_cmp op2_lt op_lt rfl (q_var 1) (q_callB opN_len call_lenA rfl T.f_len (by decide +kernel) (qa_cons (q_var 0) qa_nil)))
    (qss_one (qs_ret (q_ix op2_ix (ix_all (hu_q hr)) (q_var 0) (q_var 1))))
    qss_nil)
    (qss_one (qs_ret q_int)))
theorem fn__law_digits (T : Top K mg) : Cal P w K mg base 1 "_law_digits" 3 F__law_digits :=
  cal_of (st := s__law_digits) T.d__law_digits fun f fd F => fn_body (own := true) F sc__law_digits (F.binds (ps := ["_law_script", "_law_at", "_law_parts"]) fun _ _ _ _ _ _ us hl => match us, hl with | [_, _, _], _ => rfl) fun cdv A outer s H E hr tk =>
    (qss_cons (qs_set sc__law_digits.nd rfl (Or.inl rfl) (q_callB opN_sum (cr_sum rfl) rfl T.f_sum (by decide +kernel) (qa_cons (q_lc (b := false) rfl sc__law_digits.nd (qi_range3 rfl T.f_range (qa_cons (q_var 1) (qa_cons (q_callB opN_min (call_min2 rfl) rfl T.f_min (by decide +kernel) (qa_cons (q_callB opN_len call_lenA rfl T.f_len (by decide +kernel) (qa_cons (q_var 0) qa_nil)) (qa_cons q_int qa_nil))) (qa_cons (q_var 2) qa_nil)))) (blkOk_by (own := [("_law_k", 7)]) (N := ["_law_script", "_law_at", "_law_parts", "_law_drawn", "_law_got", "_law_first", "_law_rest", "_law_k"]) (sc := defScope s__law_digits) (by decide +kernel)) (tg_name (by decide)) (fun _ _ _ _ _ => (pg_name sc__law_digits.nd rfl (Or.inl rfl))) (fun _ _ _ _ _ => (q_ix op2_ix (ix_all (hu_q hr)) (q_var 0) (q_var 7)))) qa_nil)))
    (qss_cons (qs_set sc__law_digits.nd rfl (Or.inl rfl) (q_lstO qa_nil))
    (qss_cons (qs_set sc__law_digits.nd rfl (Or.inl rfl) (q_op op2_mod op_mod (q_var 3) q_int))
    (qss_cons (qs_set sc__law_digits.nd rfl (Or.inl rfl) (q_op op2_fdv op_fdivW (q_var 3) q_int))
    (qss_cons (qs_forQ own_cx rfl (qi_range1 rfl T.f_range (qa_cons q_int qa_nil)) (qg_name sc__law_digits.nd rfl (Or.inl rfl))
    (qss_cons (qs_set sc__law_digits.nd rfl (Or.inl rfl) (q_op op2_mod op_mod (q_op op2_add op_addA (q_op op2_add op_addA (q_op op2_mul op_mulA (q_var 5) (q_var 5)) (q_var 3)) (q_var 7)) q_int))
    (qss_cons (qs_expr (m_append (q_var 4) (qa_cons (q_op op2_mod op_mod (q_ix op2_ix (ix_all (hu_q hr)) (q_lstP (qa_cons (q_var 6) (qa_cons (q_op op2_mod op_mod (q_op op2_mul op_mulA (q_var 5) (q_var 5)) q_int) qa_nil))) (q_op op2_mod op_mod (q_var 3) q_int)) q_int) qa_nil)))
    (qss_one (qs_set sc__law_digits.nd rfl (Or.inl rfl) (q_op op2_fdv op_fdivW (q_var 6) q_int))))))
    (qss_one (qs_ret (q_lstRevO rfl rfl rfl T.f_list rfl T.f_reversed (q_var 4)))))))))
theorem fn_arguments_of (T : Top K mg) : Cal P w K mg base 1 "arguments_of" 1 F_arguments_of :=
  cal_of (st := s_arguments_of) T.d_arguments_of fun f fd F => fn_body (own := false) F sc_arguments_of (F.binds (ps := ["expression"]) fun _ _ _ _ _ _ us hl => match us, hl with | [_], _ => rfl) fun cdv A outer s H E hr tk =>
    (qss_cons (qs_if (qt_cmp op2_eq (op_eqQ (hu_q hr)) rfl (q_ix op2_ix (ix_all (hu_q hr)) (q_var 0) q_int) q_str)
    (qss_one (qs_ret (q_tup qa_nil)))
    qss_nil)
    (qss_one (qs_ret (q_ix op2_ix (ix_all (hu_q hr)) (q_var 0) q_int))))
theorem fn_argument_at (T : Top K mg) : Cal P w K mg base 2 "argument_at" 2 F_argument_at :=
  cal_of (st := s_argument_at) T.d_argument_at fun f fd F => fn_body (own := false) F sc_argument_at (F.binds (ps := ["expression", "at"]) fun _ _ _ _ _ _ us hl => match us, hl with | [_, _], _ => rfl) fun cdv A outer s H E hr tk =>
    (qss_cons (qs_set sc_argument_at.nd rfl (Or.inl rfl) (q_call (fn_arguments_of T) hr (by first | omega | (simp only [Nat.add_eq]; omega)) rfl tk (qa_cons (q_var 0) qa_nil)))
    (qss_cons (qs_if (qt_w (qw_or (qt_cmp op2_lt op_lt rfl (q_var 1) q_int) (qw_or1 (qt_cmp op2_ge op_ge rfl (q_var 1) (q_callB opN_len call_lenA rfl T.f_len (by decide +kernel) (qa_cons (q_var 2) qa_nil))))))
    (qss_one (qs_raise T.x_NoPlace.c tk rfl rfl))
    qss_nil)
    (qss_one (qs_ret (q_ix op2_ix (ix_all (hu_q hr)) (q_var 2) (q_var 1))))))
theorem fn_part_at (T : Top K mg) : Cal P w K mg base 3 "part_at" 2 F_part_at :=
  cal_of (st := s_part_at) T.d_part_at fun f fd F => fn_body (own := false) F sc_part_at (F.binds (ps := ["expression", "place"]) fun _ _ _ _ _ _ us hl => match us, hl with | [_, _], _ => rfl) fun cdv A outer s H E hr tk =>
    (qss_cons (qs_forQ own_cx rfl (qi_seq (q_var 1)) (qg_name sc_part_at.nd rfl (Or.inl rfl))
    (qss_one (qs_set sc_part_at.nd rfl (Or.inl rfl) (q_call (fn_argument_at T) hr (by first | omega | (simp only [Nat.add_eq]; omega)) rfl tk (qa_cons (q_var 0) (qa_cons (q_var 2) qa_nil))))))
    (qss_one (qs_ret (q_var 0))))
theorem fn_put_at (T : Top K mg) : ∀ k, Cal P w K mg base (2 + k) "put_at" 3 (F_put_at k)
  | 0 => cal_of (st := s_put_at) T.d_put_at fun f fd F => Fn.never (F.binds (ps := ["expression", "place", "other"]) fun _ _ _ _ _ _ us hl => match us, hl with | [_, _, _], _ => rfl) F.kp fun _ _ _ _ h => by cases h
  | k + 1 => cal_of (st := s_put_at) T.d_put_at fun f fd F => have ih := fn_put_at T k
    fn_body (own := false) F sc_put_at (F.binds (ps := ["expression", "place", "other"]) fun _ _ _ _ _ _ us hl => match us, hl with | [_, _, _], _ => rfl) fun cdv A outer s H E hr tk =>
    (qss_cons (qs_if (qt_cmp op2_eq (op_eqQ (hu_q hr)) rfl (q_callB opN_len call_lenA rfl T.f_len (by decide +kernel) (qa_cons (q_var 1) qa_nil)) q_int)
    (qss_one (qs_ret (q_var 2)))
    qss_nil)
    (qss_cons (qs_set sc_put_at.nd rfl (Or.inl rfl) (q_ix op2_ix (ix_all (hu_q hr)) (q_var 1) q_int))
    (qss_cons (qs_set sc_put_at.nd rfl (Or.inl rfl) (q_call ih hr (by first | omega | (simp only [Nat.add_eq]; omega)) rfl tk (qa_cons (q_call (fn_argument_at T) hr (by first | omega | (simp only [Nat.add_eq]; omega)) rfl tk (qa_cons (q_var 0) (qa_cons (q_var 3) qa_nil))) (qa_cons (q_slice (q_var 1) (qo_some q_int) qo_none) (qa_cons (q_var 2) qa_nil)))))
    (qss_cons (qs_asg (q_var 0) (qg_tupQ rfl (qgs_cons (qg_name sc_put_at.nd rfl (Or.inl rfl)) (qgs_cons (qg_name sc_put_at.nd rfl (Or.inl rfl)) (qgs_cons (qg_name sc_put_at.nd rfl (Or.inl rfl)) qgs_nil gNm_nx gsNil_nx) gNm_nx (gsCons_nx gNm_nx gsNil_nx)) gNm_nx (gsCons_nx gNm_nx (gsCons_nx gNm_nx gsNil_nx)))) (h := ps_asg (q_var 0) (qg_tupQ rfl (qgs_cons (qg_name sc_put_at.nd rfl (Or.inl rfl)) (qgs_cons (qg_name sc_put_at.nd rfl (Or.inl rfl)) (qgs_cons (qg_name sc_put_at.nd rfl (Or.inl rfl)) qgs_nil gNm_nx gsNil_nx) gNm_nx (gsCons_nx gNm_nx gsNil_nx)) gNm_nx (gsCons_nx gNm_nx (gsCons_nx gNm_nx gsNil_nx))))))
    (qss_one (qs_ret (q_tup (qa_cons (q_var 5) (qa_cons (q_var 6) (qa_cons (q_op op2_add op_addA (q_op op2_add op_addA (q_slice (q_var 7) qo_none (qo_some (q_var 3))) (q_tup (qa_cons (q_var 4) qa_nil))) (q_slice (q_var 7) (qo_some (q_op op2_add op_addA (q_var 3) q_int)) qo_none)) qa_nil))))))))))
theorem fn__law_there (T : Top K mg) : Cal P w K mg base 1 "_law_there" 2 F__law_there :=
  cal_of (st := s__law_there) T.d__law_there fun f fd F => fn_body (own := false) F sc__law_there (F.binds (ps := ["_law_expression", "_law_place"]) fun _ _ _ _ _ _ us hl => match us, hl with | [_, _], _ => rfl) fun cdv A outer s H E hr tk =>
    (qss_cons (qs_forQ own_cx rfl (qi_seq (q_var 1)) (qg_name sc__law_there.nd rfl (Or.inl rfl))
    (qss_one (qs_set sc__law_there.nd rfl (Or.inl rfl) (q_ix op2_ix (ix_all (hu_q hr)) (q_ix op2_ix (ix_all (hu_q hr)) (q_var 0) q_int) (q_var 2)))))
    (qss_one (qs_ret (q_var 0))))
theorem fn__law_bad_spot (T : Top K mg) : Cal P w K mg base 2 "_law_bad_spot" 3 F__law_bad_spot :=
  cal_of (st := s__law_bad_spot) T.d__law_bad_spot fun f fd F => fn_body (own := false) F sc__law_bad_spot (F.binds (ps := ["_law_expression", "_law_place", "_law_cell"]) fun _ _ _ _ _ _ us hl => match us, hl with | [_, _, _], _ => rfl) fun cdv A outer s H E hr tk =>
    (qss_cons (qs_set sc__law_bad_spot.nd rfl (Or.inl rfl) (q_op op2_mod op_mod (q_var 2) (q_op op2_add op_addA (q_callB opN_len call_lenA rfl T.f_len (by decide +kernel) (qa_cons (q_var 1) qa_nil)) q_int)))
    (qss_cons (qs_set sc__law_bad_spot.nd rfl (Or.inl rfl) (q_call (fn__law_there T) hr (by first | omega | (simp only [Nat.add_eq]; omega)) rfl tk (qa_cons (q_var 0) (qa_cons (q_slice (q_var 1) qo_none (qo_some (q_var 3))) qa_nil))))
    (qss_cons (qs_set sc__law_bad_spot.nd rfl (Or.inl rfl) q_int)
    (qss_cons (qs_if (qt_cmp op2_eq (op_neQ (hu_q hr)) rfl (q_ix op2_ix (ix_all (hu_q hr)) (q_var 4) q_int) q_str)
    (qss_one (qs_set sc__law_bad_spot.nd rfl (Or.inl rfl) (q_callB opN_len call_lenA rfl T.f_len (by decide +kernel) (qa_cons (q_ix op2_ix (ix_all (hu_q hr)) (q_var 4) q_int) qa_nil))))
    qss_nil)
    (qss_cons (qs_set sc__law_bad_spot.nd rfl (Or.inl rfl) (q_ix op2_ix (ix_all (hu_q hr)) (q_lstP (qa_cons (q_var 5) (qa_cons (q_op op2_add op_addA (q_op op2_add op_addA (q_var 5) q_int) (q_op op2_mod op_mod (q_op op2_fdv op_fdivW (q_var 2) q_int) (q_op op2_pow op_pow q_int q_int))) (qa_cons (q_op op2_sub op_sub (q_un op1_neg un_neg q_int) (q_op op2_mod op_mod (q_op op2_fdv op_fdivW (q_var 2) q_int) q_int)) (qa_cons (q_op op2_sub op_sub (q_un op1_neg un_neg q_int) (q_op op2_mod op_mod (q_op op2_fdv op_fdivW (q_var 2) q_int) (q_op op2_pow op_pow q_int q_int))) qa_nil))))) (q_op op2_mod op_mod (q_op op2_fdv op_fdivW (q_var 2) q_int) q_int)))
    (qss_one (qs_ret (q_op op2_add op_addA (q_op op2_add op_addA (q_slice (q_var 1) qo_none (qo_some (q_var 3))) (q_tup (qa_cons (q_var 6) qa_nil))) (q_slice (q_var 1) (qo_some (q_op op2_add op_addA (q_var 3) q_int)) qo_none)))))))))
theorem fn__law_shape (T : Top K mg) : ∀ k, Cal P w K mg base (0 + k) "_law_shape" 1 (F__law_shape k)
  | 0 => cal_of (st := s__law_shape) T.d__law_shape fun f fd F => Fn.never (F.binds (ps := ["_law_got"]) fun _ _ _ _ _ _ us hl => match us, hl with | [_], _ => rfl) F.kp fun _ _ _ _ h => by cases h
  | k + 1 => cal_of (st := s__law_shape) T.d__law_shape fun f fd F => have ih := fn__law_shape T k
    fn_body (own := false) F sc__law_shape (F.binds (ps := ["_law_got"]) fun _ _ _ _ _ _ us hl => match us, hl with | [_], _ => rfl) fun cdv A outer s H E hr tk =>
    (qss_cons (qs_if (qt_w (qw_or (qt_not (qt_of (q_isi .tup rfl T.f_isinstance rfl T.f_tuple (by decide +kernel) (q_var 0)))) (qw_or (qt_cmp op2_lt op_lt rfl (q_callB opN_len call_lenA rfl T.f_len (by decide +kernel) (qa_cons (q_var 0) qa_nil)) q_int) (qw_or1 (qt_cmp op2_eq (op_neQ (hu_q hr)) rfl (q_lcIf (b := false) rfl sc__law_shape.nd (qi_seq (q_slice (q_var 0) qo_none (qo_some q_int))) (blkOk_by (own := [("_law_one", 1)]) (N := ["_law_got", "_law_one"]) (sc := defScope s__law_shape) (by decide +kernel)) (tg_name (by decide)) (fun _ _ _ _ _ => (pg_name sc__law_shape.nd rfl (Or.inl rfl))) (fun _ _ _ _ _ => (qt_not (qt_of (q_isi .str rfl T.f_isinstance rfl T.f_str (by decide +kernel) (q_var 1))))) (fun _ _ _ _ _ => (q_var 1))) (q_lstP qa_nil))))))
    (qss_one (qs_ret q_bl))
    qss_nil)
    (qss_cons (qs_if (qt_cmp op2_eq (op_eqQ (hu_q hr)) rfl (q_ix op2_ix (ix_all (hu_q hr)) (q_var 0) q_int) q_str)
    (qss_one (qs_ret (q_cmp op2_eq (op_eqQ (hu_q hr)) rfl (q_callB opN_len call_lenA rfl T.f_len (by decide +kernel) (qa_cons (q_var 0) qa_nil)) q_int)))
    qss_nil)
    (qss_cons (qs_if (qt_w (qw_or (qt_cmp op2_eq (op_neQ (hu_q hr)) rfl (q_callB opN_len call_lenA rfl T.f_len (by decide +kernel) (qa_cons (q_var 0) qa_nil)) q_int) (qw_or1 (qt_not (qt_of (q_isi .tup rfl T.f_isinstance rfl T.f_tuple (by decide +kernel) (q_ix op2_ix (ix_all (hu_q hr)) (q_var 0) q_int)))))))
    (qss_one (qs_ret q_bl))
    qss_nil)
    (qss_one (qs_ret (q_cmp op2_eq (op_eqQ (hu_q hr)) rfl (q_lcIf (b := false) rfl sc__law_shape.nd (qi_seq (q_ix op2_ix (ix_all (hu_q hr)) (q_var 0) q_int)) (blkOk_by (own := [("_law_one", 1)]) (N := ["_law_got", "_law_one"]) (sc := defScope s__law_shape) (by decide +kernel)) (tg_name (by decide)) (fun _ _ _ _ _ => (pg_name sc__law_shape.nd rfl (Or.inl rfl))) (fun _ _ _ _ _ => (qt_not (qt_of (q_call ih hr (by first | omega | (simp only [Nat.add_eq]; omega)) rfl tk0 (qa_cons (q_var 1) qa_nil))))) (fun _ _ _ _ _ => (q_var 1))) (q_lstP qa_nil)))))))
theorem fn__law_put (T : Top K mg) : ∀ k, Cal P w K mg base (0 + k) "_law_put" 3 (F__law_put k)
  | 0 => cal_of (st := s__law_put) T.d__law_put fun f fd F => Fn.never (F.binds (ps := ["_law_expression", "_law_place", "_law_other"]) fun _ _ _ _ _ _ us hl => match us, hl with | [_, _, _], _ => rfl) F.kp fun _ _ _ _ h => by cases h
  | k + 1 => cal_of (st := s__law_put) T.d__law_put fun f fd F => have ih := fn__law_put T k
    fn_body (own := false) F sc__law_put (F.binds (ps := ["_law_expression", "_law_place", "_law_other"]) fun _ _ _ _ _ _ us hl => match us, hl with | [_, _, _], _ => rfl) fun cdv A outer s H E hr tk =>
    (qss_cons (qs_if (qt_cmp op2_eq (op_eqQ (hu_q hr)) rfl (q_var 1) (q_tup qa_nil))
    (qss_one (qs_ret (q_var 2)))
    qss_nil)
    (qss_cons (qs_set sc__law_put.nd rfl (Or.inl rfl) (q_callTy opN_listO call_list_of rfl T.f_list (by decide +kernel) (qa_cons (q_ix op2_ix (ix_all (hu_q hr)) (q_var 0) q_int) qa_nil)))
    (qss_cons (qs_asg (q_call ih hr (by first | omega | (simp only [Nat.add_eq]; omega)) rfl tk (qa_cons (q_ix op2_ix (ix_all (hu_q hr)) (q_var 3) (q_ix op2_ix (ix_all (hu_q hr)) (q_var 1) q_int)) (qa_cons (q_slice (q_var 1) (qo_some q_int) qo_none) (qa_cons (q_var 2) qa_nil)))) (qg_item (hu_q hr) (q_var 3) (q_ix op2_ix (ix_all (hu_q hr)) (q_var 1) q_int)) (h := ps_asg (q_call ih hr (by first | omega | (simp only [Nat.add_eq]; omega)) rfl tk (qa_cons (q_ix op2_ix (ix_all (hu_q hr)) (q_var 3) (q_ix op2_ix (ix_all (hu_q hr)) (q_var 1) q_int)) (qa_cons (q_slice (q_var 1) (qo_some q_int) qo_none) (qa_cons (q_var 2) qa_nil)))) (qg_item (hu_q hr) (q_var 3) (q_ix op2_ix (ix_all (hu_q hr)) (q_var 1) q_int))))
    (qss_one (qs_ret (q_tup (qa_cons (q_ix op2_ix (ix_all (hu_q hr)) (q_var 0) q_int) (qa_cons (q_ix op2_ix (ix_all (hu_q hr)) (q_var 0) q_int) (qa_cons (q_callTy opN_tuple call_tuple_of rfl T.f_tuple (by decide +kernel) (qa_cons (q_var 3) qa_nil)) qa_nil)))))))))
theorem fn__law_mixed (T : Top K mg) : Cal P w K mg base 1 "_law_mixed" 3 F__law_mixed :=
  cal_of (st := s__law_mixed) T.d__law_mixed fun f fd F => fn_body (own := false) F sc__law_mixed (F.binds (ps := ["_law_script", "_law_at", "_law_many"]) fun _ _ _ _ _ _ us hl => match us, hl with | [_, _, _], _ => rfl) fun cdv A outer s H E hr tk =>
    (qss_cons (qs_set sc__law_mixed.nd rfl (Or.inl rfl) (q_callB opN_sum (cr_sum rfl) rfl T.f_sum (by decide +kernel) (qa_cons (q_lc (b := false) rfl sc__law_mixed.nd (qi_range3 rfl T.f_range (qa_cons (q_var 1) (qa_cons (q_callB opN_min (call_min2 rfl) rfl T.f_min (by decide +kernel) (qa_cons (q_callB opN_len call_lenA rfl T.f_len (by decide +kernel) (qa_cons (q_var 0) qa_nil)) (qa_cons q_int qa_nil))) (qa_cons (q_var 2) qa_nil)))) (blkOk_by (own := [("_law_k", 5)]) (N := ["_law_script", "_law_at", "_law_many", "_law_cell", "_law_first", "_law_k"]) (sc := defScope s__law_mixed) (by decide +kernel)) (tg_name (by decide)) (fun _ _ _ _ _ => (pg_name sc__law_mixed.nd rfl (Or.inl rfl))) (fun _ _ _ _ _ => (q_ix op2_ix (ix_all (hu_q hr)) (q_var 0) (q_var 5)))) qa_nil)))
    (qss_cons (qs_if (qt_cmp op2_eq (op_eqQ (hu_q hr)) rfl (q_op op2_mod op_mod (q_var 3) q_int) q_int)
    (qss_one (qs_ret (q_op op2_mod op_mod (q_op op2_fdv op_fdivW (q_var 3) q_int) (q_op op2_pow op_pow q_int q_int))))
    qss_nil)
    (qss_cons (qs_set sc__law_mixed.nd rfl (Or.inl rfl) (q_op op2_mul op_mulA (q_op op2_add op_addA (q_op op2_add op_addA (q_op op2_add op_addA (q_op op2_mul op_mulA (q_var 3) (q_var 3)) (q_var 3)) (q_var 1)) q_int) q_int))
    (qss_one (qs_ret (q_op op2_mul op_mulA (q_op op2_mod op_mod (q_op op2_mul op_mulA (q_var 4) (q_var 4)) (q_op op2_add op_addA (q_op op2_pow op_pow q_int q_int) q_int)) (q_op op2_add op_addA (q_op op2_mod op_mod (q_var 4) q_int) q_int)))))))
theorem fn__law_classes (T : Top K mg) : Cal P w K mg base 1 "_law_classes" 1 F__law_classes :=
  cal_of (st := s__law_classes) T.d__law_classes fun f fd F => fn_body (own := false) F sc__law_classes (F.binds (ps := ["_law_kept"]) fun _ _ _ _ _ _ us hl => match us, hl with | [_], _ => rfl) fun cdv A outer s H E hr tk =>
    (qss_cons (qs_set sc__law_classes.nd rfl (Or.inl rfl) (q_lstP (qa_cons (q_isX (cv := .ref (He.ga K "BadName")) T.k_BadName.ok (fun _ h => h) rfl T.f_isinstance (qg_cls rfl T.x_BadName.g) (q_var 0)) (qa_cons (q_isX (cv := .ref (He.ga K "Twice")) T.k_Twice.ok (fun _ h => h) rfl T.f_isinstance (qg_cls rfl T.x_Twice.g) (q_var 0)) (qa_cons (q_isX (cv := .ref (He.ga K "BadCount")) T.k_BadCount.ok (fun _ h => h) rfl T.f_isinstance (qg_cls rfl T.x_BadCount.g) (q_var 0)) qa_nil)))))
    (qss_cons (qs_set sc__law_classes.nd rfl (Or.inl rfl) (q_op op2_add op_addA (q_var 1) (q_lstP (qa_cons (q_isX (cv := .ref (He.ga K "NoKind")) T.k_NoKind.ok (fun _ h => h) rfl T.f_isinstance (qg_cls rfl T.x_NoKind.g) (q_var 0)) (qa_cons (q_isX (cv := .ref (He.ga K "Groundless")) T.k_Groundless.ok (fun _ h => h) rfl T.f_isinstance (qg_cls rfl T.x_Groundless.g) (q_var 0)) (qa_cons (q_isX (cv := .ref (He.ga K "NoMaker")) T.k_NoMaker.ok (fun _ h => h) rfl T.f_isinstance (qg_cls rfl T.x_NoMaker.g) (q_var 0)) qa_nil))))))
    (qss_cons (qs_set sc__law_classes.nd rfl (Or.inl rfl) (q_op op2_add op_addA (q_var 1) (q_lstP (qa_cons (q_isX (cv := .ref (He.ga K "NoName")) T.k_NoName.ok (fun _ h => h) rfl T.f_isinstance (qg_cls rfl T.x_NoName.g) (q_var 0)) (qa_cons (q_isX (cv := .ref (He.ga K "NoFunction")) T.k_NoFunction.ok (fun _ h => h) rfl T.f_isinstance (qg_cls rfl T.x_NoFunction.g) (q_var 0)) (qa_cons (q_isX (cv := .ref (He.ga K "NotLess")) T.k_NotLess.ok (fun _ h => h) rfl T.f_isinstance (qg_cls rfl T.x_NotLess.g) (q_var 0)) qa_nil))))))
    (qss_cons (qs_set sc__law_classes.nd rfl (Or.inl rfl) (q_op op2_add op_addA (q_var 1) (q_lstP (qa_cons (q_isX (cv := .ref (He.ga K "BadKind")) T.k_BadKind.ok (fun _ h => h) rfl T.f_isinstance (qg_cls rfl T.x_BadKind.g) (q_var 0)) (qa_cons (q_isX (cv := .ref (He.ga K "TooLong")) T.k_TooLong.ok (fun _ h => h) rfl T.f_isinstance (qg_cls rfl T.x_TooLong.g) (q_var 0)) (qa_cons (q_isX (cv := .ref (He.ga K "NoPlace")) T.k_NoPlace.ok (fun _ h => h) rfl T.f_isinstance (qg_cls rfl T.x_NoPlace.g) (q_var 0)) qa_nil))))))
    (qss_one (qs_ret (q_op op2_add op_addA (q_var 1) (q_lstP (qa_cons (q_isX (cv := .ref (He.ga K "NotShown")) T.k_NotShown.ok (fun _ h => h) rfl T.f_isinstance (qg_cls rfl T.x_NotShown.g) (q_var 0)) (qa_cons (q_isX (cv := .ref (He.ga K "NoSaying")) T.k_NoSaying.ok (fun _ h => h) rfl T.f_isinstance (qg_cls rfl T.x_NoSaying.g) (q_var 0)) (qa_cons (q_isX (cv := .ref (He.ga K "BadText")) T.k_BadText.ok (fun _ h => h) rfl T.f_isinstance (qg_cls rfl T.x_BadText.g) (q_var 0)) qa_nil)))))))))))
theorem fn__law_which (T : Top K mg) : Cal P w K mg base 2 "_law_which" 1 F__law_which :=
  cal_of (st := s__law_which) T.d__law_which fun f fd F => fn_body (own := false) F sc__law_which (F.binds (ps := ["_law_kept"]) fun _ _ _ _ _ _ us hl => match us, hl with | [_], _ => rfl) fun cdv A outer s H E hr tk =>
    (qss_cons (qs_if (qt_w (qw_or (qt_not (qt_of (q_isX (cv := .ty "ValueError") T.k_ValueError.ok (fun _ h => h) rfl T.f_isinstance (pe_bltn (v := .ty "ValueError") rfl T.f_ValueError (by decide +kernel) rfl) (q_var 0)))) (qw_or1 (qt_cmp op2_eq (op_neQ (hu_q hr)) rfl (m_count (hu_q hr) (q_call (fn__law_classes T) hr (by first | omega | (simp only [Nat.add_eq]; omega)) rfl tk (qa_cons (q_var 0) qa_nil)) (qa_cons q_bl qa_nil)) q_int))))
    (qss_one (qs_ret (q_un op1_neg un_neg q_int)))
    qss_nil)
    (qss_one (qs_ret (m_index (hu_q hr) (q_call (fn__law_classes T) hr (by first | omega | (simp only [Nat.add_eq]; omega)) rfl tk (qa_cons (q_var 0) qa_nil)) (qa_cons q_bl qa_nil)))))
theorem fn__law_refused (T : Top K mg) : Cal P w K mg base 15 "_law_refused" 4 F__law_refused :=
  cal_of (st := s__law_refused) T.d__law_refused fun f fd F => fn_body (own := false) F sc__law_refused (F.binds (ps := ["_law_way", "_law_expression", "_law_place", "_law_other"]) fun _ _ _ _ _ _ us hl => match us, hl with | [_, _, _, _], _ => rfl) fun cdv A outer s H E hr tk =>
    (qss_cons (qs_set sc__law_refused.nd rfl (Or.inl rfl) q_non)
    (qss_cons (qs_try_keep (l := [("NoPlace", true)]) T.c_SayError.ok rfl rfl rfl sc__law_refused.nd (i := 5) (j := 4) rfl rfl (by decide) rfl rfl (by exact ⟨rfl, by decide, .inl T.x_SayError.g⟩) tk (fun _ _ _ tk ow =>
    (qss_one (qs_if (qt_cmp op2_eq (op_eqQ (hu_q hr)) rfl (q_var 0) q_int)
    (qss_one (qs_expr (q_call (fn_part_at T) hr (by first | omega | (simp only [Nat.add_eq]; omega)) rfl tk (qa_cons (q_var 1) (qa_cons (q_var 2) qa_nil)))))
    (qss_one (qs_expr (q_call (fn_put_at T 12) hr (by first | omega | (simp only [Nat.add_eq]; omega)) rfl tk (qa_cons (q_var 1) (qa_cons (q_var 2) (qa_cons (q_var 3) qa_nil))))))))) (fun _ _ _ => ps_set (i := 4) sc__law_refused.nd rfl (Or.inl rfl) (pv 5)))
    (qss_one (qs_ret (q_cmp op2_eq (op_eqQ (hu_q hr)) rfl (q_call (fn__law_which T) hr (by first | omega | (simp only [Nat.add_eq]; omega)) rfl tk (qa_cons (q_var 4) qa_nil)) q_int)))))
theorem ok_law (T : Top K mg) {f : Addr} {fd : FuncData} (F : Fun K "law" "law" s_law f fd) : FnOk P w K mg base (L2.CX P w) 16 f fd ["_law_script"] (SpD K mg 1 F_law) :=
  fn_ok (own := false) F sc_law fun cdv A outer s H E hr tk =>
    (qss_cons (qs_set sc_law.nd rfl (Or.inl rfl) (q_call (fn__law_names T) hr (by first | omega | (simp only [Nat.add_eq]; omega)) rfl tk (qa_cons (q_call (fn__law_cell_at T) hr (by first | omega | (simp only [Nat.add_eq]; omega)) rfl tk (qa_cons (q_var 0) (qa_cons q_int qa_nil))) (qa_cons q_int qa_nil))))
    (qss_cons (qs_set sc_law.nd rfl (Or.inl rfl) (q_call (fn__law_wild T 12) hr (by first | omega | (simp only [Nat.add_eq]; omega)) rfl tk (qa_cons (q_var 1) (qa_cons (q_call (fn__law_digits T) hr (by first | omega | (simp only [Nat.add_eq]; omega)) rfl tk (qa_cons (q_var 0) (qa_cons q_int (qa_cons q_int qa_nil)))) (qa_cons q_int qa_nil)))))
    (qss_cons (qs_set sc_law.nd rfl (Or.inl rfl) (q_call (fn__law_wild T 12) hr (by first | omega | (simp only [Nat.add_eq]; omega)) rfl tk (qa_cons (q_var 1) (qa_cons (q_call (fn__law_digits T) hr (by first | omega | (simp only [Nat.add_eq]; omega)) rfl tk (qa_cons (q_var 0) (qa_cons q_int (qa_cons q_int qa_nil)))) (qa_cons q_int qa_nil)))))
    (qss_cons (qs_set sc_law.nd rfl (Or.inl rfl) (q_call (fn__law_spots T 12) hr (by first | omega | (simp only [Nat.add_eq]; omega)) rfl tk (qa_cons (q_var 2) qa_nil)))
    (qss_cons (qs_set sc_law.nd rfl (Or.inl rfl) (q_op op2_mod op_mod (q_call (fn__law_cell_at T) hr (by first | omega | (simp only [Nat.add_eq]; omega)) rfl tk (qa_cons (q_var 0) (qa_cons q_int qa_nil))) (q_callB opN_len call_lenA rfl T.f_len (by decide +kernel) (qa_cons (q_var 4) qa_nil))))
    (qss_cons (qs_forQ own_cx rfl (qi_range1 rfl T.f_range (qa_cons (q_callB opN_min (call_min2 rfl) rfl T.f_min (by decide +kernel) (qa_cons q_int (qa_cons (q_callB opN_len call_lenA rfl T.f_len (by decide +kernel) (qa_cons (q_var 4) qa_nil)) qa_nil))) qa_nil)) (qg_name sc_law.nd rfl (Or.inl rfl))
    (qss_cons (qs_set sc_law.nd rfl (Or.inl rfl) (q_ix op2_ix (ix_all (hu_q hr)) (q_var 4) (q_op op2_mod op_mod (q_op op2_add op_addA (q_var 5) (q_var 6)) (q_callB opN_len call_lenA rfl T.f_len (by decide +kernel) (qa_cons (q_var 4) qa_nil)))))
    (qss_cons (qs_set sc_law.nd rfl (Or.inl rfl) (q_call (fn_part_at T) hr (by first | omega | (simp only [Nat.add_eq]; omega)) rfl tk (qa_cons (q_var 2) (qa_cons (q_var 7) qa_nil))))
    (qss_cons (qs_if (qt_w (qw_or (qt_not (qt_of (q_call (fn__law_shape T 12) hr (by first | omega | (simp only [Nat.add_eq]; omega)) rfl tk (qa_cons (q_var 8) qa_nil)))) (qw_or1 (qt_cmp op2_eq (op_neQ (hu_q hr)) rfl (q_var 8) (q_call (fn__law_there T) hr (by first | omega | (simp only [Nat.add_eq]; omega)) rfl tk (qa_cons (q_var 2) (qa_cons (q_var 7) qa_nil)))))))
    (qss_one (qs_ret q_bl))
    qss_nil)
    (qss_cons (qs_set sc_law.nd rfl (Or.inl rfl) (q_call (fn_put_at T 12) hr (by first | omega | (simp only [Nat.add_eq]; omega)) rfl tk (qa_cons (q_var 2) (qa_cons (q_var 7) (qa_cons (q_var 3) qa_nil)))))
    (qss_cons (qs_if (qt_w (qw_or (qt_not (qt_of (q_call (fn__law_shape T 12) hr (by first | omega | (simp only [Nat.add_eq]; omega)) rfl tk (qa_cons (q_var 9) qa_nil)))) (qw_or (qt_cmp op2_eq (op_neQ (hu_q hr)) rfl (q_var 9) (q_call (fn__law_put T 12) hr (by first | omega | (simp only [Nat.add_eq]; omega)) rfl tk (qa_cons (q_var 2) (qa_cons (q_var 7) (qa_cons (q_var 3) qa_nil))))) (qw_or1 (qt_cmp op2_eq (op_neQ (hu_q hr)) rfl (q_call (fn_part_at T) hr (by first | omega | (simp only [Nat.add_eq]; omega)) rfl tk (qa_cons (q_var 9) (qa_cons (q_var 7) qa_nil))) (q_var 3))))))
    (qss_one (qs_ret q_bl))
    qss_nil)
    (qss_cons (qs_set sc_law.nd rfl (Or.inl rfl) (q_call (fn__law_bad_spot T) hr (by first | omega | (simp only [Nat.add_eq]; omega)) rfl tk (qa_cons (q_var 2) (qa_cons (q_var 7) (qa_cons (q_op op2_fdv op_fdivW (q_call (fn__law_mixed T) hr (by first | omega | (simp only [Nat.add_eq]; omega)) rfl tk (qa_cons (q_var 0) (qa_cons (q_op op2_mod op_mod (q_var 6) q_int) (qa_cons q_int qa_nil)))) (q_op op2_add op_addA (q_var 6) q_int)) qa_nil)))))
    (qss_one (qs_if (qt_w (qw_or (qt_not (qt_of (q_call (fn__law_refused T) hr (by first | omega | (simp only [Nat.add_eq]; omega)) rfl tk (qa_cons q_int (qa_cons (q_var 2) (qa_cons (q_var 10) (qa_cons (q_var 3) qa_nil))))))) (qw_or1 (qt_not (qt_of (q_call (fn__law_refused T) hr (by first | omega | (simp only [Nat.add_eq]; omega)) rfl tk (qa_cons q_int (qa_cons (q_var 2) (qa_cons (q_var 10) (qa_cons (q_var 3) qa_nil))))))))))
    (qss_one (qs_ret q_bl))
    qss_nil)))))))))
    (qss_one (qs_ret q_bl))))))))
end
end Lk31

set_option Elab.async false
set_option linter.all false
set_option maxRecDepth 100000
set_option maxHeartbeats 4000000
namespace Lk31
open PySem PySem.Spec PyProof.Rows L2 Q
def fnl : List He.DefD := [defD "law" s_law, defD "_law_names" s__law_names, defD "_law_wild" s__law_wild, defD "_law_spots" s__law_spots, defD "_law_cell_at" s__law_cell_at, defD "_law_digits" s__law_digits, defD "arguments_of" s_arguments_of, defD "argument_at" s_argument_at, defD "part_at" s_part_at, defD "put_at" s_put_at, defD "_law_there" s__law_there, defD "_law_bad_spot" s__law_bad_spot, defD "_law_shape" s__law_shape, defD "_law_put" s__law_put, defD "_law_mixed" s__law_mixed, defD "_law_classes" s__law_classes, defD "_law_which" s__law_which, defD "_law_refused" s__law_refused]
def fx : List Fx := ([.he (.glo "law"), .he (.glo "_law_names"), .he (.glo "_law_wild"), .he (.glo "_law_spots"), .he (.glo "_law_cell_at"), .he (.glo "_law_digits"), .he (.glo "arguments_of"), .he (.glo "argument_at"), .he (.glo "part_at"), .he (.glo "put_at"), .he (.glo "_law_there"), .he (.glo "_law_bad_spot"), .he (.glo "_law_shape"), .he (.glo "_law_put"), .he (.glo "_law_mixed"), .he (.glo "_law_classes"), .he (.glo "_law_which"), .he (.glo "_law_refused"), .he (.free "ValueError"), .he (.free "isinstance"), .he (.free "len"), .he (.free "list"), .he (.free "min"), .he (.free "range"), .he (.free "reversed"), .he (.free "str"), .he (.free "sum"), .he (.free "tuple"), .he (.glo "BadCount"), .he (.exc "BadCount")] : List Fx) ++ ([.exo "BadCount", .he (.glo "BadKind"), .he (.exc "BadKind"), .exo "BadKind", .he (.glo "BadName"), .he (.exc "BadName"), .exo "BadName", .he (.glo "BadText"), .he (.exc "BadText"), .exo "BadText", .he (.glo "Groundless"), .he (.exc "Groundless"), .exo "Groundless", .he (.glo "NoFunction"), .he (.exc "NoFunction"), .exo "NoFunction", .he (.glo "NoKind"), .he (.exc "NoKind"), .exo "NoKind", .he (.glo "NoMaker"), .he (.exc "NoMaker"), .exo "NoMaker", .he (.glo "NoName"), .he (.exc "NoName"), .exo "NoName", .he (.glo "NoPlace"), .he (.exc "NoPlace"), .exo "NoPlace", .he (.glo "NoSaying"), .he (.exc "NoSaying")] : List Fx) ++ ([.exo "NoSaying", .he (.glo "NotLess"), .he (.exc "NotLess"), .exo "NotLess", .he (.glo "NotShown"), .he (.exc "NotShown"), .exo "NotShown", .he (.glo "SayError"), .he (.exc "SayError"), .exo "SayError", .he (.glo "TooLong"), .he (.exc "TooLong"), .exo "TooLong", .he (.glo "Twice"), .he (.exc "Twice"), .exo "Twice", .he (.exm "NoPlace" "SayError" true), .kitN "BadCount", .kit "NoPlace" "BadCount" false, .kitN "Twice", .kit "NoPlace" "Twice" false, .kitN "BadName", .kit "NoPlace" "BadName" false, .kitN "NoMaker", .kit "NoPlace" "NoMaker" false, .kitN "Groundless", .kit "NoPlace" "Groundless" false, .kitN "NoKind", .kit "NoPlace" "NoKind" false, .kitN "NotLess"] : List Fx) ++ ([.kit "NoPlace" "NotLess" false, .kitN "NoFunction", .kit "NoPlace" "NoFunction" false, .kitN "NoName", .kit "NoPlace" "NoName" false, .kitN "NoPlace", .kit "NoPlace" "NoPlace" true, .kitN "TooLong", .kit "NoPlace" "TooLong" false, .kitN "BadKind", .kit "NoPlace" "BadKind" false, .kitN "BadText", .kit "NoPlace" "BadText" false, .kitN "NoSaying", .kit "NoPlace" "NoSaying" false, .kitN "NotShown", .kit "NoPlace" "NotShown" false, .kitNV, .kitV "NoPlace"] : List Fx)
theorem facts {K : PySem.W.Frag} {mg : Str → Option Value} {h : Heap} (X : K.In h) (G : h.Ns mainGlobals mg) (c : SaysQ fx fnl K) : Top K mg where
  d__law_names := c.defAt X G 1 1 rfl rfl
  d__law_wild := c.defAt X G 2 2 rfl rfl
  d__law_spots := c.defAt X G 3 3 rfl rfl
  d__law_cell_at := c.defAt X G 4 4 rfl rfl
  d__law_digits := c.defAt X G 5 5 rfl rfl
  d_arguments_of := c.defAt X G 6 6 rfl rfl
  d_argument_at := c.defAt X G 7 7 rfl rfl
  d_part_at := c.defAt X G 8 8 rfl rfl
  d_put_at := c.defAt X G 9 9 rfl rfl
  d__law_there := c.defAt X G 10 10 rfl rfl
  d__law_bad_spot := c.defAt X G 11 11 rfl rfl
  d__law_shape := c.defAt X G 12 12 rfl rfl
  d__law_put := c.defAt X G 13 13 rfl rfl
  d__law_mixed := c.defAt X G 14 14 rfl rfl
  d__law_classes := c.defAt X G 15 15 rfl rfl
  d__law_which := c.defAt X G 16 16 rfl rfl
  d__law_refused := c.defAt X G 17 17 rfl rfl
  f_ValueError := c.free X G 18 rfl
  f_isinstance := c.free X G 19 rfl
  f_len := c.free X G 20 rfl
  f_list := c.free X G 21 rfl
  f_min := c.free X G 22 rfl
  f_range := c.free X G 23 rfl
  f_reversed := c.free X G 24 rfl
  f_str := c.free X G 25 rfl
  f_sum := c.free X G 26 rfl
  f_tuple := c.free X G 27 rfl
  x_BadCount := c.xcls X G 28 29 30 rfl rfl rfl
  x_BadKind := c.xcls X G 31 32 33 rfl rfl rfl
  x_BadName := c.xcls X G 34 35 36 rfl rfl rfl
  x_BadText := c.xcls X G 37 38 39 rfl rfl rfl
  x_Groundless := c.xcls X G 40 41 42 rfl rfl rfl
  x_NoFunction := c.xcls X G 43 44 45 rfl rfl rfl
  x_NoKind := c.xcls X G 46 47 48 rfl rfl rfl
  x_NoMaker := c.xcls X G 49 50 51 rfl rfl rfl
  x_NoName := c.xcls X G 52 53 54 rfl rfl rfl
  x_NoPlace := c.xcls X G 55 56 57 rfl rfl rfl
  x_NoSaying := c.xcls X G 58 59 60 rfl rfl rfl
  x_NotLess := c.xcls X G 61 62 63 rfl rfl rfl
  x_NotShown := c.xcls X G 64 65 66 rfl rfl rfl
  x_SayError := c.xcls X G 67 68 69 rfl rfl rfl
  x_TooLong := c.xcls X G 70 71 72 rfl rfl rfl
  x_Twice := c.xcls X G 73 74 75 rfl rfl rfl
  c_SayError := fun p hp => by
    simp only [List.mem_cons, List.not_mem_nil, or_false] at hp
    rcases hp with rfl
    · exact ⟨(c.xcls X G 55 56 57 rfl rfl rfl).g, c.exm 76 rfl⟩
  k_BadCount := ⟨c.kitN 77 rfl, fun p hp => by
    simp only [List.mem_cons, List.not_mem_nil, or_false] at hp
    rcases hp with rfl
    · exact ⟨c.xcls X G 55 56 57 rfl rfl rfl, c.kit 78 rfl⟩⟩
  k_Twice := ⟨c.kitN 79 rfl, fun p hp => by
    simp only [List.mem_cons, List.not_mem_nil, or_false] at hp
    rcases hp with rfl
    · exact ⟨c.xcls X G 55 56 57 rfl rfl rfl, c.kit 80 rfl⟩⟩
  k_BadName := ⟨c.kitN 81 rfl, fun p hp => by
    simp only [List.mem_cons, List.not_mem_nil, or_false] at hp
    rcases hp with rfl
    · exact ⟨c.xcls X G 55 56 57 rfl rfl rfl, c.kit 82 rfl⟩⟩
  k_NoMaker := ⟨c.kitN 83 rfl, fun p hp => by
    simp only [List.mem_cons, List.not_mem_nil, or_false] at hp
    rcases hp with rfl
    · exact ⟨c.xcls X G 55 56 57 rfl rfl rfl, c.kit 84 rfl⟩⟩
  k_Groundless := ⟨c.kitN 85 rfl, fun p hp => by
    simp only [List.mem_cons, List.not_mem_nil, or_false] at hp
    rcases hp with rfl
    · exact ⟨c.xcls X G 55 56 57 rfl rfl rfl, c.kit 86 rfl⟩⟩
  k_NoKind := ⟨c.kitN 87 rfl, fun p hp => by
    simp only [List.mem_cons, List.not_mem_nil, or_false] at hp
    rcases hp with rfl
    · exact ⟨c.xcls X G 55 56 57 rfl rfl rfl, c.kit 88 rfl⟩⟩
  k_NotLess := ⟨c.kitN 89 rfl, fun p hp => by
    simp only [List.mem_cons, List.not_mem_nil, or_false] at hp
    rcases hp with rfl
    · exact ⟨c.xcls X G 55 56 57 rfl rfl rfl, c.kit 90 rfl⟩⟩
  k_NoFunction := ⟨c.kitN 91 rfl, fun p hp => by
    simp only [List.mem_cons, List.not_mem_nil, or_false] at hp
    rcases hp with rfl
    · exact ⟨c.xcls X G 55 56 57 rfl rfl rfl, c.kit 92 rfl⟩⟩
  k_NoName := ⟨c.kitN 93 rfl, fun p hp => by
    simp only [List.mem_cons, List.not_mem_nil, or_false] at hp
    rcases hp with rfl
    · exact ⟨c.xcls X G 55 56 57 rfl rfl rfl, c.kit 94 rfl⟩⟩
  k_NoPlace := ⟨c.kitN 95 rfl, fun p hp => by
    simp only [List.mem_cons, List.not_mem_nil, or_false] at hp
    rcases hp with rfl
    · exact ⟨c.xcls X G 55 56 57 rfl rfl rfl, c.kit 96 rfl⟩⟩
  k_TooLong := ⟨c.kitN 97 rfl, fun p hp => by
    simp only [List.mem_cons, List.not_mem_nil, or_false] at hp
    rcases hp with rfl
    · exact ⟨c.xcls X G 55 56 57 rfl rfl rfl, c.kit 98 rfl⟩⟩
  k_BadKind := ⟨c.kitN 99 rfl, fun p hp => by
    simp only [List.mem_cons, List.not_mem_nil, or_false] at hp
    rcases hp with rfl
    · exact ⟨c.xcls X G 55 56 57 rfl rfl rfl, c.kit 100 rfl⟩⟩
  k_BadText := ⟨c.kitN 101 rfl, fun p hp => by
    simp only [List.mem_cons, List.not_mem_nil, or_false] at hp
    rcases hp with rfl
    · exact ⟨c.xcls X G 55 56 57 rfl rfl rfl, c.kit 102 rfl⟩⟩
  k_NoSaying := ⟨c.kitN 103 rfl, fun p hp => by
    simp only [List.mem_cons, List.not_mem_nil, or_false] at hp
    rcases hp with rfl
    · exact ⟨c.xcls X G 55 56 57 rfl rfl rfl, c.kit 104 rfl⟩⟩
  k_NotShown := ⟨c.kitN 105 rfl, fun p hp => by
    simp only [List.mem_cons, List.not_mem_nil, or_false] at hp
    rcases hp with rfl
    · exact ⟨c.xcls X G 55 56 57 rfl rfl rfl, c.kit 106 rfl⟩⟩
  k_ValueError := ⟨c.kitNV 107 rfl, fun p hp => by
    simp only [List.mem_cons, List.not_mem_nil, or_false] at hp
    rcases hp with rfl
    · exact ⟨c.xcls X G 55 56 57 rfl rfl rfl, c.kitV 108 rfl⟩⟩
def loose : List Str := (["SayError", "BadName", "Twice", "BadCount", "NoKind", "Groundless", "NoMaker", "NoName", "NoFunction", "NotLess", "BadKind", "TooLong", "NoPlace", "NotShown", "NoSaying", "BadText", "arguments_of", "argument_at", "part_at", "put_at", "_law_cell_at", "_law_whole", "_law_mixed", "_law_digits", "_law_names", "_law_wild", "_law_spots", "_law_shape", "_law_classes", "_law_which"] : List Str) ++ (["_law_there", "_law_put", "_law_refused", "_law_bad_spot"] : List Str)
abbrev R : PySem.W.OpenRow := PySem.W.OpenLaw.row PySem.Challenge.rw_stairsay_k31_places
abbrev hk : PySem.W.Hook := hookQ 4 fx fnl
def ob (s : PySem.W.SharedT) : He.AlD := obsQG 4 fx fnl (HandSHeadRun.getT s)
theorem ob_eq (s : PySem.W.SharedT) : ob s = hk.obs s.abs := obsQG_eq (HandSHeadRun.getT_eq s)
set_option maxHeartbeats 0 in
theorem run (w : World) : HandSHeadRun.RunEq R (PySem.W.view R.prog [37]) hk ob 60000 loose w := by
  intro os
  kernel_rfl
def Answers : Prop := ∀ ns : List Int, ns.length ≤ 63 → (∀ z ∈ ns, Builtin.Int.intBits z ≤ 1048576) → F_law [.p (.scr (ns.map D.int))] [] = some (.ok (.p (.bl true)) [])
end Lk31
open PySem PySem.W PySem.Calls PyProof.Rows
set_option maxHeartbeats 0 in
theorem Lk31.close (hA : Lk31.Answers) : PySem.Challenge.rw_stairsay_k31_places.Holds := by
  w_on; o_law
  refine HandSHeadRun.head_any (r := Lk31.R) (q := view Lk31.R.prog [37]) (H := Lk31.hk) (ob := Lk31.ob) (M := 60000) (loose := Lk31.loose) (d := HandSHeadRun.topDef Lk31.R.prog 37) (kwd := []) Lk31.ob_eq
    (by kernel_rfl) (fun s => by kernel_rfl) Lk31.run (by kernel_rfl) (by kernel_rfl) (by kernel_rfl) (by rfl) (by first | assumption | decide +kernel) (by decide +kernel) ⟨rfl, rfl, rfl, rfl, rfl, by decide +kernel⟩ ?hw ?hc
  case hw => w_witness2
  case hc =>
    refine Q.law_end (l := PySem.Challenge.rw_stairsay_k31_places) (k := 16) (x := "_law_script") (F := Lk31.F_law) rfl (by kernel_rfl) ⟨rfl, by decide, by decide⟩ ?F hA
    intro w mg fa h K KX G c hmg0
    have hmg : mg ("law" : PySem.Str) = some (.ref fa) := by
      have e : (HandSHeadRun.topDef Lk31.R.prog 37).name = ("law" : PySem.Str) := by kernel_rfl
      rw [← e]
      exact hmg0
    obtain ⟨fd, F0⟩ := c.fun_ 0 (d := Q.defD "law" Lk31.s_law) rfl
    have e := hmg.symm.trans (He.glo_ok KX G (c.fact 0 (f := .he (.glo "law")) rfl))
    cases e
    have b := L2.FunD.bindsA (ps := ["_law_script"]) F0 fun _ _ _ _ _ _ us hl => match us, hl with | [_], _ => rfl
    exact ⟨fd, fun s v => b s [v] rfl, fun base => Lk31.ok_law (Lk31.facts KX G c) (Q.fun_of F0)⟩

set_option Elab.async false
set_option linter.all false
set_option maxRecDepth 100000
set_option maxHeartbeats 4000000
namespace Lk31
open PySem L2 Q
/-! plain data -/
def Pd (n : Nat) (d : D) : Prop := ∃ p, py d = some p ∧ p.canLay0 = true ∧ p.depth ≤ n
def Pds (n : Nat) (ds : List D) : Prop := ∃ ps, pys ds = some ps ∧ PyData.canLayAll0 ps = true ∧ PyData.depthAll ps ≤ n
theorem pd_int (i : Int) : Pd 0 (.int i) := ⟨.int i, rfl, rfl, Nat.le_refl _⟩
theorem pd_bl (i : Bool) : Pd 0 (.bl i) := ⟨.bool i, rfl, rfl, Nat.le_refl _⟩
theorem pd_str {s : Str} (h : PyData.strOk s = true) : Pd 0 (.str s) := ⟨.str s, rfl, h, Nat.le_refl _⟩
theorem pds_of {n : Nat} : ∀ {ds : List D}, (∀ d ∈ ds, Pd n d) → Pds n ds
  | [], _ => ⟨[], rfl, rfl, Nat.zero_le _⟩
  | d :: ds, h => by
    obtain ⟨p, e, c, l⟩ := h d (List.mem_cons_self ..)
    obtain ⟨ps, e2, c2, l2⟩ := pds_of (ds := ds) fun x hx => h x (List.mem_cons_of_mem _ hx)
    refine ⟨p :: ps, ?_, ?_, ?_⟩
    · simp only [pys, e, e2]
    · simp only [PyData.canLayAll0, c, c2, Bool.and_self]
    · simp only [PyData.depthAll]
      omega
theorem pd_tup {n : Nat} {ds : List D} (h : ∀ d ∈ ds, Pd n d) : Pd (n + 1) (.tup ds) := by
  obtain ⟨ps, e, c, l⟩ := pds_of h
  refine ⟨.tuple ps, ?_, ?_, ?_⟩
  · simp only [py, e, Option.map_some]
  · simp only [PyData.canLay0, c]
  · simp only [PyData.depth]
    omega
theorem pd_lst {n : Nat} {ds : List D} (h : ∀ d ∈ ds, Pd n d) : Pd (n + 1) (.lst ds) := by
  obtain ⟨ps, e, c, l⟩ := pds_of h
  refine ⟨.list ps, ?_, ?_, ?_⟩
  · simp only [py, e, Option.map_some]
  · simp only [PyData.canLay0, c]
  · simp only [PyData.depth]
    omega
theorem Pd.mono {m n : Nat} {d : D} (h : Pd m d) (l : m ≤ n) : Pd n d := by
  obtain ⟨p, e, c, g⟩ := h
  exact ⟨p, e, c, Nat.le_trans g l⟩
mutual
theorem eqv_refl : ∀ p : PyData, p.canLay0 = true → PyData.eqv p p = true
  | .none, _ => by simp [PyData.eqv]
  | .bool b, _ => by simp [PyData.eqv]
  | .int i, _ => by simp [PyData.eqv]
  | .str s, _ => by simp [PyData.eqv]
  | .list l, h => by
    simp only [PyData.eqv]
    exact eqvAll_refl l (by simpa [PyData.canLay0] using h)
  | .tuple l, h => by
    simp only [PyData.eqv]
    exact eqvAll_refl l (by simpa [PyData.canLay0] using h)
  | .dict _, h => by simp [PyData.canLay0] at h
theorem eqvAll_refl : ∀ l : List PyData, PyData.canLayAll0 l = true → PyData.eqvAll l l = true
  | [], _ => by simp [PyData.eqvAll]
  | p :: l, h => by
    have h' : p.canLay0 = true ∧ PyData.canLayAll0 l = true := by simpa [PyData.canLayAll0] using h
    simp only [PyData.eqvAll, eqv_refl p h'.1, eqvAll_refl l h'.2, Bool.and_self]
end
/-- the same compared -/
theorem eq_same {n : Nat} {d : D} {neg : Bool} {μ : Store} (h : Pd n d) (hn : n ≤ 200) : wEq neg (.p d) (.p d) μ = some (.ok (.p (.bl (true != neg))) μ) := by
  obtain ⟨p, e, c, l⟩ := h
  have ok : eqOk p p = true := by
    unfold eqOk
    simp only [c, Bool.true_and, decide_eq_true_eq, Nat.min_self]
    omega
  simp only [wEq, optS, opt, pyW, e, ok, if_true, eqv_refl p c, Q.ret]
theorem eq_int {i j : Int} {neg : Bool} {μ : Store} : wEq neg (.p (.int i)) (.p (.int j)) μ = some (.ok (.p (.bl ((i == j) != neg))) μ) := rfl
theorem eq_str {s t : Str} {neg : Bool} {μ : Store} (h : PyData.strOk s = true) (g : PyData.strOk t = true) : wEq neg (.p (.str s)) (.p (.str t)) μ = some (.ok (.p (.bl ((s == t) != neg))) μ) := by
  have ok : eqOk (.str s) (.str t) = true := by
    unfold eqOk
    simp [PyData.canLay0, PyData.depth, h, g]
  simp only [wEq, optS, opt, pyW, py, ok, if_true, PyData.eqv, Q.ret]
/-! drawn numbers -/
theorem e_cell (ns : List Int) (k : Nat) : F__law_cell_at [.p (.scr (ns.map .int)), .p (.int k)] [] = some (.ok (.p (.int (ns.getD k 0))) []) := by
  by_cases h : k < ns.length
  · have h2 : (k : Int) < ((ns.map D.int).length : Nat) := by rw [List.length_map]; omega
    have h3 := atI_nat (ns.map D.int) k (by rw [List.length_map]; exact h)
    rw [List.getElem_map] at h3
    simp only [F__law_cell_at, d__law_cell_at, runF, startE, fnOut, bnd, Q.ret, opt, optS, dVar, dC, d1, d2, dN, aNil, aCons, dSeq, dSkip, liftE, dRet, dRetN, dExpr, dIf, dAsg, dSet, gNm, cBl, cAnd, cOr, cNot, cTru, o_add, o_sub, o_neg, o_mul, o_fdv, o_mod, o_pow, o_lt, o_le, o_gt, o_ge, o_eqI, o_eqS, wLen, wMin, wMax, one, two, lenV, rdQ, rdLs, rdL, wTup, wLstP, wLstO, pureWs, pureW, Q.alloc, dSl, wSl, wSlV, oNone, oSome, oInt, tru, dBM, dBM0, okL, wAppend, wPop, ownL, dNot, dAnd, dOr, wIsi, tyW, wTuple, wListP, wListO, List.map_cons, List.map_nil, List.length_cons, List.length_nil, List.set_cons_zero, List.set_cons_succ, List.getElem?_cons_zero, List.getElem?_cons_succ, Option.join_some, Option.map_some, Option.bind_some, List.replicate_succ, List.replicate_zero, List.cons_append, List.nil_append, Nat.reduceAdd, Nat.reduceSub, Option.map_none, Bool.false_eq_true, ↓reduceIte, decide_true, decide_false, List.take_nil, Bool.not_true, Bool.not_false, Int.reduceLT, Int.reduceLE, Int.reduceEq, Nat.reduceLT, Nat.reduceLeDiff, and_self, and_true, true_and, Bool.bne_false, Bool.bne_true, atI_0, atI_1, atI_2, h2, o_ixR h3]
    simp [List.getD, h]
  · have h2 : ¬ (k : Int) < ((ns.map D.int).length : Nat) := by rw [List.length_map]; omega
    simp only [F__law_cell_at, d__law_cell_at, runF, startE, fnOut, bnd, Q.ret, opt, optS, dVar, dC, d1, d2, dN, aNil, aCons, dSeq, dSkip, liftE, dRet, dRetN, dExpr, dIf, dAsg, dSet, gNm, cBl, cAnd, cOr, cNot, cTru, o_add, o_sub, o_neg, o_mul, o_fdv, o_mod, o_pow, o_lt, o_le, o_gt, o_ge, o_eqI, o_eqS, wLen, wMin, wMax, one, two, lenV, rdQ, rdLs, rdL, wTup, wLstP, wLstO, pureWs, pureW, Q.alloc, dSl, wSl, wSlV, oNone, oSome, oInt, tru, dBM, dBM0, okL, wAppend, wPop, ownL, dNot, dAnd, dOr, wIsi, tyW, wTuple, wListP, wListO, List.map_cons, List.map_nil, List.length_cons, List.length_nil, List.set_cons_zero, List.set_cons_succ, List.getElem?_cons_zero, List.getElem?_cons_succ, Option.join_some, Option.map_some, Option.bind_some, List.replicate_succ, List.replicate_zero, List.cons_append, List.nil_append, Nat.reduceAdd, Nat.reduceSub, Option.map_none, Bool.false_eq_true, ↓reduceIte, decide_true, decide_false, List.take_nil, Bool.not_true, Bool.not_false, Int.reduceLT, Int.reduceLE, Int.reduceEq, Nat.reduceLT, Nat.reduceLeDiff, and_self, and_true, true_and, Bool.bne_false, Bool.bne_true, atI_0, atI_1, atI_2, h2]
    simp [List.getD, h]
theorem bd_mod {b : Nat} {x n : Int} (h0 : 0 < n) (h : n ≤ 2 ^ b) : Bd b (x % n) := bd_range (Int.emod_nonneg _ (by omega)) (Int.emod_lt_of_pos _ h0) h
theorem mix_first {s : Int} {a : Nat} (hs : Bd 1048700 s) (ha : a ≤ 1000) : CMulX s s ∧ CMulX (s * s + s + (a : Int) + 1) 982451653 ∧ Bd 2097434 ((s * s + s + (a : Int) + 1) * 982451653) := by
  have bs := hs.mul hs
  have x1 : Bd 2097401 (s * s + s) := Bd.add (b := 2097400) (bs.mono (by omega)) (hs.mono (by omega))
  have xa : Bd 2097401 (a : Int) := Bd.mono (bd_lit (b := 10) (n := a) (by omega)) (by omega)
  have x2 : Bd 2097402 (s * s + s + (a : Int)) := Bd.add (b := 2097401) x1 xa
  have xo : Bd 2097402 (1 : Int) := Bd.mono (bd_lit (b := 1) (n := 1) (by omega)) (by omega)
  have x3 : Bd 2097403 (s * s + s + (a : Int) + 1) := Bd.add (b := 2097402) x2 xo
  have b0 : Bd 30 (982451653 : Int) := bd_lit (b := 30) (n := 982451653) (by omega)
  exact ⟨cmul hs hs (by omega), cmul x3 b0 (by omega), Bd.mono (Bd.mul x3 b0) (by omega)⟩
theorem mix_last {f : Int} (h : Bd 2097434 f) : CMulX f f ∧ CMulX (f * f % (10 ^ 18 + 9)) (f % 2147483629 + 7) ∧ Bd 400 (f * f % (10 ^ 18 + 9) * (f % 2147483629 + 7)) ∧ 0 ≤ f * f % (10 ^ 18 + 9) * (f % 2147483629 + 7) := by
  have r1 : Bd 60 (f * f % (10 ^ 18 + 9)) := bd_mod (by omega) (by omega)
  have r2 : Bd 31 (f % 2147483629) := bd_mod (by omega) (by omega)
  have r3 : Bd 32 (f % 2147483629 + 7) := Bd.add (b := 31) r2 (bd_lit (b := 31) (n := 7) (by omega))
  refine ⟨cmul h h (by omega), cmul r1 r3 (by omega), Bd.mono (Bd.mul r1 r3) (by omega), Int.mul_nonneg (Int.emod_nonneg _ (by omega)) ?_⟩
  have := Int.emod_nonneg f (show (2147483629 : Int) ≠ 0 by omega)
  omega
theorem e_mixed {ns : List Int} {a m : Nat} (hns : ns.length ≤ 63) (hb : ∀ z ∈ ns, Bd 1048576 z) (ha : a ≤ 1000) (hm : 0 < m) (hm2 : m < 1000) : ∃ r : Int, 0 ≤ r ∧ Bd 400 r ∧ F__law_mixed [.p (.scr (ns.map .int)), .p (.int a), .p (.int m)] [] = some (.ok (.p (.int r)) []) := by
  obtain ⟨s, hs, hd⟩ := drawn_ok (v := 5) (ns := ns) (at_ := a) (many := m) (ρ := startE 6 [.p (.scr (ns.map .int)), .p (.int a), .p (.int m)]) (μ := []) hns hb rfl rfl rfl (by decide) (by simp [startE]) ha hm hm2
  have e10 : (10 : Int).natAbs < 2 ^ 64 := by decide
  by_cases he : s % 2 = 0
  · have z60 : (0 : Int) < 10 ^ 60 := by decide
    have p60 : ((10 : Int) ^ (60 : Int).toNat) = 10 ^ 60 := rfl
    refine ⟨s / 2 % 10 ^ 60, Int.emod_nonneg _ (by omega), Bd.mono (bd_mod (b := 200) z60 (by decide)) (by omega), ?_⟩
    refine runF_p (μ := []) (μ1 := []) ?_
    refine (set_seq hd).trans ?_
    refine seq_rt ?_
    refine (if_t (μ1 := []) ?_).trans (ret_ok (μ1 := []) ?_)
    · simp only [runF, startE, fnOut, bnd, Q.ret, opt, optS, dVar, dC, d1, d2, dN, aNil, aCons, dSeq, dSkip, liftE, dRet, dRetN, dExpr, dIf, dAsg, dSet, gNm, cBl, cAnd, cOr, cNot, cTru, o_add, o_sub, o_neg, o_mul, o_fdv, o_mod, o_pow, o_lt, o_le, o_gt, o_ge, o_eqI, o_eqS, wLen, wMin, wMax, one, two, lenV, rdQ, rdLs, rdL, wTup, wLstP, wLstO, pureWs, pureW, Q.alloc, dSl, wSl, wSlV, oNone, oSome, oInt, tru, dBM, dBM0, okL, wAppend, wPop, ownL, dNot, dAnd, dOr, wIsi, tyW, wTuple, wListP, wListO, List.map_cons, List.map_nil, List.length_cons, List.length_nil, List.set_cons_zero, List.set_cons_succ, List.getElem?_cons_zero, List.getElem?_cons_succ, Option.join_some, Option.map_some, Option.bind_some, List.replicate_succ, List.replicate_zero, List.cons_append, List.nil_append, Nat.reduceAdd, Nat.reduceSub, Option.map_none, Bool.false_eq_true, ↓reduceIte, decide_true, decide_false, List.take_nil, Bool.not_true, Bool.not_false, Int.reduceLT, Int.reduceLE, Int.reduceEq, Nat.reduceLT, Nat.reduceLeDiff, and_self, and_true, true_and, Bool.bne_false, Bool.bne_true, atI_0, atI_1, atI_2, he]
    · simp only [runF, startE, fnOut, bnd, Q.ret, opt, optS, dVar, dC, d1, d2, dN, aNil, aCons, dSeq, dSkip, liftE, dRet, dRetN, dExpr, dIf, dAsg, dSet, gNm, cBl, cAnd, cOr, cNot, cTru, o_add, o_sub, o_neg, o_mul, o_fdv, o_mod, o_pow, o_lt, o_le, o_gt, o_ge, o_eqI, o_eqS, wLen, wMin, wMax, one, two, lenV, rdQ, rdLs, rdL, wTup, wLstP, wLstO, pureWs, pureW, Q.alloc, dSl, wSl, wSlV, oNone, oSome, oInt, tru, dBM, dBM0, okL, wAppend, wPop, ownL, dNot, dAnd, dOr, wIsi, tyW, wTuple, wListP, wListO, List.map_cons, List.map_nil, List.length_cons, List.length_nil, List.set_cons_zero, List.set_cons_succ, List.getElem?_cons_zero, List.getElem?_cons_succ, Option.join_some, Option.map_some, Option.bind_some, List.replicate_succ, List.replicate_zero, List.cons_append, List.nil_append, Nat.reduceAdd, Nat.reduceSub, Option.map_none, Bool.false_eq_true, ↓reduceIte, decide_true, decide_false, List.take_nil, Bool.not_true, Bool.not_false, Int.reduceLT, Int.reduceLE, Int.reduceEq, Nat.reduceLT, Nat.reduceLeDiff, and_self, and_true, true_and, Bool.bne_false, Bool.bne_true, atI_0, atI_1, atI_2, e10, p60, z60]
  · obtain ⟨c1, c2, b2⟩ := mix_first hs ha
    have p18 : ((10 : Int) ^ (18 : Int).toNat) = 10 ^ 18 := rfl
    have z1 : (0 : Int) < 10 ^ 18 + 9 := by omega
    generalize hf : (s * s + s + (a : Int) + 1) * 982451653 = f at b2
    obtain ⟨c3, c4, b3, n3⟩ := mix_last b2
    refine ⟨f * f % (10 ^ 18 + 9) * (f % 2147483629 + 7), n3, b3, ?_⟩
    refine runF_p (μ := []) (μ1 := []) ?_
    refine (set_seq hd).trans ?_
    refine (if_skip (μ1 := []) ?_).trans ?_
    · simp only [runF, startE, fnOut, bnd, Q.ret, opt, optS, dVar, dC, d1, d2, dN, aNil, aCons, dSeq, dSkip, liftE, dRet, dRetN, dExpr, dIf, dAsg, dSet, gNm, cBl, cAnd, cOr, cNot, cTru, o_add, o_sub, o_neg, o_mul, o_fdv, o_mod, o_pow, o_lt, o_le, o_gt, o_ge, o_eqI, o_eqS, wLen, wMin, wMax, one, two, lenV, rdQ, rdLs, rdL, wTup, wLstP, wLstO, pureWs, pureW, Q.alloc, dSl, wSl, wSlV, oNone, oSome, oInt, tru, dBM, dBM0, okL, wAppend, wPop, ownL, dNot, dAnd, dOr, wIsi, tyW, wTuple, wListP, wListO, List.map_cons, List.map_nil, List.length_cons, List.length_nil, List.set_cons_zero, List.set_cons_succ, List.getElem?_cons_zero, List.getElem?_cons_succ, Option.join_some, Option.map_some, Option.bind_some, List.replicate_succ, List.replicate_zero, List.cons_append, List.nil_append, Nat.reduceAdd, Nat.reduceSub, Option.map_none, Bool.false_eq_true, ↓reduceIte, decide_true, decide_false, List.take_nil, Bool.not_true, Bool.not_false, Int.reduceLT, Int.reduceLE, Int.reduceEq, Nat.reduceLT, Nat.reduceLeDiff, and_self, and_true, true_and, Bool.bne_false, Bool.bne_true, atI_0, atI_1, atI_2, he]
    refine (set_seq (w := .p (.int f)) (μ1 := []) ?_).trans (ret_ok ?_)
    · exact d2_ok (d2_ok (d2_ok (d2_ok (d2_ok rfl rfl (o_mul c1)) rfl o_add) rfl o_add) rfl o_add) rfl (hf ▸ o_mul c2)
    · simp only [runF, startE, fnOut, bnd, Q.ret, opt, optS, dVar, dC, d1, d2, dN, aNil, aCons, dSeq, dSkip, liftE, dRet, dRetN, dExpr, dIf, dAsg, dSet, gNm, cBl, cAnd, cOr, cNot, cTru, o_add, o_sub, o_neg, o_mul, o_fdv, o_mod, o_pow, o_lt, o_le, o_gt, o_ge, o_eqI, o_eqS, wLen, wMin, wMax, one, two, lenV, rdQ, rdLs, rdL, wTup, wLstP, wLstO, pureWs, pureW, Q.alloc, dSl, wSl, wSlV, oNone, oSome, oInt, tru, dBM, dBM0, okL, wAppend, wPop, ownL, dNot, dAnd, dOr, wIsi, tyW, wTuple, wListP, wListO, List.map_cons, List.map_nil, List.length_cons, List.length_nil, List.set_cons_zero, List.set_cons_succ, List.getElem?_cons_zero, List.getElem?_cons_succ, Option.join_some, Option.map_some, Option.bind_some, List.replicate_succ, List.replicate_zero, List.cons_append, List.nil_append, Nat.reduceAdd, Nat.reduceSub, Option.map_none, Bool.false_eq_true, ↓reduceIte, decide_true, decide_false, List.take_nil, Bool.not_true, Bool.not_false, Int.reduceLT, Int.reduceLE, Int.reduceEq, Nat.reduceLT, Nat.reduceLeDiff, and_self, and_true, true_and, Bool.bne_false, Bool.bne_true, atI_0, atI_1, atI_2, c3, e10, p18, z1, c4]
end Lk31

set_option Elab.async false
set_option linter.all false
set_option maxRecDepth 100000
set_option maxHeartbeats 4000000
namespace Lk31
open PySem L2 Q
/-! digits -/
def Digs (l : List Int) : Prop := ∀ x ∈ l, 0 ≤ x ∧ x < 1000003
theorem up150 {d : D} {i : Nat} (h : (upto 0 1 150)[i]? = some d) : ∃ n : Nat, d = .int n ∧ n < 150 := by
  unfold upto at h
  rw [List.getElem?_map] at h
  obtain ⟨n, h1, rfl⟩ := Option.map_eq_some_iff.mp h
  obtain ⟨hi, e⟩ := List.getElem?_eq_some_iff.mp h1
  rw [List.getElem_range] at e
  rw [List.length_range] at hi
  refine ⟨i, ?_, hi⟩
  rw [← e]
  simp
theorem e_digits {ns : List Int} {a m : Nat} (hns : ns.length ≤ 63) (hb : ∀ z ∈ ns, Bd 1048576 z) (ha : a ≤ 1000) (hm : 0 < m) (hm2 : m < 1000) :
    ∃ l : List Int, l.length = 150 ∧ Digs l ∧ F__law_digits [.p (.scr (ns.map .int)), .p (.int a), .p (.int m)] [] = some (.ok (.l 0) [.lst (l.map .int)]) := by
  obtain ⟨s, hs, hd⟩ := drawn_ok (v := 7) (ns := ns) (at_ := a) (many := m) (ρ := startE 8 [.p (.scr (ns.map .int)), .p (.int a), .p (.int m)]) (μ := []) hns hb rfl rfl rfl (by decide) (by simp [startE]) ha hm hm2
  have s2 : s % 2 = 0 ∨ s % 2 = 1 := by omega
  obtain ⟨ρ', μ', e1, f', r', k', l', rfl, rfl, h0, h1, hl, hD⟩ := loop_inv (g := gNm 7) (body := dSeq (dSet 5 (d2 wMod (d2 wAdd (d2 wAdd (d2 wMul (dVar 5) (dVar 5)) (dVar 3)) (dVar 7)) (dC (.int 2147483629))))
      (dSeq (dExpr (dBM okL wAppend (dVar 4) (aCons (d2 wMod (d2 wIx (dN wLstP (aCons (dVar 6) (aCons (d2 wMod (d2 wMul (dVar 5) (dVar 5)) (dC (.int 2147483587))) aNil))) (d2 wMod (dVar 3) (dC (.int 2)))) (dC (.int 1000003))) aNil)))
      (dSet 6 (d2 wFdv (dVar 6) (dC (.int 1000003))))))
    (I := fun n ρ μ => ∃ (f r : Int) (k : Option W) (l : List Int), ρ = [some (.p (.scr (ns.map .int))), some (.p (.int a)), some (.p (.int m)), some (.p (.int s)), some (.l 0), some (.p (.int f)), some (.p (.int r)), k] ∧ μ = [.lst (l.map .int)] ∧ 0 ≤ f ∧ f < 2147483629 ∧ l.length = n ∧ Digs l)
    (ds := upto 0 1 150) (n := 0) ⟨s % 2147483629, s / 2, none, [], rfl, rfl, Int.emod_nonneg _ (by omega), Int.emod_lt_of_pos _ (by omega), rfl, fun x h => by cases h⟩ (by
      rintro i d ρ μ hi ⟨f, r, k, l, rfl, rfl, h0, h1, hl, hD⟩
      obtain ⟨n, rfl, hn⟩ := up150 hi
      have bf : Bd 31 f := bd_range h0 h1 (by omega)
      have g0 : 0 ≤ (f * f + s + (n : Int)) % 2147483629 := Int.emod_nonneg _ (by omega)
      have g1 : (f * f + s + (n : Int)) % 2147483629 < 2147483629 := Int.emod_lt_of_pos _ (by omega)
      generalize hg : (f * f + s + (n : Int)) % 2147483629 = g at g0 g1
      have bg : Bd 31 g := bd_range g0 g1 (by omega)
      have hi2 : i < 150 := by
        have := (List.getElem?_eq_some_iff.mp hi).1
        simpa [upto] using this
      let x : Int := if s % 2 = 0 then r else g * g % 2147483587
      have hx : atI [D.int r, D.int (g * g % 2147483587)] (s % 2) = some (.int x) := by
        rcases s2 with z | z
        · rw [z, show x = r from if_pos z]
          exact atI_0
        · rw [z, show x = g * g % 2147483587 from if_neg (by omega)]
          exact atI_1
      refine ⟨_, _, _, _, rfl, ?_, g, r / 1000003, some (.p (.int n)), l ++ [x % 1000003], rfl, rfl, g0, g1, by rw [List.length_append, hl]; rfl, ?_⟩
      · refine (set_seq (w := .p (.int g)) (μ1 := [.lst (l.map .int)]) ?_).trans ?_
        · exact d2_ok (d2_ok (d2_ok (d2_ok rfl rfl (o_mul (cmul bf bf (by omega)))) rfl o_add) rfl o_add) rfl (hg ▸ o_mod (by omega))
        refine (seq_nx (expr_ok (o_append (k := 0) (l := l.map .int) (d := .int (x % 1000003)) (μ1 := [.lst (l.map .int)]) (μ2 := [.lst (l.map .int)]) rfl rfl ?_ rfl ?_))).trans ?_
        · refine a_cons (d2_ok (d2_ok (dN_ok (a_cons rfl (a_cons (d2_ok (d2_ok rfl rfl (o_mul (cmul bg bg (by omega)))) rfl (o_mod (by omega))) a_nil)) ?_) (d2_ok rfl rfl (o_mod (by omega))) (o_ixL hx)) rfl (o_mod (by omega))) a_nil
          rfl
        · rw [List.length_map, hl]
          have e : sizeLine = 16777216 := by decide
          omega
        · rw [set_ok (w := .p (.int (r / 1000003))) (d2_ok rfl rfl (o_fdv (by omega) (by omega)))]
          simp
      · intro y hy
        rcases List.mem_append.mp hy with hy | hy
        · exact hD y hy
        · rw [List.mem_singleton.mp hy]
          exact ⟨Int.emod_nonneg _ (by omega), Int.emod_lt_of_pos _ (by omega)⟩)
  refine ⟨l'.reverse, by rw [List.length_reverse, hl]; simp [upto], fun x hx => hD x (List.mem_reverse.mp hx), ?_⟩
  refine runF_o (k := 1) (l := l'.reverse.map .int) (μ1 := [.lst (l'.map .int), .lst (l'.reverse.map .int)]) ?_ rfl
  refine (set_seq hd).trans ?_
  refine (set_seq (w := .l 0) (μ1 := [.lst []]) rfl).trans ?_
  refine (set_seq (w := .p (.int (s % 2147483629))) (μ1 := [.lst []]) (d2_ok rfl rfl (o_mod (by omega)))).trans ?_
  refine (set_seq (w := .p (.int (s / 2))) (μ1 := [.lst []]) (d2_ok rfl rfl (o_fdv (by omega) (by omega)))).trans ?_
  refine (seq_nx ((for_go (μ1 := [.lst []]) (ds := upto 0 1 150) rfl).trans e1)).trans ?_
  refine ret_ok (d1_ok (μ1 := [.lst (l'.map .int)]) (x := .l 0) rfl ?_)
  simp [wRevO, rdLs, rdL, Q.alloc, List.map_reverse]
end Lk31

set_option Elab.async false
set_option linter.all false
set_option maxRecDepth 100000
set_option maxHeartbeats 4000000
namespace Lk31
open PySem L2 Q
/-! names -/
structure NmOk (n : Nat) (s : Str) : Prop where
  ok : PyData.strOk s = true
  len : s.length ≤ n
abbrev letters : Str := "abcdefghijklmnopqrstuvwxyz"
theorem letters_ok : ∀ c ∈ letters.cps.toList, c < 1114112 := by decide +kernel
theorem letters_len : letters.cps.toList.length = 26 := by decide +kernel
theorem letter {i : Int} (h0 : 0 ≤ i) (h1 : i < 26) : ∃ s : Str, NmOk 1 s ∧ ∀ μ, wIx (.p (.str letters)) (.p (.int i)) μ = some (.ok (.p (.str s)) μ) := by
  obtain ⟨c, hc, hm⟩ := atI_int letters.cps.toList i h0 (by rw [letters_len]; omega)
  refine ⟨⟨#[c]⟩, ⟨?_, Nat.le_refl _⟩, fun μ => o_ixS (by decide +kernel) hc⟩
  have := letters_ok c hm
  simp [PyData.strOk, this]
theorem app_nm {a b : Nat} {s t : Str} (h : NmOk a s) (g : NmOk b t) : NmOk (a + b) (s ++ t) := by
  refine ⟨?_, ?_⟩
  · show (s.cps ++ t.cps).all _ = true
    rw [Array.all_append]
    exact Bool.and_eq_true_iff.mpr ⟨h.ok, g.ok⟩
  · show (s.cps ++ t.cps).size ≤ _
    rw [Array.size_append]
    exact Nat.add_le_add h.len g.len
theorem join_nm : ∀ {zs : List Str}, (∀ z ∈ zs, NmOk 1 z) → NmOk zs.length (Str.join "" zs)
  | [], _ => ⟨by decide +kernel, Nat.le_refl _⟩
  | [x], h => h x (List.mem_cons_self ..)
  | x :: y :: r, h => by
    have e0 : NmOk 0 ("" : Str) := ⟨by decide +kernel, Nat.le_refl _⟩
    have h1 := join_nm (zs := y :: r) fun z hz => h z (List.mem_cons_of_mem _ hz)
    have h2 := app_nm (app_nm (h x (List.mem_cons_self ..)) e0) h1
    have e : 1 + 0 + (y :: r).length = (x :: y :: r).length := by simp only [List.length_cons]; omega
    rw [e] at h2
    exact h2
theorem rep_nm {z : Str} {k : Nat} (h : NmOk 1 z) : NmOk k (strRep z k) := by
  refine ⟨?_, ?_⟩
  · unfold strRep PyData.strOk
    have h1 := h.ok
    unfold PyData.strOk at h1
    rw [List.all_toArray, List.all_eq_true]
    intro x hx
    obtain ⟨l, hl, hx⟩ := List.mem_flatten.mp hx
    rw [List.eq_of_mem_replicate hl] at hx
    exact Array.all_eq_true_iff_forall_mem.mp h1 x (Array.mem_toList_iff.mp hx)
  · unfold strRep
    show ((List.replicate k z.cps.toList).flatten.toArray).size ≤ k
    rw [List.size_toArray, List.length_flatten, List.map_replicate, List.sum_replicate_nat]
    have : z.cps.toList.length ≤ 1 := h.len
    exact Nat.le_trans (Nat.mul_le_mul_left k this) (by omega)
theorem strs_map (l : List Str) : strsD (l.map .str) = some l := by
  induction l with
  | nil => rfl
  | cons x l ih => simp [strsD, ih]
theorem map_str_of {l : List D} (h : ∀ d ∈ l, ∃ s, d = .str s ∧ NmOk 1 s) : ∃ zs : List Str, l = zs.map .str ∧ ∀ z ∈ zs, NmOk 1 z := by
  induction l with
  | nil => exact ⟨[], rfl, fun _ h => by cases h⟩
  | cons d l ih =>
    obtain ⟨s, rfl, hs⟩ := h d (List.mem_cons_self ..)
    obtain ⟨zs, rfl, hz⟩ := ih fun x hx => h x (List.mem_cons_of_mem _ hx)
    exact ⟨s :: zs, rfl, fun z h => (List.mem_cons.mp h).elim (fun e => e ▸ hs) (hz z)⟩
theorem join_go {μ : Store} {ρ : Q.Env} {m : DE} {zs : List Str} (h : m ρ μ = some (.ok (.p (.lst (zs.map .str))) μ)) (hz : ∀ z ∈ zs, NmOk 1 z) (hl : zs.length ≤ 1000) : dStrM wJoin (dC (.str "")) m ρ μ = some (.ok (.p (.str (Str.join "" zs))) μ) := by
  have hs : (zs.map (·.length)).sum ≤ zs.length := by
    clear h hl
    induction zs with
    | nil => simp
    | cons z zs ih =>
      have h1 := (hz z (List.mem_cons_self ..)).len
      have h2 := ih fun x hx => hz x (List.mem_cons_of_mem _ hx)
      simp only [List.map_cons, List.sum_cons, List.length_cons]
      omega
  have e0 : ("" : Str).length = 0 := by decide +kernel
  unfold dStrM
  rw [bnd_go (a := .p (.str "")) (μ1 := μ) rfl, bnd_go (a := ()) (μ1 := μ) rfl, bnd_go h]
  have g : (zs.map (·.length)).sum + zs.length * ("" : Str).length ≤ 16777216 := by rw [e0]; omega
  simp only [wJoin, optS, opt, rdQ, rdL, Option.bind_some, strs_map, g, if_true, Q.ret]
theorem cut_sub {α : Type} {l : List α} {lo hi : Option Int} : ∀ x ∈ Q.cut l lo hi, x ∈ l := fun x h => List.mem_of_mem_drop (List.mem_of_mem_take h)
theorem cut_len {α : Type} {l : List α} {lo hi : Option Int} : (Q.cut l lo hi).length ≤ l.length := by
  unfold Q.cut
  rw [List.length_take, List.length_drop]
  omega
theorem up_mem {n : Nat} {d : D} (h : d ∈ upto 0 1 n) : ∃ k : Nat, d = .int k ∧ k < n := by
  obtain ⟨k, hk, rfl⟩ := List.mem_map.mp h
  exact ⟨k, by simp, List.mem_range.mp hk⟩
abbrev nIf : DS := dIf (cBl (d2 (wEq false) (d2 wMod (d2 wFdv (dVar 3) (dC (.int 900))) (dC (.int 3))) (dC (.int 1))))
          (dExpr (dBM okL wAppend (dVar 8) (aCons (d2 wMul (d2 wIx (dVar 6) (dC (.int 0))) (d2 wAdd (d2 wMod (d2 wAdd (dVar 9) (d2 wFdv (dVar 3) (dC (.int 7)))) (dC (.int 12))) (dC (.int 1)))) aNil)))
          (dExpr (dBM okL wAppend (dVar 8) (aCons (d2 wAdd (d2 wAdd (dStrM wJoin (dC (.str "")) (dSl (dVar 6) oNone (oSome (dVar 5)))) (dVar 10)) (dStrM wJoin (dC (.str "")) (dSl (dVar 6) (oSome (d2 wAdd (dVar 5) (dC (.int 1)))) oNone))) aNil)))
abbrev nBody : DS := dSeq (dSet 10 (d2 wIx (dVar 2) (d2 wMod (d2 wAdd (d2 wFdv (dVar 3) (dC (.int 864))) (d2 wMul (dVar 9) (dVar 7))) (dC (.int 26))))) nIf
abbrev nEnv (c m : Int) (wn : Nat) (t : Int) (bs : List Str) (p : Int) (k u : Option W) : Q.Env := [some (.p (.int c)), some (.p (.int 5)), some (.p (.str letters)), some (.p (.int m)), some (.p (.int wn)), some (.p (.int t)), some (.p (.lst (bs.map .str))), some (.p (.int p)), some (.l 0), k, u]
theorem e_names {c : Int} (hc : Bd 1048576 c) : ∃ l : List Str, l.length = 5 ∧ (∀ s ∈ l, NmOk 100 s) ∧ F__law_names [.p (.int c), .p (.int 5)] [] = some (.ok (.p (.lst (l.map .str))) []) := by
  have bc := hc.mul hc
  have x1 : Bd 2097153 (c * c + c) := Bd.add (b := 2097152) (bc.mono (by omega)) (hc.mono (by omega))
  have x2 : Bd 2097154 (c * c + c + 1) := Bd.add (b := 2097153) x1 (Bd.mono (bd_lit (b := 1) (n := 1) (by omega)) (by omega))
  have b0 : Bd 30 (982451653 : Int) := bd_lit (b := 30) (n := 982451653) (by omega)
  have c1 : CMulX c c := cmul hc hc (by omega)
  have c2 : CMulX (c * c + c + 1) 982451653 := cmul x2 b0 (by omega)
  generalize hm : (c * c + c + 1) * 982451653 = m
  have w0 : 1 ≤ 1 + m % 12 ∧ 1 + m % 12 ≤ 12 := by omega
  generalize hw : 1 + m % 12 = w at w0
  obtain ⟨wn, rfl⟩ := Int.eq_ofNat_of_zero_le (show (0 : Int) ≤ w by omega)
  have t0 : 0 ≤ m / 12 % (wn : Int) := Int.emod_nonneg _ (by omega)
  have t1 : m / 12 % (wn : Int) < wn := Int.emod_lt_of_pos _ (by omega)
  generalize ht : m / 12 % (wn : Int) = t at t0 t1
  -- base
  have hsm : sm (wn : Int) = true := by
    unfold sm
    rw [Bool.and_eq_true, decide_eq_true_eq, decide_eq_true_eq]
    omega
  have hr : rng1 [.p (.int (wn : Int))] = some (upto 0 1 wn) := by
    unfold rng1
    simp only [hsm, if_true, Int.toNat_natCast]
  let bf : D → D := fun d => match d with
    | .int k => (match atI letters.cps.toList ((m / (k + 5) + k * k) % 26) with
      | some c => .str ⟨#[c]⟩
      | none => .non)
    | _ => .non
  have hbf : ∀ k : Nat, k < 100 → ∃ s, bf (.int k) = .str s ∧ NmOk 1 s ∧ ∀ μ, wIx (.p (.str letters)) (.p (.int ((m / ((k : Int) + 5) + (k : Int) * k) % 26))) μ = some (.ok (.p (.str s)) μ) := by
    intro k hk
    obtain ⟨c, hc, hm⟩ := atI_int letters.cps.toList ((m / ((k : Int) + 5) + (k : Int) * k) % 26) (Int.emod_nonneg _ (by omega)) (by rw [letters_len]; exact Int.emod_lt_of_pos _ (by omega))
    refine ⟨⟨#[c]⟩, ?_, ⟨?_, Nat.le_refl _⟩, fun μ => o_ixS (by decide +kernel) hc⟩
    · show (match atI letters.cps.toList ((m / ((k : Int) + 5) + (k : Int) * k) % 26) with
      | some c => D.str ⟨#[c]⟩
      | none => .non) = _
      rw [hc]
    · have := letters_ok c hm
      simp [PyData.strOk, this]
  have hbase : ∀ μ, dLc false (List.map Prod.snd ([("_law_k", 9)] : List (Str × Nat))) (iOfN rng1 (aCons (dVar 4) aNil)) (gNm 9) cYes (d2 wIx (dVar 2) (d2 wMod (d2 wAdd (d2 wFdv (dVar 3) (d2 wAdd (dVar 9) (dC (.int 5)))) (d2 wMul (dVar 9) (dVar 9))) (dC (.int 26))))
      [some (.p (.int c)), some (.p (.int 5)), some (.p (.str letters)), some (.p (.int m)), some (.p (.int wn)), some (.p (.int t)), none, none, none, none, none] μ = some (.ok (.p (.lst ((upto 0 1 wn).map bf))) μ) := by
    intro μ
    refine lc_all ?_ ?_ ?_
    · exact i_ofN (a_cons rfl a_nil) hr
    · intro d hd
      obtain ⟨k, rfl, hk⟩ := up_mem hd
      obtain ⟨s, e1, _, e2⟩ := hbf k (by omega)
      refine ⟨_, rfl, ?_⟩
      rw [e1]
      have bk : Bd 10 (k : Int) := bd_lit (b := 10) (n := k) (by omega)
      refine d2_ok rfl (d2_ok (d2_ok (d2_ok rfl (d2_ok rfl rfl o_add) (o_fdv (by omega) (by omega))) (d2_ok rfl rfl (o_mul (cmul bk bk (by omega)))) o_add) rfl (o_mod (by omega))) (e2 μ)
    · have e : sizeLine = 16777216 := by decide
      simp only [upto, List.length_map, List.length_range]
      omega
  obtain ⟨bs, ebs, hbs⟩ := map_str_of (l := (upto 0 1 wn).map bf) fun d hd => by
    obtain ⟨x, hx, rfl⟩ := List.mem_map.mp hd
    obtain ⟨k, rfl, hk⟩ := up_mem hx
    obtain ⟨s, e1, hs, _⟩ := hbf k (by omega)
    exact ⟨s, e1, hs⟩
  have hbl : bs.length = wn := by
    have := congrArg List.length ebs
    simpa [upto] using this.symm
  simp only [ebs] at hbase
  -- step
  obtain ⟨st, hst, hmem⟩ := atI_int [D.int 1, .int 3, .int 5, .int 7, .int 9, .int 11] (m / 144 % 6) (Int.emod_nonneg _ (by omega)) (Int.emod_lt_of_pos _ (by omega))
  obtain ⟨p, rfl, hp⟩ : ∃ p : Int, st = .int p ∧ 0 ≤ p ∧ p ≤ 11 := by
    simp only [List.mem_cons, List.not_mem_nil, or_false] at hmem
    rcases hmem with rfl | rfl | rfl | rfl | rfl | rfl <;> exact ⟨_, rfl, by omega, by omega⟩
  have bp : Bd 10 p := bd_range (n := 12) hp.1 (by omega) (by omega)
  have q3 : m / 900 % 3 = 1 ∨ ¬ m / 900 % 3 = 1 := Classical.em _
  have bfirst : ∃ b0 : Str, atI (bs.map D.str) 0 = some (.str b0) ∧ NmOk 1 b0 := by
    cases bs with
    | nil => simp at hbl; omega
    | cons b bs => exact ⟨b, atI_0, hbs b (List.mem_cons_self ..)⟩
  obtain ⟨b1, hb1, hb1n⟩ := bfirst
  obtain ⟨ρ', μ', e1, k', u', l', rfl, rfl, hl, hN⟩ := loop_inv (g := gNm 9) (body := nBody)
    (I := fun n ρ μ => ∃ (k u : Option W) (l : List Str), ρ = (nEnv c m wn t bs p k u) ∧ μ = [.lst (l.map .str)] ∧ l.length = n ∧ ∀ s ∈ l, NmOk 100 s)
    (ds := upto 0 1 5) (n := 0) ⟨none, none, [], rfl, rfl, rfl, fun s h => by cases h⟩ (by
      rintro i d ρ μ hi ⟨k0, u0, l, rfl, rfl, hl, hN⟩
      obtain ⟨n, rfl, hn⟩ := up_mem (List.mem_of_getElem? hi)
      have hi2 : i < 5 := by
        have := (List.getElem?_eq_some_iff.mp hi).1
        simpa [upto] using this
      have bn : Bd 10 (n : Int) := bd_lit (b := 10) (n := n) (by omega)
      obtain ⟨u, hu, eu⟩ := letter (i := (m / 864 + (n : Int) * p) % 26) (Int.emod_nonneg _ (by omega)) (Int.emod_lt_of_pos _ (by omega))
      have sl : (l.map D.str).length < sizeLine := by
        have e : sizeLine = 16777216 := by decide
        rw [List.length_map]
        omega
      have main : ∀ s : Str, NmOk 100 s → nIf
          (nEnv c m wn t bs p (some (.p (.int n))) (some (.p (.str u)))) [.lst (l.map .str)] =
          some (.nx (nEnv c m wn t bs p (some (.p (.int n))) (some (.p (.str u)))) [.lst ((l ++ [s]).map .str)]) → ∃ ρ1 μ1 ρ2 μ2, gNm 9 (.p (.int n)) (nEnv c m wn t bs p k0 u0) [.lst (l.map .str)] = some (.ok ρ1 μ1) ∧
          nBody ρ1 μ1 = some (.nx ρ2 μ2) ∧
          ∃ (k u : Option W) (l : List Str), ρ2 = (nEnv c m wn t bs p k u) ∧ μ2 = [.lst (l.map .str)] ∧ l.length = 0 + i + 1 ∧ ∀ s ∈ l, NmOk 100 s := by
        intro s hs e
        refine ⟨_, _, _, _, rfl, ?_, some (.p (.int n)), some (.p (.str u)), l ++ [s], rfl, rfl, by rw [List.length_append, hl]; rfl, ?_⟩
        · refine (set_seq (w := .p (.str u)) (μ1 := [.lst (l.map .str)]) ?_).trans e
          exact d2_ok rfl (d2_ok (d2_ok (d2_ok rfl rfl (o_fdv (by omega) (by omega))) (d2_ok rfl rfl (o_mul (cmul bn bp (by omega)))) o_add) rfl (o_mod (by omega))) (eu _)
        · intro y hy
          rcases List.mem_append.mp hy with hy | hy
          · exact hN y hy
          · rw [List.mem_singleton.mp hy]
            exact hs
      have hcond : ∀ ρ μ, ρ[3]? = some (some (.p (.int m))) → cBl (d2 (wEq false) (d2 wMod (d2 wFdv (dVar 3) (dC (.int 900))) (dC (.int 3))) (dC (.int 1))) ρ μ = some (.ok (decide (m / 900 % 3 = 1)) μ) := by
        intro ρ μ h3
        have hv : dVar 3 ρ μ = some (.ok (.p (.int m)) μ) := by simp only [dVar, h3, opt, Option.join_some, Q.ret]
        refine c_bl (d2_ok (d2_ok (d2_ok hv rfl (o_fdv (by omega) (by omega))) rfl (o_mod (by omega))) rfl ?_)
        rw [o_eqI, Bool.bne_false]
      rcases q3 with q | q
      · have y0 : 0 ≤ ((n : Int) + m / 7) % 12 := Int.emod_nonneg _ (by omega)
        have y1 : ((n : Int) + m / 7) % 12 < 12 := Int.emod_lt_of_pos _ (by omega)
        generalize hy : ((n : Int) + m / 7) % 12 = y at y0 y1
        refine main (strRep b1 (y + 1).toNat) ⟨(rep_nm hb1n).ok, Nat.le_trans (rep_nm (k := (y + 1).toNat) hb1n).len (by omega)⟩ ?_
        refine (if_t (μ1 := [.lst (l.map .str)]) (by rw [hcond _ _ rfl, decide_eq_true q])).trans ?_
        rw [expr_ok (o_append (k := 0) (l := l.map .str) (d := .str (strRep b1 (y + 1).toNat)) (μ1 := [.lst (l.map .str)]) (μ2 := [.lst (l.map .str)]) rfl rfl ?_ rfl sl)]
        · simp
        · refine a_cons (d2_ok (d2_ok rfl rfl (o_ixL hb1)) (d2_ok (d2_ok (d2_ok rfl (d2_ok rfl rfl (o_fdv (by omega) (by omega))) o_add) rfl (hy ▸ o_mod (by omega))) rfl o_add) ?_) a_nil
          have g : (0 : Int) ≤ y + 1 ∧ y + 1 ≤ 1000000 ∧ b1.length * (y + 1).toNat ≤ 1000000 := by
            refine ⟨by omega, by omega, ?_⟩
            have := Nat.mul_le_mul hb1n.len (show (y + 1).toNat ≤ 12 by omega)
            omega
          exact o_mulS g
      · have hz1 : ∀ z ∈ Q.cut bs none (some t), NmOk 1 z := fun z hz => hbs z (cut_sub z hz)
        have hz2 : ∀ z ∈ Q.cut bs (some (t + 1)) none, NmOk 1 z := fun z hz => hbs z (cut_sub z hz)
        have l1 : (Q.cut bs none (some t)).length ≤ 12 := Nat.le_trans cut_len (by omega)
        have l2 : (Q.cut bs (some (t + 1)) none).length ≤ 12 := Nat.le_trans cut_len (by omega)
        have n1 := join_nm hz1
        have n2 := join_nm hz2
        have n3 := app_nm n1 hu
        have n4 := app_nm n3 n2
        have e : sizeLine = 16777216 := by decide
        have cm : ∀ lo hi, Q.cut (bs.map D.str) lo hi = (Q.cut bs lo hi).map .str := fun lo hi => by
          unfold Q.cut
          rw [List.length_map, List.map_take, List.map_drop]
        refine main (Str.join "" (Q.cut bs none (some t)) ++ u ++ Str.join "" (Q.cut bs (some (t + 1)) none)) ⟨n4.ok, Nat.le_trans n4.len (by omega)⟩ ?_
        refine (if_f (μ1 := [.lst (l.map .str)]) (by rw [hcond _ _ rfl, decide_eq_false q])).trans ?_
        rw [expr_ok (o_append (k := 0) (l := l.map .str) (d := .str (Str.join "" (Q.cut bs none (some t)) ++ u ++ Str.join "" (Q.cut bs (some (t + 1)) none))) (μ1 := [.lst (l.map .str)]) (μ2 := [.lst (l.map .str)]) rfl rfl ?_ rfl sl)]
        · simp
        · refine a_cons (d2_ok (d2_ok (join_go (zs := Q.cut bs none (some t)) ?_ hz1 (by omega)) rfl (o_catS (by have := n1.len; have := hu.len; omega))) (join_go (zs := Q.cut bs (some (t + 1)) none) ?_ hz2 (by omega)) (o_catS (by have := n3.len; have := n2.len; omega))) a_nil
          · rw [← cm]
            exact sl_ok rfl o_none (o_some rfl) o_slL
          · rw [← cm]
            exact sl_ok rfl (o_some (d2_ok rfl rfl o_add)) o_none o_slL)
  refine ⟨l', by rw [hl]; simp [upto], hN, ?_⟩
  refine runF_l (k := 0) (l := l'.map .str) (μ1 := [.lst (l'.map .str)]) ?_ rfl
  refine (set_seq (w := .p (.str letters)) (μ1 := []) rfl).trans ?_
  refine (set_seq (w := .p (.int m)) (μ1 := []) (d2_ok (d2_ok (d2_ok (d2_ok rfl rfl (o_mul c1)) rfl o_add) rfl o_add) rfl (hm ▸ o_mul c2))).trans ?_
  refine (set_seq (w := .p (.int wn)) (μ1 := []) (d2_ok rfl (d2_ok rfl rfl (o_mod (by omega))) (hw ▸ o_add))).trans ?_
  refine (set_seq (w := .p (.int t)) (μ1 := []) (d2_ok (d2_ok rfl rfl (o_fdv (by omega) (by omega))) rfl (ht ▸ o_mod (by omega)))).trans ?_
  refine (set_seq (hbase [])).trans ?_
  refine (set_seq (w := .p (.int p)) (μ1 := []) (d2_ok (dN_ok (a_cons rfl (a_cons rfl (a_cons rfl (a_cons rfl (a_cons rfl (a_cons rfl a_nil)))))) rfl) (d2_ok (d2_ok rfl rfl (o_fdv (by omega) (by omega))) rfl (o_mod (by omega))) (o_ixL hst))).trans ?_
  refine (set_seq (w := .l 0) (μ1 := [.lst []]) rfl).trans ?_
  refine (seq_nx ((for_go (μ1 := [.lst []]) (ds := upto 0 1 5) rfl).trans e1)).trans ?_
  exact ret_ok rfl
end Lk31

set_option Elab.async false
set_option linter.all false
set_option maxRecDepth 100000
set_option maxHeartbeats 4000000
namespace Lk31
open PySem L2 Q
/-! expressions -/
inductive Ex where
  | nm (s : Str)
  | ap (w f : Str) (as : List Ex)
mutual
def enc : Ex → D
  | .nm s => .tup [.str "name", .str s]
  | .ap w f as => .tup [.str w, .str f, .tup (encs as)]
def encs : List Ex → List D
  | [] => []
  | e :: es => enc e :: encs es
end
theorem encs_map : ∀ l : List Ex, encs l = l.map enc
  | [] => rfl
  | e :: l => by rw [encs, encs_map l]; rfl
inductive Good : Nat → Ex → Prop
  | nm {d : Nat} {s : Str} : NmOk 100 s → Good d (.nm s)
  | ap {d : Nat} {w f : Str} {as : List Ex} : (w = "make" ∨ w = "call") → NmOk 100 f → as.length ≤ 3 → (∀ a ∈ as, Good d a) → Good (d + 1) (.ap w f as)
theorem o_tuple {w : W} {l : List D} {μ : Store} (h : rdQ μ w = some l) : wTuple [w] μ = some (.ok (.p (.tup l)) μ) := by
  simp only [wTuple, one, optS, h, Option.map_some, opt, Q.ret]
theorem le_sz {n : Nat} (h : n ≤ 1000) : n ≤ sizeLine := Nat.le_trans h (by decide)
def need : Nat → Nat
  | 0 => 1
  | d + 1 => 1 + 3 * need d
theorem ix_nm {nl : List Str} (hn : nl.length = 5) (hN : ∀ s ∈ nl, NmOk 100 s) (i : Int) : ∃ s, NmOk 100 s ∧ atI (nl.map D.str) (i % ((nl.map D.str).length : Nat)) = some (.str s) := by
  obtain ⟨a, ha, hm⟩ := atI_int (nl.map D.str) (i % ((nl.map D.str).length : Nat)) (Int.emod_nonneg _ (by rw [List.length_map]; omega)) (Int.emod_lt_of_pos _ (by rw [List.length_map]; omega))
  obtain ⟨s, hs, rfl⟩ := List.mem_map.mp hm
  exact ⟨s, hN s hs, ha⟩
abbrev wEnv (nl : List Str) (d x : Int) (k : Option W) : Q.Env := [some (.p (.lst (nl.map .str))), some (.l 0), some (.p (.int d)), some (.p (.int x)), some (.l 1), k]
theorem e_wild {nl : List Str} (hn : nl.length = 5) (hN : ∀ s ∈ nl, NmOk 100 s) : ∀ (d k : Nat) (l : List Int), d ≤ k → Digs l → need d ≤ l.length →
    ∃ (e : Ex) (l' : List Int), Good d e ∧ Digs l' ∧ l.length ≤ l'.length + need d ∧ F__law_wild (k + 1) [.p (.lst (nl.map .str)), .l 0, .p (.int d)] [.lst (l.map .int)] = some (.ok (.p (enc e)) [.lst (l'.map .int)]) := by
  intro d
  induction d with
  | zero =>
    intro k l hk hD hl
    have hne : l ≠ [] := fun z => by rw [z] at hl; simp [need] at hl
    have hcat := List.dropLast_concat_getLast hne
    generalize hi : l.dropLast = init at hcat
    generalize hx : l.getLast hne = x at hcat
    subst hcat
    obtain ⟨s, hs, hat⟩ := ix_nm hn hN (x / 5)
    refine ⟨.nm s, init, .nm hs, fun y hy => hD y (List.mem_append_left _ hy), by rw [List.length_append]; simp [need], ?_⟩
    refine runF_p (μ := [.lst ((init ++ [x]).map .int)]) (μ1 := [.lst (init.map .int)]) ?_
    refine (set_seq (w := .p (.int x)) (μ1 := [.lst (init.map .int)]) (o_pop (k := 0) (l := init.map .int) (μ1 := [.lst ((init ++ [x]).map .int)]) rfl (by simp))).trans ?_
    refine seq_rt ((if_t (μ1 := [.lst (init.map .int)]) (c_or_t (c_bl (d2_ok rfl rfl o_eqI)))).trans (ret_ok ?_))
    exact dN_ok (a_cons rfl (a_cons (d2_ok rfl (d2_ok (d2_ok rfl rfl (o_fdv (by omega) (by omega))) (dN_ok (a_cons rfl a_nil) o_lenL) (o_mod (by rw [List.length_map]; omega))) (o_ixL hat)) a_nil)) (o_tup rfl (le_sz (by simp)))
  | succ d ih =>
    intro k l hk hD hl
    have hne : l ≠ [] := fun z => by rw [z] at hl; simp [need] at hl
    have hcat := List.dropLast_concat_getLast hne
    generalize hi : l.dropLast = init at hcat
    generalize hx : l.getLast hne = x at hcat
    subst hcat
    have hDi : Digs init := fun y hy => hD y (List.mem_append_left _ hy)
    have hil : 3 * need d ≤ init.length := by
      rw [List.length_append] at hl
      simp only [need, List.length_singleton] at hl
      omega
    have pop : ∀ {b : DS}, dSeq (dSet 3 (dBM0 okL wPop (dVar 1))) b (startE 6 [.p (.lst (nl.map .str)), .l 0, .p (.int ((d + 1 : Nat) : Int))]) [.lst ((init ++ [x]).map .int)] = b [some (.p (.lst (nl.map .str))), some (.l 0), some (.p (.int ((d + 1 : Nat) : Int))), some (.p (.int x)), none, none] [.lst (init.map .int)] := fun {b} =>
      set_seq (w := .p (.int x)) (μ1 := [.lst (init.map .int)]) (o_pop (k := 0) (l := init.map .int) (μ1 := [.lst ((init ++ [x]).map .int)]) rfl (by simp))
    by_cases h5 : x % 5 = 0
    · obtain ⟨s, hs, hat⟩ := ix_nm hn hN (x / 5)
      refine ⟨.nm s, init, .nm hs, hDi, by rw [List.length_append]; simp only [need, List.length_singleton]; omega, ?_⟩
      refine runF_p (μ := [.lst ((init ++ [x]).map .int)]) (μ1 := [.lst (init.map .int)]) ?_
      refine pop.trans ?_
      refine seq_rt ((if_t (μ1 := [.lst (init.map .int)]) ?_).trans (ret_ok ?_))
      · refine (c_or_f (μ1 := [.lst (init.map .int)]) (c_bl (d2_ok rfl rfl ?_))).trans (c_bl (d2_ok (d2_ok rfl rfl (o_mod (by omega))) rfl ?_))
        · rw [o_eqI, Bool.bne_false, decide_eq_false (by omega)]
        · rw [o_eqI, Bool.bne_false, decide_eq_true h5]
      · exact dN_ok (a_cons rfl (a_cons (d2_ok rfl (d2_ok (d2_ok rfl rfl (o_fdv (by omega) (by omega))) (dN_ok (a_cons rfl a_nil) o_lenL) (o_mod (by rw [List.length_map]; omega))) (o_ixL hat)) a_nil)) (o_tup rfl (le_sz (by simp)))
    · obtain ⟨cnt, hcnt, hcm⟩ := atI_int [D.int 0, .int 1, .int 2, .int 3, .int 1, .int 2] (x / 5 % 6) (Int.emod_nonneg _ (by omega)) (Int.emod_lt_of_pos _ (by omega))
      obtain ⟨c, rfl, hc3⟩ : ∃ c : Nat, cnt = .int c ∧ c ≤ 3 := by
        simp only [List.mem_cons, List.not_mem_nil, or_false] at hcm
        rcases hcm with rfl | rfl | rfl | rfl | rfl | rfl
        · exact ⟨0, rfl, by omega⟩
        · exact ⟨1, rfl, by omega⟩
        · exact ⟨2, rfl, by omega⟩
        · exact ⟨3, rfl, by omega⟩
        · exact ⟨1, rfl, by omega⟩
        · exact ⟨2, rfl, by omega⟩
      have hrg : rng1 [.p (.int (c : Int))] = some (upto 0 1 c) := by
        have hs : sm (c : Int) = true := by
          rcases (show c = 0 ∨ c = 1 ∨ c = 2 ∨ c = 3 by omega) with rfl | rfl | rfl | rfl <;> decide
        unfold rng1
        simp only [hs, if_true, Int.toNat_natCast]
      obtain ⟨k', rfl⟩ : ∃ k', k = k' + 1 := ⟨k - 1, by omega⟩
      obtain ⟨ρ', μ', e1, kk, l1, es, rfl, rfl, hel, hD1, hl1, hG⟩ := loop_inv (g := gNm 5) (body := dExpr (dBM okL wAppend (dVar 4) (aCons (dN (callN 3 (F__law_wild (k' + 1))) (aCons (dVar 0) (aCons (dVar 1) (aCons (d2 wSub (dVar 2) (dC (.int 1))) aNil)))) aNil)))
        (I := fun n ρ μ => ∃ (k : Option W) (l1 : List Int) (es : List Ex), ρ = wEnv nl ((d + 1 : Nat) : Int) x k ∧ μ = [.lst (l1.map .int), .lst (encs es)] ∧ es.length = n ∧ Digs l1 ∧ init.length ≤ l1.length + n * need d ∧ ∀ e ∈ es, Good d e)
        (ds := upto 0 1 c) (n := 0) (ρ := wEnv nl ((d + 1 : Nat) : Int) x none) (μ := [.lst (init.map .int), .lst []]) ⟨none, init, [], rfl, rfl, rfl, hDi, by omega, fun e h => by cases h⟩ (by
          rintro i y ρ μ hi ⟨k0, l1, es, rfl, rfl, hel, hD1, hl1, hG⟩
          have hi2 : i < c := by
            have := (List.getElem?_eq_some_iff.mp hi).1
            simpa [upto] using this
          have hnd : need d ≤ l1.length := by
            have : (0 + i) * need d ≤ 2 * need d := Nat.mul_le_mul_right _ (by omega)
            omega
          obtain ⟨e, l2, hg, hD2, hl2, hF⟩ := ih k' l1 (by omega) hD1 hnd
          refine ⟨_, _, _, _, rfl, ?_, some (.p y), l2, es ++ [e], rfl, rfl, by rw [List.length_append, hel]; rfl, hD2, ?_, ?_⟩
          · rw [expr_ok (o_append (k := 1) (l := encs es) (d := enc e) (μ1 := [.lst (l1.map .int), .lst (encs es)]) (μ2 := [.lst (l2.map .int), .lst (encs es)]) rfl rfl ?_ rfl ?_)]
            · rw [encs_map, encs_map]
              simp
            · refine a_cons (dN_ok (a_cons rfl (a_cons rfl (a_cons (d2_ok rfl rfl o_sub) a_nil))) ?_) a_nil
              have e0 : ((d + 1 : Nat) : Int) - 1 = (d : Int) := by omega
              rw [e0]
              exact callN_o3 rfl hF
            · have e : sizeLine = 16777216 := by decide
              rw [encs_map, List.length_map]
              omega
          · rw [show 0 + i + 1 = (0 + i) + 1 from rfl, Nat.add_mul]
            omega
          · intro z hz
            rcases List.mem_append.mp hz with hz | hz
            · exact hG z hz
            · rw [List.mem_singleton.mp hz]
              exact hg)
      have hlen : (upto 0 1 c).length = c := by simp [upto]
      rw [hlen, Nat.zero_add] at hel hl1
      obtain ⟨f, hf, hatf⟩ := ix_nm hn hN (x / 60)
      obtain ⟨w, hw, hwm⟩ := atI_int [D.str "make", .str "call"] (x / 30 % 2) (Int.emod_nonneg _ (by omega)) (Int.emod_lt_of_pos _ (by omega))
      obtain ⟨ws, rfl, hws⟩ : ∃ s : Str, w = .str s ∧ (s = "make" ∨ s = "call") := by
        simp only [List.mem_cons, List.not_mem_nil, or_false] at hwm
        rcases hwm with rfl | rfl
        · exact ⟨_, rfl, .inl rfl⟩
        · exact ⟨_, rfl, .inr rfl⟩
      refine ⟨.ap ws f es, l1, .ap hws hf (by omega) hG, hD1, ?_, ?_⟩
      · rw [List.length_append]
        have : c * need d ≤ 3 * need d := Nat.mul_le_mul_right _ hc3
        simp only [need, List.length_singleton]
        omega
      refine runF_p (μ := [.lst ((init ++ [x]).map .int)]) (μ1 := [.lst (l1.map .int), .lst (encs es)]) ?_
      refine pop.trans ?_
      refine (if_skip (μ1 := [.lst (init.map .int)]) ?_).trans ?_
      · refine (c_or_f (μ1 := [.lst (init.map .int)]) (c_bl (d2_ok rfl rfl ?_))).trans (c_bl (d2_ok (d2_ok rfl rfl (o_mod (by omega))) rfl ?_))
        · rw [o_eqI, Bool.bne_false, decide_eq_false (by omega)]
        · rw [o_eqI, Bool.bne_false, decide_eq_false h5]
      refine (set_seq (w := .l 1) (μ1 := [.lst (init.map .int), .lst []]) rfl).trans ?_
      refine (seq_nx ((for_go (μ1 := [.lst (init.map .int), .lst []]) (ds := upto 0 1 c) (i_ofN (a_cons (d2_ok (dN_ok (a_cons rfl (a_cons rfl (a_cons rfl (a_cons rfl (a_cons rfl (a_cons rfl a_nil)))))) rfl) (d2_ok (d2_ok rfl rfl (o_fdv (by omega) (by omega))) rfl (o_mod (by omega))) (o_ixL hcnt)) a_nil) hrg)).trans e1)).trans ?_
      refine ret_ok ?_
      exact dN_ok (a_cons (d2_ok (dN_ok (a_cons rfl (a_cons rfl a_nil)) rfl) (d2_ok (d2_ok rfl rfl (o_fdv (by omega) (by omega))) rfl (o_mod (by omega))) (o_ixL hw))
        (a_cons (d2_ok rfl (d2_ok (d2_ok rfl rfl (o_fdv (by omega) (by omega))) (dN_ok (a_cons rfl a_nil) o_lenL) (o_mod (by rw [List.length_map]; omega))) (o_ixL hatf))
        (a_cons (dN_ok (a_cons rfl a_nil) (o_tuple rfl)) a_nil))) (o_tup rfl (le_sz (by simp)))
end Lk31

set_option Elab.async false
set_option linter.all false
set_option maxRecDepth 100000
set_option maxHeartbeats 4000000
namespace Lk31
open PySem L2 Q
/-! parts of expressions -/
def args : Ex → List Ex
  | .nm _ => []
  | .ap _ _ as => as
theorem Good.mono {d : Nat} {e : Ex} (h : Good d e) : ∀ {n : Nat}, d ≤ n → Good n e := by
  induction h with
  | nm h => exact fun _ => .nm h
  | ap hw hf hl _ ih =>
    intro n hn
    obtain ⟨m, rfl⟩ : ∃ m, n = m + 1 := ⟨n - 1, by omega⟩
    exact .ap hw hf hl fun a ha => ih a ha (by omega)
theorem Good.arg {d : Nat} {e a : Ex} (h : Good d e) (ha : a ∈ args e) : Good d a := by
  cases h with
  | nm h => cases ha
  | ap hw hf hl hg => exact (hg a ha).mono (by omega)
theorem Good.len {d : Nat} {e : Ex} (h : Good d e) : (args e).length ≤ 3 := by
  cases h with
  | nm h => exact Nat.zero_le _
  | ap hw hf hl hg => exact hl
theorem encs_len (l : List Ex) : (encs l).length = l.length := by rw [encs_map, List.length_map]
theorem ok_name : PyData.strOk ("name" : Str) = true := by decide +kernel
theorem ok_word {w : Str} (h : w = "make" ∨ w = "call") : PyData.strOk w = true ∧ ¬ w = "name" := by
  rcases h with rfl | rfl
  · exact ⟨by decide +kernel, by decide +kernel⟩
  · exact ⟨by decide +kernel, by decide +kernel⟩
/-- whether an expression is a name, asked by the text's way -/
def isNm : Ex → Bool
  | .nm _ => true
  | .ap _ _ _ => false
theorem ask_nm {d : Nat} {e : Ex} (h : Good d e) {neg : Bool} {m : DE} {ρ : Q.Env} {μ : Store} (hm : m ρ μ = some (.ok (.p (enc e)) μ)) : cBl (d2 (wEq neg) (d2 wIx m (dC (.int 0))) (dC (.str "name"))) ρ μ = some (.ok (isNm e != neg) μ) := by
  cases h with
  | nm h =>
    refine c_bl (d2_ok (d2_ok hm rfl (o_ixT atI_0)) rfl ?_)
    rw [o_eqS ok_name ok_name]
    rfl
  | ap hw hf hl hg =>
    refine c_bl (d2_ok (d2_ok hm rfl (o_ixT atI_0)) rfl ?_)
    rw [o_eqS (ok_word hw).1 ok_name, decide_eq_false (ok_word hw).2]
    rfl
theorem e_args {d : Nat} {e : Ex} (h : Good d e) : F_arguments_of [.p (enc e)] [] = some (.ok (.p (.tup (encs (args e)))) []) := by
  refine runF_p (μ := []) (μ1 := []) ?_
  cases e with
  | nm s => exact seq_rt ((if_t (ask_nm h rfl)).trans (ret_ok rfl))
  | ap w f as => exact (if_skip (ask_nm h rfl)).trans (ret_ok (d2_ok rfl rfl (o_ixT atI_2)))
def argI (e : Ex) (i : Int) : Option Ex := if 0 ≤ i then (args e)[i.toNat]? else none
theorem e_argat {d : Nat} {e : Ex} (h : Good d e) (i : Int) : F_argument_at [.p (enc e), .p (.int i)] [] = match argI e i with
    | some a => some (.ok (.p (enc a)) [])
    | none => some (.ex "NoPlace" []) := by
  have pre : ∀ {b : DS}, dSeq (dSet 2 (dN (callN 1 F_arguments_of) (aCons (dVar 0) aNil))) b (startE 3 [.p (enc e), .p (.int i)]) [] = b [some (.p (enc e)), some (.p (.int i)), some (.p (.tup (encs (args e))))] [] := fun {b} =>
    set_seq (dN_ok (a_cons rfl a_nil) (callN_p (ds := [enc e]) rfl (e_args h)))
  unfold argI
  by_cases h0 : 0 ≤ i
  · rw [if_pos h0]
    obtain ⟨n, rfl⟩ := Int.eq_ofNat_of_zero_le h0
    rw [Int.toNat_natCast]
    by_cases h1 : n < (args e).length
    · rw [List.getElem?_eq_getElem h1]
      refine runF_p (μ := []) (μ1 := []) (pre.trans ?_)
      refine (if_skip (μ1 := []) ((c_or_f (μ1 := []) (c_bl (d2_ok rfl rfl ?_))).trans (c_bl (d2_ok rfl (dN_ok (a_cons rfl a_nil) o_lenT) ?_)))).trans (ret_ok (d2_ok rfl rfl (o_ixT ?_)))
      · rw [o_lt, decide_eq_false (by omega)]
      · rw [o_ge, encs_len, decide_eq_false (by omega)]
      · rw [atI_nat _ n (by rw [encs_len]; exact h1)]
        simp [encs_map]
    · rw [List.getElem?_eq_none (by omega)]
      refine runF_x (μ := []) (μ1 := []) (ρ := [some (.p (enc e)), some (.p (.int n)), some (.p (.tup (encs (args e))))]) (pre.trans (seq_ex ?_))
      refine (if_t (μ1 := []) ((c_or_f (μ1 := []) (c_bl (d2_ok rfl rfl ?_))).trans (c_bl (d2_ok rfl (dN_ok (a_cons rfl a_nil) o_lenT) ?_)))).trans rfl
      · rw [o_lt, decide_eq_false (by omega)]
      · rw [o_ge, encs_len, decide_eq_true (by omega)]
  · rw [if_neg h0]
    refine runF_x (μ := []) (μ1 := []) (ρ := [some (.p (enc e)), some (.p (.int i)), some (.p (.tup (encs (args e))))]) (pre.trans (seq_ex ?_))
    refine (if_t (μ1 := []) (c_or_t (c_bl (d2_ok rfl rfl ?_)))).trans rfl
    rw [o_lt, decide_eq_true (by omega)]
theorem argI_mem {e a : Ex} {i : Int} (h : argI e i = some a) : a ∈ args e := by
  unfold argI at h
  split at h
  · exact List.mem_of_getElem? h
  · cases h
theorem loop_nx {g : DG} {body : DS} {d : D} {ds : List D} {ρ ρ1 ρ2 : Q.Env} {μ μ1 μ2 : Store} (hg : g (.p d) ρ μ = some (.ok ρ1 μ1)) (hb : body ρ1 μ1 = some (.nx ρ2 μ2)) : loopD g body (d :: ds) ρ μ = loopD g body ds ρ2 μ2 := by
  conv => lhs; unfold loopD
  simp only [hg, hb]
theorem loop_x {g : DG} {body : DS} {d : D} {ds : List D} {n : Str} {ρ ρ1 ρ2 : Q.Env} {μ μ1 μ2 : Store} (hg : g (.p d) ρ μ = some (.ok ρ1 μ1)) (hb : body ρ1 μ1 = some (.ex n ρ2 μ2)) : loopD g body (d :: ds) ρ μ = some (.ex n ρ2 μ2) := by
  conv => lhs; unfold loopD
  simp only [hg, hb]
def part : Ex → List Int → Option Ex
  | e, [] => some e
  | e, i :: p => (argI e i).bind fun a => part a p
abbrev encp (p : List Int) : D := .tup (p.map .int)
theorem part_loop {d : Nat} : ∀ (p : List Int) (e : Ex) (P : Option W) (k : Option W), Good d e →
    match part e p with
    | some x => ∃ k', loopD (gNm 2) (dSet 0 (dN (callN 2 F_argument_at) (aCons (dVar 0) (aCons (dVar 2) aNil)))) (p.map .int) [some (.p (enc e)), P, k] [] = some (.nx [some (.p (enc x)), P, k'] [])
    | none => ∃ ρ, loopD (gNm 2) (dSet 0 (dN (callN 2 F_argument_at) (aCons (dVar 0) (aCons (dVar 2) aNil)))) (p.map .int) [some (.p (enc e)), P, k] [] = some (.ex "NoPlace" ρ [])
  | [], e, P, k, _ => ⟨k, rfl⟩
  | i :: p, e, P, k, h => by
    have ha := e_argat h i
    unfold part
    cases hi : argI e i with
    | none =>
      rw [hi] at ha
      exact ⟨_, loop_x rfl (set_x (dN_ok (a_cons rfl (a_cons rfl a_nil)) (callN_x (ds := [enc e, .int i]) rfl ha)))⟩
    | some a =>
      rw [hi] at ha
      have ih := part_loop p a P (some (.p (.int i))) (h.arg (argI_mem hi))
      have st : loopD (gNm 2) (dSet 0 (dN (callN 2 F_argument_at) (aCons (dVar 0) (aCons (dVar 2) aNil)))) ((i :: p).map .int) [some (.p (enc e)), P, k] [] = loopD (gNm 2) (dSet 0 (dN (callN 2 F_argument_at) (aCons (dVar 0) (aCons (dVar 2) aNil)))) (p.map .int) [some (.p (enc a)), P, some (.p (.int i))] [] :=
        loop_nx rfl (set_ok (dN_ok (a_cons rfl (a_cons rfl a_nil)) (callN_p (ds := [enc e, .int i]) rfl ha)))
      rw [st]
      exact ih
theorem e_part {d : Nat} {e : Ex} (h : Good d e) (p : List Int) : F_part_at [.p (enc e), .p (encp p)] [] = match part e p with
    | some x => some (.ok (.p (enc x)) [])
    | none => some (.ex "NoPlace" []) := by
  have l := part_loop p e (some (.p (encp p))) none h
  cases hp : part e p with
  | some x =>
    rw [hp] at l
    obtain ⟨k, l⟩ := l
    exact runF_p (μ := []) (μ1 := []) ((seq_nx ((for_go (i_of rfl rfl)).trans l)).trans (ret_ok rfl))
  | none =>
    rw [hp] at l
    obtain ⟨ρ, l⟩ := l
    exact runF_x (μ := []) (μ1 := []) (seq_ex ((for_go (i_of rfl rfl)).trans l))
theorem part_good {d : Nat} : ∀ {p : List Int} {e x : Ex}, Good d e → part e p = some x → Good d x
  | [], e, x, h, e1 => by cases e1; exact h
  | i :: p, e, x, h, e1 => by
    unfold part at e1
    obtain ⟨a, e2, e3⟩ := Option.bind_eq_some_iff.mp e1
    exact part_good (h.arg (argI_mem e2)) e3
/-- the law's own way, where there is such a part -/
theorem there_loop {d : Nat} : ∀ (p : List Int) (e x : Ex) (P : Option W) (k : Option W), Good d e → part e p = some x →
    ∃ k', loopD (gNm 2) (dSet 0 (d2 wIx (d2 wIx (dVar 0) (dC (.int 2))) (dVar 2))) (p.map .int) [some (.p (enc e)), P, k] [] = some (.nx [some (.p (enc x)), P, k'] [])
  | [], e, x, P, k, _, hp => by cases hp; exact ⟨k, rfl⟩
  | i :: p, e, x, P, k, h, hp => by
    unfold part at hp
    obtain ⟨a, e2, e3⟩ := Option.bind_eq_some_iff.mp hp
    obtain ⟨k', ih⟩ := there_loop p a x P (some (.p (.int i))) (h.arg (argI_mem e2)) e3
    refine ⟨k', ?_⟩
    have hx : d2 wIx (d2 wIx (dVar 0) (dC (.int 2))) (dVar 2) [some (.p (enc e)), P, some (.p (.int i))] [] = some (.ok (.p (enc a)) []) := by
      cases h with
      | nm h =>
        have := argI_mem e2
        cases this
      | @ap d w f as hw hf hl hg =>
        refine d2_ok (d2_ok rfl rfl (o_ixT atI_2)) rfl (o_ixT ?_)
        unfold argI at e2
        split at e2
        · rename_i h0
          obtain ⟨n, rfl⟩ := Int.eq_ofNat_of_zero_le h0
          rw [Int.toNat_natCast] at e2
          obtain ⟨hn, e4⟩ := List.getElem?_eq_some_iff.mp e2
          rw [atI_nat _ n (by rw [encs_len]; exact hn)]
          rw [← e4]
          simp [encs_map, args]
        · cases e2
    exact (loop_nx rfl (set_ok (i := 0) hx)).trans ih
theorem e_there {d : Nat} {e x : Ex} {p : List Int} (h : Good d e) (hp : part e p = some x) : F__law_there [.p (enc e), .p (encp p)] [] = some (.ok (.p (enc x)) []) := by
  obtain ⟨k, l⟩ := there_loop p e x (some (.p (encp p))) none h hp
  exact runF_p (μ := []) (μ1 := []) ((seq_nx ((for_go (i_of rfl rfl)).trans l)).trans (ret_ok rfl))
end Lk31

set_option Elab.async false
set_option linter.all false
set_option maxRecDepth 100000
set_option maxHeartbeats 4000000
namespace Lk31
open PySem L2 Q
theorem asg_go {m : DE} {g : DG} {ρ ρ1 : Q.Env} {μ μ1 μ2 : Store} {w : W} (h : m ρ μ = some (.ok w μ1)) (hg : g w ρ μ1 = some (.ok ρ1 μ2)) : dAsg m g ρ μ = some (.nx ρ1 μ2) := by
  simp [dAsg, liftE, h, hg]
/-! putting in -/
def rebuild : Ex → Nat → Ex → Ex
  | .nm s, _, _ => .nm s
  | .ap w f as, n, r => .ap w f (as.set n r)
def put (o : Ex) : Ex → List Int → Option Ex
  | _, [] => some o
  | e, i :: p => (argI e i).bind fun a => (put o a p).map fun r => rebuild e i.toNat r
theorem argI_nat {e a : Ex} {i : Int} (h : argI e i = some a) : ∃ n : Nat, i = n ∧ ∃ hn : n < (args e).length, (args e)[n] = a := by
  unfold argI at h
  split at h
  · rename_i h0
    obtain ⟨n, rfl⟩ := Int.eq_ofNat_of_zero_le h0
    rw [Int.toNat_natCast] at h
    obtain ⟨hn, e4⟩ := List.getElem?_eq_some_iff.mp h
    exact ⟨n, rfl, hn, e4⟩
  · cases h
theorem encs_set (as : List Ex) (n : Nat) (r : Ex) : encs (as.set n r) = (encs as).set n (enc r) := by
  rw [encs_map, encs_map, List.map_set]
theorem e_put {d : Nat} {o : Ex} : ∀ (p : List Int) (k : Nat) (e : Ex), p.length ≤ k → Good d e → F_put_at (k + 1) [.p (enc e), .p (encp p), .p (enc o)] [] = match put o e p with
    | some r => some (.ok (.p (enc r)) [])
    | none => some (.ex "NoPlace" [])
  | [], k, e, _, h => by
    refine runF_p (μ := []) (μ1 := []) (seq_rt ((if_t (μ1 := []) (c_bl (d2_ok (dN_ok (a_cons rfl a_nil) o_lenT) rfl ?_))).trans (ret_ok rfl)))
    rw [o_eqI]
    rfl
  | i :: p, k, e, hk, h => by
    obtain ⟨k', rfl⟩ : ∃ k', k = k' + 1 := ⟨k - 1, by rw [List.length_cons] at hk; omega⟩
    have pre : ∀ {b : DS}, dSeq (dIf (cBl (d2 (wEq false) (dN wLen (aCons (dVar 1) aNil)) (dC (.int 0)))) (dRet (dVar 2)) dSkip) (dSeq (dSet 3 (d2 wIx (dVar 1) (dC (.int 0)))) b) (startE 8 [.p (enc e), .p (encp (i :: p)), .p (enc o)]) [] =
        b [some (.p (enc e)), some (.p (encp (i :: p))), some (.p (enc o)), some (.p (.int i)), none, none, none, none] [] := fun {b} => by
      refine (if_skip (μ1 := []) (c_bl (d2_ok (dN_ok (a_cons rfl a_nil) o_lenT) rfl ?_))).trans (set_seq (d2_ok rfl rfl (o_ixT atI_0)))
      rw [o_eqI, decide_eq_false (by rw [List.length_map, List.length_cons]; omega)]
      rfl
    have ha := e_argat h i
    unfold put
    cases hi : argI e i with
    | none =>
      rw [hi] at ha
      exact runF_x (μ := []) (μ1 := []) (pre.trans (seq_ex (set_x (dN_x (a_consx (dN_ok (a_cons rfl (a_cons rfl a_nil)) (callN_x (ds := [enc e, .int i]) rfl ha)))))))
    | some a =>
      rw [hi] at ha
      have ih := e_put (o := o) p k' a (by rw [List.length_cons] at hk; omega) (h.arg (argI_mem hi))
      have as3 : aCons (dN (callN 2 F_argument_at) (aCons (dVar 0) (aCons (dVar 3) aNil))) (aCons (dSl (dVar 1) (oSome (dC (.int 1))) oNone) (aCons (dVar 2) aNil)) [some (.p (enc e)), some (.p (encp (i :: p))), some (.p (enc o)), some (.p (.int i)), none, none, none, none] [] = some (.ok [.p (enc a), .p (encp p), .p (enc o)] []) := by
        refine a_cons (dN_ok (a_cons rfl (a_cons rfl a_nil)) (callN_p (ds := [enc e, .int i]) rfl ha)) (a_cons (sl_ok rfl (o_some rfl) o_none ?_) (a_cons rfl a_nil))
        rw [o_slT]
        have := cut_from ((i :: p).map D.int) 1
        rw [show ((1 : Nat) : Int) = 1 from rfl] at this
        rw [this]
        rfl
      show F_put_at (k' + 1 + 1) _ _ = match (put o a p).map fun r => rebuild e i.toNat r with
        | some r => some (.ok (.p (enc r)) [])
        | none => some (.ex "NoPlace" [])
      cases hp : put o a p with
      | none =>
        rw [hp] at ih
        exact runF_x (μ := []) (μ1 := []) (pre.trans (seq_ex (set_x (dN_ok as3 (callN_x (ds := [enc a, encp p, enc o]) rfl ih)))))
      | some r =>
        rw [hp] at ih
        obtain ⟨n, rfl, hn, e4⟩ := argI_nat hi
        cases h with
        | nm h => simp [args] at hn
        | @ap d w f as hw hf hl hg =>
          refine runF_p (μ := []) (μ1 := []) (pre.trans ?_)
          refine (set_seq (dN_ok as3 (callN_p (ds := [enc a, encp p, enc o]) rfl ih))).trans ?_
          refine (seq_nx (asg_go rfl rfl)).trans (ret_ok ?_)
          have hn2 : n < as.length := hn
          have hl1 : (encs as).length ≤ 3 := by rw [encs_len]; exact hl
          refine dN_ok (a_cons rfl (a_cons rfl (a_cons (d2_ok (d2_ok (sl_ok rfl o_none (o_some rfl) o_slT) (dN_ok (a_cons rfl a_nil) (o_tup rfl (le_sz (by simp)))) (o_catT ?_)) (sl_ok rfl (o_some (d2_ok rfl rfl o_add)) o_none o_slT) (o_catT ?_)) a_nil))) (o_tup (ds := [.str w, .str f, .tup (encs (as.set n r))]) ?_ (le_sz (by simp)))
          · have := @cut_len D (encs as) none (some (n : Int))
            rw [List.length_singleton]
            exact le_sz (by omega)
          · have := @cut_len D (encs as) none (some (n : Int))
            have := @cut_len D (encs as) (some ((n : Int) + 1)) none
            rw [List.length_append, List.length_singleton]
            exact le_sz (by omega)
          · have c1 := cut_to (encs as) n
            have c2 := cut_from (encs as) (n + 1)
            rw [show ((n + 1 : Nat) : Int) = (n : Int) + 1 by omega] at c2
            rw [c1, c2, set_cut (encs as) n (enc r) (by rw [encs_len]; exact hn2), ← encs_set]
            rfl
theorem pys_ints (p : List Int) : pys (p.map .int) = some (p.map .int) := by
  induction p with
  | nil => rfl
  | cons i p ih => simp only [List.map_cons, pys, py, ih]
theorem lay_ints (p : List Int) : PyData.canLayAll0 (p.map .int) = true := by
  induction p with
  | nil => rfl
  | cons i p ih => simp only [List.map_cons, PyData.canLayAll0, PyData.canLay0, ih, Bool.and_self]
theorem eq_nil {p : List Int} {μ : Store} : wEq false (.p (encp p)) (.p (.tup [])) μ = some (.ok (.p (.bl p.isEmpty)) μ) := by
  have ok : eqOk (.tuple (p.map .int)) (.tuple []) = true := by
    unfold eqOk
    have : min (PyData.tuple (p.map .int)).depth (PyData.tuple []).depth ≤ 200 := Nat.le_trans (Nat.min_le_right _ _) (by simp [PyData.depth, PyData.depthAll])
    simp only [PyData.canLay0, lay_ints, PyData.canLayAll0, Bool.and_self, Bool.true_and, decide_eq_true_eq]
    exact this
  have e1 : pyW μ (.p (encp p)) = some (.tuple (p.map .int)) := by simp only [pyW, py, pys_ints, Option.map_some]
  have e2 : pyW μ (.p (.tup [])) = some (.tuple []) := rfl
  simp only [wEq, optS, e1, e2, ok, if_true]
  cases p with
  | nil => rfl
  | cons i p => rfl
theorem e_lput {d : Nat} {o : Ex} : ∀ (p : List Int) (k : Nat) (e r : Ex), p.length ≤ k → Good d e → put o e p = some r → F__law_put (k + 1) [.p (enc e), .p (encp p), .p (enc o)] [] = some (.ok (.p (enc r)) [])
  | [], k, e, r, _, h, hr => by
    cases hr
    exact runF_p (μ := []) (μ1 := []) (seq_rt ((if_t (μ1 := []) (c_bl (d2_ok rfl rfl eq_nil))).trans (ret_ok rfl)))
  | i :: p, k, e, r, hk, h, hr => by
    obtain ⟨k', rfl⟩ : ∃ k', k = k' + 1 := ⟨k - 1, by rw [List.length_cons] at hk; omega⟩
    unfold put at hr
    obtain ⟨a, hi, hr2⟩ := Option.bind_eq_some_iff.mp hr
    obtain ⟨b, hb, rfl⟩ := Option.map_eq_some_iff.mp hr2
    have ih := e_lput (o := o) p k' a b (by rw [List.length_cons] at hk; omega) (h.arg (argI_mem hi)) hb
    obtain ⟨n, rfl, hn, e4⟩ := argI_nat hi
    cases h with
    | nm h => simp [args] at hn
    | @ap d w f as hw hf hl hg =>
      have hn2 : n < as.length := hn
      have hl1 : (encs as).length = as.length := encs_len as
      have at1 : atI (encs as) (n : Int) = some (enc a) := by
        rw [atI_nat _ n (by rw [hl1]; exact hn2), ← e4]
        simp [encs_map, args]
      have ixn : ixN (encs as).length (n : Int) = some n := by
        unfold ixN
        rw [if_pos (by omega), if_pos (by omega), Int.toNat_natCast]
      refine runF_p (μ := []) (μ1 := [.lst ((encs as).set n (enc b))]) ?_
      refine (if_skip (μ1 := []) (c_bl (d2_ok rfl rfl eq_nil))).trans ?_
      refine (set_seq (w := .l 0) (μ1 := [.lst (encs as)]) (dN_ok (a_cons (d2_ok rfl rfl (o_ixT atI_2)) a_nil) rfl)).trans ?_
      refine (seq_nx (asg_go (ρ1 := [some (.p (enc (.ap w f as))), some (.p (encp ((n : Int) :: p))), some (.p (enc o)), some (.l 0)]) (w := .p (enc b)) (μ1 := [.lst (encs as)]) (μ2 := [.lst ((encs as).set n (enc b))]) (dN_ok (a_cons (d2_ok rfl (d2_ok rfl rfl (o_ixT atI_0)) (o_ixO rfl at1)) (a_cons (sl_ok (r := some (.ok (.p (encp p)) [.lst (encs as)])) rfl (o_some rfl) o_none ?_) (a_cons rfl a_nil))) (callN_p (ds := [enc a, encp p, enc o]) rfl ih)) ?_)).trans (ret_ok ?_)
      · rw [o_slT]
        have := cut_from (((n : Int) :: p).map D.int) 1
        rw [show ((1 : Nat) : Int) = 1 from rfl] at this
        rw [this]
        rfl
      · unfold Q.gSub
        rw [bnd_go (a := .l 0) (μ1 := [.lst (encs as)]) rfl, bnd_go (a := .p (.int n)) (μ1 := [.lst (encs as)]) (d2_ok rfl rfl (o_ixT atI_0)), bnd_go (a := ()) (μ1 := [.lst ((encs as).set n (enc b))]) ?_]
        · rfl
        · simp only [wSet, ownL, List.getElem?_cons_zero, ixn, List.set_cons_zero]
      · refine dN_ok (a_cons (d2_ok rfl rfl (o_ixT atI_0)) (a_cons (d2_ok rfl rfl (o_ixT atI_1)) (a_cons (dN_ok (a_cons rfl a_nil) (o_tuple rfl)) a_nil))) (o_tup (ds := [.str w, .str f, .tup (encs (as.set n b))]) ?_ (le_sz (by simp)))
        rw [encs_set]
        rfl
end Lk31

set_option Elab.async false
set_option linter.all false
set_option maxRecDepth 100000
set_option maxHeartbeats 4000000
namespace Lk31
open PySem L2 Q
/-! shape -/
theorem pd_ex {d : Nat} {e : Ex} (h : Good d e) : Pd (2 * d + 1) (enc e) := by
  induction h with
  | nm h =>
    refine (pd_tup (n := 0) ?_).mono (by omega)
    intro x hx
    simp only [List.mem_cons, List.not_mem_nil, or_false] at hx
    rcases hx with rfl | rfl
    · exact pd_str ok_name
    · exact pd_str h.ok
  | @ap d w f as hw hf hl _ ih =>
    refine (pd_tup (n := 2 * d + 2) ?_).mono (by omega)
    intro x hx
    simp only [List.mem_cons, List.not_mem_nil, or_false] at hx
    rcases hx with rfl | rfl | rfl
    · exact (pd_str (ok_word hw).1).mono (by omega)
    · exact (pd_str hf.ok).mono (by omega)
    · refine pd_tup (n := 2 * d + 1) fun y hy => ?_
      rw [encs_map] at hy
      obtain ⟨a, ha, rfl⟩ := List.mem_map.mp hy
      exact ih a ha
theorem eq_none {neg : Bool} {μ : Store} : wEq neg (.p (.lst [])) (.p (.lst [])) μ = some (.ok (.p (.bl (true != neg))) μ) := eq_same (n := 1) (pd_lst (n := 0) fun d h => by cases h) (by omega)
theorem isi_ok {T t : Ty} {w : W} {μ : Store} (h : tyW μ w = some t) : wIsi T w μ = some (.ok (.p (.bl (t.sub T))) μ) := by
  simp only [wIsi, optS, h, Option.map_some, opt, Q.ret]
theorem lc_none {vs : List Nat} {mi : DI} {g : DG} {c : Q.Env → M Bool} {m : DE} {ρ : Q.Env} {μ : Store} {ds : List D} (hi : mi ρ μ = some (.ok ds μ)) (h : ∀ d ∈ ds, ∃ ρ1, g (.p d) (wipeE ρ vs) μ = some (.ok ρ1 μ) ∧ c ρ1 μ = some (.ok false μ)) (hl : ds.length ≤ sizeLine) :
    dLc false vs mi g c m ρ μ = some (.ok (.p (.lst [])) μ) := by
  have z := lc_p (p := fun _ => false) (f := id) (vs := vs) (g := g) (c := c) (m := m) hi (fun d hd => by
    obtain ⟨ρ1, a, b⟩ := h d hd
    exact ⟨ρ1, a, b, fun h => by cases h⟩) hl
  rw [z, List.filter_eq_nil_iff.mpr fun _ _ h => by cases h]
  rfl
theorem first_ok {l : List D} {μ : Store} {ρ : Q.Env} (h0 : ρ[0]? = some (some (.p (.tup l)))) (h1 : 1 < ρ.length) (hl : ∃ a b r, l = .str a :: .str b :: r) (hn : l.length ≤ 100) :
    cOr (cNot (cTru (d1 (wIsi .tup) (dVar 0)))) (cOr (cBl (d2 wLt (dN wLen (aCons (dVar 0) aNil)) (dC (.int 2)))) (cBl (d2 (wEq true) (dLc false (List.map Prod.snd ([("_law_one", 1)] : List (Str × Nat))) (iOf seqP (dSl (dVar 0) oNone (oSome (dC (.int 2))))) (gNm 1) (cNot (cTru (d1 (wIsi .str) (dVar 1)))) (dVar 1)) (dN wLstP aNil)))) ρ μ = some (.ok false μ) := by
  have hv : dVar 0 ρ μ = some (.ok (.p (.tup l)) μ) := by simp only [dVar, h0, Option.join_some]; rfl
  obtain ⟨a, b, r, rfl⟩ := hl
  refine (c_or_f (c_not (c_tru (d1_ok hv (isi_ok (t := .tup) rfl)) rfl))).trans ?_
  refine (c_or_f (c_bl (d2_ok (dN_ok (a_cons hv a_nil) o_lenT) rfl ?_))).trans (c_bl (d2_ok (lc_none (ds := [.str a, .str b]) ?_ ?_ (le_sz (by simp))) rfl eq_none))
  · rw [o_lt, decide_eq_false (by simp only [List.length_cons]; omega)]
  · refine i_of (sl_ok hv o_none (o_some rfl) o_slT) ?_
    have := cut_to (D.str a :: D.str b :: r) 2
    rw [show ((2 : Nat) : Int) = 2 from rfl] at this
    rw [this]
    rfl
  · intro d hd
    refine ⟨_, rfl, ?_⟩
    have hz : ∃ s, d = .str s := by
      simp only [List.mem_cons, List.not_mem_nil, or_false] at hd
      rcases hd with rfl | rfl
      · exact ⟨_, rfl⟩
      · exact ⟨_, rfl⟩
    obtain ⟨s, rfl⟩ := hz
    have hv1 : dVar 1 ((wipeE ρ [1]).set 1 (some (.p (.str s)))) μ = some (.ok (.p (.str s)) μ) := by
      have : ((wipeE ρ [1]).set 1 (some (.p (.str s))))[1]? = some (some (.p (.str s))) := List.getElem?_set_self (by simp only [wipeE, List.length_set]; exact h1)
      simp only [dVar, this, Option.join_some]
      rfl
    exact c_not (b := true) (c_tru (d1_ok hv1 (isi_ok (t := .str) rfl)) rfl)
theorem e_shape : ∀ (k d : Nat) (e : Ex), d ≤ k → Good d e → F__law_shape (k + 1) [.p (enc e)] [] = some (.ok (.p (.bl true)) []) := by
  intro k
  induction k with
  | zero =>
    intro d e hk h
    cases h with
    | nm h =>
      refine runF_p (μ := []) (μ1 := []) ?_
      refine (if_skip (first_ok (l := [.str "name", .str _]) rfl (by simp [startE]) ⟨_, _, _, rfl⟩ (by simp))).trans ?_
      exact seq_rt ((if_t (ask_nm (d := 0) (.nm h) rfl)).trans (ret_ok (d2_ok (dN_ok (a_cons rfl a_nil) o_lenT) rfl o_eqI)))
    | ap hw hf hl hg => omega
  | succ k ih =>
    intro d e hk h
    refine runF_p (μ := []) (μ1 := []) ?_
    cases h with
    | nm h =>
      refine (if_skip (first_ok (l := [.str "name", .str _]) rfl (by simp [startE]) ⟨_, _, _, rfl⟩ (by simp))).trans ?_
      exact seq_rt ((if_t (ask_nm (d := 0) (.nm h) rfl)).trans (ret_ok (d2_ok (dN_ok (a_cons rfl a_nil) o_lenT) rfl o_eqI)))
    | @ap d w f as hw hf hl hg =>
      refine (if_skip (first_ok (l := [.str w, .str f, .tup (encs as)]) rfl (by simp [startE]) ⟨_, _, _, rfl⟩ (by simp))).trans ?_
      refine (if_skip (ask_nm (d := d + 1) (.ap hw hf hl hg) rfl)).trans ?_
      refine (if_skip ((c_or_f (c_bl (d2_ok (dN_ok (a_cons rfl a_nil) o_lenT) rfl o_eqI))).trans (c_not (c_tru (d1_ok (d2_ok rfl rfl (o_ixT atI_2)) (isi_ok (t := .tup) rfl)) rfl)))).trans ?_
      refine ret_ok (d2_ok (lc_none (ds := encs as) (i_of (d2_ok rfl rfl (o_ixT atI_2)) rfl) ?_ (by rw [encs_len]; exact le_sz (by omega))) rfl eq_none)
      intro y hy
      rw [encs_map] at hy
      obtain ⟨a, ha, rfl⟩ := List.mem_map.mp hy
      exact ⟨_, rfl, c_not (c_tru (dN_ok (a_cons rfl a_nil) (callN_p (ds := [enc a]) rfl (ih d a (by omega) (hg a ha)))) rfl)⟩
end Lk31

set_option Elab.async false
set_option linter.all false
set_option maxRecDepth 100000
set_option maxHeartbeats 4000000
namespace Lk31
open PySem L2 Q
/-! the places of an expression -/
def cntP : Nat → Nat
  | 0 => 1
  | d + 1 => 1 + 3 * cntP d
def Places (e : Ex) (d m : Nat) (ps : List (List Int)) : Prop := ps ≠ [] ∧ ps.length ≤ m ∧ ∀ p ∈ ps, p.length ≤ d ∧ ∃ x, part e p = some x
theorem argI_at {e : Ex} {n : Nat} (h : n < (args e).length) : argI e (n : Int) = some (args e)[n] := by
  unfold argI
  rw [if_pos (by omega), Int.toNat_natCast, List.getElem?_eq_getElem h]
theorem rng_n {n : Nat} (h : n ≤ 200) : rng1 [.p (.int (n : Nat))] = some (upto 0 1 n) := by
  have hs : sm (n : Int) = true := by
    unfold sm
    rw [Bool.and_eq_true, decide_eq_true_eq, decide_eq_true_eq]
    omega
  unfold rng1
  simp only [hs, if_true, Int.toNat_natCast]
abbrev sBody (R : List W → M W) : DS := dSet 1 (d2 wAdd (dVar 1) (dLc false (List.map Prod.snd ([("_law_one", 3)] : List (Str × Nat))) (iOf seqP (dN (callN 1 R) (aCons (d2 wIx (d2 wIx (dVar 0) (dC (.int 2))) (dVar 2)) aNil))) (gNm 3) cYes (d2 wAdd (dN wTup (aCons (dVar 2) aNil)) (dVar 3))))
theorem e_spots : ∀ (k d : Nat) (e : Ex), d ≤ k → k ≤ 20 → cntP d ≤ 1000 → Good d e → ∃ ps : List (List Int), Places e d (cntP d) ps ∧ F__law_spots (k + 1) [.p (enc e)] [] = some (.ok (.p (.lst (ps.map encp))) []) := by
  intro k
  induction k with
  | zero =>
    intro d e hk hk10 hc h
    cases h with
    | nm h =>
      refine ⟨[[]], ⟨by simp, by cases d <;> simp [cntP] <;> omega, fun p hp => ?_⟩, ?_⟩
      · rw [List.mem_singleton.mp hp]
        exact ⟨Nat.zero_le _, _, rfl⟩
      · refine runF_p (μ := []) (μ1 := []) ((set_seq (w := .p (.lst [encp []])) (μ1 := []) rfl).trans ?_)
        exact (if_skip (ask_nm (d := 0) (.nm h) rfl)).trans (ret_ok rfl)
    | ap hw hf hl hg => omega
  | succ k ih =>
    intro d e hk hk10 hc h
    cases h with
    | nm h =>
      refine ⟨[[]], ⟨by simp, by cases d <;> simp [cntP] <;> omega, fun p hp => ?_⟩, ?_⟩
      · rw [List.mem_singleton.mp hp]
        exact ⟨Nat.zero_le _, _, rfl⟩
      · refine runF_p (μ := []) (μ1 := []) ((set_seq (w := .p (.lst [encp []])) (μ1 := []) rfl).trans ?_)
        exact (if_skip (ask_nm (d := 0) (.nm h) rfl)).trans (ret_ok rfl)
    | @ap d w f as hw hf hl hg =>
      have hcd : cntP d ≤ 1000 := by simp only [cntP] at hc; omega
      have hlen : (upto 0 1 as.length).length = as.length := by simp [upto]
      obtain ⟨ρ', μ', e1, ps, kk, jj, rfl, rfl, hne, hpl, hpp⟩ := loop_inv (g := gNm 2) (body := sBody (F__law_spots (k + 1)))
        (I := fun n ρ μ => ∃ (ps : List (List Int)) (kk jj : Option W), ρ = [some (.p (enc (.ap w f as))), some (.p (.lst (ps.map encp))), kk, jj] ∧ μ = [] ∧ ps ≠ [] ∧ ps.length ≤ 1 + n * cntP d ∧ ∀ p ∈ ps, p.length ≤ d + 1 ∧ ∃ x, part (.ap w f as) p = some x)
        (ds := upto 0 1 as.length) (n := 0) (ρ := [some (.p (enc (.ap w f as))), some (.p (.lst [encp []])), none, none]) (μ := []) ⟨[[]], none, none, rfl, rfl, by simp, by simp, fun p hp => by rw [List.mem_singleton.mp hp]; exact ⟨Nat.zero_le _, _, rfl⟩⟩ (by
          rintro i y ρ μ hi ⟨ps, kk, jj, rfl, rfl, hne, hpl, hpp⟩
          have hi2 : i < as.length := by
            have := (List.getElem?_eq_some_iff.mp hi).1
            rw [hlen] at this
            exact this
          obtain ⟨n, rfl, hn⟩ := up_mem (List.mem_of_getElem? hi)
          obtain ⟨qs, ⟨hqn, hql, hqq⟩, hF⟩ := ih d as[n] (by omega) (by omega) hcd (hg _ (List.getElem_mem _))
          have hix : atI (encs as) (n : Int) = some (enc as[n]) := by
            rw [atI_nat _ n (by rw [encs_len]; exact hn)]
            simp [encs_map]
          have hps : ps.length ≤ 1 + 2 * cntP d := by
            have : (0 + i) * cntP d ≤ 2 * cntP d := Nat.mul_le_mul_right _ (by omega)
            omega
          refine ⟨_, _, [some (.p (enc (.ap w f as))), some (.p (.lst ((ps ++ qs.map fun q => (n : Int) :: q).map encp))), some (.p (.int n)), jj], [], rfl, ?_, ps ++ qs.map fun q => (n : Int) :: q, _, _, rfl, rfl, by simp [hne], ?_, ?_⟩
          · refine set_ok (w := .p (.lst ((ps ++ qs.map fun q => (n : Int) :: q).map encp))) (d2_ok (y := .p (.lst ((qs.map encp).map fun x => match x with
              | .tup l => .tup (.int n :: l)
              | x => x))) (μ1 := []) (μ2 := []) rfl (lc_all (ds := qs.map encp) ?_ ?_ ?_) ?_)
            · exact i_of (dN_ok (a_cons (d2_ok (d2_ok rfl rfl (o_ixT atI_2)) rfl (o_ixT hix)) a_nil) (callN_p (ds := [enc as[n]]) rfl hF)) rfl
            · intro x hx
              obtain ⟨q, hq, rfl⟩ := List.mem_map.mp hx
              refine ⟨_, rfl, ?_⟩
              refine d2_ok (dN_ok (a_cons rfl a_nil) (o_tup (ds := [.int n]) rfl (le_sz (by simp)))) rfl ?_
              rw [o_catT]
              · rfl
              · rw [List.length_singleton, List.length_map]
                exact le_sz (by have := (hqq q hq).1; omega)
            · rw [List.length_map]
              exact le_sz (by omega)
            · rw [o_catL]
              · rw [List.map_append, List.map_map, List.map_map]
                rfl
              · rw [List.length_map, List.length_map, List.length_map]
                have e : sizeLine = 16777216 := by decide
                omega
          · rw [List.length_append, List.length_map, show 0 + i + 1 = (0 + i) + 1 from rfl, Nat.add_mul]
            omega
          · intro p hp
            rcases List.mem_append.mp hp with hp | hp
            · exact hpp p hp
            · obtain ⟨q, hq, rfl⟩ := List.mem_map.mp hp
              obtain ⟨hq1, x, hx⟩ := hqq q hq
              refine ⟨by rw [List.length_cons]; omega, x, ?_⟩
              unfold part
              rw [show argI (Ex.ap w f as) (n : Int) = some as[n] from argI_at (e := .ap w f as) hn]
              exact hx)
      refine ⟨ps, ⟨hne, ?_, hpp⟩, ?_⟩
      · rw [hlen, Nat.zero_add] at hpl
        have : as.length * cntP d ≤ 3 * cntP d := Nat.mul_le_mul_right _ hl
        simp only [cntP]
        omega
      · refine runF_p (μ := []) (μ1 := []) ((set_seq (w := .p (.lst [encp []])) (μ1 := []) rfl).trans ?_)
        refine (seq_nx ((if_t (ask_nm (d := d + 1) (.ap hw hf hl hg) rfl)).trans ((for_go (i_ofN (a_cons (dN_ok (a_cons (d2_ok rfl rfl (o_ixT atI_2)) a_nil) o_lenT) a_nil) ?_)).trans e1))).trans (ret_ok rfl)
        rw [encs_len]
        exact rng_n (by omega)
end Lk31

set_option Elab.async false
set_option linter.all false
set_option maxRecDepth 100000
set_option maxHeartbeats 4000000
namespace Lk31
open PySem L2 Q
theorem part_app : ∀ {p q : List Int} {e : Ex}, part e (p ++ q) = (part e p).bind fun x => part x q
  | [], q, e => rfl
  | i :: p, q, e => by
    show ((argI e i).bind fun a => part a (p ++ q)) = ((argI e i).bind fun a => part a p).bind fun x => part x q
    cases argI e i with
    | none => rfl
    | some a => exact part_app
theorem part_take {e y : Ex} {p : List Int} {n : Nat} (h : part e p = some y) : ∃ x, part e (p.take n) = some x := by
  rw [← List.take_append_drop n p, part_app] at h
  obtain ⟨x, hx, _⟩ := Option.bind_eq_some_iff.mp h
  exact ⟨x, hx⟩
theorem put_app {o : Ex} : ∀ {p q : List Int} {e x : Ex}, part e p = some x → put o x q = none → put o e (p ++ q) = none
  | [], q, e, x, h, g => by cases h; exact g
  | i :: p, q, e, x, h, g => by
    unfold part at h
    obtain ⟨a, h1, h2⟩ := Option.bind_eq_some_iff.mp h
    rw [List.cons_append]
    unfold put
    rw [h1, Option.bind_some, put_app h2 g]
    rfl
theorem put_ok {o : Ex} {m : Nat} (ho : Good m o) : ∀ {p : List Int} {e x : Ex} {d : Nat}, Good d e → part e p = some x → ∃ r, put o e p = some r ∧ part r p = some o ∧ Good (d + m) r
  | [], e, x, d, h, _ => ⟨o, rfl, rfl, ho.mono (by omega)⟩
  | i :: p, e, x, d, h, hp => by
    unfold part at hp
    obtain ⟨a, h1, h2⟩ := Option.bind_eq_some_iff.mp hp
    obtain ⟨n, rfl, hn, e4⟩ := argI_nat h1
    cases h with
    | nm h => simp [args] at hn
    | @ap d w f as hw hf hl hg =>
      have hn2 : n < as.length := hn
      obtain ⟨r, hr, hr2, hr3⟩ := put_ok ho (d := d) (hg a (argI_mem h1)) h2
      refine ⟨.ap w f (as.set n r), ?_, ?_, ?_⟩
      · unfold put
        rw [h1, Option.bind_some, hr]
        rfl
      · unfold part
        have : argI (.ap w f (as.set n r)) (n : Int) = some r := by
          rw [argI_at (e := .ap w f (as.set n r)) (n := n) (by simpa [args] using hn2)]
          simp [args]
        rw [this]
        exact hr2
      · rw [show d + 1 + m = (d + m) + 1 by omega]
        refine .ap hw hf (by rw [List.length_set]; exact hl) fun z hz => ?_
        rcases List.mem_or_eq_of_mem_set hz with hz | rfl
        · exact (hg z hz).mono (by omega)
        · exact hr3
theorem args_nm {x : Ex} (h : isNm x = true) : (args x).length = 0 := by
  cases x with
  | nm s => rfl
  | ap w f as => cases h
theorem argI_bad {x : Ex} {o : Int} (h : o < 0 ∨ ((args x).length : Int) ≤ o) : argI x o = none := by
  unfold argI
  split
  · rename_i h0
    exact List.getElem?_eq_none (by omega)
  · rfl
theorem e_bad {d : Nat} {e y : Ex} {p : List Int} {c : Int} (h : Good d e) (hp : part e p = some y) (hpl : p.length ≤ 100) : ∃ b : List Int, b.length ≤ p.length + 1 ∧ part e b = none ∧ (∀ o, put o e b = none) ∧ F__law_bad_spot [.p (enc e), .p (encp p), .p (.int c)] [] = some (.ok (.p (encp b)) []) := by
  have t0 : 0 ≤ c % ((p.length : Int) + 1) := Int.emod_nonneg _ (by omega)
  have t1 : c % ((p.length : Int) + 1) < (p.length : Int) + 1 := Int.emod_lt_of_pos _ (by omega)
  obtain ⟨t, ht⟩ := Int.eq_ofNat_of_zero_le t0
  rw [ht] at t1
  obtain ⟨x, hx⟩ := part_take (n := t) hp
  have hgx := part_good h hx
  obtain ⟨T, hT⟩ : ∃ T : Int, T = (10 : Int) ^ (40 : Int).toNat := ⟨_, rfl⟩
  have hT0 : 0 < T := by rw [hT]; decide
  have hpow : ∀ ρ μ, d2 wPow (dC (.int 10)) (dC (.int 40)) ρ μ = some (.ok (.p (.int T)) μ) := fun ρ μ => by
    rw [hT]
    exact d2_ok rfl rfl (o_pow (by omega) (by omega) (by decide))
  obtain ⟨a, ha, hmem⟩ := atI_int [D.int (args x).length, .int ((args x).length + 1 + c / 7 % T), .int (-1 - c / 7 % 3), .int (-1 - c / 7 % T)] (c / 50 % 4) (Int.emod_nonneg _ (by omega)) (Int.emod_lt_of_pos _ (by omega))
  have n1 := Int.emod_nonneg (c / 7) (show T ≠ 0 by omega)
  have n2 := Int.emod_nonneg (c / 7) (show (3 : Int) ≠ 0 by omega)
  obtain ⟨o, rfl, ho⟩ : ∃ o : Int, a = .int o ∧ (o < 0 ∨ ((args x).length : Int) ≤ o) := by
    simp only [List.mem_cons, List.not_mem_nil, or_false] at hmem
    rcases hmem with rfl | rfl | rfl | rfl
    · exact ⟨_, rfl, .inr (Int.le_refl _)⟩
    · exact ⟨_, rfl, .inr (by omega)⟩
    · exact ⟨_, rfl, .inl (by omega)⟩
    · exact ⟨_, rfl, .inl (by omega)⟩
  have hno := argI_bad ho
  refine ⟨p.take t ++ o :: p.drop (t + 1), ?_, ?_, fun z => ?_, ?_⟩
  · rw [List.length_append, List.length_cons, List.length_take, List.length_drop]
    omega
  · rw [part_app, hx, Option.bind_some]
    unfold part
    rw [hno]
    rfl
  · refine put_app hx ?_
    unfold put
    rw [hno]
    rfl
  · refine runF_p (μ := []) (μ1 := []) ?_
    refine (set_seq (w := .p (.int t)) (μ1 := []) (d2_ok rfl (d2_ok (dN_ok (a_cons rfl a_nil) o_lenT) rfl o_add) ?_)).trans ?_
    · rw [List.length_map, ← ht]
      exact o_mod (by omega)
    have ct := cut_to (p.map D.int) t
    have cf := cut_from (p.map D.int) (t + 1)
    rw [show ((t + 1 : Nat) : Int) = (t : Int) + 1 by omega] at cf
    rw [← List.map_take] at ct
    rw [← List.map_drop] at cf
    have s1 : ∀ {A B C E : Option W} {μ : Store}, dSl (dVar 1) oNone (oSome (dVar 3)) [A, some (.p (encp p)), B, some (.p (.int t)), C, E, none] μ = some (.ok (.p (encp (p.take t))) μ) := fun {A B C E μ} => by
      refine sl_ok rfl o_none (o_some rfl) ?_
      rw [o_slT, ct]
    refine (set_seq (w := .p (enc x)) (μ1 := []) (dN_ok (a_cons rfl (a_cons s1 a_nil)) (callN_p (ds := [enc e, encp (p.take t)]) rfl (e_there h hx)))).trans ?_
    refine (set_seq (w := .p (.int 0)) (μ1 := []) rfl).trans ?_
    have many : dIf (cBl (d2 (wEq true) (d2 wIx (dVar 4) (dC (.int 0))) (dC (.str "name")))) (dSet 5 (dN wLen (aCons (d2 wIx (dVar 4) (dC (.int 2))) aNil))) dSkip [some (.p (enc e)), some (.p (encp p)), some (.p (.int c)), some (.p (.int t)), some (.p (enc x)), some (.p (.int 0)), none] [] =
        some (.nx [some (.p (enc e)), some (.p (encp p)), some (.p (.int c)), some (.p (.int t)), some (.p (enc x)), some (.p (.int ((args x).length : Nat))), none] []) := by
      cases x with
      | nm s => exact (if_f (ask_nm hgx rfl)).trans rfl
      | ap w f as =>
        refine (if_t (ask_nm hgx rfl)).trans (set_ok (dN_ok (a_cons (d2_ok rfl rfl (o_ixT atI_2)) a_nil) ?_))
        rw [o_lenT, encs_len]
        rfl
    refine (seq_nx many).trans ?_
    refine (set_seq (w := .p (.int o)) (μ1 := []) (d2_ok (dN_ok (a_cons rfl (a_cons (d2_ok (d2_ok rfl rfl o_add) (d2_ok (d2_ok rfl rfl (o_fdv (by omega) (by omega))) (hpow _ _) (o_mod hT0)) o_add) (a_cons (d2_ok (d1_ok rfl o_neg) (d2_ok (d2_ok rfl rfl (o_fdv (by omega) (by omega))) rfl (o_mod (by omega))) o_sub) (a_cons (d2_ok (d1_ok rfl o_neg) (d2_ok (d2_ok rfl rfl (o_fdv (by omega) (by omega))) (hpow _ _) (o_mod hT0)) o_sub) a_nil)))) rfl) (d2_ok (d2_ok rfl rfl (o_fdv (by omega) (by omega))) rfl (o_mod (by omega))) (o_ixL ha))).trans ?_
    refine ret_ok ?_
    have l1 : (p.take t).length ≤ 100 := by rw [List.length_take]; omega
    refine d2_ok (d2_ok (sl_ok rfl o_none (o_some rfl) o_slT) (dN_ok (a_cons rfl a_nil) (o_tup (ds := [.int o]) rfl (le_sz (by simp)))) (o_catT ?_)) (sl_ok rfl (o_some (d2_ok rfl rfl o_add)) o_none o_slT) ?_
    · rw [ct, List.length_map, List.length_singleton]
      exact le_sz (by omega)
    · rw [ct, cf, o_catT]
      · have hj : (p.take t ++ o :: p.drop (t + 1)).map D.int = (p.take t).map D.int ++ [.int o] ++ (p.drop (t + 1)).map D.int := by simp
        show _ = some (ER.ok (W.p (D.tup ((p.take t ++ o :: p.drop (t + 1)).map D.int))) [])
        rw [hj]
      · rw [List.length_append, List.length_map, List.length_map, List.length_singleton, List.length_drop]
        exact le_sz (by omega)
theorem e_which : F__law_which [.p (.exc "NoPlace")] [] = some (.ok (.p (.int 11)) []) := by
  rfl
theorem e_refused {d : Nat} {e o : Ex} {b : List Int} {w : Int} (h : Good d e) (hb : b.length ≤ 11) (h1 : part e b = none) (h2 : put o e b = none) : F__law_refused [.p (.int w), .p (enc e), .p (encp b), .p (enc o)] [] = some (.ok (.p (.bl true)) []) := by
  have a1 := e_part h b
  have a2 := e_put (o := o) b 11 e hb h
  rw [h1] at a1
  rw [h2] at a2
  refine runF_p (μ := []) (μ1 := []) ((set_seq (w := .p .non) (μ1 := []) rfl).trans ?_)
  refine (seq_nx (ρ1 := [some (.p (.int w)), some (.p (enc e)), some (.p (encp b)), some (.p (enc o)), some (.p (.exc "NoPlace")), none]) (μ1 := []) ?_).trans (ret_ok (d2_ok (dN_ok (a_cons rfl a_nil) (callN_p (ds := [.exc "NoPlace"]) rfl e_which)) rfl o_eqI))
  have z : ∀ (c : Q.Env → M Bool) (k : Bool), c [some (.p (.int w)), some (.p (enc e)), some (.p (encp b)), some (.p (enc o)), some (.p .non), none] [] = some (.ok k []) → dIf c (dExpr (dN (callN 2 F_part_at) (aCons (dVar 1) (aCons (dVar 2) aNil)))) (dExpr (dN (callN 3 (F_put_at 12)) (aCons (dVar 1) (aCons (dVar 2) (aCons (dVar 3) aNil))))) [some (.p (.int w)), some (.p (enc e)), some (.p (encp b)), some (.p (enc o)), some (.p .non), none] [] = some (.ex "NoPlace" [some (.p (.int w)), some (.p (enc e)), some (.p (encp b)), some (.p (enc o)), some (.p .non), none] []) := by
    intro c k hc
    cases k with
    | true => exact (if_t hc).trans (expr_x (dN_ok (a_cons rfl (a_cons rfl a_nil)) (callN_x (ds := [enc e, encp b]) rfl a1)))
    | false => exact (if_f hc).trans (expr_x (dN_ok (a_cons rfl (a_cons rfl (a_cons rfl a_nil))) (callN_x (ds := [enc e, encp b, enc o]) rfl a2)))
  have z1 := z (cBl (d2 (wEq false) (dVar 0) (dC (.int 0)))) _ (c_bl (d2_ok rfl rfl o_eqI))
  show dTryKeep 5 4 [("NoPlace", true)] (dIf (cBl (d2 (wEq false) (dVar 0) (dC (.int 0)))) (dExpr (dN (callN 2 F_part_at) (aCons (dVar 1) (aCons (dVar 2) aNil)))) (dExpr (dN (callN 3 (F_put_at 12)) (aCons (dVar 1) (aCons (dVar 2) (aCons (dVar 3) aNil)))))) [some (.p (.int w)), some (.p (enc e)), some (.p (encp b)), some (.p (enc o)), some (.p .non), none] [] = _
  unfold dTryKeep
  rw [z1]
  rfl
end Lk31

set_option Elab.async false
set_option linter.all false
set_option maxRecDepth 100000
set_option maxHeartbeats 4000000
namespace Lk31
open PySem L2 Q
abbrev lEnv (ns : List Int) (nl : List Str) (e o : Ex) (ps : List (List Int)) (st : Int) (a b c d f : Option W) : Q.Env :=
  [some (.p (.scr (ns.map .int))), some (.p (.lst (nl.map .str))), some (.p (enc e)), some (.p (enc o)), some (.p (.lst (ps.map encp))), some (.p (.int st)), a, b, c, d, f]
abbrev lBody : DS :=
    (dSeq (dSet 7 (d2 wIx (dVar 4) (d2 wMod (d2 wAdd (dVar 5) (dVar 6)) (dN wLen (aCons (dVar 4) aNil)))))
    (dSeq (dSet 8 (dN (callN 2 F_part_at) (aCons (dVar 2) (aCons (dVar 7) aNil))))
    (dSeq (dIf (cOr (cNot (cTru (dN (callN 1 (F__law_shape 12)) (aCons (dVar 8) aNil)))) (cBl (d2 (wEq true) (dVar 8) (dN (callN 2 F__law_there) (aCons (dVar 2) (aCons (dVar 7) aNil))))))
    (dRet (dC (.bl false)))
    dSkip)
    (dSeq (dSet 9 (dN (callN 3 (F_put_at 12)) (aCons (dVar 2) (aCons (dVar 7) (aCons (dVar 3) aNil)))))
    (dSeq (dIf (cOr (cNot (cTru (dN (callN 1 (F__law_shape 12)) (aCons (dVar 9) aNil)))) (cOr (cBl (d2 (wEq true) (dVar 9) (dN (callN 3 (F__law_put 12)) (aCons (dVar 2) (aCons (dVar 7) (aCons (dVar 3) aNil)))))) (cBl (d2 (wEq true) (dN (callN 2 F_part_at) (aCons (dVar 9) (aCons (dVar 7) aNil))) (dVar 3)))))
    (dRet (dC (.bl false)))
    dSkip)
    (dSeq (dSet 10 (dN (callN 3 F__law_bad_spot) (aCons (dVar 2) (aCons (dVar 7) (aCons (d2 wFdv (dN (callN 3 F__law_mixed) (aCons (dVar 0) (aCons (d2 wMod (dVar 6) (dC (.int 4))) (aCons (dC (.int 4)) aNil)))) (d2 wAdd (dVar 6) (dC (.int 3)))) aNil)))))
    (dIf (cOr (cNot (cTru (dN (callN 4 F__law_refused) (aCons (dC (.int 0)) (aCons (dVar 2) (aCons (dVar 10) (aCons (dVar 3) aNil))))))) (cNot (cTru (dN (callN 4 F__law_refused) (aCons (dC (.int 1)) (aCons (dVar 2) (aCons (dVar 10) (aCons (dVar 3) aNil))))))))
    (dRet (dC (.bl false)))
    dSkip)))))))
theorem turn {ns : List Int} {nl : List Str} {e o : Ex} {ps : List (List Int)} {st : Int} {μ : Store} {n : Nat} {b c d f : Option W} (hns : ns.length ≤ 63) (hb : ∀ z ∈ ns, Bd 1048576 z) (he : Good 4 e) (ho : Good 2 o) (hp : Places e 4 121 ps) (hn : n < 20) :
    ∃ b' c' d' f', lBody (lEnv ns nl e o ps st (some (.p (.int n))) b c d f) μ = some (.nx (lEnv ns nl e o ps st (some (.p (.int n))) b' c' d' f') μ) := by
  obtain ⟨hne, hpl, hpp⟩ := hp
  have h0 : 0 < ps.length := List.length_pos_iff.mpr hne
  obtain ⟨a, ha, hm⟩ := atI_int (ps.map encp) ((st + (n : Int)) % ((ps.map encp).length : Nat)) (Int.emod_nonneg _ (by rw [List.length_map]; omega)) (Int.emod_lt_of_pos _ (by rw [List.length_map]; omega))
  obtain ⟨p, hpm, rfl⟩ := List.mem_map.mp hm
  obtain ⟨hp4, x, hx⟩ := hpp p hpm
  have gx := part_good he hx
  have f1 := e_part he p
  rw [hx] at f1
  obtain ⟨r, hr, hr2, gr⟩ := put_ok ho he hx
  have f2 := e_put (o := o) p 11 e (by omega) he
  rw [hr] at f2
  have f3 := e_lput (o := o) p 11 e r (by omega) he hr
  have f4 := e_part gr p
  rw [hr2] at f4
  obtain ⟨m, hm0, _, f5⟩ := e_mixed (ns := ns) (a := n % 4) (m := 4) hns hb (by omega) (by omega) (by omega)
  obtain ⟨bd, hbl, hb1, hb2, f6⟩ := e_bad (c := m / ((n : Int) + 3)) he hx (by omega)
  have s1 := e_shape 11 4 x (by omega) gx
  have s2 := e_shape 11 (4 + 2) r (by omega) gr
  have f7 := fun w => e_refused (w := w) (o := o) he (b := bd) (by omega) hb1 (hb2 o)
  have cm : (n : Int) % 4 = ((n % 4 : Nat) : Int) := by omega
  refine ⟨some (.p (encp p)), some (.p (enc x)), some (.p (enc r)), some (.p (encp bd)), ?_⟩
  refine (set_seq (w := .p (encp p)) (μ1 := μ) (d2_ok rfl (d2_ok (d2_ok rfl rfl o_add) (dN_ok (a_cons rfl a_nil) o_lenL) (o_mod (by rw [List.length_map]; omega))) (o_ixL ha))).trans ?_
  refine (set_seq (w := .p (enc x)) (μ1 := μ) (dN_ok (a_cons rfl (a_cons rfl a_nil)) (callN_p (ds := [enc e, encp p]) rfl f1))).trans ?_
  refine (if_skip (μ1 := μ) ((c_or_f (c_not (c_tru (dN_ok (a_cons rfl a_nil) (callN_p (ds := [enc x]) rfl s1)) rfl))).trans (c_bl (d2_ok rfl (dN_ok (a_cons rfl (a_cons rfl a_nil)) (callN_p (ds := [enc e, encp p]) rfl (e_there he hx))) (eq_same (pd_ex gx) (by omega)))))).trans ?_
  refine (set_seq (w := .p (enc r)) (μ1 := μ) (dN_ok (a_cons rfl (a_cons rfl (a_cons rfl a_nil))) (callN_p (ds := [enc e, encp p, enc o]) rfl f2))).trans ?_
  refine (if_skip (μ1 := μ) ((c_or_f (c_not (c_tru (dN_ok (a_cons rfl a_nil) (callN_p (ds := [enc r]) rfl s2)) rfl))).trans ((c_or_f (c_bl (d2_ok rfl (dN_ok (a_cons rfl (a_cons rfl (a_cons rfl a_nil))) (callN_p (ds := [enc e, encp p, enc o]) rfl f3)) (eq_same (pd_ex gr) (by omega))))).trans (c_bl (d2_ok (dN_ok (a_cons rfl (a_cons rfl a_nil)) (callN_p (ds := [enc r, encp p]) rfl f4)) rfl (eq_same (pd_ex ho) (by omega))))))).trans ?_
  refine (set_seq (w := .p (encp bd)) (μ1 := μ) (dN_ok (a_cons rfl (a_cons rfl (a_cons (d2_ok (dN_ok (a_cons rfl (a_cons (d2_ok rfl rfl (cm ▸ o_mod (by omega))) (a_cons rfl a_nil))) (callN_p (ds := [.scr (ns.map .int), .int ((n % 4 : Nat) : Int), .int 4]) rfl f5)) (d2_ok rfl rfl o_add) (o_fdv (by omega) (by omega))) a_nil))) (callN_p (ds := [enc e, encp p, .int (m / ((n : Int) + 3))]) rfl f6))).trans ?_
  exact (if_f (μ1 := μ) ((c_or_f (c_not (c_tru (dN_ok (a_cons rfl (a_cons rfl (a_cons rfl (a_cons rfl a_nil)))) (callN_p (ds := [.int 0, enc e, encp bd, enc o]) rfl (f7 0))) rfl))).trans (c_not (c_tru (dN_ok (a_cons rfl (a_cons rfl (a_cons rfl (a_cons rfl a_nil)))) (callN_p (ds := [.int 1, enc e, encp bd, enc o]) rfl (f7 1))) rfl)))).trans rfl
theorem cell_bd {ns : List Int} (hb : ∀ z ∈ ns, Bd 1048576 z) (k : Nat) : Bd 1048576 (ns.getD k 0) := by
  by_cases h : k < ns.length
  · rw [show ns.getD k 0 = ns[k] by simp [List.getD, h]]
    exact hb _ (List.getElem_mem _)
  · rw [show ns.getD k 0 = 0 by simp [List.getD, h]]
    exact Nat.two_pow_pos _
theorem answers (ns : List Int) (hns : ns.length ≤ 63) (hbits : ∀ z ∈ ns, Builtin.Int.intBits z ≤ 1048576) : F_law [.p (.scr (ns.map D.int))] [] = some (.ok (.p (.bl true)) []) := by
  have hb : ∀ z ∈ ns, Bd 1048576 z := fun z hz => bd_of (hbits z hz)
  obtain ⟨nl, hl5, hN, fN⟩ := e_names (cell_bd hb 0)
  obtain ⟨l1, hl1, hD1, fD1⟩ := e_digits (a := 1) (m := 3) hns hb (by omega) (by omega) (by omega)
  obtain ⟨l2, hl2, hD2, fD2⟩ := e_digits (a := 2) (m := 3) hns hb (by omega) (by omega) (by omega)
  obtain ⟨e, l1', ge, _, _, fE⟩ := e_wild hl5 hN 4 11 l1 (by omega) hD1 (by rw [hl1]; decide)
  obtain ⟨o, l2', go, _, _, fO⟩ := e_wild hl5 hN 2 11 l2 (by omega) hD2 (by rw [hl2]; decide)
  obtain ⟨ps, hps, fS⟩ := e_spots 11 4 e (by omega) (by omega) (by decide) ge
  have h0 : 0 < ps.length := List.length_pos_iff.mpr hps.1
  let st : Int := ns.getD 1 0 % ((ps.map encp).length : Nat)
  obtain ⟨mn, hmn, hm20⟩ : ∃ mn : Nat, (if (((ps.map encp).length : Nat) : Int) < 20 then (((ps.map encp).length : Nat) : Int) else 20) = mn ∧ mn ≤ 20 := by
    split
    · exact ⟨_, rfl, by omega⟩
    · exact ⟨20, rfl, by omega⟩
  have hul : (upto 0 1 mn).length = mn := by simp [upto]
  obtain ⟨ρ', μ', e1, k, b, c, d, f, rfl, rfl⟩ := loop_inv (g := gNm 6) (body := lBody)
    (I := fun n ρ μ => ∃ k b c d f, ρ = lEnv ns nl e o ps st k b c d f ∧ μ = [.lst (l1'.map .int), .lst (l2'.map .int)])
    (ds := upto 0 1 mn) (n := 0) (ρ := lEnv ns nl e o ps st none none none none none) (μ := [.lst (l1'.map .int), .lst (l2'.map .int)]) ⟨_, _, _, _, _, rfl, rfl⟩ (by
      rintro i y ρ μ hi ⟨k, b, c, d, f, rfl, rfl⟩
      obtain ⟨n, rfl, hn⟩ := up_mem (List.mem_of_getElem? hi)
      obtain ⟨b', c', d', f', ht⟩ := turn (nl := nl) (st := st) (μ := [.lst (l1'.map .int), .lst (l2'.map .int)]) (n := n) (b := b) (c := c) (d := d) (f := f) hns hb ge go hps (by omega)
      exact ⟨_, _, _, _, rfl, ht, _, _, _, _, _, rfl, rfl⟩)
  refine runF_p (μ := []) (μ1 := [.lst (l1'.map .int), .lst (l2'.map .int)]) ?_
  refine (set_seq (w := .p (.lst (nl.map .str))) (μ1 := []) (dN_ok (a_cons (dN_ok (a_cons rfl (a_cons rfl a_nil)) (callN_p (ds := [.scr (ns.map .int), .int (0 : Nat)]) rfl (e_cell ns 0))) (a_cons rfl a_nil)) (callN_p (ds := [.int (ns.getD 0 0), .int 5]) rfl fN))).trans ?_
  refine (set_seq (w := .p (enc e)) (μ1 := [.lst (l1'.map .int)]) (dN_ok (a_cons rfl (a_cons (dN_ok (a_cons rfl (a_cons rfl (a_cons rfl a_nil))) (callN_pO (ds := [.scr (ns.map .int), .int (1 : Nat), .int (3 : Nat)]) rfl rfl fD1)) (a_cons rfl a_nil))) (callN_o3 (j := 0) (b := .int (4 : Nat)) rfl fE))).trans ?_
  refine (set_seq (w := .p (enc o)) (μ1 := [.lst (l1'.map .int), .lst (l2'.map .int)]) (dN_ok (a_cons rfl (a_cons (dN_ok (a_cons rfl (a_cons rfl (a_cons rfl a_nil))) (callN_pO (ds := [.scr (ns.map .int), .int (2 : Nat), .int (3 : Nat)]) rfl rfl fD2)) (a_cons rfl a_nil))) (callN_o3 (j := 1) (b := .int (2 : Nat)) rfl fO))).trans ?_
  refine (set_seq (w := .p (.lst (ps.map encp))) (μ1 := [.lst (l1'.map .int), .lst (l2'.map .int)]) (dN_ok (a_cons rfl a_nil) (callN_p (ds := [enc e]) rfl fS))).trans ?_
  refine (set_seq (w := .p (.int st)) (μ1 := [.lst (l1'.map .int), .lst (l2'.map .int)]) (d2_ok (dN_ok (a_cons rfl (a_cons rfl a_nil)) (callN_p (ds := [.scr (ns.map .int), .int (1 : Nat)]) rfl (e_cell ns 1))) (dN_ok (a_cons rfl a_nil) o_lenL) (o_mod (by rw [List.length_map]; omega)))).trans ?_
  refine (seq_nx ((for_go (ds := upto 0 1 mn) (μ1 := [.lst (l1'.map .int), .lst (l2'.map .int)]) (i_ofN (a_cons (dN_ok (a_cons rfl (a_cons (dN_ok (a_cons rfl a_nil) o_lenL) a_nil)) ?_) a_nil) (rng_n (n := mn) (by omega)))).trans e1)).trans (ret_ok rfl)
  show some (ER.ok (W.p (D.int (if (((ps.map encp).length : Nat) : Int) < 20 then (((ps.map encp).length : Nat) : Int) else 20))) _) = _
  rw [hmn]
end Lk31
theorem PySem.Challenge.cw_stairsay_k31_places_holds : PySem.Challenge.rw_stairsay_k31_places.Holds := by
  exact Lk31.close Lk31.answers
