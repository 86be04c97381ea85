import PyProof.Rows.All
import Wide.All
import OpenK.AllK
import Wide.FinOn
import HandS.ForMost
import HandS.ForExc
import HandS.ExcValue
import HandS.TupAny
import HandS.Wide
import HandS.WideBits
import HandS.Flow
import HandS.Deep
import HandS.IsInst
import HandS.More
import HandS.Rev
import HandS.Zip
import HandS.RevTup
import HandS.ExcIs
import HandS.TryOnly
import HandS.Head2
import HandS.HeadEnd
import HandS.HeadHook2
import HandS.EndBits
import HandS.Dict
import PyProof.AutoSeq1
import HandS.DictComp
import HandS.ListItems
import KE.KDictCopyH
import HandS.NamedTupSort
import HandS.SortRule
import KE.KStateDown
import PySem.Challenge.RW_stairsay_k32_put_ins
set_option Elab.async false
set_option linter.all false
set_option maxRecDepth 100000
/-! V1: values as data trees, roots that own what they point to, the state of a def. -/
namespace V
open PySem L2

inductive D where
  | non | bl (b : Bool) | int (i : Int) | str (s : Str)
  | tup (l : List D) | lst (l : List D) | scr (l : List D) | dk (ks : List Key) (l : List D) | dt (ks : List (List Key)) (l : List D) | obj (C : Str) (fs : List Str) (l : List D) | exc (n : Str)
/-- a field of an own object -/
inductive FT where
  | sh (d : D) | ow (d : D) | lo (d : D)
/-- what a name holds: nothing known, shared data, an own list or dict, a lent one, an own object, a lent one -/
inductive T where
  | no | sh (d : D) | ow (d : D) | lo (d : D) | ob (C : Str) (fs : List (Str × FT)) | lb (C : Str) (fs : List (Str × FT))
structure Rt where
  v : Option V
  t : T
  k : List Addr
  e : List Addr
abbrev Env := List T

def ExQ (cls : Value) (a : Addr) : HO := .ext fun h => ∃ (oe : Obj) (vs : Array Value), h.get? a = some oe ∧ L2.Zc cls none oe ∧ oe.data = .fields vs
/-- the class that a name of the module stands for -/
def cnOf (mg : Str → Option Value) (n : Str) : Option Addr := match mg n with
  | some (.ref a) => some a
  | _ => none
def isDict : HO → Bool
  | .dK _ => true
  | .dT _ => true
  | _ => false
/-- what stands at a, perhaps locked by a walk -/
def At (H : Hp) (a : Addr) (o : HO) : Prop := H a = some o ∨ (isDict o = true ∧ ∃ ob, H a = some (.frz ob o))
def Le (M H : Hp) : Prop := ∀ a o, M a = some o → At H a o

section
variable (K : PySem.W.Frag) (mg : Str → Option Value)
def KLst (a : Addr) (vs : List V) : Prop := ∃ (o : Obj) (its : Array Value) (n : Nat), K.lookup a = some o ∧ o.cls = .type "list" ∧ o.dict = none ∧ o.data = .seq its n ∧ its.size ≤ sizeLine ∧ Vals vs its.toList
mutual
inductive Rep (H : Hp) : V → D → Prop
  | non : Rep H .non .non
  | bl (b : Bool) : Rep H (.bl b) (.bl b)
  | int (i : Int) : Rep H (.int i) (.int i)
  | str (s : Str) : Rep H (.str s) (.str s)
  | tup {a : Addr} {vs : List V} {ds : List D} : H a = some (.tup vs) → Reps H vs ds → Rep H (.ref a) (.tup ds)
  | lst {a : Addr} {vs : List V} {ds : List D} : H a = some (.lst vs) → Reps H vs ds → Rep H (.ref a) (.lst ds)
  | scr {a : Addr} {vs : List V} {ds : List D} : ((∃ o, H a = some (.frz o (.lst vs))) ∨ KLst K a vs) → Reps H vs ds → Rep H (.ref a) (.scr ds)
  | exc {a c : Addr} {n : Str} : cnOf mg n = some c → H a = some (ExQ (.ref c) a) → Rep H (.ref a) (.exc n)
  | dk {a : Addr} {kvs : List (Key × V)} {ks : List Key} {ds : List D} : At H a (.dK kvs) → kvs.map (·.1) = ks → Reps H (kvs.map (·.2)) ds → Rep H (.ref a) (.dk ks ds)
  | dt {a : Addr} {kvs : List (List Key × V)} {ks : List (List Key)} {ds : List D} : At H a (.dT kvs) → kvs.map (·.1) = ks → Reps H (kvs.map (·.2)) ds → Rep H (.ref a) (.dt ks ds)
  | obj {a c dx : Addr} {C : Str} {fvs : List (Str × V)} {fs : List Str} {ds : List D} : cnOf mg C = some c → H a = some (.ins c dx fvs) → fvs.map (·.1) = fs → Reps H (fvs.map (·.2)) ds → Rep H (.ref a) (.obj C fs ds)
inductive Reps (H : Hp) : List V → List D → Prop
  | nil : Reps H [] []
  | cons {v : V} {vs : List V} {d : D} {ds : List D} : Rep H v d → Reps H vs ds → Reps H (v :: vs) (d :: ds)
end
/-- the content of an own list or dict -/
inductive Cel (M : Hp) : HO → D → Prop
  | lst {vs : List V} {ds : List D} : Reps K mg M vs ds → Cel M (.lst vs) (.lst ds)
  | dk {kvs : List (Key × V)} {ks : List Key} {ds : List D} : kvs.map (·.1) = ks → Reps K mg M (kvs.map (·.2)) ds → Cel M (.dK kvs) (.dk ks ds)
  | dt {kvs : List (List Key × V)} {ks : List (List Key)} {ds : List D} : kvs.map (·.1) = ks → Reps K mg M (kvs.map (·.2)) ds → Cel M (.dT kvs) (.dt ks ds)
inductive Flds (M H : Hp) : List (Str × V) → List (Str × FT) → List Addr → List Addr → Prop
  | nil : Flds M H [] [] [] []
  | sh {f : Str} {v : V} {d : D} {fvs : List (Str × V)} {fs : List (Str × FT)} {k e : List Addr} : Rep K mg M v d → Flds M H fvs fs k e → Flds M H ((f, v) :: fvs) ((f, .sh d) :: fs) k e
  | ow {f : Str} {a : Addr} {o : HO} {d : D} {fvs : List (Str × V)} {fs : List (Str × FT)} {k e : List Addr} : H a = some o → Cel K mg M o d → M a = none → Flds M H fvs fs k e → Flds M H ((f, .ref a) :: fvs) ((f, .ow d) :: fs) (a :: k) e
  | lo {f : Str} {a : Addr} {o : HO} {d : D} {fvs : List (Str × V)} {fs : List (Str × FT)} {k e : List Addr} : At H a o → Cel K mg M o d → Flds M H fvs fs k e → Flds M H ((f, .ref a) :: fvs) ((f, .lo d) :: fs) k (a :: e)
inductive Rok (M H : Hp) : Rt → Prop
  | no (o : Option V) : Rok M H ⟨o, .no, [], []⟩
  | sh {v : V} {d : D} : Rep K mg M v d → Rok M H ⟨some v, .sh d, [], []⟩
  | ow {a : Addr} {o : HO} {d : D} : H a = some o → Cel K mg M o d → M a = none → Rok M H ⟨some (.ref a), .ow d, [a], []⟩
  | lo {a : Addr} {o : HO} {d : D} : At H a o → Cel K mg M o d → Rok M H ⟨some (.ref a), .lo d, [], [a]⟩
  | ob {a c dx : Addr} {C : Str} {fvs : List (Str × V)} {fs : List (Str × FT)} {k e : List Addr} : cnOf mg C = some c → H a = some (.ins c dx fvs) → M a = none → Flds K mg M H fvs fs k e → (a :: k).Nodup → (∀ x ∈ a :: k, x ∉ e) → Rok M H ⟨some (.ref a), .ob C fs, a :: k, e⟩
  | lb {a c dx : Addr} {C : Str} {fvs : List (Str × V)} {fs : List (Str × FT)} {k e : List Addr} : cnOf mg C = some c → H a = some (.ins c dx fvs) → Flds K mg M H fvs fs k e → Rok M H ⟨some (.ref a), .lb C fs, [], a :: (k ++ e)⟩
end
structure Sep (r s : Rt) : Prop where
  kk : ∀ a ∈ r.k, a ∉ s.k
  ke : ∀ a ∈ r.k, a ∉ s.e
  ek : ∀ a ∈ s.k, a ∉ r.e
theorem Sep.symm {r s : Rt} (h : Sep r s) : Sep s r := ⟨fun a x y => h.kk a y x, h.ek, h.ke⟩
/-- the state: what is visible to all (M), the heap (H), the roots -/
structure S (K : PySem.W.Frag) (mg : Str → Option Value) (M H : Hp) (L : List Rt) : Prop where
  le : Le M H
  ok : ∀ r ∈ L, Rok K mg M H r
  sp : L.Pairwise Sep
def Xs (L : List Rt) (a : Addr) : Prop := ∃ r ∈ L, a ∈ r.k
def Ys (L : List Rt) (a : Addr) : Prop := ∃ r ∈ L, a ∈ r.e
structure Up (M H : Hp) (L : List Rt) (M' H' : Hp) (L' : List Rt) : Prop where
  mm : ∀ a o, M a = some o → M' a = some o
  hm : ∀ a o, H a = some o → ¬ Xs L a → H' a = some o
  hd : ∀ a, H' a = none → H a = none
  xs : ∀ a, Xs L' a → Xs L a ∨ H a = none
  ys : ∀ a, Ys L' a → Ys L a
  ms : ∀ a o, M' a = some o → M a = some o ∨ Xs L a ∨ H a = none

section
variable {K : PySem.W.Frag} {mg : Str → Option Value} {M M' M2 H H' H2 : Hp} {L L' L2 : List Rt} {r s : Rt}
theorem Up.refl : Up M H L M H L := ⟨fun _ _ h => h, fun _ _ h _ => h, fun _ h => h, fun _ h => .inl h, fun _ h => h, fun _ _ h => .inl h⟩
theorem Up.trans (a : Up M H L M' H' L') (b : Up M' H' L' M2 H2 L2) : Up M H L M2 H2 L2 where
  mm := fun x o h => b.mm x o (a.mm x o h)
  hm := fun x o h n => b.hm x o (a.hm x o h n) fun z => (a.xs x z).elim n fun e => by rw [h] at e; cases e
  hd := fun x h => a.hd x (b.hd x h)
  xs := fun x h => (b.xs x h).elim (a.xs x) fun e => .inr (a.hd x e)
  ys := fun x h => a.ys x (b.ys x h)
  ms := fun x o h => by
    rcases b.ms x o h with h | h | h
    · exact a.ms x o h
    · exact .inr (a.xs x h)
    · exact .inr (.inr (a.hd x h))
theorem At.of {a : Addr} {o : HO} (h : H a = some o) : At H a o := .inl h
theorem At.rd {a : Addr} {o : HO} (h : At H a o) : Rd H a o := h.elim .inl fun h => .inr h.2
theorem At.has {a : Addr} {o : HO} (h : At H a o) : H a ≠ none := by
  rcases h with h | ⟨_, ob, h⟩ <;> rw [h] <;> simp
theorem Le.refl : Le H H := fun _ _ h => .inl h
theorem Le.ex {a : Addr} {o : HO} (l : Le M H) (h : M a = some o) (d : isDict o = false) : H a = some o := (l a o h).elim id fun q => by rw [d] at q; exact absurd q.1 (by simp)
theorem Le.at {a : Addr} {o : HO} (l : Le M H) (h : At M a o) : At H a o := by
  rcases h with h | ⟨d, ob, h⟩
  · exact l a o h
  · exact .inr ⟨d, ob, l.ex h rfl⟩
theorem Le.has {a : Addr} {o : HO} (l : Le M H) (h : M a = some o) : H a ≠ none := (l a o h).has
mutual
theorem Rep.le (e : Le M H) : ∀ {v : V} {d : D}, Rep K mg M v d → Rep K mg H v d
  | _, _, .non => .non
  | _, _, .bl b => .bl b
  | _, _, .int i => .int i
  | _, _, .str s => .str s
  | _, _, .tup h r => .tup (e.ex h rfl) (Reps.le e r)
  | _, _, .lst h r => .lst (e.ex h rfl) (Reps.le e r)
  | _, _, .scr (.inl ⟨o, h⟩) r => .scr (.inl ⟨o, e.ex h rfl⟩) (Reps.le e r)
  | _, _, .scr (.inr h) r => .scr (.inr h) (Reps.le e r)
  | _, _, .exc c h => .exc c (e.ex h rfl)
  | _, _, .dk h q r => .dk (e.at h) q (Reps.le e r)
  | _, _, .dt h q r => .dt (e.at h) q (Reps.le e r)
  | _, _, .obj c h q r => .obj c (e.ex h rfl) q (Reps.le e r)
theorem Reps.le (e : Le M H) : ∀ {vs : List V} {ds : List D}, Reps K mg M vs ds → Reps K mg H vs ds
  | _, _, .nil => .nil
  | _, _, .cons a b => .cons (Rep.le e a) (Reps.le e b)
end
theorem le_mm (h : ∀ a o, M a = some o → M' a = some o) : Le M M' := fun a o e => .inl (h a o e)
theorem Rep.up {v : V} {d : D} (u : Up M H L M' H' L') (r : Rep K mg M v d) : Rep K mg M' v d := r.le (le_mm u.mm)
theorem Reps.up {v : List V} {d : List D} (u : Up M H L M' H' L') (r : Reps K mg M v d) : Reps K mg M' v d := r.le (le_mm u.mm)
theorem Cel.le {o : HO} {d : D} (e : Le M M') : Cel K mg M o d → Cel K mg M' o d
  | .lst r => .lst (r.le e)
  | .dk q r => .dk q (r.le e)
  | .dt q r => .dt q (r.le e)
theorem Reps.length : ∀ {vs : List V} {ds : List D}, Reps K mg M vs ds → vs.length = ds.length
  | _, _, .nil => rfl
  | _, _, .cons _ b => congrArg (· + 1) b.length
theorem Reps.get : ∀ {vs : List V} {ds : List D} {i : Nat} {d : D}, Reps K mg M vs ds → ds[i]? = some d → ∃ v, vs[i]? = some v ∧ Rep K mg M v d
  | _, _, _, _, .nil, e => by simp at e
  | _, _, 0, _, .cons r _, e => by simp at e; subst e; exact ⟨_, rfl, r⟩
  | _, _, i + 1, d, .cons _ t, e => by
    obtain ⟨u, h1, h2⟩ := Reps.get (i := i) (d := d) t (by simpa using e)
    exact ⟨u, by simpa using h1, h2⟩
theorem Reps.append : ∀ {vs us : List V} {ds es : List D}, Reps K mg M vs ds → Reps K mg M us es → Reps K mg M (vs ++ us) (ds ++ es)
  | _, _, _, _, .nil, s => s
  | _, _, _, _, .cons r t, s => .cons r (Reps.append t s)
theorem Reps.take : ∀ {vs : List V} {ds : List D} (n : Nat), Reps K mg M vs ds → Reps K mg M (vs.take n) (ds.take n)
  | _, _, 0, _ => .nil
  | _, _, _ + 1, .nil => .nil
  | _, _, n + 1, .cons r t => .cons r (Reps.take n t)
theorem Reps.drop : ∀ {vs : List V} {ds : List D} (n : Nat), Reps K mg M vs ds → Reps K mg M (vs.drop n) (ds.drop n)
  | _, _, 0, r => r
  | _, _, _ + 1, .nil => .nil
  | _, _, n + 1, .cons _ t => Reps.drop n t
theorem Reps.set {x : V} {d : D} (r : Rep K mg M x d) : ∀ {vs : List V} {ds : List D} (i : Nat), Reps K mg M vs ds → Reps K mg M (vs.set i x) (ds.set i d)
  | _, _, _, .nil => .nil
  | _, _, 0, .cons _ t => .cons r t
  | _, _, i + 1, .cons q t => .cons q (Reps.set r i t)
theorem Reps.reverse : ∀ {vs : List V} {ds : List D}, Reps K mg M vs ds → Reps K mg M vs.reverse ds.reverse
  | _, _, .nil => .nil
  | _, _, .cons r t => by
    rw [List.reverse_cons, List.reverse_cons]
    exact (Reps.reverse t).append (.cons r .nil)
theorem Reps.dropLast {vs : List V} {ds : List D} (r : Reps K mg M vs ds) : Reps K mg M vs.dropLast ds.dropLast := by
  rw [List.dropLast_eq_take, List.dropLast_eq_take, r.length]
  exact r.take _
theorem Reps.rep {vs : List V} {ds : List D} (r : Reps K mg M vs ds) : ∀ k : Nat, Reps K mg M (List.replicate k vs).flatten (List.replicate k ds).flatten
  | 0 => .nil
  | k + 1 => by
    rw [List.replicate_succ, List.replicate_succ, List.flatten_cons, List.flatten_cons]
    exact r.append (Reps.rep r k)

/-! roots -/
theorem At.stay {a : Addr} {o : HO} (h : At H a o) (g : ∀ o, H a = some o → H' a = some o) : At H' a o := by
  rcases h with h | ⟨d, ob, h⟩
  · exact .inl (g _ h)
  · exact .inr ⟨d, ob, g _ h⟩
theorem Flds.stay {fvs : List (Str × V)} {fs : List (Str × FT)} {k e : List Addr} (hM : Le M M') (f : Flds K mg M H fvs fs k e) (hk : ∀ a ∈ k, (∀ o, H a = some o → H' a = some o) ∧ (H a ≠ none → M a = none → M' a = none)) (he : ∀ a ∈ e, ∀ o, H a = some o → H' a = some o) : Flds K mg M' H' fvs fs k e := by
  induction f with
  | nil => exact .nil
  | sh r _ ih => exact .sh (r.le hM) (ih hk he)
  | ow h c n _ ih => exact .ow ((hk _ (List.mem_cons_self ..)).1 _ h) (c.le hM) ((hk _ (List.mem_cons_self ..)).2 (by rw [h]; simp) n) (ih (fun a ha => hk a (List.mem_cons_of_mem _ ha)) he)
  | lo h c _ ih => exact .lo (h.stay (he _ (List.mem_cons_self ..))) (c.le hM) (ih hk fun a ha => he a (List.mem_cons_of_mem _ ha))
theorem Rok.stay (hM : Le M M') (f : Rok K mg M H r) (hk : ∀ a ∈ r.k, (∀ o, H a = some o → H' a = some o) ∧ (H a ≠ none → M a = none → M' a = none)) (he : ∀ a ∈ r.e, (∀ o, H a = some o → H' a = some o) ∧ (H a ≠ none → M a = none → M' a = none)) : Rok K mg M' H' r := by
  cases f with
  | no o => exact .no o
  | sh r => exact .sh (r.le hM)
  | ow h c n => exact .ow ((hk _ (List.mem_cons_self ..)).1 _ h) (c.le hM) ((hk _ (List.mem_cons_self ..)).2 (by rw [h]; simp) n)
  | lo h c => exact .lo (h.stay (he _ (List.mem_cons_self ..)).1) (c.le hM)
  | ob h0 h n fl nd ne => exact .ob h0 ((hk _ (List.mem_cons_self ..)).1 _ h) ((hk _ (List.mem_cons_self ..)).2 (by rw [h]; simp) n) (fl.stay hM (fun a ha => hk a (List.mem_cons_of_mem _ ha)) fun a ha => (he a ha).1) nd ne
  | lb h0 h fl => exact .lb h0 ((he _ (List.mem_cons_self ..)).1 _ h) (fl.stay hM (fun a ha => he a (List.mem_cons_of_mem _ (List.mem_append_left _ ha))) fun a ha => (he a (List.mem_cons_of_mem _ (List.mem_append_right _ ha))).1)
theorem Flds.has {fvs : List (Str × V)} {fs : List (Str × FT)} {k e : List Addr} (f : Flds K mg M H fvs fs k e) : (∀ a ∈ k, H a ≠ none ∧ M a = none) ∧ ∀ a ∈ e, H a ≠ none := by
  induction f with
  | nil => exact ⟨fun _ h => absurd h List.not_mem_nil, fun _ h => absurd h List.not_mem_nil⟩
  | sh r _ ih => exact ih
  | ow h c n _ ih => exact ⟨fun a ha => (List.mem_cons.mp ha).elim (fun z => by subst z; exact ⟨by rw [h]; simp, n⟩) (ih.1 a), ih.2⟩
  | lo h c _ ih => exact ⟨ih.1, fun a ha => (List.mem_cons.mp ha).elim (fun z => by subst z; exact h.has) (ih.2 a)⟩
theorem Rok.has (f : Rok K mg M H r) : (∀ a ∈ r.k, H a ≠ none ∧ M a = none) ∧ ∀ a ∈ r.e, H a ≠ none := by
  cases f with
  | no o => exact ⟨fun _ h => absurd h List.not_mem_nil, fun _ h => absurd h List.not_mem_nil⟩
  | sh r => exact ⟨fun _ h => absurd h List.not_mem_nil, fun _ h => absurd h List.not_mem_nil⟩
  | ow h c n => exact ⟨fun a ha => by simp at ha; subst ha; exact ⟨by rw [h]; simp, n⟩, fun _ h => absurd h List.not_mem_nil⟩
  | lo h c => exact ⟨fun _ h => absurd h List.not_mem_nil, fun a ha => by simp at ha; subst ha; exact h.has⟩
  | ob h0 h n fl nd ne => exact ⟨fun a ha => (List.mem_cons.mp ha).elim (fun z => by subst z; exact ⟨by rw [h]; simp, n⟩) (fl.has.1 a), fl.has.2⟩
  | lb h0 h fl => exact ⟨fun _ h => absurd h List.not_mem_nil, fun a ha => (List.mem_cons.mp ha).elim (fun z => by subst z; rw [h]; simp) fun z => (List.mem_append.mp z).elim (fun z => (fl.has.1 a z).1) (fl.has.2 a)⟩
theorem S.nil (h : Le M H) : S K mg M H [] := ⟨h, fun _ h => absurd h List.not_mem_nil, .nil⟩
theorem S.sub (h : S K mg M H L) (g : L'.Sublist L) : S K mg M H L' := ⟨h.le, fun r hr => h.ok r (g.subset hr), h.sp.sublist g⟩
theorem S.tail (h : S K mg M H (r :: L)) : S K mg M H L := h.sub (List.sublist_cons_self ..)
theorem S.perm (h : S K mg M H L) (g : L.Perm L') : S K mg M H L' := ⟨h.le, fun r hr => h.ok r (g.mem_iff.mpr hr), (g.pairwise_iff fun {_ _} h => h.symm).mp h.sp⟩
theorem S.cons (h : S K mg M H L) (hr : Rok K mg M H r) (hs : ∀ s ∈ L, Sep r s) : S K mg M H (r :: L) := ⟨h.le, fun s hm => (List.mem_cons.mp hm).elim (fun e => e ▸ hr) (h.ok s), List.pairwise_cons.mpr ⟨hs, h.sp⟩⟩
theorem S.head (h : S K mg M H (r :: L)) : Rok K mg M H r := h.ok r (List.mem_cons_self ..)
theorem S.sep (h : S K mg M H (r :: L)) : ∀ s ∈ L, Sep r s := (List.pairwise_cons.mp h.sp).1
theorem S.xm (h : S K mg M H L) {a : Addr} (x : Xs L a) : H a ≠ none ∧ M a = none := by
  obtain ⟨r, hr, ha⟩ := x
  exact (h.ok r hr).has.1 a ha
theorem S.yh (h : S K mg M H L) {a : Addr} (x : Ys L a) : H a ≠ none := by
  obtain ⟨r, hr, ha⟩ := x
  exact (h.ok r hr).has.2 a ha
theorem Xs.app {a : Addr} : Xs (L ++ L') a ↔ Xs L a ∨ Xs L' a := by
  unfold Xs
  constructor
  · rintro ⟨r, h, k⟩
    exact (List.mem_append.mp h).elim (fun h => .inl ⟨r, h, k⟩) fun h => .inr ⟨r, h, k⟩
  · rintro (⟨r, h, k⟩ | ⟨r, h, k⟩)
    · exact ⟨r, List.mem_append_left _ h, k⟩
    · exact ⟨r, List.mem_append_right _ h, k⟩
theorem Ys.app {a : Addr} : Ys (L ++ L') a ↔ Ys L a ∨ Ys L' a := by
  unfold Ys
  constructor
  · rintro ⟨r, h, k⟩
    exact (List.mem_append.mp h).elim (fun h => .inl ⟨r, h, k⟩) fun h => .inr ⟨r, h, k⟩
  · rintro (⟨r, h, k⟩ | ⟨r, h, k⟩)
    · exact ⟨r, List.mem_append_left _ h, k⟩
    · exact ⟨r, List.mem_append_right _ h, k⟩
theorem Xs.cons {a : Addr} : Xs (r :: L) a ↔ a ∈ r.k ∨ Xs L a := by
  unfold Xs
  simp
theorem Ys.cons {a : Addr} : Ys (r :: L) a ↔ a ∈ r.e ∨ Ys L a := by
  unfold Ys
  simp
/-- the frame: roots that a step does not touch -/
theorem frame2 {fr rc A : List Rt} (hf : S K mg M H fr) (hx : ∀ a, Xs fr a ∨ Ys fr a → ¬ Xs rc a) (hA : S K mg M' H' A) (u : Up M H rc M' H' A) (he : ∀ a, Ys A a → ¬ Xs fr a) : S K mg M' H' (A ++ fr) := by
  refine ⟨hA.le, fun r hr => (List.mem_append.mp hr).elim (hA.ok r) fun hr => ?_, List.pairwise_append.mpr ⟨hA.sp, hf.sp, fun s hs r hr => ?_⟩⟩
  · have stay : ∀ a, ¬ Xs rc a → (∀ o, H a = some o → H' a = some o) ∧ (H a ≠ none → M a = none → M' a = none) := fun a na => by
      refine ⟨fun o h => u.hm a o h na, fun h0 h1 => ?_⟩
      cases e : M' a with
      | none => rfl
      | some o =>
        rcases u.ms a o e with z | z | z
        · rw [h1] at z; cases z
        · exact absurd z na
        · exact absurd z h0
    exact (hf.ok r hr).stay (le_mm u.mm) (fun a ha => stay a (hx a (.inl ⟨r, hr, ha⟩))) fun a ha => stay a (hx a (.inr ⟨r, hr, ha⟩))
  · have hh := (hf.ok r hr).has
    have nk : ∀ a, a ∈ s.k → Xs rc a ∨ H a = none := fun a ha => u.xs a ⟨s, hs, ha⟩
    refine ⟨fun a ha hb => ?_, fun a ha hb => ?_, fun a ha hb => he a ⟨s, hs, hb⟩ ⟨r, hr, ha⟩⟩
    · rcases nk a ha with z | z
      · exact hx a (.inl ⟨r, hr, hb⟩) z
      · exact (hh.1 a hb).1 z
    · rcases nk a ha with z | z
      · exact hx a (.inr ⟨r, hr, hb⟩) z
      · exact hh.2 a hb z
theorem up_frame {fr rc A G : List Rt} (hx : ∀ a, Xs rc a → Xs G a) (hy : ∀ a, Ys A a → Ys G a) (hfx : ∀ a, Xs fr a → Xs G a) (hfy : ∀ a, Ys fr a → Ys G a) (u : Up M H rc M' H' A) : Up M H G M' H' (A ++ fr) where
  mm := u.mm
  hm := fun a o h n => u.hm a o h fun z => n (hx a z)
  hd := u.hd
  xs := fun a h => (Xs.app.mp h).elim (fun z => (u.xs a z).imp (hx a) id) fun z => .inl (hfx a z)
  ys := fun a h => (Ys.app.mp h).elim (hy a) (hfy a)
  ms := fun a o h => by
    rcases u.ms a o h with z | z | z
    · exact .inl z
    · exact .inr (.inl (hx a z))
    · exact .inr (.inr z)
theorem S.app_sep (h : S K mg M H (L ++ L')) : ∀ r ∈ L, ∀ s ∈ L', Sep r s := (List.pairwise_append.mp h.sp).2.2
theorem S.left (h : S K mg M H (L ++ L')) : S K mg M H L := h.sub (List.sublist_append_left ..)
theorem S.right (h : S K mg M H (L ++ L')) : S K mg M H L' := h.sub (List.sublist_append_right ..)
/-- roots ahead stay while those behind make a step -/
theorem S.frame {fr rs rs' : List Rt} (h : S K mg M H (fr ++ rs)) (h' : S K mg M' H' rs') (u : Up M H rs M' H' rs') : S K mg M' H' (fr ++ rs') ∧ Up M H (fr ++ rs) M' H' (fr ++ rs') := by
  have sp := h.app_sep
  have q := frame2 h.left (rc := rs) (fun a ha hb => by
    obtain ⟨s, hs, hb⟩ := hb
    rcases ha with ⟨r, hr, ha⟩ | ⟨r, hr, ha⟩
    · exact (sp r hr s hs).kk a ha hb
    · exact (sp r hr s hs).ek a hb ha) h' u (fun a ha hb => by
    obtain ⟨s, hs, ha⟩ := u.ys a ha
    obtain ⟨r, hr, hb⟩ := hb
    exact (sp r hr s hs).ke a hb ha)
  have p : (rs' ++ fr).Perm (fr ++ rs') := List.perm_append_comm
  refine ⟨q.perm p, ?_⟩
  have w := up_frame (fr := fr) (G := fr ++ rs) (fun a z => Xs.app.mpr (.inr z)) (fun a z => Ys.app.mpr (.inr (u.ys a z))) (fun a z => Xs.app.mpr (.inl z)) (fun a z => Ys.app.mpr (.inl z)) u
  exact ⟨w.mm, w.hm, w.hd, fun a z => w.xs a (Xs.app.mpr (Xs.app.mp z).symm), fun a z => w.ys a (Ys.app.mpr (Ys.app.mp z).symm), w.ms⟩
/-- roots are let go -/
theorem Up.drop {G : List Rt} (u : Up M H L M' H' G) (hx : ∀ a, Xs L' a → Xs G a) (hy : ∀ a, Ys L' a → Ys G a) : Up M H L M' H' L' := ⟨u.mm, u.hm, u.hd, fun a z => u.xs a (hx a z), fun a z => u.ys a (hy a z), u.ms⟩
theorem Up.sub {G : List Rt} (u : Up M H L M' H' G) (s : ∀ r ∈ L', r ∈ G) : Up M H L M' H' L' := u.drop (fun _ ⟨r, h, k⟩ => ⟨r, s r h, k⟩) fun _ ⟨r, h, k⟩ => ⟨r, s r h, k⟩
theorem Up.tail (u : Up M H L M' H' (r :: L')) : Up M H L M' H' L' := u.sub fun s h => List.mem_cons_of_mem _ h

/-! reading -/
/-- a value that may be read: all of it is visible, or it is a list or dict with visible content -/
def Rep1 (K : PySem.W.Frag) (mg : Str → Option Value) (M H : Hp) (v : V) (d : D) : Prop := Rep K mg M v d ∨ ∃ a o, v = .ref a ∧ At H a o ∧ Cel K mg M o d
theorem rep_int {v : V} {i : Int} (r : Rep K mg M v (.int i)) : v = .int i := by cases r; rfl
theorem rep_bl {v : V} {i : Bool} (r : Rep K mg M v (.bl i)) : v = .bl i := by cases r; rfl
theorem rep_str {v : V} {i : Str} (r : Rep K mg M v (.str i)) : v = .str i := by cases r; rfl
theorem rep_non {v : V} (r : Rep K mg M v .non) : v = .non := by cases r; rfl
theorem rep1_int {v : V} {i : Int} (r : Rep1 K mg M H v (.int i)) : v = .int i := r.elim rep_int fun ⟨_, _, _, _, c⟩ => by cases c
theorem rep1_bl {v : V} {i : Bool} (r : Rep1 K mg M H v (.bl i)) : v = .bl i := r.elim rep_bl fun ⟨_, _, _, _, c⟩ => by cases c
theorem rep1_str {v : V} {i : Str} (r : Rep1 K mg M H v (.str i)) : v = .str i := r.elim rep_str fun ⟨_, _, _, _, c⟩ => by cases c
theorem rep1_non {v : V} (r : Rep1 K mg M H v .non) : v = .non := r.elim rep_non fun ⟨_, _, _, _, c⟩ => by cases c
theorem At.ex {a : Addr} {o : HO} (h : At H a o) (d : isDict o = false) : H a = some o := h.elim id fun q => by rw [d] at q; exact absurd q.1 (by simp)
theorem rep1_tup {v : V} {l : List D} (hl : Le M H) (r : Rep1 K mg M H v (.tup l)) : ∃ a vs, v = .ref a ∧ M a = some (.tup vs) ∧ H a = some (.tup vs) ∧ Reps K mg M vs l := by
  rcases r with r | ⟨_, _, _, _, c⟩
  · cases r with
    | tup h r => exact ⟨_, _, rfl, h, hl.ex h rfl, r⟩
  · cases c
theorem rep1_lst {v : V} {l : List D} (hl : Le M H) (r : Rep1 K mg M H v (.lst l)) : ∃ a vs, v = .ref a ∧ H a = some (.lst vs) ∧ Reps K mg M vs l := by
  rcases r with r | ⟨a, o, rfl, h, c⟩
  · cases r with
    | lst h r => exact ⟨_, _, rfl, hl.ex h rfl, r⟩
  · cases c with
    | lst r => exact ⟨_, _, rfl, h.ex rfl, r⟩
theorem rep1_scr {v : V} {l : List D} (hl : Le M H) (r : Rep1 K mg M H v (.scr l)) : ∃ a vs, v = .ref a ∧ SqL K H a vs ∧ Reps K mg M vs l := by
  rcases r with r | ⟨_, _, _, _, c⟩
  · cases r with
    | scr h r =>
      rcases h with ⟨o, h⟩ | h
      · exact ⟨_, _, rfl, .inl (.inr ⟨o, hl.ex h rfl⟩), r⟩
      · exact ⟨_, _, rfl, .inr h, r⟩
  · cases c
theorem rep1_dk {v : V} {ks : List Key} {l : List D} (hl : Le M H) (r : Rep1 K mg M H v (.dk ks l)) : ∃ a kvs, v = .ref a ∧ Rd H a (.dK kvs) ∧ kvs.map (·.1) = ks ∧ Reps K mg M (kvs.map (·.2)) l := by
  rcases r with r | ⟨a, o, rfl, h, c⟩
  · cases r with
    | dk h q r => exact ⟨_, _, rfl, (hl.at h).rd, q, r⟩
  · cases c with
    | dk q r => exact ⟨_, _, rfl, h.rd, q, r⟩
theorem rep1_dt {v : V} {ks : List (List Key)} {l : List D} (hl : Le M H) (r : Rep1 K mg M H v (.dt ks l)) : ∃ a kvs, v = .ref a ∧ Rd H a (.dT kvs) ∧ kvs.map (·.1) = ks ∧ Reps K mg M (kvs.map (·.2)) l := by
  rcases r with r | ⟨a, o, rfl, h, c⟩
  · cases r with
    | dt h q r => exact ⟨_, _, rfl, (hl.at h).rd, q, r⟩
  · cases c with
    | dt q r => exact ⟨_, _, rfl, h.rd, q, r⟩
theorem rep1_obj {v : V} {C : Str} {fs : List Str} {l : List D} (hl : Le M H) (r : Rep1 K mg M H v (.obj C fs l)) : ∃ (a c dx : Addr) (fvs : List (Str × V)), v = .ref a ∧ cnOf mg C = some c ∧ M a = some (.ins c dx fvs) ∧ H a = some (.ins c dx fvs) ∧ fvs.map (·.1) = fs ∧ Reps K mg M (fvs.map (·.2)) l := by
  rcases r with r | ⟨_, _, _, _, c⟩
  · cases r with
    | obj h0 h q r => exact ⟨_, _, _, _, rfl, h0, h, hl.ex h rfl, q, r⟩
  · cases c
theorem Cel.at {a : Addr} {o : HO} {d : D} (h : At H a o) (c : Cel K mg H o d) : Rep K mg H (.ref a) d := by
  cases c with
  | lst r => exact .lst (h.ex rfl) r
  | dk q r => exact .dk h q r
  | dt q r => exact .dt h q r
theorem Rep1.full {v : V} {d : D} (hl : Le M H) (r : Rep1 K mg M H v d) : Rep K mg H v d := r.elim (·.le hl) fun ⟨a, o, e, h, c⟩ => by rw [e]; exact Cel.at h (c.le hl)
end
end V

set_option Elab.async false
set_option linter.all false
set_option maxRecDepth 100000
/-! V2: the meanings (over what the names hold) and the readings made of them. -/
namespace V
open PySem L2

inductive Z where
  | v (t : T) | al (i : Nat)
inductive PR (α : Type) where
  | stk | ok (a : α) (ρ : Env) | ex (n : Str) (ρ : Env)
abbrev P (α : Type) := Env → PR α
def ret {α : Type} (a : α) : P α := fun ρ => .ok a ρ
def stk {α : Type} : P α := fun _ => .stk
def rse {α : Type} (n : Str) : P α := fun ρ => .ex n ρ
def bnd {α β : Type} (m : P α) (f : α → P β) : P β := fun ρ => match m ρ with
  | .stk => .stk
  | .ok a ρ' => f a ρ'
  | .ex n ρ' => .ex n ρ'
def opt {α : Type} : Option α → P α
  | some a => ret a
  | none => stk
def optS {α : Type} (o : Env → Option α) : P α := fun ρ => opt (o ρ) ρ
theorem opt_inv {α : Type} {o : Option α} {ρ : Env} {r : PR α} (h : opt o ρ = r) (n : r ≠ .stk) : ∃ a, o = some a ∧ r = .ok a ρ := by
  cases o with
  | none => exact absurd h.symm n
  | some a => exact ⟨a, rfl, h.symm⟩
theorem optS_inv {α : Type} {o : Env → Option α} {ρ : Env} {r : PR α} (h : optS o ρ = r) (n : r ≠ .stk) : ∃ a, o ρ = some a ∧ r = .ok a ρ := opt_inv h n
theorem bnd_some {α β : Type} {m : P α} {f : α → P β} {ρ : Env} {r : PR β} (h : bnd m f ρ = r) (n : r ≠ .stk) : (∃ a ρ1, m ρ = .ok a ρ1 ∧ f a ρ1 = r) ∨ ∃ x ρ1, m ρ = .ex x ρ1 ∧ r = .ex x ρ1 := by
  unfold bnd at h
  cases e : m ρ with
  | stk => rw [e] at h; exact absurd h.symm n
  | ok a ρ1 => rw [e] at h; exact .inl ⟨a, ρ1, rfl, h⟩
  | ex x ρ1 => rw [e] at h; exact .inr ⟨x, ρ1, rfl, h.symm⟩
abbrev DE := P Z
def zt : Z → T
  | .v t => t
  | .al _ => .no
/-- what a value or a slot may be read as -/
def td : T → Option D
  | .sh d => some d
  | .ow d => some d
  | .lo d => some d
  | _ => none
def zd (ρ : Env) : Z → Option D
  | .v t => td t
  | .al i => match ρ[i]? with
    | some t => td t
    | none => none
def vt (r : Rt) : Option V × T := (r.v, r.t)

/-- a result's shape: the roots that it brings -/
structure Sh (α β : Type) where
  hd : β → α → List (Option V × T)
  al : Hp → List Rt → β → α → Prop
/-- the env's roots -/
structure SL (L : List Rt) (σ : St) (ρ : Env) : Prop where
  v : L.map (·.v) = σ
  t : L.map (·.t) = ρ
section
variable (K : PySem.W.Frag) (mg : Str → Option Value)
def Post {α β : Type} (sh : Sh α β) (E : XK) (M H : Hp) (G : List Rt) (σ : St) (Q : β → Hp → Prop) : PR α → Prop
  | .stk => False
  | .ok a ρ' => ∀ M' H' hs L' b, Up M H G M' H' (hs ++ L') → S K mg M' H' (hs ++ L') → SL L' σ ρ' → hs.map vt = sh.hd b a → sh.al M' L' b a → Q b H'
  | .ex n ρ' => ∀ M' H' L' c, Up M H G M' H' L' → S K mg M' H' L' → SL L' σ ρ' → cnOf mg n = some c → E (.ref c) none H'
def Run {α β : Type} (sh : Sh α β) (Wx : WX) (m : P α) : St → Hp → (β → Hp → Prop) → Prop := fun σ H Q =>
  ∃ (M : Hp) (L : List Rt) (ρ : Env), S K mg M H L ∧ SL L σ ρ ∧ Post K mg sh (fun c d H' => Wx c d σ H') M H L σ Q (m ρ)
def Al (L : List Rt) (v : V) : Z → Prop
  | .v _ => True
  | .al i => (L.map (·.v))[i]? = some (some v)
def shE : Sh Z V := ⟨fun v z => [(some v, zt z)], fun _ L v z => Al L v z⟩
inductive Als (L : List Rt) : List V → List Z → Prop
  | nil : Als L [] []
  | cons {v : V} {z : Z} {vs : List V} {zs : List Z} : Al L v z → Als L vs zs → Als L (v :: vs) (z :: zs)
def shA : Sh (List Z) (List V) := ⟨fun vs zs => (vs.map some).zip (zs.map zt), fun _ L vs zs => Als L vs zs⟩
def shB : Sh Bool Bool := ⟨fun _ _ => [], fun _ _ b a => b = a⟩
def shO : Sh (Option Int) (Option Int) := ⟨fun _ _ => [], fun _ _ b a => b = a⟩
abbrev TEd (Wx : WX) (m : DE) : TE := Run K mg shE Wx m
abbrev TTd (Wx : WX) (m : P Bool) : TT := Run K mg shB Wx m
abbrev TAd (Wx : WX) (m : P (List Z)) : TA := Run K mg shA Wx m
abbrev TOd (Wx : WX) (m : P (Option Int)) : TO := Run K mg shO Wx m
end
section
variable {K : PySem.W.Frag} {mg : Str → Option Value} {Wx : WX} {α β γ δ α' β' : Type}
theorem Post.pull {sh : Sh α β} {E : XK} {M M' H H' : Hp} {G G' : List Rt} {σ : St} {Q : β → Hp → Prop} (e : Up M H G M' H' G') : ∀ {r : PR α}, Post K mg sh E M H G σ Q r → Post K mg sh E M' H' G' σ Q r
  | .stk, h => h
  | .ok _ _, h => fun M2 H2 hs L' b u s l q a => h M2 H2 hs L' b (e.trans u) s l q a
  | .ex _ _, h => fun M2 H2 L' c u s l q => h M2 H2 L' c (e.trans u) s l q
theorem Post.mono {sh : Sh α β} {E : XK} {M H : Hp} {G : List Rt} {σ : St} {Q Q' : β → Hp → Prop} (q : ∀ b H, Q b H → Q' b H) : ∀ {r : PR α}, Post K mg sh E M H G σ Q r → Post K mg sh E M H G σ Q' r
  | .stk, h => h
  | .ok _ _, h => fun M2 H2 hs L' b u s l e a => q _ _ (h M2 H2 hs L' b u s l e a)
  | .ex _ _, h => h
theorem Post.ne {sh : Sh α β} {E : XK} {M H : Hp} {G : List Rt} {σ : St} {Q : β → Hp → Prop} {r : PR α} (h : Post K mg sh E M H G σ Q r) : r ≠ .stk := by
  rintro rfl
  exact h
theorem Run.mono {sh : Sh α β} {m : P α} {σ : St} {H : Hp} {Q Q' : β → Hp → Prop} (h : Run K mg sh Wx m σ H Q) (q : ∀ b H, Q b H → Q' b H) : Run K mg sh Wx m σ H Q' := by
  obtain ⟨M, L, ρ, s, l, p⟩ := h
  exact ⟨M, L, ρ, s, l, p.mono q⟩
/-- in the middle of a run: a value is there, its roots ahead of the env's -/
def Mid (K : PySem.W.Frag) (mg : Str → Option Value) (sa : Sh α β) (sh : Sh γ δ) (Wx : WX) (f : α → P γ) (σ : St) (Q : δ → Hp → Prop) (b : β) (H : Hp) : Prop :=
  ∃ (M : Hp) (hs L : List Rt) (ρ : Env) (a : α), S K mg M H (hs ++ L) ∧ SL L σ ρ ∧ hs.map vt = sa.hd b a ∧ sa.al M L b a ∧ Post K mg sh (fun c d H' => Wx c d σ H') M H (hs ++ L) σ Q (f a ρ)
theorem run_bind {sa : Sh α β} {sh : Sh γ δ} {m : P α} {f : α → P γ} {σ : St} {H : Hp} {Q : δ → Hp → Prop} (h : Run K mg sh Wx (bnd m f) σ H Q) : Run K mg sa Wx m σ H (Mid K mg sa sh Wx f σ Q) := by
  obtain ⟨M, L, ρ, s, l, p⟩ := h
  refine ⟨M, L, ρ, s, l, ?_⟩
  have n := p.ne
  generalize hr : bnd m f ρ = r at p n
  rcases bnd_some hr n with ⟨a, ρ1, e1, e2⟩ | ⟨x, ρ1, e1, e2⟩
  · rw [e1]
    intro M' H' hs L' b u s' l' q al
    exact ⟨M', hs, L', ρ1, a, s', l', q, al, by rw [e2]; exact p.pull u⟩
  · rw [e1]
    subst e2
    exact p
/-- a shape that later steps leave -/
def Stays (sa : Sh α β) : Prop := ∀ (M M' : Hp) (L L' : List Rt) (b : β) (a : α), (∀ x o, M x = some o → M' x = some o) → L.map (·.v) = L'.map (·.v) → sa.al M L b a → sa.al M' L' b a
theorem Al.stays {L L' : List Rt} {v : V} {z : Z} (e : L.map (·.v) = L'.map (·.v)) (h : Al L v z) : Al L' v z := by
  cases z with
  | v t => trivial
  | al i => unfold Al at h ⊢; rw [← e]; exact h
theorem stays_E : Stays shE := fun _ _ _ _ _ _ _ e h => Al.stays e h
theorem Als.stays {L L' : List Rt} (e : L.map (·.v) = L'.map (·.v)) : ∀ {vs : List V} {zs : List Z}, Als L vs zs → Als L' vs zs
  | _, _, .nil => .nil
  | _, _, .cons a b => .cons (a.stays e) (Als.stays e b)
theorem stays_A : Stays shA := fun _ _ _ _ _ _ _ e h => Als.stays e h
theorem stays_B : Stays shB := fun _ _ _ _ _ _ _ _ h => h
theorem stays_O : Stays shO := fun _ _ _ _ _ _ _ _ h => h
/-- the pair of two results -/
def shP (sa : Sh α β) (sb : Sh α' β') (x : β) : Sh (α × α') β' := ⟨fun y q => sa.hd x q.1 ++ sb.hd y q.2, fun M L y q => sa.al M L x q.1 ∧ sb.al M L y q.2⟩
theorem mid_bind {sa : Sh α β} {sb : Sh α' β'} {sh : Sh γ δ} {m : P α'} {f : α → α' → P γ} {σ : St} {H : Hp} {Q : δ → Hp → Prop} {x : β} (st : Stays sa)
    (h : Mid K mg sa sh Wx (fun a => bnd m fun b => f a b) σ Q x H) : Run K mg sb Wx m σ H (fun y H' => Mid K mg (shP sa sb x) sh Wx (fun q => f q.1 q.2) σ Q y H') := by
  obtain ⟨M, hs, L, ρ, a, s, l, q, al, p⟩ := h
  refine ⟨M, L, ρ, s.right, l, ?_⟩
  replace p : Post K mg sh (fun c d H' => Wx c d σ H') M H (hs ++ L) σ Q (bnd m (fun b => f a b) ρ) := p
  have n := p.ne
  generalize hr : bnd m (fun b => f a b) ρ = r at p n
  rcases bnd_some hr n with ⟨b, ρ1, e1, e2⟩ | ⟨x, ρ1, e1, e2⟩
  · rw [e1]
    intro M' H' hs' L' y u s' l' q' al'
    obtain ⟨s2, u2⟩ := s.frame s' u
    refine ⟨M', hs ++ hs', L', ρ1, (a, b), by rw [List.append_assoc]; exact s2, l', ?_, ⟨st _ _ _ _ _ _ u.mm (l.v.trans l'.v.symm) al, al'⟩, ?_⟩
    · rw [List.map_append, q, q']; rfl
    · rw [List.append_assoc]
      show Post K mg sh (fun c d H' => Wx c d σ H') M' H' (hs ++ (hs' ++ L')) σ Q (f a b ρ1)
      rw [e2]
      exact p.pull u2
  · rw [e1]
    subst e2
    intro M' H' L' c u s' l' hc
    obtain ⟨s2, u2⟩ := s.frame s' u
    exact p M' H' L' c (u2.sub fun r hr => List.mem_append_right _ hr) s' l' hc
/-- the same, of a step that depends on the value that is there -/
theorem mid_bind' {sa : Sh α β} {sb : Sh α' β'} {sh : Sh γ δ} {m : α → P α'} {f : α → α' → P γ} {σ : St} {H : Hp} {Q : δ → Hp → Prop} {x : β} (st : Stays sa)
    (h : Mid K mg sa sh Wx (fun a => bnd (m a) fun b => f a b) σ Q x H) : ∃ a, Run K mg sb Wx (m a) σ H (fun y H' => Mid K mg (shP sa sb x) sh Wx (fun q => f q.1 q.2) σ Q y H') := by
  obtain ⟨M, hs, L, ρ, a, s, l, q, al, p⟩ := h
  refine ⟨a, ?_⟩
  have h' : Mid K mg sa sh Wx (fun a' => bnd (m a) fun b => f a b) σ Q x H := ⟨M, hs, L, ρ, a, s, l, q, al, p⟩
  refine ⟨M, L, ρ, s.right, l, ?_⟩
  replace p : Post K mg sh (fun c d H' => Wx c d σ H') M H (hs ++ L) σ Q (bnd (m a) (fun b => f a b) ρ) := p
  have n := p.ne
  generalize hr : bnd (m a) (fun b => f a b) ρ = r at p n
  rcases bnd_some hr n with ⟨b, ρ1, e1, e2⟩ | ⟨x, ρ1, e1, e2⟩
  · rw [e1]
    intro M' H' hs' L' y u s' l' q' al'
    obtain ⟨s2, u2⟩ := s.frame s' u
    refine ⟨M', hs ++ hs', L', ρ1, (a, b), by rw [List.append_assoc]; exact s2, l', ?_, ⟨st _ _ _ _ _ _ u.mm (l.v.trans l'.v.symm) al, al'⟩, ?_⟩
    · rw [List.map_append, q, q']; rfl
    · rw [List.append_assoc]
      show Post K mg sh (fun c d H' => Wx c d σ H') M' H' (hs ++ (hs' ++ L')) σ Q (f a b ρ1)
      rw [e2]
      exact p.pull u2
  · rw [e1]
    subst e2
    intro M' H' L' c u s' l' hc
    obtain ⟨s2, u2⟩ := s.frame s' u
    exact p M' H' L' c (u2.sub fun r hr => List.mem_append_right _ hr) s' l' hc

/-! reading of results -/
theorem td_ok {M H : Hp} {r : Rt} {d : D} {v : V} (hl : Le M H) (ok : Rok K mg M H r) (hv : r.v = some v) (e : td r.t = some d) : Rep1 K mg M H v d := by
  cases ok with
  | no o => cases e
  | sh r => cases e; cases hv; exact .inl r
  | ow h c n => cases e; cases hv; exact .inr ⟨_, _, rfl, .of h, c⟩
  | lo h c => cases e; cases hv; exact .inr ⟨_, _, rfl, h, c⟩
  | ob => cases e
  | lb => cases e
theorem zd_ok {M H : Hp} {hs L : List Rt} {σ : St} {ρ : Env} {z : Z} {v : V} {d : D} (s : S K mg M H (hs ++ L)) (l : SL L σ ρ) (hh : (some v, zt z) ∈ hs.map vt) (al : Al L v z) (e : zd ρ z = some d) : Rep1 K mg M H v d := by
  cases z with
  | v t =>
    obtain ⟨r, hr, e1⟩ := List.mem_map.mp hh
    have e2 : r.v = some v := congrArg Prod.fst e1
    have e3 : r.t = t := congrArg Prod.snd e1
    exact td_ok s.le (s.ok r (List.mem_append_left _ hr)) e2 (by rw [e3]; exact e)
  | al i =>
    simp only [zd] at e
    cases ht : ρ[i]? with
    | none => rw [ht] at e; cases e
    | some t =>
      rw [ht] at e
      rw [← l.t, List.getElem?_map] at ht
      obtain ⟨r, hr, rfl⟩ := Option.map_eq_some_iff.mp ht
      replace al : (L.map (·.v))[i]? = some (some v) := al
      rw [List.getElem?_map, hr] at al
      exact td_ok s.le (s.ok r (List.mem_append_right _ (List.mem_of_getElem? hr))) (by simpa using al) e
end
/-- new things alone are laid -/
structure Grow (M H M' H' : Hp) : Prop where
  mm : ∀ a o, M a = some o → M' a = some o
  hm : ∀ a o, H a = some o → H' a = some o
  ms : ∀ a o, M' a = some o → M a = some o ∨ H a = none
theorem Grow.refl {M H : Hp} : Grow M H M H := ⟨fun _ _ h => h, fun _ _ h => h, fun _ _ h => .inl h⟩
section
variable {K : PySem.W.Frag} {mg : Str → Option Value} {M M' H H' : Hp} {L : List Rt}
theorem Grow.trans {M2 H2 : Hp} (a : Grow M H M' H') (b : Grow M' H' M2 H2) : Grow M H M2 H2 := ⟨fun x o h => b.mm x o (a.mm x o h), fun x o h => b.hm x o (a.hm x o h), fun x o h => by
  rcases b.ms x o h with h | h
  · exact a.ms x o h
  · refine .inr ?_
    cases e : H x with
    | none => rfl
    | some o => rw [a.hm x o e] at h; cases h⟩
theorem Grow.hd (g : Grow M H M' H') (a : Addr) (h : H' a = none) : H a = none := by
  cases e : H a with
  | none => rfl
  | some o => rw [g.hm a o e] at h; cases h
theorem Grow.up (g : Grow M H M' H') : Up M H L M' H' L := ⟨g.mm, fun a o h _ => g.hm a o h, g.hd, fun a h => .inl h, fun a h => h, fun a o h => (g.ms a o h).imp id fun z => .inr z⟩
theorem S.grow (s : S K mg M H L) (g : Grow M H M' H') (hl : Le M' H') : S K mg M' H' L := by
  refine ⟨hl, fun r hr => ?_, s.sp⟩
  have stay : ∀ a, (∀ o, H a = some o → H' a = some o) ∧ (H a ≠ none → M a = none → M' a = none) := fun a => by
    refine ⟨fun o h => g.hm a o h, fun h0 h1 => ?_⟩
    cases e : M' a with
    | none => rfl
    | some o =>
      rcases g.ms a o e with z | z
      · rw [h1] at z; cases z
      · exact absurd z h0
  exact (s.ok r hr).stay (le_mm g.mm) (fun a _ => stay a) fun a _ => stay a
/-- a shared thing is laid -/
theorem upd_mono {p : Addr} {o : HO} (hp : H p = none) : ∀ a u, H a = some u → upd H p o a = some u := fun a u h => by rw [upd_ne (ne_of_none h hp)]; exact h
theorem none_le {p : Addr} (l : Le M H) (hp : H p = none) : M p = none := by
  cases e : M p with
  | none => rfl
  | some o => exact absurd hp (l.has e)
theorem Grow.sh {p : Addr} {o : HO} (l : Le M H) (hp : H p = none) : Grow M H (upd M p o) (upd H p o) := by
  refine ⟨upd_mono (none_le l hp), upd_mono hp, fun a u h => ?_⟩
  by_cases e : a = p
  · subst e; exact .inr hp
  · rw [upd_ne e] at h; exact .inl h
theorem Le.sh {p : Addr} {o : HO} (l : Le M H) (hp : H p = none) : Le (upd M p o) (upd H p o) := fun a u h => by
  by_cases e : a = p
  · subst e; rw [upd_same] at h; cases h; exact .inl upd_same
  · rw [upd_ne e] at h
    exact (l a u h).stay fun w hw => by rw [upd_ne e]; exact hw
/-- an own thing is laid -/
theorem Grow.ow {p : Addr} {o : HO} (hp : H p = none) : Grow M H M (upd H p o) := ⟨fun _ _ h => h, upd_mono hp, fun _ _ h => .inl h⟩
theorem Le.ow {p : Addr} {o : HO} (l : Le M H) (hp : H p = none) : Le M (upd H p o) := fun a u h => (l a u h).stay fun w hw => upd_mono hp a w hw
end
section
variable {K : PySem.W.Frag} {mg : Str → Option Value} {M M' H H' : Hp} {L : List Rt}
theorem S.ix {i j : Nat} {r s : Rt} (h : S K mg M H L) (n : i ≠ j) (hi : L[i]? = some r) (hj : L[j]? = some s) : Sep r s := by
  obtain ⟨i1, e1⟩ := List.getElem?_eq_some_iff.mp hi
  obtain ⟨j1, e2⟩ := List.getElem?_eq_some_iff.mp hj
  have q := List.pairwise_iff_getElem.mp h.sp
  rcases Nat.lt_or_gt_of_ne n with l | l
  · have := q i j i1 j1 l
    rw [e1, e2] at this
    exact this
  · have := q j i j1 i1 l
    rw [e1, e2] at this
    exact this.symm
theorem S.of (hl : Le M H) (ok : ∀ (i : Nat) (r : Rt), L[i]? = some r → Rok K mg M H r) (sp : ∀ (i j : Nat) (r s : Rt), i < j → L[i]? = some r → L[j]? = some s → Sep r s) : S K mg M H L := by
  refine ⟨hl, fun r hr => ?_, List.pairwise_iff_getElem.mpr fun i j hi hj l => sp i j _ _ l (List.getElem?_eq_getElem hi) (List.getElem?_eq_getElem hj)⟩
  obtain ⟨i, hi⟩ := List.mem_iff_getElem?.mp hr
  exact ok i r hi
theorem set_at {α : Type} {L : List α} {i j : Nat} {r s : α} (h : (L.set i r)[j]? = some s) : (i = j ∧ s = r ∧ j < L.length) ∨ (i ≠ j ∧ L[j]? = some s) := by
  by_cases e : i = j
  · subst e
    have hl : i < L.length := by simpa using (List.getElem?_eq_some_iff.mp h).1
    rw [List.getElem?_set_self hl] at h
    exact .inl ⟨rfl, (Option.some.inj h).symm, hl⟩
  · rw [List.getElem?_set_ne e] at h
    exact .inr ⟨e, h⟩
/-- a root is put in another's stead -/
theorem S.set {i : Nat} {r : Rt} (h : S K mg M H L) (hr : Rok K mg M H r) (hs : ∀ (j : Nat) (s : Rt), i ≠ j → L[j]? = some s → Sep r s) : S K mg M H (L.set i r) := by
  refine .of h.le (fun j s e => ?_) fun j k s t l e1 e2 => ?_
  · rcases set_at e with ⟨_, rfl, _⟩ | ⟨_, e⟩
    · exact hr
    · exact h.ok s (List.mem_of_getElem? e)
  · rcases set_at e1 with ⟨rfl, rfl, _⟩ | ⟨n1, f1⟩ <;> rcases set_at e2 with ⟨rfl, rfl, _⟩ | ⟨n2, f2⟩
    · omega
    · exact hs k t n2 f2
    · exact (hs j s n1 f1).symm
    · exact h.ix (Nat.ne_of_lt l) f1 f2
/-- an own root is given up: it is visible from now on -/
def pub (M H : Hp) (k : List Addr) : Hp := fun x => if x ∈ k then H x else M x
def fgive : List (Str × FT) → Option (List Str × List D)
  | [] => some ([], [])
  | (f, .sh d) :: fs => (fgive fs).map fun q => (f :: q.1, d :: q.2)
  | (f, .ow d) :: fs => (fgive fs).map fun q => (f :: q.1, d :: q.2)
  | (_, .lo _) :: _ => none
def gv : T → Option D
  | .sh d => some d
  | .ow d => some d
  | .ob C fs => (fgive fs).map fun q => .obj C q.1 q.2
  | _ => none
theorem Flds.give {k0 : List Addr} {fvs : List (Str × V)} {fs : List (Str × FT)} {k e : List Addr} (f : Flds K mg M H fvs fs k e) (mm : Le M (pub M H k0)) (hk : ∀ a ∈ k, a ∈ k0) : ∀ {q : List Str × List D}, fgive fs = some q → fvs.map (·.1) = q.1 ∧ Reps K mg (pub M H k0) (fvs.map (·.2)) q.2 ∧ e = [] := by
  induction f with
  | nil => intro q h; cases h; exact ⟨rfl, .nil, rfl⟩
  | sh r _ ih =>
    intro q h
    simp only [fgive, Option.map_eq_some_iff] at h
    obtain ⟨q, h, rfl⟩ := h
    obtain ⟨h1, h2, h3⟩ := ih hk h
    exact ⟨by simp [h1], .cons (r.le mm) h2, h3⟩
  | @ow f a o d fvs fs k e h1 c n _ ih =>
    intro q h
    simp only [fgive, Option.map_eq_some_iff] at h
    obtain ⟨q, h, rfl⟩ := h
    obtain ⟨h4, h2, h3⟩ := ih (fun a ha => hk a (List.mem_cons_of_mem _ ha)) h
    refine ⟨by simp [h4], .cons (Cel.at (.of ?_) (c.le mm)) h2, h3⟩
    unfold pub
    rw [if_pos (hk _ (List.mem_cons_self ..))]
    exact h1
  | lo h c _ ih => intro q h; cases h
theorem S.pub {i : Nat} {r : Rt} {d : D} (h : S K mg M H L) (hi : L[i]? = some r) (g : gv r.t = some d) : ∃ v, r.v = some v ∧ Rep K mg (pub M H r.k) v d ∧ S K mg (V.pub M H r.k) H (L.set i ⟨r.v, .sh d, [], []⟩) ∧ Up M H L (V.pub M H r.k) H (L.set i ⟨r.v, .sh d, [], []⟩) := by
  have ok := h.ok r (List.mem_of_getElem? hi)
  have mm : ∀ a o, M a = some o → V.pub M H r.k a = some o := fun a o e => by
    unfold V.pub
    rw [if_neg]
    · exact e
    · intro z
      rw [(ok.has.1 a z).2] at e
      cases e
  have key : ∃ v, r.v = some v ∧ Rep K mg (V.pub M H r.k) v d := by
    cases ok with
    | no o => cases g
    | sh rr => cases g; exact ⟨_, rfl, rr.le (le_mm mm)⟩
    | ow h1 c n =>
      cases g
      refine ⟨_, rfl, Cel.at (.of ?_) (c.le (le_mm mm))⟩
      unfold V.pub
      rw [if_pos (List.mem_cons_self ..)]
      exact h1
    | lo h1 c => cases g
    | ob h0 h1 n fl nd ne =>
      simp only [gv, Option.map_eq_some_iff] at g
      obtain ⟨q, g, rfl⟩ := g
      obtain ⟨q1, q2, q3⟩ := fl.give (le_mm mm) (fun a ha => List.mem_cons_of_mem _ ha) g
      refine ⟨_, rfl, .obj h0 (Eq.trans ?_ h1) q1 q2⟩
      unfold V.pub
      rw [if_pos (List.mem_cons_self ..)]
    | lb h0 h1 fl => cases g
  obtain ⟨v, ev, rv⟩ := key
  have hle : Le (V.pub M H r.k) H := fun a o e => by
    unfold V.pub at e
    split at e
    · exact .inl e
    · exact h.le a o e
  have up : Up M H L (V.pub M H r.k) H (L.set i ⟨r.v, .sh d, [], []⟩) := by
    refine ⟨mm, fun a o e _ => e, fun a e => e, ?_, ?_, fun a o e => ?_⟩
    · rintro a ⟨s, hs, ha⟩
      obtain ⟨j, hj⟩ := List.mem_iff_getElem?.mp hs
      rcases set_at hj with ⟨_, rfl, _⟩ | ⟨_, hj⟩
      · cases ha
      · exact .inl ⟨s, List.mem_of_getElem? hj, ha⟩
    · rintro a ⟨s, hs, ha⟩
      obtain ⟨j, hj⟩ := List.mem_iff_getElem?.mp hs
      rcases set_at hj with ⟨_, rfl, _⟩ | ⟨_, hj⟩
      · cases ha
      · exact ⟨s, List.mem_of_getElem? hj, ha⟩
    · unfold V.pub at e
      split at e
      · rename_i z
        exact .inr (.inl ⟨r, List.mem_of_getElem? hi, z⟩)
      · exact .inl e
  refine ⟨v, ev, rv, .of hle (fun j s e => ?_) fun j k s t l e1 e2 => ?_, up⟩
  · rcases set_at e with ⟨_, rfl, _⟩ | ⟨n, e⟩
    · rw [ev]; exact .sh rv
    · have sp := h.ix n hi e
      have stay : ∀ a, a ∉ r.k → (∀ o, H a = some o → H a = some o) ∧ (H a ≠ none → M a = none → V.pub M H r.k a = none) := fun a na => ⟨fun _ h => h, fun _ h => by
        unfold V.pub
        rw [if_neg na]
        exact h⟩
      exact (h.ok s (List.mem_of_getElem? e)).stay (le_mm mm) (fun a ha => stay a fun hb => sp.kk a hb ha) fun a ha => stay a fun hb => sp.ke a hb ha
  · have triv : ∀ t : Rt, Sep ⟨r.v, .sh d, [], []⟩ t := fun t => ⟨fun _ h => absurd h List.not_mem_nil, fun _ h => absurd h List.not_mem_nil, fun _ _ h => absurd h List.not_mem_nil⟩
    rcases set_at e1 with ⟨rfl, rfl, _⟩ | ⟨n1, f1⟩ <;> rcases set_at e2 with ⟨rfl, rfl, _⟩ | ⟨n2, f2⟩
    · omega
    · exact triv _
    · exact (triv _).symm
    · exact h.ix (Nat.ne_of_lt l) f1 f2
theorem sep_sh {o : Option V} {t : T} (s : Rt) : Sep ⟨o, t, [], []⟩ s := ⟨fun _ h => absurd h List.not_mem_nil, fun _ h => absurd h List.not_mem_nil, fun _ _ h => absurd h List.not_mem_nil⟩
theorem S.sh {v : V} {d : D} (h : S K mg M H L) (r : Rep K mg M v d) : S K mg M H (⟨some v, .sh d, [], []⟩ :: L) := h.cons (.sh r) fun s _ => sep_sh s
end
end V

set_option Elab.async false
set_option linter.all false
set_option maxRecDepth 100000
/-! V3: expressions: names, constants, operators by values, arguments. -/
namespace V
open PySem L2
section
variable {X : Cx} {Wx : WX}
theorem pe_imp {e : Expr} {t t' : TE} (h : PE X e t) (i : ∀ σ H Q, t' σ H Q → t σ H Q) : PE X e t' := ⟨fun pins s σ H Q I q => h.run pins s σ H Q I (i _ _ _ q)⟩
theorem pt_imp {e : Expr} {t t' : TT} (h : PT X e t) (i : ∀ σ H Q, t' σ H Q → t σ H Q) : PT X e t' := ⟨fun pins s σ H Q I q => h.run pins s σ H Q I (i _ _ _ q)⟩
theorem pw_imp {e : Expr} {t t' : TT} (h : PW X e t) (i : ∀ σ H Q, t' σ H Q → t σ H Q) : PW X e t' := ⟨fun wh pins s σ H Q I q => h.run wh pins s σ H Q I (i _ _ _ q)⟩
theorem pa_imp {es : List Expr} {t t' : TA} (h : PA X es t) (i : ∀ σ H Q, t' σ H Q → t σ H Q) : PA X es t' := ⟨fun pos pins s σ H Q I q => h.run pos pins s σ H Q I (i _ _ _ q)⟩
theorem ps_imp {st : Stmt} {t t' : TS} (h : PS X st t) (i : ∀ D σ H, t' D σ H → t D σ H) : PS X st t' := ⟨fun pins s σ H D I q => h.run pins s σ H D I (i _ _ _ q)⟩
theorem pss_imp {st : List Stmt} {t t' : TS} (h : PSs X st t) (i : ∀ D σ H, t' D σ H → t D σ H) : PSs X st t' := ⟨fun pins s σ H D I q => h.run pins s σ H D I (i _ _ _ q)⟩

/-- an expression, a test, arguments with a meaning -/
abbrev QE (X : Cx) (Wx : WX) (e : Expr) (m : DE) : Prop := PE X e (TEd X.K X.mg Wx m)
abbrev QT (X : Cx) (Wx : WX) (e : Expr) (m : P Bool) : Prop := PT X e (TTd X.K X.mg Wx m)
abbrev QA (X : Cx) (Wx : WX) (es : List Expr) (m : P (List Z)) : Prop := PA X es (TAd X.K X.mg Wx m)

/-! ### outcomes -/
section
variable {K : PySem.W.Frag} {mg : Str → Option Value} {E : XK} {M H : Hp} {G L : List Rt} {σ : St} {ρ : Env} {Q : VK}
/-- what an operator's answer grants -/
def Res (K : PySem.W.Frag) (mg : Str → Option Value) (M H : Hp) (Q : VK) (t : T) : Prop := ∀ M' H' v k, Grow M H M' H' → Le M' H' → Rok K mg M' H' ⟨some v, t, k, []⟩ → (∀ a ∈ k, H a = none) → Q v H'
theorem Res.here {v : V} {d : D} (h : Res K mg M H Q (.sh d)) (hl : Le M H) (r : Rep K mg M v d) : Q v H := h M H v [] .refl hl (.sh r) (fun _ h => absurd h List.not_mem_nil)
theorem Res.new {p : Addr} {o : HO} {d : D} (h : Res K mg M H Q (.sh d)) (hl : Le M H) (hp : H p = none) (r : Le M (upd M p o) → Rep K mg (upd M p o) (.ref p) d) : Q (.ref p) (upd H p o) :=
  h _ _ _ [] (.sh hl hp) (.sh hl hp) (.sh (r (le_mm (upd_mono (none_le hl hp))))) (fun _ h => absurd h List.not_mem_nil)
theorem Res.own {p : Addr} {o : HO} {d : D} (h : Res K mg M H Q (.ow d)) (hl : Le M H) (hp : H p = none) (c : Cel K mg M o d) : Q (.ref p) (upd H p o) :=
  h _ _ _ [p] (.ow hp) (.ow hl hp) (.ow upd_same c (none_le hl hp)) (fun a ha => by rw [List.mem_singleton.mp ha]; exact hp)
/-- an answer without roots -/
theorem Post.res {t : T} (hp : Post K mg shE E M H G σ Q (.ok (.v t) ρ)) (s : S K mg M H L) (l : SL L σ ρ) (hG : ∀ r ∈ L, r ∈ G) : Res K mg M H Q t := by
  intro M' H' v k g hl ok hk
  have s2 := s.grow g hl
  refine hp M' H' [⟨some v, t, k, []⟩] L v ?_ (s2.cons ok fun r hr => ?_) l rfl trivial
  · refine ⟨g.mm, fun a o h _ => g.hm a o h, g.hd, fun a h => ?_, fun a h => ?_, fun a o h => (g.ms a o h).imp id .inr⟩
    · rcases Xs.cons.mp h with z | ⟨r, hr, ha⟩
      · exact .inr (hk a z)
      · exact .inl ⟨r, hG r hr, ha⟩
    · rcases Ys.cons.mp h with z | ⟨r, hr, ha⟩
      · cases z
      · exact ⟨r, hG r hr, ha⟩
  · have hh := (s.ok r hr).has
    exact ⟨fun a ha hb => (hh.1 a hb).1 (hk a ha), fun a ha hb => hh.2 a hb (hk a ha), fun _ _ h => absurd h List.not_mem_nil⟩
theorem Post.dry {α : Type} {sh : Sh α α} {a : α} {Q : α → Hp → Prop} (hh : sh.hd a a = []) (ha : sh.al M L a a) (hp : Post K mg sh E M H G σ Q (.ok a ρ)) (s : S K mg M H L) (l : SL L σ ρ) (hG : ∀ r ∈ L, r ∈ G) : Q a H :=
  hp M H [] L a (Up.refl.sub hG) s l hh.symm ha
end
/-! ### names and constants -/
def dVar (i : Nat) : DE := fun ρ => match ρ[i]? with
  | some .no => .stk
  | some _ => .ok (.al i) ρ
  | none => .stk
theorem Rok.val {K : PySem.W.Frag} {mg : Str → Option Value} {M H : Hp} {r : Rt} (ok : Rok K mg M H r) (n : r.t ≠ .no) : ∃ v, r.v = some v := by
  cases ok with
  | no o => exact absurd rfl n
  | _ => exact ⟨_, rfl⟩
theorem q_var (i : Nat) {x : Str} {pos : Pos} (hN : X.N[i]? = some x := by rfl) (hv : Vis X.env.scope x := by first | exact Or.inl rfl | exact Or.inr (Or.inl rfl) | exact Or.inr (Or.inr rfl)) (hd : (x == ("__debug__" : Str)) = false := by decide)
    (hcd : (x == ("__classdict__" : Str)) = false := by decide) : QE X Wx (.Name x pos) (dVar i) := by
  refine pe_imp (pe_var hN hv hd hcd) fun σ H Q ⟨M, L, ρ, s, l, hp⟩ => ?_
  have key : ∃ t, ρ[i]? = some t ∧ t ≠ .no ∧ dVar i ρ = .ok (.al i) ρ := by
    have n := hp.ne
    unfold dVar at n ⊢
    cases e : ρ[i]? with
    | none => rw [e] at n; exact absurd rfl n
    | some t =>
      rw [e] at n
      cases t with
      | no => exact absurd rfl n
      | _ => exact ⟨_, rfl, by simp, rfl⟩
  obtain ⟨t, e, nt, em⟩ := key
  rw [em] at hp
  rw [← l.t, List.getElem?_map] at e
  obtain ⟨r, hr, rfl⟩ := Option.map_eq_some_iff.mp e
  obtain ⟨v, hv⟩ := (s.ok r (List.mem_of_getElem? hr)).val nt
  have h1 : (L.map (·.v))[i]? = some (some v) := by rw [List.getElem?_map, hr, Option.map_some, hv]
  refine ⟨v, by rw [← l.v]; exact h1, ?_⟩
  refine hp M H [⟨some v, .no, [], []⟩] L v ?_ (s.cons (.no _) fun r _ => sep_sh r) l rfl h1
  refine ⟨fun _ _ h => h, fun _ _ h _ => h, fun _ h => h, fun a h => .inl ?_, fun a h => ?_, fun _ _ h => .inl h⟩
  · exact (Xs.cons.mp h).elim (fun z => absurd z List.not_mem_nil) id
  · exact (Ys.cons.mp h).elim (fun z => absurd z List.not_mem_nil) id
def dC (d : D) : DE := ret (.v (.sh d))
theorem q_tC {v : V} {d : D} (hr : ∀ M, Rep X.K X.mg M v d) {e : Expr} (h : PE X e (tC v)) : QE X Wx e (dC d) := by
  refine pe_imp h fun σ H Q ⟨M, L, ρ, s, l, hp⟩ => ?_
  exact (Post.res hp s l fun _ h => h).here s.le (hr M)
theorem q_int {i j pos} : QE X Wx (.Constant (.int i) j pos) (dC (.int i)) := q_tC (fun _ => .int i) pe_int
theorem q_bl {b j pos} : QE X Wx (.Constant (.bool b) j pos) (dC (.bl b)) := q_tC (fun _ => .bl b) pe_bl
theorem q_non {j pos} : QE X Wx (.Constant .none j pos) (dC .non) := q_tC (fun _ => .non) pe_non
theorem q_str {x j pos} : QE X Wx (.Constant (.str x) j pos) (dC (.str x)) := q_tC (fun _ => .str x) pe_str
/-- a module's constant -/
structure GlI (mg : Str → Option Value) (x : Str) (i : Int) : Prop where
  h : ∃ t, mg x = some (.int i t)
structure GlS (mg : Str → Option Value) (x z : Str) : Prop where
  h : ∃ t, mg x = some (.str z t)
theorem q_glI {x : Str} {i : Int} {pos : Pos} (hm : GlI X.mg x i) (hg : Gl X x) (hd : (x == ("__debug__" : Str)) = false := by decide) : QE X Wx (.Name x pos) (dC (.int i)) := by
  obtain ⟨t, hm⟩ := hm.h
  exact q_tC (fun _ => .int i) (pe_glob (v := .int i) hg hm ⟨t, rfl⟩ hd)
theorem q_glS {x : Str} {z : Str} {pos : Pos} (hm : GlS X.mg x z) (hg : Gl X x) (hd : (x == ("__debug__" : Str)) = false := by decide) : QE X Wx (.Name x pos) (dC (.str z)) := by
  obtain ⟨t, hm⟩ := hm.h
  exact q_tC (fun _ => .str z) (pe_glob (v := .str z) hg hm ⟨t, rfl⟩ hd)

/-! ### giving up -/
def giv : Z → DE
  | .v t => fun ρ => match gv t with
    | some d => .ok (.v (.sh d)) ρ
    | none => .stk
  | .al i => fun ρ => match ρ[i]? with
    | some t => (match gv t with
      | some d => .ok (.v (.sh d)) (ρ.set i (.sh d))
      | none => .stk)
    | none => .stk
def dGiv (m : DE) : DE := bnd m giv
theorem SL.set {L : List Rt} {σ : St} {ρ : Env} {i : Nat} {r : Rt} (l : SL L σ ρ) (hi : ∀ s, L[i]? = some s → s.v = r.v) : SL (L.set i r) σ (ρ.set i r.t) := by
  refine ⟨?_, by rw [List.map_set, l.t]⟩
  rw [List.map_set, l.v]
  apply List.ext_getElem?
  intro j
  by_cases e : i = j
  · subst e
    by_cases h : i < σ.length
    · rw [List.getElem?_set_self h]
      rw [← l.v] at h ⊢
      rw [List.getElem?_map]
      rw [List.length_map] at h
      rw [List.getElem?_eq_getElem h, Option.map_some, hi _ (List.getElem?_eq_getElem h)]
    · rw [List.getElem?_eq_none (by simp; omega), List.getElem?_eq_none (by omega)]
  · rw [List.getElem?_set_ne e]
theorem one_of {hs : List Rt} {o : Option V} {t : T} (h : hs.map vt = [(o, t)]) : ∃ r, hs = [r] ∧ r.v = o ∧ r.t = t := by
  cases hs with
  | nil => cases h
  | cons r hs =>
    cases hs with
    | nil => exact ⟨r, rfl, congrArg Prod.fst (List.cons.inj h).1, congrArg Prod.snd (List.cons.inj h).1⟩
    | cons _ _ => cases h
theorem givD_ok {m : DE} {σ : St} {H : Hp} {Q : VK} (hr : TEd X.K X.mg Wx (dGiv m) σ H Q) : TEd X.K X.mg Wx m σ H Q := by
  refine (run_bind (sa := shE) hr).mono fun v H1 ⟨M, hs, L, ρ, z, s, l, q, al, hp⟩ => ?_
  cases z with
  | v t =>
    simp only [giv] at hp
    cases hg : gv t with
    | none => rw [hg] at hp; exact hp.elim
    | some d =>
      rw [hg] at hp
      obtain ⟨r, rfl, e1, e2⟩ := one_of q
      replace e2 : r.t = t := e2
      obtain ⟨v', ev, rv, s2, u2⟩ := S.pub (i := 0) s rfl (by rw [e2]; exact hg)
      rw [e1] at ev
      cases ev
      exact hp _ _ [⟨some v, .sh d, [], []⟩] L v (by rw [← e1]; exact u2) (by rw [← e1]; exact s2) l rfl trivial
  | al i =>
    simp only [giv] at hp
    cases hi : ρ[i]? with
    | none => rw [hi] at hp; exact hp.elim
    | some t =>
      simp only [hi] at hp
      cases hg : gv t with
      | none => rw [hg] at hp; exact hp.elim
      | some d =>
        rw [hg] at hp
        rw [← l.t, List.getElem?_map] at hi
        obtain ⟨r, hr, rfl⟩ := Option.map_eq_some_iff.mp hi
        obtain ⟨v', ev, rv, s2, u2⟩ := S.pub s.right hr hg
        obtain ⟨s3, u3⟩ := s.frame s2 u2
        replace al : (L.map (·.v))[i]? = some (some v) := al
        rw [List.getElem?_map, hr, Option.map_some, ev] at al
        cases al
        refine hp _ _ [⟨some v, .sh d, [], []⟩] (L.set i ⟨r.v, .sh d, [], []⟩) v ?_ (s2.sh rv) (l.set (r := ⟨r.v, .sh d, [], []⟩) fun s hs => ?_) rfl trivial
        · have u4 := u3.sub (L' := L.set i ⟨r.v, .sh d, [], []⟩) fun r hr => List.mem_append_right _ hr
          exact ⟨u4.mm, u4.hm, u4.hd, fun a h => u4.xs a ((Xs.cons.mp h).elim (fun z => absurd z List.not_mem_nil) id), fun a h => u4.ys a ((Ys.cons.mp h).elim (fun z => absurd z List.not_mem_nil) id), u4.ms⟩
        · rw [hr] at hs; cases hs; rfl
theorem q_giv {e : Expr} {m : DE} (h : QE X Wx e m) : QE X Wx e (dGiv m) := pe_imp h fun σ H Q hr => givD_ok hr

/-! ### operators by values -/
def Op2 (K : PySem.W.Frag) (mg : Str → Option Value) (r : R2) (f : D → D → Option T) : Prop := ∀ {M H : Hp} {Q : VK} {x y : V} {a b : D} {t : T},
  Le M H → Rep1 K mg M H x a → Rep1 K mg M H y b → f a b = some t → Res K mg M H Q t → r x y H Q
def Op1 (K : PySem.W.Frag) (mg : Str → Option Value) (r : V → Hp → VK → Prop) (f : D → Option T) : Prop := ∀ {M H : Hp} {Q : VK} {x : V} {a : D} {t : T},
  Le M H → Rep1 K mg M H x a → f a = some t → Res K mg M H Q t → r x H Q
inductive Rep1s (K : PySem.W.Frag) (mg : Str → Option Value) (M H : Hp) : List V → List D → Prop
  | nil : Rep1s K mg M H [] []
  | cons {v : V} {vs : List V} {d : D} {ds : List D} : Rep1 K mg M H v d → Rep1s K mg M H vs ds → Rep1s K mg M H (v :: vs) (d :: ds)
def OpN (K : PySem.W.Frag) (mg : Str → Option Value) (r : List V → Hp → VK → Prop) (f : List D → Option T) : Prop := ∀ {M H : Hp} {Q : VK} {xs : List V} {ds : List D} {t : T},
  Le M H → Rep1s K mg M H xs ds → f ds = some t → Res K mg M H Q t → r xs H Q
/-- an answer -/
def ans : Option T → DE
  | some t => ret (.v t)
  | none => stk
def rd (z : Z) (k : D → DE) : DE := fun ρ => match zd ρ z with
  | some d => k d ρ
  | none => .stk
def d1 (f : D → Option T) (m : DE) : DE := bnd m fun x => rd x fun d => ans (f d)
def d2 (f : D → D → Option T) (ma mb : DE) : DE := bnd ma fun x => bnd mb fun y => rd x fun d => rd y fun e => ans (f d e)
def zds (ρ : Env) : List Z → Option (List D)
  | [] => some []
  | z :: zs => match zd ρ z, zds ρ zs with
    | some d, some ds => some (d :: ds)
    | _, _ => none
def rds (zs : List Z) (k : List D → DE) : DE := fun ρ => match zds ρ zs with
  | some d => k d ρ
  | none => .stk
def dN (f : List D → Option T) (m : P (List Z)) : DE := bnd m fun xs => rds xs fun ds => ans (f ds)
section
variable {K : PySem.W.Frag} {mg : Str → Option Value} {E : XK} {M H : Hp} {G L hs : List Rt} {σ : St} {ρ : Env} {Q : VK}
theorem ans_ok {o : Option T} (hp : Post K mg shE E M H G σ Q (ans o ρ)) : ∃ t, o = some t ∧ Post K mg shE E M H G σ Q (.ok (.v t) ρ) := by
  cases o with
  | none => exact hp.elim
  | some t => exact ⟨t, rfl, hp⟩
theorem rd_ok {z : Z} {k : D → DE} (hp : Post K mg shE E M H G σ Q (rd z k ρ)) : ∃ d, zd ρ z = some d ∧ Post K mg shE E M H G σ Q (k d ρ) := by
  unfold rd at hp
  cases e : zd ρ z with
  | none => rw [e] at hp; exact hp.elim
  | some d => rw [e] at hp; exact ⟨d, rfl, hp⟩
theorem rds_ok {z : List Z} {k : List D → DE} (hp : Post K mg shE E M H G σ Q (rds z k ρ)) : ∃ d, zds ρ z = some d ∧ Post K mg shE E M H G σ Q (k d ρ) := by
  unfold rds at hp
  cases e : zds ρ z with
  | none => rw [e] at hp; exact hp.elim
  | some d => rw [e] at hp; exact ⟨d, rfl, hp⟩
theorem zds_ok (s : S K mg M H (hs ++ L)) (l : SL L σ ρ) : ∀ {zs : List Z} {vs : List V} {ds : List D}, (∀ p ∈ (vs.map some).zip (zs.map zt), p ∈ hs.map vt) → Als L vs zs → zds ρ zs = some ds → Rep1s K mg M H vs ds
  | [], _, _, _, .nil, e => by cases e; exact .nil
  | z :: zs, v :: vs, ds, hh, .cons a b, e => by
    unfold zds at e
    split at e
    · rename_i d ds' e1 e2
      cases e
      exact .cons (zd_ok s l (hh _ (by simp)) a e1) (zds_ok s l (fun p hp => hh p (by simp only [List.map_cons, List.zip_cons_cons]; exact List.mem_cons_of_mem _ hp)) b e2)
    · cases e
end
variable {a b : Expr} {es : List Expr} {ma mb : DE} {mas : P (List Z)} {pos : Pos} {r : R2} {f : D → D → Option T}
theorem mem1 {v : V} {z : Z} {hs : List Rt} (q : hs.map vt = shE.hd v z) : (some v, zt z) ∈ hs.map vt := by
  rw [q]
  exact List.mem_singleton.mpr rfl
theorem run2 (hf : Op2 X.K X.mg r f) {σ : St} {H : Hp} {Q : VK} (h : TEd X.K X.mg Wx (d2 f ma mb) σ H Q) : TEd X.K X.mg Wx ma σ H fun x H1 => TEd X.K X.mg Wx mb σ H1 fun y H2 => r x y H2 Q := by
  refine (run_bind (sa := shE) h).mono fun x H1 h1 => ?_
  refine (mid_bind (sb := shE) (f := fun x y => rd x fun d => rd y fun e => ans (f d e)) stays_E h1).mono fun y H2 h2 => ?_
  obtain ⟨M, hs, L, ρ, ⟨z1, z2⟩, s, l, q, al, hp⟩ := h2
  obtain ⟨d, e1, hp⟩ := rd_ok hp
  obtain ⟨e, e2, hp⟩ := rd_ok hp
  obtain ⟨t, ef, hp⟩ := ans_ok hp
  refine hf s.le (zd_ok s l ?_ al.1 e1) (zd_ok s l ?_ al.2 e2) ef (hp.res s.right l fun r hr => List.mem_append_right _ hr)
  · rw [q]; exact List.mem_append_left _ (List.mem_singleton.mpr rfl)
  · rw [q]; exact List.mem_append_right _ (List.mem_singleton.mpr rfl)
theorem run1 {r : V → Hp → VK → Prop} {f : D → Option T} (hf : Op1 X.K X.mg r f) {σ : St} {H : Hp} {Q : VK} (h : TEd X.K X.mg Wx (d1 f ma) σ H Q) : TEd X.K X.mg Wx ma σ H fun x H1 => r x H1 Q := by
  refine (run_bind (sa := shE) h).mono fun x H1 h1 => ?_
  obtain ⟨M, hs, L, ρ, z1, s, l, q, al, hp⟩ := h1
  obtain ⟨d, e1, hp⟩ := rd_ok hp
  obtain ⟨t, ef, hp⟩ := ans_ok hp
  exact hf s.le (zd_ok s l (mem1 q) al e1) ef (hp.res s.right l fun r hr => List.mem_append_right _ hr)
theorem runN {r : List V → Hp → VK → Prop} {f : List D → Option T} (hf : OpN X.K X.mg r f) {σ : St} {H : Hp} {Q : VK} (h : TEd X.K X.mg Wx (dN f mas) σ H Q) : TAd X.K X.mg Wx mas σ H fun x H1 => r x H1 Q := by
  refine (run_bind (sa := shA) h).mono fun x H1 h1 => ?_
  obtain ⟨M, hs, L, ρ, z1, s, l, q, al, hp⟩ := h1
  obtain ⟨d, e1, hp⟩ := rds_ok hp
  obtain ⟨t, ef, hp⟩ := ans_ok hp
  exact hf s.le (zds_ok s l (fun p hp => by rw [q]; exact hp) al e1) ef (hp.res s.right l fun r hr => List.mem_append_right _ hr)
theorem q_op {op : Operator} (hf : Op2 X.K X.mg r f) (ho : OpR X (binaryOp op) r) (ha : QE X Wx a ma) (hb : QE X Wx b mb) : QE X Wx (.BinOp a op b pos) (d2 f ma mb) := pe_imp (pe_op ho ha hb) fun _ _ _ h => run2 hf h
theorem q_cmp {op : CmpOp} (hf : Op2 X.K X.mg r f) (ho : OpR X (compareOp op) r) (hm : behindInMarks op b = false) (ha : QE X Wx a ma) (hb : QE X Wx b mb) : QE X Wx (.Compare a [op] [b] pos) (d2 f ma mb) := pe_imp (pe_cmpR ho ha hb hm) fun _ _ _ h => run2 hf h
theorem q_un {op : UnaryOp} {r : V → Hp → VK → Prop} {f : D → Option T} (hf : Op1 X.K X.mg r f) (ho : UnR X (unaryOp op) r) (ha : QE X Wx a ma) : QE X Wx (.UnaryOp op a pos) (d1 f ma) := pe_imp (pe_un ho ha) fun _ _ _ h => run1 hf h
theorem q_ix (hf : Op2 X.K X.mg r f) (ho : IxR X r) (ha : QE X Wx a ma) (hb : QE X Wx b mb) (hs : PlainIx b := by intro _ _; rfl) : QE X Wx (.Subscript a b pos) (d2 f ma mb) := pe_imp (pe_ix ho ha hb hs) fun _ _ _ h => run2 hf h

/-! ### arguments -/
def aNil : P (List Z) := ret []
def aCons (m : DE) (ms : P (List Z)) : P (List Z) := bnd m fun x => bnd ms fun xs => ret (x :: xs)
theorem qa_nil : QA X Wx [] aNil := by
  refine pa_imp pa_nil fun σ H Q ⟨M, L, ρ, s, l, hp⟩ => ?_
  exact hp M H [] L [] .refl s l rfl .nil
theorem qa_cons (ha : QE X Wx a ma) (hr : QA X Wx es mas) (hs : starEach (a :: es) X.env = (false, eval a X.env) :: starEach es X.env := by rfl) : QA X Wx (a :: es) (aCons ma mas) := by
  refine pa_imp (pa_cons ha hr hs) fun σ H Q h => ?_
  refine (run_bind (sa := shE) h).mono fun x H1 h1 => ?_
  refine (mid_bind (sb := shA) (f := fun x xs => ret (x :: xs)) stays_E h1).mono fun y H2 h2 => ?_
  obtain ⟨M, hs, L, ρ, ⟨z1, z2⟩, s, l, q, al, hp⟩ := h2
  exact hp M H2 hs L (x :: y) .refl s l q (.cons al.1 al.2)
end
/-! ### numbers -/
section
variable {X : Cx}
/-- two whole numbers -/
def wII (g : Int → Int → Option D) : D → D → Option T := fun x y => match x, y with
  | .int i, .int j => (g i j).map T.sh
  | _, _ => none
theorem op2_II {C : Int → Int → Prop} {g : Int → Int → V} {g' : Int → Int → Option D} (hg : ∀ i j d, g' i j = some d → C i j ∧ ∀ M, Rep X.K X.mg M (g i j) d) : Op2 X.K X.mg (rI C g) (wII g') := by
  intro M H Q x y a b t hl ra rb hm hp
  unfold wII at hm
  split at hm
  · rename_i i j
    obtain ⟨d, e2, rfl⟩ := Option.map_eq_some_iff.mp hm
    obtain ⟨c, rd⟩ := hg i j d e2
    exact ⟨i, j, rep1_int ra, rep1_int rb, c, hp.here hl (rd _)⟩
  · cases hm
theorem op2_II0 {g : Int → Int → V} {g' : Int → Int → Option D} (hg : ∀ i j d, g' i j = some d → ∀ M, Rep X.K X.mg M (g i j) d) : Op2 X.K X.mg (rI0 g) (wII g') := by
  intro M H Q x y a b t hl ra rb hm hp
  unfold wII at hm
  split at hm
  · rename_i i j
    obtain ⟨d, e2, rfl⟩ := Option.map_eq_some_iff.mp hm
    exact ⟨i, j, rep1_int ra, rep1_int rb, hp.here hl (hg i j d e2 _)⟩
  · cases hm
def wSub : D → D → Option T := wII fun i j => some (.int (i - j))
theorem op2_sub : Op2 X.K X.mg (rI0 fun i j => .int (i - j)) wSub := op2_II0 fun i j d e => by cases e; exact fun _ => .int _
/-- a divisor that the machine takes -/
def dvOk (j : Int) : Bool := decide (0 < j) && decide (j.natAbs < 2 ^ 8000)
def wFdv : D → D → Option T := wII fun i j => if dvOk j = true then some (.int (i / j)) else none
theorem op2_fdv : Op2 X.K X.mg (rI CDivW fun i j => .int (i / j)) wFdv := op2_II fun i j d e => by
  split at e
  · rename_i h
    cases e
    simp only [dvOk, Bool.and_eq_true, decide_eq_true_eq] at h
    exact ⟨wide_div h.1 h.2 (by decide) (by decide), fun _ => .int _⟩
  · cases e
def wMod : D → D → Option T := wII fun i j => if 0 < j then some (.int (i % j)) else none
theorem op2_mod : Op2 X.K X.mg (rI (fun _ j => 0 < j) fun i j => .int (i % j)) wMod := op2_II fun i j d e => by
  split at e
  · rename_i h
    cases e
    exact ⟨h, fun _ => .int _⟩
  · cases e
def pwOk (i j : Int) : Bool := decide (0 ≤ j) && decide (j ≤ 1000000) && decide (i.natAbs < 2 ^ 64)
def wPow : D → D → Option T := wII fun i j => if pwOk i j = true then some (.int (i ^ j.toNat)) else none
theorem op2_pow : Op2 X.K X.mg (rI CPow fun i j => .int (i ^ j.toNat)) wPow := op2_II fun i j d e => by
  split at e
  · rename_i h
    cases e
    simp only [pwOk, Bool.and_eq_true, decide_eq_true_eq] at h
    exact ⟨⟨h.1.1, h.1.2, h.2⟩, fun _ => .int _⟩
  · cases e
def wLt : D → D → Option T := wII fun i j => some (.bl (decide (i < j)))
def wLe : D → D → Option T := wII fun i j => some (.bl (decide (i ≤ j)))
def wGt : D → D → Option T := wII fun i j => some (.bl (decide (j < i)))
def wGe : D → D → Option T := wII fun i j => some (.bl (decide (j ≤ i)))
theorem op2_lt : Op2 X.K X.mg (rI0 fun i j => .bl (decide (i < j))) wLt := op2_II0 fun i j d e => by cases e; exact fun _ => .bl _
theorem op2_le : Op2 X.K X.mg (rI0 fun i j => .bl (decide (i ≤ j))) wLe := op2_II0 fun i j d e => by cases e; exact fun _ => .bl _
theorem op2_gt : Op2 X.K X.mg (rI0 fun i j => .bl (decide (j < i))) wGt := op2_II0 fun i j d e => by cases e; exact fun _ => .bl _
theorem op2_ge : Op2 X.K X.mg (rI0 fun i j => .bl (decide (j ≤ i))) wGe := op2_II0 fun i j d e => by cases e; exact fun _ => .bl _
def wNeg : D → Option T
  | .int i => some (.sh (.int (-i)))
  | _ => none
theorem op1_neg : Op1 X.K X.mg (rU fun i => .int (-i)) wNeg := by
  intro M H Q x a t hl ra hm hp
  unfold wNeg at hm
  split at hm
  · cases hm
    exact ⟨_, rep1_int ra, hp.here hl (.int _)⟩
  · cases hm
/-! is None -/
def isN : D → Bool
  | .non => true
  | _ => false
theorem isN_ok {K : PySem.W.Frag} {mg : Str → Option Value} {M H : Hp} {v : V} {d : D} (r : Rep1 K mg M H v d) : decide (v = V.non) = isN d := by
  rcases r with r | ⟨a, o, rfl, h, c⟩
  · cases d <;> cases r <;> rfl
  · cases c <;> rfl
def wIs (neg : Bool) : D → D → Option T := fun x y => match y with
  | .non => some (.sh (.bl (isN x != neg)))
  | _ => none
theorem op2_is : Op2 X.K X.mg (fun x y H Q => y = .non ∧ Q (.bl (decide (x = .non))) H) (wIs false) := by
  intro M H Q x y a b t hl ra rb hm hp
  unfold wIs at hm
  split at hm
  · cases hm
    refine ⟨rep1_non rb, hp.here hl ?_⟩
    rw [isN_ok ra, Bool.bne_false]
    exact .bl _
  · cases hm
theorem op2_isnot : Op2 X.K X.mg (fun x y H Q => y = .non ∧ Q (.bl (!decide (x = .non))) H) (wIs true) := by
  intro M H Q x y a b t hl ra rb hm hp
  unfold wIs at hm
  split at hm
  · cases hm
    refine ⟨rep1_non rb, hp.here hl ?_⟩
    rw [isN_ok ra, Bool.bne_true]
    exact .bl _
  · cases hm
end
end V

set_option Elab.async false
set_option linter.all false
set_option maxRecDepth 100000
/-! V4: +, *, ==, in, subscripts, slices, truth, displays. -/
namespace V
open PySem PySem.Spec PyProof.Rows L2
/-! ### data as the library's data -/
mutual
def py : D → Option PyData
  | .non => some .none
  | .bl b => some (.bool b)
  | .int i => some (.int i)
  | .str s => some (.str s)
  | .tup l => (pys l).map .tuple
  | .lst l => (pys l).map .list
  | .scr l => (pys l).map .list
  | .dk _ _ => none
  | .dt _ _ => none
  | .obj _ _ _ => none
  | .exc _ => none
def pys : List D → Option (List PyData)
  | [] => some []
  | d :: ds => match py d, pys ds with
    | some a, some b => some (a :: b)
    | _, _ => none
end
section
variable {K : PySem.W.Frag} {mg : Str → Option Value} {M H : Hp}
theorem scr_ok {v : V} {l : List D} (r : Rep K mg H v (.scr l)) : ∃ a vs, v = .ref a ∧ SqL K H a vs ∧ Reps K mg H vs l := by
  cases r with
  | scr h r =>
    rcases h with ⟨o, h⟩ | h
    · exact ⟨_, _, rfl, .inl (.inr ⟨o, h⟩), r⟩
    · exact ⟨_, _, rfl, .inr h, r⟩
mutual
theorem Rep.dp : ∀ {d : D} {v : V} {p : PyData}, Rep K mg H v d → py d = some p → Dp K H v p
  | .non, _, _, r, e => by cases r; simp [py] at e; subst e; exact .non
  | .bl b, _, _, r, e => by cases r; simp [py] at e; subst e; exact .bl b
  | .int i, _, _, r, e => by cases r; simp [py] at e; subst e; exact .int i
  | .str s, _, _, r, e => by cases r; simp [py] at e; subst e; exact .str s
  | .tup l, _, _, r, e => by
    cases r with
    | tup h r =>
      simp only [py, Option.map_eq_some_iff] at e
      obtain ⟨ps, e, rfl⟩ := e
      exact .tup (.of h) (Reps.dp r e)
  | .lst l, _, _, r, e => by
    cases r with
    | lst h r =>
      simp only [py, Option.map_eq_some_iff] at e
      obtain ⟨ps, e, rfl⟩ := e
      exact .lst (.of h) (Reps.dp r e)
  | .scr l, _, _, r, e => by
    obtain ⟨a, vs, rfl, h, r⟩ := scr_ok r
    simp only [py, Option.map_eq_some_iff] at e
    obtain ⟨ps, e, rfl⟩ := e
    exact .lst h (Reps.dp r e)
  | .dk _ _, _, _, _, e => by simp [py] at e
  | .dt _ _, _, _, _, e => by simp [py] at e
  | .obj _ _ _, _, _, _, e => by simp [py] at e
  | .exc _, _, _, _, e => by simp [py] at e
theorem Reps.dp : ∀ {ds : List D} {vs : List V} {ps : List PyData}, Reps K mg H vs ds → pys ds = some ps → DpAll K H vs ps
  | [], _, _, .nil, e => by simp [pys] at e; subst e; exact .nil
  | d :: ds, _, _, .cons a b, e => by
    unfold pys at e
    split at e
    · rename_i p q e1 e2
      cases e
      exact .cons (Rep.dp a e1) (Reps.dp b e2)
    · cases e
end
end
/-! ### == -/
def eqOk (a b : PyData) : Bool := a.canLay0 && b.canLay0 && decide (min a.depth b.depth ≤ 200)
def rEqQ (K : PySem.W.Frag) (neg : Bool) : R2 := fun x y H Q => ∃ d e, Dp K H x d ∧ Dp K H y e ∧ eqOk d e = true ∧ Q (.bl (PyData.eqv d e != neg)) H
section
variable {X : Cx} {Wx : WX}
theorem op_eqQ (hu : X.A.units + 200 < cLine) : OpR X (compareOp .Eq) (rEqQ X.K false) := by
  intro pins s σ H x y v u Q I rx ry h
  obtain ⟨d, e, hd, he, ok, q⟩ := h
  simp only [eqOk, Bool.and_eq_true, decide_eq_true_eq] at ok
  obtain ⟨as, r1⟩ := Dp.reads I d x v hd rx
  obtain ⟨bs, r2⟩ := Dp.reads I e y u he ry
  exact SeqAt.compareEq_reads r1 r2 ok.1.1 ok.1.2 (by omega) ⟨.bl _, H, I, rfl, by rw [Bool.bne_false] at q; exact q⟩
theorem op_neQ (hu : X.A.units + 200 < cLine) : OpR X (compareOp .NotEq) (rEqQ X.K true) := by
  intro pins s σ H x y v u Q I rx ry h
  obtain ⟨d, e, hd, he, ok, q⟩ := h
  simp only [eqOk, Bool.and_eq_true, decide_eq_true_eq] at ok
  obtain ⟨as, r1⟩ := Dp.reads I d x v hd rx
  obtain ⟨bs, r2⟩ := Dp.reads I e y u he ry
  exact SeqAt.compareNe_reads r1 r2 ok.1.1 ok.1.2 (by omega) ⟨.bl _, H, I, rfl, by rw [Bool.bne_true] at q; exact q⟩
def wEq (neg : Bool) : D → D → Option T := fun x y => match py x, py y with
  | some a, some b => if eqOk a b = true then some (.sh (.bl (PyData.eqv a b != neg))) else none
  | _, _ => none
theorem op2_eq {neg : Bool} : Op2 X.K X.mg (rEqQ X.K neg) (wEq neg) := by
  intro M H Q x y a b t hl ra rb hm hp
  unfold wEq at hm
  split at hm
  · rename_i d1 d2 e1 e2
    split at hm
    · rename_i ok
      cases hm
      exact ⟨d1, d2, (ra.full hl).dp e1, (rb.full hl).dp e2, ok, hp.here hl (.bl _)⟩
    · cases hm
  · cases hm
/-! ### in -/
def rInQ (K : PySem.W.Frag) (neg : Bool) : R2 := fun x y H Q => ∃ d ds, Dp K H x d ∧ (Dp K H y (.list ds) ∨ Dp K H y (.tuple ds)) ∧ d.canLay0 = true ∧ d.depth ≤ 100 ∧ PyData.canLayAll0 ds = true ∧ Q (.bl ((ds.any fun z => PyData.eqv z d) != neg)) H
def rInSg (neg : Bool) : R2 := fun x y H Q => ∃ (c : Nat) (z : Str), x = .str ⟨#[c]⟩ ∧ y = .str z ∧ Q (.bl (decide (c ∈ z.cps.toList) != neg)) H
def rInDk (neg : Bool) : R2 := fun x y H Q => ∃ (a : Addr) (o : Option V), y = .ref a ∧ DGet H a x o ∧ Q (.bl (o.isSome != neg)) H
theorem op_inQ (hu : X.A.units + 200 < cLine) : OpR X (compareOp .In) (rInQ X.K false) := by
  intro pins s σ H x y v u Q I rx ry h
  obtain ⟨d, ds, hd, he, c1, dp, c2, q⟩ := h
  obtain ⟨as, r1⟩ := Dp.reads I d x v hd rx
  rw [Bool.bne_false] at q
  rcases he with he | he
  · obtain ⟨bs, r2⟩ := Dp.reads I _ y u he ry
    exact SeqAt.in_list_reads r2 r1 c2 c1 (by omega) ⟨.bl _, H, I, rfl, q⟩
  · obtain ⟨bs, r2⟩ := Dp.reads I _ y u he ry
    exact SeqAt.in_tuple_reads r2 r1 c2 c1 (by omega) ⟨.bl _, H, I, rfl, q⟩
theorem op_notInQ (hu : X.A.units + 200 < cLine) : OpR X (compareOp .NotIn) (rInQ X.K true) := by
  intro pins s σ H x y v u Q I rx ry h
  obtain ⟨d, ds, hd, he, c1, dp, c2, q⟩ := h
  obtain ⟨as, r1⟩ := Dp.reads I d x v hd rx
  rw [Bool.bne_true] at q
  rcases he with he | he
  · obtain ⟨bs, r2⟩ := Dp.reads I _ y u he ry
    exact SeqAt.notIn_list_reads r2 r1 c2 c1 (by omega) ⟨.bl _, H, I, rfl, q⟩
  · obtain ⟨bs, r2⟩ := Dp.reads I _ y u he ry
    exact SeqAt.notIn_tuple_reads r2 r1 c2 c1 (by omega) ⟨.bl _, H, I, rfl, q⟩
theorem op_inSg : OpR X (compareOp .In) (rInSg false) := by
  intro pins s σ H x y v u Q I rx ry ⟨c, z, h1, h2, q⟩
  exact op_in_sign pins s σ H x y v u Q I rx ry ⟨c, z, h1, h2, by rw [Bool.bne_false] at q; exact q⟩
theorem op_notInSg : OpR X (compareOp .NotIn) (rInSg true) := by
  intro pins s σ H x y v u Q I rx ry ⟨c, z, h1, h2, q⟩
  exact op_notIn_sign pins s σ H x y v u Q I rx ry ⟨c, z, h1, h2, by rw [Bool.bne_true] at q; exact q⟩
theorem op_inDk (hu : X.A.units + 200 < cLine) : OpR X (compareOp .In) (rInDk false) := by
  intro pins s σ H x y v u Q I rx ry ⟨a, o, h2, g, q⟩
  subst h2
  obtain rfl : u = Value.ref a := ry
  rw [Bool.bne_false] at q
  exact d_in (o := o) (by omega) I g rx fun s3 I3 => ⟨.bl _, H, I3, rfl, q⟩
theorem op_notInDk (hu : X.A.units + 200 < cLine) : OpR X (compareOp .NotIn) (rInDk true) := by
  intro pins s σ H x y v u Q I rx ry ⟨a, o, h2, g, q⟩
  subst h2
  obtain rfl : u = Value.ref a := ry
  rw [Bool.bne_true] at q
  exact d_notIn (o := o) (by omega) I g rx fun s3 I3 => ⟨.bl _, H, I3, rfl, q⟩
def rInAll (K : PySem.W.Frag) (neg : Bool) : R2 := fun x y H Q => (rInQ K neg x y H Q ∨ rInSg neg x y H Q) ∨ rInDk neg x y H Q
theorem op_inA (hu : X.A.units + 200 < cLine) : OpR X (compareOp .In) (rInAll X.K false) := .or (.or (op_inQ hu) op_inSg) (op_inDk hu)
theorem op_notInA (hu : X.A.units + 200 < cLine) : OpR X (compareOp .NotIn) (rInAll X.K true) := .or (.or (op_notInQ hu) op_notInSg) (op_notInDk hu)
/-- the key that a value is -/
def keyD : D → Option Key
  | .int i => some (.inl i)
  | .str s => some (.inr s)
  | _ => none
def keysD : List D → Option (List Key)
  | [] => some []
  | d :: ds => match keyD d, keysD ds with
    | some k, some ks => some (k :: ks)
    | _, _ => none
def keyT : D → Option (List Key)
  | .tup l => keysD l
  | _ => none
/-- what a key has -/
def getK {κ : Type} [DecidableEq κ] : List κ → List D → κ → Option D
  | j :: ks, d :: ds, k => if j = k then some d else getK ks ds k
  | _, _, _ => none
section
variable {K : PySem.W.Frag} {mg : Str → Option Value} {M H : Hp}
theorem keyD_ok {v : V} {d : D} {k : Key} (r : Rep1 K mg M H v d) (e : keyD d = some k) : v = kV k := by
  unfold keyD at e
  split at e
  · cases e; exact rep1_int r
  · cases e; exact rep1_str r
  · cases e
theorem keysD_ok : ∀ {ds : List D} {vs : List V} {ks : List Key}, Reps K mg M vs ds → keysD ds = some ks → vs = ks.map kV
  | [], _, _, .nil, e => by cases e; rfl
  | d :: ds, _, _, .cons r rs, e => by
    unfold keysD at e
    split at e
    · rename_i k ks e1 e2
      cases e
      rw [keyD_ok (M := M) (H := M) (.inl r) e1, keysD_ok rs e2]
      rfl
    · cases e
theorem keyT_ok {v : V} {d : D} {k : List Key} (hl : Le M H) (r : Rep1 K mg M H v d) (e : keyT d = some k) : ∃ b, v = .ref b ∧ H b = some (.tup (k.map kV)) := by
  unfold keyT at e
  split at e
  · obtain ⟨b, vs, rfl, _, h, rs⟩ := rep1_tup hl r
    rw [keysD_ok rs e] at h
    exact ⟨b, rfl, h⟩
  · cases e
theorem getK_some {κ : Type} [DecidableEq κ] {k : κ} : ∀ {kvs : List (κ × V)} {ds : List D} {d : D}, Reps K mg M (kvs.map (·.2)) ds → getK (kvs.map (·.1)) ds k = some d → ∃ v, valV kvs k = some v ∧ Rep K mg M v d
  | [], _, _, _, e => by cases e
  | p :: kvs, [], _, r, e => by cases r
  | p :: kvs, d :: ds, d', r, e => by
    simp only [List.map_cons] at r e
    cases r with
    | cons r1 r2 =>
      unfold getK at e
      by_cases h : p.1 = k
      · rw [if_pos h] at e
        cases e
        exact ⟨p.2, valV_pos h, r1⟩
      · rw [if_neg h] at e
        rw [valV_neg h]
        exact getK_some r2 e
theorem getK_none {κ : Type} [DecidableEq κ] {k : κ} : ∀ {kvs : List (κ × V)} {ds : List D}, Reps K mg M (kvs.map (·.2)) ds → getK (kvs.map (·.1)) ds k = none → valV kvs k = none
  | [], _, _, e => rfl
  | p :: kvs, [], r, e => by cases r
  | p :: kvs, d :: ds, r, e => by
    simp only [List.map_cons] at r e
    cases r with
    | cons r1 r2 =>
      unfold getK at e
      by_cases h : p.1 = k
      · rw [if_pos h] at e
        cases e
      · rw [if_neg h] at e
        rw [valV_neg h]
        exact getK_none r2 e
/-- what a dict holds -/
def dGet : D → D → Option (Option D)
  | .dk ks l, x => (keyD x).map fun k => getK ks l k
  | .dt ks l, x => (keyT x).map fun k => getK ks l k
  | _, _ => none
def GRep (K : PySem.W.Frag) (mg : Str → Option Value) (M : Hp) (u : Option V) : Option D → Prop
  | some y => ∃ z, u = some z ∧ Rep K mg M z y
  | none => u = none
theorem dGet_ok {v w : V} {d x : D} {o : Option D} (hl : Le M H) (r : Rep1 K mg M H v d) (rx : Rep1 K mg M H w x) (e : dGet d x = some o) : ∃ a u, v = .ref a ∧ DGet H a w u ∧ GRep K mg M u o := by
  unfold dGet at e
  split at e
  · obtain ⟨k, ek, rfl⟩ := Option.map_eq_some_iff.mp e
    obtain ⟨a, kvs, rfl, h, rfl, rs⟩ := rep1_dk hl r
    refine ⟨a, valV kvs k, rfl, .inl ⟨kvs, k, h, keyD_ok rx ek, rfl⟩, ?_⟩
    cases eg : getK (kvs.map (·.1)) _ k with
    | none => exact getK_none rs eg
    | some y => exact getK_some rs eg
  · obtain ⟨k, ek, rfl⟩ := Option.map_eq_some_iff.mp e
    obtain ⟨a, kvs, rfl, h, rfl, rs⟩ := rep1_dt hl r
    obtain ⟨b, rfl, hb⟩ := keyT_ok hl rx ek
    refine ⟨a, valV kvs k, rfl, .inr ⟨kvs, k, b, h, rfl, hb, rfl⟩, ?_⟩
    cases eg : getK (kvs.map (·.1)) _ k with
    | none => exact getK_none rs eg
    | some y => exact getK_some rs eg
  · cases e
end
def sign1 : D → Option Nat
  | .str s => if s.cps.size = 1 then s.cps[0]? else none
  | _ => none
theorem sign1_ok {w : D} {c : Nat} (e : sign1 w = some c) : w = .str ⟨#[c]⟩ := by
  unfold sign1 at e
  split at e
  · rename_i s
    split at e
    · rename_i h
      obtain ⟨a⟩ := s
      have h1 : a.size = 1 := h
      have : a = #[c] := by
        apply Array.ext
        · simp [h1]
        · intro i h2 h3
          have h3' : i < 1 := by simpa using h3
          have hi : i = 0 := by omega
          subst hi
          have e' : a[0]? = some c := e
          rw [Array.getElem?_eq_getElem h2] at e'
          simpa using e'
      rw [this]
    · cases e
  · cases e
/-- x in y -/
def seqD : D → Option (List D)
  | .tup l => some l
  | .lst l => some l
  | .scr l => some l
  | _ => none
def inOk (d : PyData) (ds : List PyData) : Bool := d.canLay0 && PyData.canLayAll0 ds && decide (d.depth ≤ 100)
def wIn (neg : Bool) : D → D → Option T := fun x y => match y with
  | .str z => (sign1 x).map fun c => .sh (.bl (decide (c ∈ z.cps.toList) != neg))
  | y => match dGet y x with
    | some o => some (.sh (.bl (o.isSome != neg)))
    | none => match py x, (seqD y).bind pys with
      | some d, some ds => if inOk d ds = true then some (.sh (.bl ((ds.any fun z => PyData.eqv z d) != neg))) else none
      | _, _ => none
theorem seqD_dp {M H : Hp} {K : PySem.W.Frag} {mg : Str → Option Value} {v : V} {d : D} {l : List D} {ps : List PyData} (hl : Le M H) (r : Rep1 K mg M H v d) (e : seqD d = some l) (e2 : pys l = some ps) : Dp K H v (.list ps) ∨ Dp K H v (.tuple ps) := by
  have r := r.full hl
  unfold seqD at e
  split at e
  · cases e; exact .inr (r.dp (by simp only [py, e2, Option.map_some]))
  · cases e; exact .inl (r.dp (by simp only [py, e2, Option.map_some]))
  · cases e; exact .inl (r.dp (by simp only [py, e2, Option.map_some]))
  · cases e
theorem op2_in {neg : Bool} : Op2 X.K X.mg (rInAll X.K neg) (wIn neg) := by
  intro M H Q x y a b t hl ra rb hm hp
  unfold wIn at hm
  split at hm
  · rename_i z
    obtain ⟨c, e1, rfl⟩ := Option.map_eq_some_iff.mp hm
    rw [sign1_ok e1] at ra
    exact .inl (.inr ⟨c, z, rep1_str ra, rep1_str rb, hp.here hl (.bl _)⟩)
  · split at hm
    · rename_i o eg
      cases hm
      obtain ⟨p, u, rfl, g, k⟩ := dGet_ok hl rb ra eg
      refine .inr ⟨p, u, rfl, g, hp.here hl ?_⟩
      cases o with
      | none => rw [show u = none from k]; exact .bl _
      | some y => obtain ⟨z, rfl, _⟩ := k; exact .bl _
    · split at hm
      · rename_i d ds e1 e2
        split at hm
        · rename_i ok
          cases hm
          obtain ⟨l, e3, e4⟩ := Option.bind_eq_some_iff.mp e2
          simp only [inOk, Bool.and_eq_true, decide_eq_true_eq] at ok
          exact .inl (.inl ⟨d, ds, (ra.full hl).dp e1, seqD_dp hl rb e3 e4, ok.1.1, ok.2, ok.1.2, hp.here hl (.bl _)⟩)
        · cases hm
      · cases hm
/-! ### + -/
def szOk (n : Nat) : Bool := decide (n ≤ sizeLine)
theorem szOk_iff {n : Nat} : szOk n = true ↔ n ≤ sizeLine := by unfold szOk; exact decide_eq_true_iff
def rAddA (K : PySem.W.Frag) : R2 := fun x y H Q => (((∃ i j, x = .int i ∧ y = .int j ∧ Q (.int (i + j)) H) ∨ (∃ i j : Str, x = .str i ∧ y = .str j ∧ i.length + j.length ≤ sizeLine ∧ Q (.str (i ++ j)) H)) ∨ rCatA K x y H Q) ∨ rCat x y H Q
theorem op_addA : OpR X (binaryOp .Add) (rAddA X.K) := .or (.or (.or op_add op_add_str) op_catA) op_cat
def wAdd : D → D → Option T := fun x y => match x, y with
  | .int i, .int j => some (.sh (.int (i + j)))
  | .str i, .str j => if szOk (i.length + j.length) = true then some (.sh (.str (i ++ j))) else none
  | .tup i, .tup j => if szOk (i.length + j.length) = true then some (.sh (.tup (i ++ j))) else none
  | .lst i, .lst j => if szOk (i.length + j.length) = true then some (.ow (.lst (i ++ j))) else none
  | _, _ => none
theorem op2_add : Op2 X.K X.mg (rAddA X.K) wAdd := by
  intro M H Q x y a b t hl ra rb hm hp
  unfold wAdd at hm
  split at hm
  · cases hm
    exact .inl (.inl (.inl ⟨_, _, rep1_int ra, rep1_int rb, hp.here hl (.int _)⟩))
  · split at hm
    · rename_i h
      cases hm
      exact .inl (.inl (.inr ⟨_, _, rep1_str ra, rep1_str rb, szOk_iff.mp h, hp.here hl (.str _)⟩))
    · cases hm
  · split at hm
    · rename_i h
      cases hm
      obtain ⟨p1, v1, rfl, m1, h1, r1⟩ := rep1_tup hl ra
      obtain ⟨p2, v2, rfl, m2, h2, r2⟩ := rep1_tup hl rb
      refine .inl (.inr ⟨p1, p2, v1, v2, rfl, rfl, .of h1, .of h2, by rw [r1.length, r2.length]; exact szOk_iff.mp h, fun z => ?_, fun _ z => ?_, fun _ _ p np => ?_⟩)
      · subst z
        cases r1
        exact hp.here hl (.tup m2 r2)
      · subst z
        cases r2
        rw [List.append_nil] at hp
        exact hp.here hl (.tup m1 r1)
      · exact hp.new hl np fun le => .tup upd_same ((r1.append r2).le le)
    · cases hm
  · split at hm
    · rename_i h
      cases hm
      obtain ⟨p1, v1, rfl, h1, r1⟩ := rep1_lst hl ra
      obtain ⟨p2, v2, rfl, h2, r2⟩ := rep1_lst hl rb
      exact .inr ⟨p1, p2, v1, v2, rfl, rfl, h1, h2, by rw [r1.length, r2.length]; exact szOk_iff.mp h, fun p np => hp.own hl np (.lst (r1.append r2))⟩
    · cases hm
  · cases hm
/-! ### * -/
instance (i j : Int) : Decidable (CMulX i j) := inferInstanceAs (Decidable (_ ≤ _))
def strRep (z : Str) (k : Nat) : Str := ⟨(List.replicate k z.cps.toList).flatten.toArray⟩
theorem foldl_app (l : List (Array Nat)) : ∀ acc : Array Nat, l.foldl (· ++ ·) acc = ⟨acc.toList ++ (l.map (·.toList)).flatten⟩ := by
  induction l with
  | nil => intro acc; simp
  | cons a l ih => intro acc; rw [List.foldl_cons, ih]; simp
def rMulS : R2 := fun x y H Q => ∃ (z : Str) (i : Int), x = .str z ∧ y = .int i ∧ 0 ≤ i ∧ i ≤ 1000000 ∧ z.length * i.toNat ≤ 1000000 ∧ Q (.str (strRep z i.toNat)) H
theorem op_mulS : OpR X (binaryOp .Mult) rMulS := by
  intro pins s σ H x y v u Q I rx ry ⟨z, i, h1, h2, h3, h4, h5, q⟩
  subst h1; subst h2
  obtain ⟨t, rfl⟩ := rx
  obtain ⟨t', rfl⟩ := ry
  refine PySem.P.mul_str ?_ (fun a b => ?_) (fun a b => ?_) ?_
  · rw [decide_eq_false (by omega), decide_eq_false (by omega)]; rfl
  · have hz : (z.length : Int) ≤ 1000000 := by
      have : z.length ≤ z.length * i.toNat := Nat.le_mul_of_pos_right _ (by omega)
      omega
    have hd : (1000000 : Int) ≤ (2 ^ 63 - 1) / i := by
      rw [Int.le_ediv_iff_mul_le (by omega)]
      calc (1000000 : Int) * i ≤ 1000000 * 1000000 := by omega
        _ ≤ 2 ^ 63 - 1 := by decide
    omega
  · have hs : sizeLine = 16777216 := by decide
    have h5' : z.length * i.toNat ≤ sizeLine := by omega
    simp only [PySem.Builtin.Str.tooLong, decide_eq_false_iff_not]
    omega
  · have key : (i < 1 → strRep z i.toNat = Str.empty) ∧ (¬ i < 1 → strRep z i.toNat = ⟨(List.replicate i.toNat z.cps).foldl (· ++ ·) #[]⟩) := by
      constructor
      · intro h
        have : i.toNat = 0 := by omega
        unfold strRep
        rw [this]
        rfl
      · intro h
        unfold strRep
        rw [foldl_app]
        simp
    split
    · rename_i h
      exact ⟨by decide, ⟨.str Str.empty, H, I.tok _, ⟨_, rfl⟩, by rw [← key.1 h]; exact q⟩⟩
    · rename_i h
      split
      · rename_i h2
        refine ⟨.str (strRep z i.toNat), H, I, ⟨t, ?_⟩, q⟩
        rcases Bool.or_eq_true_iff.mp h2 with e | e
        · have : i = 1 := by simpa using e
          subst this
          simp [strRep]
        · have e' : z.cps.size = 0 := by simpa [Str.length] using e
          obtain ⟨a⟩ := z
          have ha : a = #[] := Array.eq_empty_of_size_eq_zero e'
          subst ha
          congr 1
          unfold strRep
          simp
      · refine ⟨?_, ⟨.str _, H, I.tok _, ⟨_, rfl⟩, by rw [← key.2 h]; exact q⟩⟩
        rw [← key.2 h]
        have hs : sizeLine = 16777216 := by decide
        have hl : (strRep z i.toNat).length = i.toNat * z.length := by simp [strRep, Str.length]
        rw [hl, Nat.mul_comm]
        omega
def rMulI : R2 := rI CMulX fun i j => .int (i * j)
def rMulA : R2 := fun x y H Q => (rMulI x y H Q ∨ rMulS x y H Q) ∨ rRep x y H Q
theorem op_mulA : OpR X (binaryOp .Mult) rMulA := .or (.or op_mulX op_mulS) op_rep
def mlOk (i j : Int) : Bool := decide (CMulX i j)
def rpOk (n : Nat) (k : Int) : Bool := decide (0 ≤ k) && decide (k ≤ 1000000) && decide (n * k.toNat ≤ 1000000)
theorem rpOk_iff {n : Nat} {k : Int} : rpOk n k = true ↔ (0 ≤ k ∧ k ≤ 1000000) ∧ n * k.toNat ≤ 1000000 := by unfold rpOk; simp
def wMul : D → D → Option T := fun x y => match x, y with
  | .int i, .int j => if mlOk i j = true then some (.sh (.int (i * j))) else none
  | .str z, .int i => if rpOk z.length i = true then some (.sh (.str (strRep z i.toNat))) else none
  | .lst l, .int k => if rpOk l.length k = true then some (.ow (.lst (List.replicate k.toNat l).flatten)) else none
  | _, _ => none
theorem op2_mul : Op2 X.K X.mg rMulA wMul := by
  intro M H Q x y a b t hl ra rb hm hp
  unfold wMul at hm
  split at hm
  · split at hm
    · rename_i h
      cases hm
      exact .inl (.inl ⟨_, _, rep1_int ra, rep1_int rb, of_decide_eq_true h, hp.here hl (.int _)⟩)
    · cases hm
  · split at hm
    · rename_i h
      cases hm
      have h := rpOk_iff.mp h
      exact .inl (.inr ⟨_, _, rep1_str ra, rep1_int rb, h.1.1, h.1.2, h.2, hp.here hl (.str _)⟩)
    · cases hm
  · split at hm
    · rename_i h
      cases hm
      have h := rpOk_iff.mp h
      obtain ⟨p1, v1, rfl, h1, r1⟩ := rep1_lst hl ra
      have hs : sizeLine = 16777216 := by decide
      refine .inr ⟨p1, _, v1, rfl, rep1_int rb, h1, by omega, by omega, by rw [r1.length]; omega, fun p np => hp.own hl np (.lst (r1.rep _))⟩
    · cases hm
  · cases hm
/-! ### a[b] -/
def rIxDk : R2 := fun x y H Q => ∃ a v, x = .ref a ∧ DGet H a y (some v) ∧ Q v H
theorem ix_dict (hu : X.A.units + 200 < cLine) : IxR X rIxDk := by
  intro value slice pins s σ H x y v u Q I rx ry ⟨a, w, h1, g, q⟩ hs
  subst h1
  obtain rfl : v = Value.ref a := rx
  have hT := dict_typeIs I g
  unfold subscriptTail
  refine wpAny_bind ?_
  rw [getitemInPython_of_ne hT.not_modules]
  refine wpAny_bind (wpAny_specialOf hT PySem.F.slot_dict_getitem.lookup ?_)
  have fin : wpAny (model X.prog X.w) X.A (subscripted slice false (.ref a) u) (fun r s₃ => wpAny (model X.prog X.w) X.A (letTemporaryGo value (.ref a) r >>= fun _ => pure r) (EP X pins σ Q) X.xe s₃) X.xe s := by
    rw [hs]
    refine wpAny_operating (wpAny_mono (d_getItem (Q := EP X pins σ Q) (by omega) I g ry fun w' s3 I3 rw' => ⟨w, H, I3, rw', q⟩) (fun r s₃ h₃ => wpAny_bind (wpAny_letTemporaryGo (wpAny_pure h₃))) fun _ _ x => x)
  first
    | exact wpAny_pure (wpAny_bind fin)
    | exact wpAny_bind (wpAny_pure (wpAny_bind fin))
    | exact wpAny_bind fin
def rIxA (K : PySem.W.Frag) : R2 := fun x y H Q => rIx K x y H Q ∨ rIxDk x y H Q
theorem ix_all (hu : X.A.units + 200 < cLine) : IxR X (rIxA X.K) := .or ix_seq (ix_dict hu)
def ixS (z : Str) (i : Int) : Option D := if szOk z.length = true then (atI z.cps.toList i).map fun c => .str ⟨#[c]⟩ else none
def wIx : D → D → Option T := fun x y => match x with
  | .str z => (match y with
    | .int i => (ixS z i).map .sh
    | _ => none)
  | x => match seqD x with
    | some l => (match y with
      | .int i => (atI l i).map .sh
      | _ => none)
    | none => match dGet x y with
      | some (some d) => some (.sh d)
      | _ => none
theorem Reps.atI {K : PySem.W.Frag} {mg : Str → Option Value} {M : Hp} {vs : List V} {ds : List D} {i : Int} {d : D} (r : Reps K mg M vs ds) (h : L2.atI ds i = some d) : ∃ v, L2.atI vs i = some v ∧ Rep K mg M v d := by
  unfold L2.atI at h ⊢
  rw [r.length]
  cases e : ixN ds.length i with
  | none => rw [e] at h; cases h
  | some j =>
    rw [e] at h
    exact r.get h
theorem seqD_ok {M H : Hp} {K : PySem.W.Frag} {mg : Str → Option Value} {v : V} {d : D} {l : List D} (hl : Le M H) (r : Rep1 K mg M H v d) (e : seqD d = some l) : ∃ a vs, v = .ref a ∧ (SqL K H a vs ∨ SqT K H a vs) ∧ Reps K mg M vs l := by
  unfold seqD at e
  split at e
  · cases e
    obtain ⟨a, vs, rfl, _, h, r⟩ := rep1_tup hl r
    exact ⟨a, vs, rfl, .inr (.of h), r⟩
  · cases e
    obtain ⟨a, vs, rfl, h, r⟩ := rep1_lst hl r
    exact ⟨a, vs, rfl, .inl (.of h), r⟩
  · cases e
    obtain ⟨a, vs, rfl, h, r⟩ := rep1_scr hl r
    exact ⟨a, vs, rfl, .inl h, r⟩
  · cases e
theorem op2_ix : Op2 X.K X.mg (rIxA X.K) wIx := by
  intro M H Q x y a b t hl ra rb hm hp
  unfold wIx at hm
  split at hm
  · split at hm
    · obtain ⟨d, e0, rfl⟩ := Option.map_eq_some_iff.mp hm
      unfold ixS at e0
      split at e0
      · rename_i h
        obtain ⟨c, e1, rfl⟩ := Option.map_eq_some_iff.mp e0
        exact .inl (.inr (.inr ⟨_, _, c, rep1_str ra, rep1_int rb, szOk_iff.mp h, e1, hp.here hl (.str _)⟩))
      · cases e0
    · cases hm
  · split at hm
    · rename_i l e1
      split at hm
      · obtain ⟨d, e2, rfl⟩ := Option.map_eq_some_iff.mp hm
        obtain ⟨p, vs, rfl, hq, r⟩ := seqD_ok hl ra e1
        obtain ⟨v, ev, rv⟩ := r.atI e2
        rcases hq with hq | hq
        · exact .inl (.inl ⟨p, vs, _, v, rfl, rep1_int rb, hq, ev, hp.here hl rv⟩)
        · exact .inl (.inr (.inl ⟨p, vs, _, v, rfl, rep1_int rb, hq, ev, hp.here hl rv⟩))
      · cases hm
    · split at hm
      · rename_i d eg
        cases hm
        obtain ⟨p, u, rfl, g, z, rfl, rz⟩ := dGet_ok hl ra rb eg
        exact .inr ⟨p, z, rfl, g, hp.here hl rz⟩
      · cases hm
/-! ### slices -/
def oInt : D → Option Int
  | .int i => some i
  | _ => none
def cut {α : Type} (xs : List α) (lo hi : Option Int) : List α := (xs.drop (HT.sIx xs.length 0 lo)).take (HT.sIx xs.length xs.length hi - HT.sIx xs.length 0 lo)
theorem Reps.cut {K : PySem.W.Frag} {mg : Str → Option Value} {M : Hp} {vs : List V} {ds : List D} (r : Reps K mg M vs ds) (lo hi : Option Int) : Reps K mg M (cutV vs lo hi) (V.cut ds lo hi) := by
  unfold cutV V.cut
  rw [r.length]
  exact (r.drop _).take _
def rSlA' (K : PySem.W.Frag) : V → Option Int → Option Int → Hp → VK → Prop := fun x lo hi H Q => (rSlL K x lo hi H Q ∨ rSlA K x lo hi H Q) ∨ rSlS x lo hi H Q
theorem sl_all : SlR X (rSlA' X.K) := .or (.or sl_list sl_tupA) sl_str
def wSl (lo hi : Option Int) : D → Option T := fun x => match x with
  | .str z => if szOk z.length = true then some (.sh (.str (cutS z lo hi))) else none
  | .tup l => some (.sh (.tup (cut l lo hi)))
  | .lst l => some (.ow (.lst (cut l lo hi)))
  | .scr l => some (.ow (.lst (cut l lo hi)))
  | _ => none
/-- an optional part of a slice -/
def oNone : P (Option Int) := ret none
def rdO {α : Type} (z : Z) (k : D → P α) : P α := fun ρ => match zd ρ z with
  | some d => k d ρ
  | none => .stk
def oSome (m : DE) : P (Option Int) := bnd m fun z => rdO z fun d => match oInt d with
  | some i => ret (some i)
  | none => stk
def dSl (m : DE) (lo hi : P (Option Int)) : DE := bnd m fun x => bnd lo fun l => bnd hi fun h => rd x fun d => ans (wSl l h d)
structure QO (X : Cx) (Wx : WX) (e : Option Expr) (m : P (Option Int)) : Prop where
  t : ∃ t : TO, PO X e t ∧ ∀ σ H Q, TOd X.K X.mg Wx m σ H Q → t σ H Q
theorem qo_none : QO X Wx none oNone := ⟨_, po_none, fun σ H Q ⟨M, L, ρ, s, l, hp⟩ => Post.dry (a := none) rfl rfl hp s l fun _ h => h⟩
theorem rdO_ok {α β : Type} {sh : Sh α β} {K : PySem.W.Frag} {mg : Str → Option Value} {E : XK} {M H : Hp} {G : List Rt} {σ : L2.St} {ρ : Env} {Q : β → Hp → Prop} {z : Z} {k : D → P α} (hp : Post K mg sh E M H G σ Q (rdO z k ρ)) : ∃ d, zd ρ z = some d ∧ Post K mg sh E M H G σ Q (k d ρ) := by
  unfold rdO at hp
  cases e : zd ρ z with
  | none => rw [e] at hp; exact hp.elim
  | some d => rw [e] at hp; exact ⟨d, rfl, hp⟩
theorem qo_some {e : Expr} {m : DE} (h : QE X Wx e m) : QO X Wx (some e) (oSome m) := ⟨_, po_some h, fun σ H Q h => by
  refine (run_bind (sa := shE) h).mono fun x H1 h1 => ?_
  obtain ⟨M, hs, L, ρ, z, s, l, q, al, hp⟩ := h1
  obtain ⟨d, e1, hp⟩ := rdO_ok hp
  have r1 := zd_ok s l (mem1 q) al e1
  cases d with
  | int i => exact ⟨i, rep1_int r1, Post.dry (a := some i) rfl rfl hp s.right l fun r hr => List.mem_append_right _ hr⟩
  | _ => exact hp.elim⟩
theorem rSl_ok {M H : Hp} {Q : VK} {x : V} {a : D} {t : T} {lo hi : Option Int} (hl : Le M H) (ra : Rep1 X.K X.mg M H x a) (hm : wSl lo hi a = some t) (hp : Res X.K X.mg M H Q t) : rSlA' X.K x lo hi H Q := by
  unfold wSl at hm
  split at hm
  · split at hm
    · rename_i h
      cases hm
      exact .inr ⟨_, rep1_str ra, szOk_iff.mp h, hp.here hl (.str _)⟩
    · cases hm
  · cases hm
    obtain ⟨p1, v1, rfl, m1, h1, r1⟩ := rep1_tup hl ra
    refine .inl (.inr ⟨p1, v1, rfl, .of h1, fun z => ?_, fun _ p np => hp.new hl np fun le => .tup upd_same ((r1.cut lo hi).le le)⟩)
    refine hp.here hl (.tup m1 ?_)
    have e : cutV v1 lo hi = v1 := by
      unfold cutV
      rw [z.1, z.2, List.drop_zero, Nat.sub_zero, List.take_length]
    have q := r1.cut lo hi
    rw [e] at q
    exact q
  · cases hm
    obtain ⟨p1, v1, rfl, h1, r1⟩ := rep1_lst hl ra
    exact .inl (.inl ⟨p1, v1, rfl, .of h1, fun p np => hp.own hl np (.lst (r1.cut lo hi))⟩)
  · cases hm
    obtain ⟨p1, v1, rfl, h1, r1⟩ := rep1_scr hl ra
    exact .inl (.inl ⟨p1, v1, rfl, h1, fun p np => hp.own hl np (.lst (r1.cut lo hi))⟩)
  · cases hm
theorem stays_P {α β γ δ : Type} {sa : Sh α β} {sb : Sh γ δ} {x : β} (h1 : Stays sa) (h2 : Stays sb) : Stays (shP sa sb x) := fun M M' L L' b a hm hv h => ⟨h1 M M' L L' _ _ hm hv h.1, h2 M M' L L' _ _ hm hv h.2⟩
theorem q_slice {e : Expr} {lo hi : Option Expr} {m : DE} {ml mh : P (Option Int)} {p2 pos : Pos} (he : QE X Wx e m) (hl : QO X Wx lo ml) (hu : QO X Wx hi mh) : QE X Wx (.Subscript e (.Slice lo hi none p2) pos) (dSl m ml mh) := by
  obtain ⟨tl, hl, il⟩ := hl.t
  obtain ⟨th, hu, iu⟩ := hu.t
  refine pe_imp (pe_slice sl_all he hl hu) fun σ H Q h => ?_
  refine (run_bind (sa := shE) h).mono fun x H1 h1 => il _ _ _ ?_
  refine (mid_bind (sb := shO) (f := fun x l => bnd mh fun h => rd x fun d => ans (wSl l h d)) stays_E h1).mono fun y H2 h2 => iu _ _ _ ?_
  refine (mid_bind (sb := shO) (f := fun q h => rd q.1 fun d => ans (wSl q.2 h d)) (stays_P stays_E stays_O) h2).mono fun z H3 h3 => ?_
  obtain ⟨M, hs, L, ρ, ⟨⟨z1, z2⟩, z3⟩, s, l, q, al, hp⟩ := h3
  obtain ⟨⟨a1, a2⟩, a3⟩ := al
  cases a2; cases a3
  obtain ⟨d, e1, hp⟩ := rd_ok hp
  obtain ⟨t, ef, hp⟩ := ans_ok hp
  refine rSl_ok s.le (zd_ok s l ?_ a1 e1) ef (hp.res s.right l fun r hr => List.mem_append_right _ hr)
  rw [q]
  simp [shP, shE]
/-! ### truth and tests -/
def tru : D → Option Bool
  | .non => some false
  | .bl b => some b
  | .int i => some (i != 0)
  | .str z => if szOk z.length = true then some ((z.length : Int) != 0) else none
  | d => match seqD d with
    | some l => some (!l.isEmpty)
    | none => none
theorem tru_ok {M H : Hp} {v : V} {d : D} {k : Bool} (hl : Le M H) (r : Rep1 X.K X.mg M H v d) (e : tru d = some k) : TruV X.K v H k := by
  unfold tru at e
  split at e
  · cases e; rw [rep1_non r]; rfl
  · cases e; rw [rep1_bl r]; rfl
  · cases e; rw [rep1_int r]; rfl
  · split at e
    · rename_i h
      cases e; rw [rep1_str r]; exact ⟨szOk_iff.mp h, rfl⟩
    · cases e
  · split at e
    · rename_i l e1
      cases e
      obtain ⟨p, vs, rfl, hq, rs⟩ := seqD_ok hl r e1
      have el : vs.isEmpty = l.isEmpty := by cases rs <;> rfl
      rw [← el]
      rcases hq with hq | hq
      · exact .inl ⟨vs, hq, rfl⟩
      · exact .inr (.inl ⟨vs, hq, rfl⟩)
    · cases e
def opT (o : Option Bool) : P Bool := match o with
  | some b => ret b
  | none => stk
def cTru (m : DE) : P Bool := bnd m fun z => rdO z fun d => opT (tru d)
def cAnd (a b : P Bool) : P Bool := bnd a fun c => if c = true then b else ret false
def cOr (a b : P Bool) : P Bool := bnd a fun c => if c = true then ret true else b
def cNot (a : P Bool) : P Bool := bnd a fun c => ret (!c)
variable {a b : Expr} {es rest : List Expr} {ma mb : DE} {ca cb : P Bool} {pos : Pos}
theorem opT_ok {K : PySem.W.Frag} {mg : Str → Option Value} {E : XK} {M H : Hp} {G : List Rt} {σ : L2.St} {ρ : Env} {Q : Bool → Hp → Prop} {o : Option Bool} (hp : Post K mg shB E M H G σ Q (opT o ρ)) : ∃ b, o = some b ∧ Post K mg shB E M H G σ Q (.ok b ρ) := by
  cases o with
  | none => exact hp.elim
  | some b => exact ⟨b, rfl, hp⟩
theorem qt_of (h : QE X Wx a ma) (he : ∀ whole, isTrue a X.env whole = (do let v ← whole; standAt a.pos; holding [v] (truthy v)) := by intro _; rfl) : QT X Wx a (cTru ma) := by
  refine pt_imp (pt_truth h he) fun σ H Q h => ?_
  refine (run_bind (sa := shE) h).mono fun x H1 h1 => ?_
  obtain ⟨M, hs, L, ρ, z, s, l, q, al, hp⟩ := h1
  obtain ⟨d, e1, hp⟩ := rdO_ok hp
  obtain ⟨k, ek, hp⟩ := opT_ok hp
  exact ⟨k, tru_ok s.le (zd_ok s l (mem1 q) al e1) ek, hp.dry rfl rfl s.right l fun r hr => List.mem_append_right _ hr⟩
/-- a comparison whose answer is True or False -/
def cBl (m : DE) : P Bool := bnd m fun z => rdO z fun d => opT (match d with
  | .bl b => some b
  | _ => none)
theorem qt_cmp {op : CmpOp} {r : R2} {f : D → D → Option T} (hf : Op2 X.K X.mg r f) (ho : OpR X (compareOp op) r) (hm : behindInMarks op b = false) (ha : QE X Wx a ma) (hb : QE X Wx b mb) : QT X Wx (.Compare a [op] [b] pos) (cBl (d2 f ma mb)) := by
  refine pt_imp (pt_cmpR ho ha hb hm) fun σ H Q h => ?_
  have h1 : TEd X.K X.mg Wx (d2 f ma mb) σ H fun v H1 => ∃ k, v = .bl k ∧ Q k H1 := by
    refine (run_bind (sa := shE) h).mono fun x H1 h1 => ?_
    obtain ⟨M, hs, L, ρ, z, s, l, q, al, hp⟩ := h1
    obtain ⟨d, e1, hp⟩ := rdO_ok hp
    obtain ⟨k, ek, hp⟩ := opT_ok hp
    split at ek
    · cases ek
      exact ⟨k, rep1_bl (zd_ok s l (mem1 q) al e1), hp.dry rfl rfl s.right l fun r hr => List.mem_append_right _ hr⟩
    · cases ek
  exact run2 hf h1
theorem cAnd_ok (f : Bool → P Bool) {σ : L2.St} {H : Hp} {Q : Bool → Hp → Prop} (h : TTd X.K X.mg Wx (bnd ca fun c => f c) σ H Q) : TTd X.K X.mg Wx ca σ H fun c H1 => TTd X.K X.mg Wx (f c) σ H1 Q := by
  refine (run_bind (sa := shB) (f := f) h).mono fun c H1 h1 => ?_
  obtain ⟨M, hs, L, ρ, z, s, l, q, al, hp⟩ := h1
  cases al
  cases hs with
  | nil => exact ⟨M, L, ρ, s, l, hp⟩
  | cons _ _ => cases q
theorem ttd_ret {c : Bool} {σ : L2.St} {H : Hp} {Q : Bool → Hp → Prop} (h : TTd X.K X.mg Wx (ret c) σ H Q) : Q c H := by
  obtain ⟨M, L, ρ, s, l, hp⟩ := h
  exact hp.dry rfl rfl s l fun _ h => h
/-- and, or, one of them left -/
abbrev QW (X : Cx) (Wx : WX) (e : Expr) (m : P Bool) : Prop := PW X e (TTd X.K X.mg Wx m)
theorem qw_and1 (h : QT X Wx a ca) : QW X Wx (.BoolOp .And [a] pos) ca := pw_and1 h
theorem qw_or1 (h : QT X Wx a ca) : QW X Wx (.BoolOp .Or [a] pos) ca := pw_or1 h
theorem qw_and (ha : QT X Wx a ca) (hb : QW X Wx (.BoolOp .And (b :: rest) pos) cb) : QW X Wx (.BoolOp .And (a :: b :: rest) pos) (cAnd ca cb) := by
  refine pw_imp (pw_and ha hb) fun σ H Q h => ?_
  have h1 := cAnd_ok (fun c => if c = true then cb else ret false) h
  refine Run.mono h1 fun c H1 h2 => ?_
  cases c with
  | true => exact h2
  | false => exact ttd_ret h2
theorem qw_or (ha : QT X Wx a ca) (hb : QW X Wx (.BoolOp .Or (b :: rest) pos) cb) : QW X Wx (.BoolOp .Or (a :: b :: rest) pos) (cOr ca cb) := by
  refine pw_imp (pw_or ha hb) fun σ H Q h => ?_
  have h1 := cAnd_ok (fun c => if c = true then ret true else cb) h
  refine Run.mono h1 fun c H1 h2 => ?_
  cases c with
  | false => exact h2
  | true => exact ttd_ret h2
theorem qt_w (h : QW X Wx a ca) : QT X Wx a ca := h.pt
theorem qt_not (h : QT X Wx a ca) : QT X Wx (.UnaryOp .Not a pos) (cNot ca) := by
  refine pt_imp (pt_not h) fun σ H Q h => ?_
  have h1 := cAnd_ok (fun c => ret (!c)) h
  exact Run.mono h1 fun c H1 h2 => ttd_ret h2
/-! ### .. as values -/
def dNot (m : DE) : DE := d1 (fun d => (tru d).map fun b => .sh (.bl (!b))) m
def dAnd (ma mb : DE) : DE := bnd ma fun z => rd z fun d => match tru d with
  | some true => mb
  | some false => ret z
  | none => stk
def dOr (ma mb : DE) : DE := bnd ma fun z => rd z fun d => match tru d with
  | some true => ret z
  | some false => mb
  | none => stk
theorem q_not (h : QE X Wx a ma) : QE X Wx (.UnaryOp .Not a pos) (dNot ma) := by
  refine pe_imp (pe_notT h) fun σ H Q h => ?_
  refine (run_bind (sa := shE) h).mono fun x H1 h1 => ?_
  obtain ⟨M, hs, L, ρ, z, s, l, q, al, hp⟩ := h1
  obtain ⟨d, e1, hp⟩ := rd_ok hp
  obtain ⟨t, ef, hp⟩ := ans_ok hp
  obtain ⟨k, ek, rfl⟩ := Option.map_eq_some_iff.mp ef
  exact ⟨k, tru_ok s.le (zd_ok s l (mem1 q) al e1) ek, (hp.res s.right l fun r hr => List.mem_append_right _ hr).here s.le (.bl _)⟩
theorem q_one {op} (h : QE X Wx a ma) : QE X Wx (.BoolOp op [a] pos) ma := pe_one h
theorem keep_ok {M H : Hp} {hs L : List Rt} {σ : L2.St} {ρ : Env} {E : XK} {Q : VK} {z : Z} {v : V} (s : S X.K X.mg M H (hs ++ L)) (l : SL L σ ρ) (q : hs.map vt = shE.hd v z) (al : Al L v z) (hp : Post X.K X.mg shE E M H (hs ++ L) σ Q (.ok z ρ)) : Q v H :=
  hp M H hs L v .refl s l q al
theorem run_left {M H : Hp} {hs L : List Rt} {σ : L2.St} {ρ : Env} {Q : VK} {m : DE} (s : S X.K X.mg M H (hs ++ L)) (l : SL L σ ρ) (hp : Post X.K X.mg shE (fun c d H' => Wx c d σ H') M H (hs ++ L) σ Q (m ρ)) : TEd X.K X.mg Wx m σ H Q :=
  ⟨M, L, ρ, s.right, l, hp.pull (Up.refl.sub fun r hr => List.mem_append_right _ hr)⟩
theorem q_and (ha : QE X Wx a ma) (hb : QE X Wx (.BoolOp .And (b :: rest) pos) mb) : QE X Wx (.BoolOp .And (a :: b :: rest) pos) (dAnd ma mb) := by
  refine pe_imp (pe_andT ha hb) fun σ H Q h => ?_
  refine (run_bind (sa := shE) h).mono fun x H1 h1 => ?_
  obtain ⟨M, hs, L, ρ, z, s, l, q, al, hp⟩ := h1
  obtain ⟨d, e1, hp⟩ := rd_ok hp
  have r1 := zd_ok s l (mem1 q) al e1
  cases e : tru d with
  | none => simp only [e] at hp; exact hp.elim
  | some k =>
    simp only [e] at hp
    refine ⟨k, tru_ok s.le r1 e, ?_⟩
    cases k with
    | true => rw [if_pos rfl]; exact run_left s l hp
    | false => rw [if_neg (by simp)]; exact keep_ok s l q al hp
theorem q_or (ha : QE X Wx a ma) (hb : QE X Wx (.BoolOp .Or (b :: rest) pos) mb) : QE X Wx (.BoolOp .Or (a :: b :: rest) pos) (dOr ma mb) := by
  refine pe_imp (pe_orT ha hb) fun σ H Q h => ?_
  refine (run_bind (sa := shE) h).mono fun x H1 h1 => ?_
  obtain ⟨M, hs, L, ρ, z, s, l, q, al, hp⟩ := h1
  obtain ⟨d, e1, hp⟩ := rd_ok hp
  have r1 := zd_ok s l (mem1 q) al e1
  cases e : tru d with
  | none => simp only [e] at hp; exact hp.elim
  | some k =>
    simp only [e] at hp
    refine ⟨k, tru_ok s.le r1 e, ?_⟩
    cases k with
    | true => rw [if_pos rfl]; exact keep_ok s l q al hp
    | false => rw [if_neg (by simp)]; exact run_left s l hp
/-! ### displays -/
def shs (ρ : Env) : List Z → Option (List D)
  | [] => some []
  | .v (.sh d) :: zs => (shs ρ zs).map (d :: ·)
  | .al i :: zs => match ρ[i]? with
    | some (.sh d) => (shs ρ zs).map (d :: ·)
    | _ => none
  | _ => none
/-- of shared things alone -/
def dS (f : List D → Option T) (m : P (List Z)) : DE := bnd m fun zs => fun ρ => match shs ρ zs with
  | some ds => ans (f ds) ρ
  | none => .stk
theorem shs_ok {K : PySem.W.Frag} {mg : Str → Option Value} {M H : Hp} {hs L : List Rt} {σ : L2.St} {ρ : Env} (s : S K mg M H (hs ++ L)) (l : SL L σ ρ) : ∀ {zs : List Z} {vs : List V} {ds : List D}, (∀ p ∈ (vs.map some).zip (zs.map zt), p ∈ hs.map vt) → Als L vs zs → shs ρ zs = some ds → Reps K mg M vs ds
  | [], _, _, _, .nil, e => by cases e; exact .nil
  | z :: zs, v :: vs, ds, hh, .cons a b, e => by
    have tl : ∀ p ∈ (vs.map some).zip (zs.map zt), p ∈ hs.map vt := fun p hp => hh p (by simp only [List.map_cons, List.zip_cons_cons]; exact List.mem_cons_of_mem _ hp)
    have sv : ∀ {r : Rt} {d : D}, r ∈ hs ++ L → r.v = some v → r.t = .sh d → Rep K mg M v d := fun {r d} hr h1 h2 => by
      have ok := s.ok r hr
      cases ok with
      | sh r => cases h1; cases h2; exact r
      | no => cases h2
      | ow => cases h2
      | lo => cases h2
      | ob => cases h2
      | lb => cases h2
    cases z with
    | v t =>
      cases t with
      | sh d =>
        simp only [shs, Option.map_eq_some_iff] at e
        obtain ⟨ds', e', rfl⟩ := e
        obtain ⟨r, hr, e1⟩ := List.mem_map.mp (hh (some v, .sh d) (by simp [zt]))
        exact .cons (sv (List.mem_append_left _ hr) (congrArg Prod.fst e1) (congrArg Prod.snd e1)) (shs_ok s l tl b e')
      | _ => simp [shs] at e
    | al i =>
      simp only [shs] at e
      split at e
      · rename_i d ht
        obtain ⟨ds', e', rfl⟩ := Option.map_eq_some_iff.mp e
        rw [← l.t, List.getElem?_map] at ht
        obtain ⟨r, hr, e2⟩ := Option.map_eq_some_iff.mp ht
        replace a : (L.map (·.v))[i]? = some (some v) := a
        rw [List.getElem?_map, hr, Option.map_some] at a
        exact .cons (sv (List.mem_append_right _ (List.mem_of_getElem? hr)) (Option.some.inj a) e2) (shs_ok s l tl b e')
      · cases e
def wTup (ds : List D) : Option T := if szOk ds.length = true then some (.sh (.tup ds)) else none
def wLst (ds : List D) : Option T := if szOk ds.length = true then some (.ow (.lst ds)) else none
theorem runS {r : List V → Hp → VK → Prop} {f : List D → Option T} {mas : P (List Z)} (hf : ∀ {M H : Hp} {Q : VK} {xs : List V} {ds : List D} {t : T}, Le M H → Reps X.K X.mg M xs ds → f ds = some t → Res X.K X.mg M H Q t → r xs H Q) {σ : L2.St} {H : Hp} {Q : VK} (h : TEd X.K X.mg Wx (dS f mas) σ H Q) : TAd X.K X.mg Wx mas σ H fun x H1 => r x H1 Q := by
  refine (run_bind (sa := shA) h).mono fun x H1 h1 => ?_
  obtain ⟨M, hs, L, ρ, z1, s, l, q, al, hp⟩ := h1
  cases es : shs ρ z1 with
  | none => simp only [es] at hp; exact hp.elim
  | some ds =>
    simp only [es] at hp
    obtain ⟨t, ef, hp⟩ := ans_ok hp
    exact hf s.le (shs_ok s l (fun p hp => by rw [q]; exact hp) al es) ef (hp.res s.right l fun r hr => List.mem_append_right _ hr)
theorem q_tup {x1} {mas : P (List Z)} (h : QA X Wx es mas) : QE X Wx (.Tuple es x1 pos) (dS wTup mas) := by
  refine pe_imp (pe_tup h) fun σ H Q h => runS (r := fun xs H1 Q => xs.length ≤ sizeLine ∧ ∀ p, H1 p = none → Q (.ref p) (upd H1 p (.tup xs))) ?_ h
  intro M H Q xs ds t hl r hm hp
  unfold wTup at hm
  split at hm
  · rename_i h
    cases hm
    exact ⟨by rw [r.length]; exact szOk_iff.mp h, fun p np => hp.new hl np fun le => .tup upd_same (r.le le)⟩
  · cases hm
theorem q_lst {mas : P (List Z)} (h : QA X Wx es mas) : QE X Wx (.List es pos) (dS wLst mas) := by
  refine pe_imp (pe_lst h) fun σ H Q h => runS (r := fun xs H1 Q => xs.length ≤ sizeLine ∧ ∀ p, H1 p = none → Q (.ref p) (upd H1 p (.lst xs))) ?_ h
  intro M H Q xs ds t hl r hm hp
  unfold wLst at hm
  split at hm
  · rename_i h
    cases hm
    exact ⟨by rw [r.length]; exact szOk_iff.mp h, fun p np => hp.own hl np (.lst r)⟩
  · cases hm
end
end V

set_option Elab.async false
set_option linter.all false
set_option maxRecDepth 100000
/-! V5: what a def is worth: a function of what is handed in; the statements' frame; calls of defs. -/
namespace V
open PySem PySem.Spec PyProof.Rows L2

inductive FR where
  | stk | ok (t : T) (fin : List T) | ex (n : Str) (fin : List T)
abbrev PF := List T → FR
/-- those at the marked places -/
def muts {α : Type} : List Bool → List α → List α
  | true :: ms, v :: vs => v :: muts ms vs
  | false :: ms, _ :: vs => muts ms vs
  | _, _ => []
inductive O where
  | nx | rt (z : Z) | bk | ct
abbrev DS := P O
def Kept (ms : List Bool) (σ σ' : L2.St) : Prop := ∀ i : Nat, ms[i]? = some true → σ'[i]? = σ[i]?
theorem Kept.refl {ms : List Bool} {σ : L2.St} : Kept ms σ σ := fun _ _ => rfl
theorem Kept.trans {ms : List Bool} {σ σ' σ2 : L2.St} (a : Kept ms σ σ') (b : Kept ms σ' σ2) : Kept ms σ σ2 := fun i h => (b i h).trans (a i h)
section
variable (K : PySem.W.Frag) (mg : Str → Option Value)
def PostF (ms : List Bool) (E : XK) (M H : Hp) (L : List Rt) (vs : List V) (Q : VK) : FR → Prop
  | .stk => False
  | .ok t fin => ∀ M' H' v k e fs, Up M H L M' H' (⟨some v, t, k, e⟩ :: fs) → S K mg M' H' (⟨some v, t, k, e⟩ :: fs) → fs.map (·.v) = (muts ms vs).map some → fs.map (·.t) = fin → Q v H'
  | .ex n fin => ∀ M' H' fs c, Up M H L M' H' fs → S K mg M' H' fs → fs.map (·.v) = (muts ms vs).map some → fs.map (·.t) = fin → cnOf mg n = some c → E (.ref c) none H'
def SpD (ms : List Bool) (F : PF) : Sp := fun vs H Q E => vs.length = ms.length ∧ ∃ M L, S K mg M H L ∧ L.map (·.v) = vs.map some ∧ PostF K mg ms E M H L vs Q (F (L.map (·.t)))
def PostS (ms : List Bool) (Wx : WX) (M H : Hp) (L : List Rt) (σ : L2.St) (D : Ends) : PR O → Prop
  | .stk => False
  | .ok .nx ρ' => ∀ M' H' L' σ', Up M H L M' H' L' → S K mg M' H' L' → SL L' σ' ρ' → Kept ms σ σ' → D.nx σ' H'
  | .ok .bk ρ' => ∀ M' H' L' σ', Up M H L M' H' L' → S K mg M' H' L' → SL L' σ' ρ' → Kept ms σ σ' → D.bk σ' H'
  | .ok .ct ρ' => ∀ M' H' L' σ', Up M H L M' H' L' → S K mg M' H' L' → SL L' σ' ρ' → Kept ms σ σ' → D.ct σ' H'
  | .ok (.rt z) ρ' => ∀ M' H' k e L' σ' v, Up M H L M' H' (⟨some v, zt z, k, e⟩ :: L') → S K mg M' H' (⟨some v, zt z, k, e⟩ :: L') → SL L' σ' ρ' → Kept ms σ σ' → Al L' v z → D.rt v H'
  | .ex n ρ' => ∀ M' H' L' σ' c, Up M H L M' H' L' → S K mg M' H' L' → SL L' σ' ρ' → Kept ms σ σ' → cnOf mg n = some c → Wx (.ref c) none σ' H'
def TSd (ms : List Bool) (Wx : WX) (m : DS) : TS := fun D σ H => ∃ (M : Hp) (L : List Rt) (ρ : Env), S K mg M H L ∧ SL L σ ρ ∧ PostS K mg ms Wx M H L σ D (m ρ)
end
abbrev QS (X : Cx) (ms : List Bool) (Wx : WX) (st : Stmt) (m : DS) : Prop := PS X st (TSd X.K X.mg ms Wx m)
abbrev QSs (X : Cx) (ms : List Bool) (Wx : WX) (st : List Stmt) (m : DS) : Prop := PSs X st (TSd X.K X.mg ms Wx m)
/-- what a def hands back -/
def outF (ms : List Bool) : PR O → FR
  | .stk => .stk
  | .ok .nx ρ => .ok (.sh .non) (muts ms ρ)
  | .ok (.rt (.v t)) ρ => .ok t (muts ms ρ)
  | .ok (.rt (.al i)) ρ => match ρ[i]? with
    | some t => if ms[i]? = some true then (match t with
      | .sh d => .ok (.sh d) (muts ms ρ)
      | _ => .stk) else .ok t (muts ms ρ)
    | none => .stk
  | .ok .bk _ => .stk
  | .ok .ct _ => .stk
  | .ex n ρ => .ex n (muts ms ρ)
def startE (N : Nat) (ts : List T) : Env := ts ++ List.replicate (N - ts.length) .no
def runF (ms : List Bool) (N : Nat) (m : DS) : PF := fun ts => outF ms (m (startE N ts))
section
theorem muts_map {α β : Type} (f : α → β) : ∀ {ms : List Bool} {l : List α}, (muts ms l).map f = muts ms (l.map f)
  | [], _ => by simp [muts]
  | true :: ms, [] => rfl
  | false :: ms, [] => rfl
  | true :: ms, v :: vs => by simp [muts, muts_map]
  | false :: ms, v :: vs => by simp [muts, muts_map]
theorem muts_sub {α : Type} : ∀ {ms : List Bool} {l : List α}, (muts ms l).Sublist l
  | [], _ => by simp [muts]
  | true :: ms, [] => by simp [muts]
  | false :: ms, [] => by simp [muts]
  | true :: ms, v :: vs => by simp [muts, muts_sub]
  | false :: ms, v :: vs => by simp only [muts]; exact muts_sub.trans (List.sublist_cons_self ..)
theorem muts_ix {α : Type} : ∀ {ms : List Bool} {l : List α} {a : α}, a ∈ muts ms l → ∃ i : Nat, ms[i]? = some true ∧ l[i]? = some a
  | [], _, _, h => by simp [muts] at h
  | true :: ms, [], _, h => by simp [muts] at h
  | false :: ms, [], _, h => by simp [muts] at h
  | true :: ms, v :: vs, a, h => by
    rcases List.mem_cons.mp h with e | h
    · exact ⟨0, rfl, by rw [e]; rfl⟩
    · obtain ⟨i, h1, h2⟩ := muts_ix h
      exact ⟨i + 1, by simpa using h1, by simpa using h2⟩
  | false :: ms, v :: vs, a, h => by
    obtain ⟨i, h1, h2⟩ := muts_ix (ms := ms) (l := vs) h
    exact ⟨i + 1, by simpa using h1, by simpa using h2⟩
variable {K : PySem.W.Frag} {mg : Str → Option Value} {M M' H H' : Hp} {L L' : List Rt}
theorem Sep.nil (r : Rt) (v : Option V) (t : T) : Sep r ⟨v, t, [], []⟩ := ⟨fun _ _ => List.not_mem_nil, fun _ _ => List.not_mem_nil, fun _ h => absurd h List.not_mem_nil⟩
theorem S.pad (s : S K mg M H L) (n : Nat) : S K mg M H (L ++ List.replicate n ⟨none, .no, [], []⟩) := by
  refine ⟨s.le, fun r hr => ?_, List.pairwise_append.mpr ⟨s.sp, ?_, fun r _ q hq => ?_⟩⟩
  · rcases List.mem_append.mp hr with h | h
    · exact s.ok r h
    · rw [List.eq_of_mem_replicate h]; exact .no _
  · exact List.pairwise_replicate.mpr (.inr (sep_sh _))
  · rw [List.eq_of_mem_replicate hq]; exact Sep.nil _ _ _
theorem Up.pad {n : Nat} (u : Up M H (L ++ List.replicate n ⟨none, .no, [], []⟩) M' H' L') : Up M H L M' H' L' := by
  have hx : ∀ a, Xs (L ++ List.replicate n ⟨none, .no, [], []⟩) a → Xs L a := fun a h => (Xs.app.mp h).elim id fun ⟨r, hr, ha⟩ => by rw [List.eq_of_mem_replicate hr] at ha; exact absurd ha List.not_mem_nil
  have hy : ∀ a, Ys (L ++ List.replicate n ⟨none, .no, [], []⟩) a → Ys L a := fun a h => (Ys.app.mp h).elim id fun ⟨r, hr, ha⟩ => by rw [List.eq_of_mem_replicate hr] at ha; exact absurd ha List.not_mem_nil
  exact ⟨u.mm, fun a o h n => u.hm a o h fun z => n (hx a z), u.hd, fun a h => (u.xs a h).imp (hx a) id, fun a h => hy a (u.ys a h), fun a o h => (u.ms a o h).imp id fun z => z.imp (hx a) id⟩
/-- a def's end -/
theorem out_ok {ms : List Bool} {N : List Str} {m : DS} {vs : List V} {Q : VK} {E : XK} (hn : vs.length ≤ N.length) (h : SpD K mg ms (runF ms N.length m) vs H Q E) :
    TSd K mg ms (fun c d _ H' => E c d H') m { nx := fun _ H' => Q .non H', rt := Q } (L2.start N vs) H := by
  obtain ⟨hl, M, L, s, hv, hp⟩ := h
  have len : L.length = vs.length := by have := congrArg List.length hv; simpa using this
  have hs : SL (L ++ List.replicate (N.length - vs.length) ⟨none, .no, [], []⟩) (L2.start N vs) (startE N.length (L.map (·.t))) := by
    refine ⟨?_, ?_⟩
    · simp [L2.start, hv]
    · simp [startE, len]
  refine ⟨M, _, startE N.length (L.map (·.t)), s.pad _, hs, ?_⟩
  unfold runF at hp
  have lenk : ∀ {L' : List Rt} {σ' : L2.St} {ρ' : Env}, SL L' σ' ρ' → Kept ms (L2.start N vs) σ' → (muts ms L').map (·.v) = (muts ms vs).map some ∧ (muts ms L').map (·.t) = muts ms ρ' := fun {L' σ' ρ'} l k => by
    refine ⟨?_, by rw [muts_map, l.t]⟩
    rw [muts_map, l.v]
    have gen : ∀ {ms : List Bool} {σ : L2.St} {vs : List V} {t : L2.St}, vs.length = ms.length → Kept ms (vs.map some ++ t) σ → muts ms σ = (muts ms vs).map some := by
      intro ms
      induction ms with
      | nil => intro σ vs t _ _; simp [muts]
      | cons b ms ih =>
        intro σ vs t e k
        cases vs with
        | nil => cases e
        | cons v vs =>
          cases b with
          | true =>
            have h0 := k 0 rfl
            cases σ with
            | nil => simp at h0
            | cons o σ =>
              simp at h0
              subst h0
              simp only [muts, List.map_cons]
              rw [ih (t := t) (by simpa using e) (fun i h => by simpa using k (i + 1) (by simpa using h))]
          | false =>
            cases σ with
            | nil =>
              have q := ih (σ := []) (vs := vs) (t := t) (by simpa using e) (fun i h => by simpa using k (i + 1) (by simpa using h))
              simp only [muts]
              rw [← q]
              cases ms <;> simp [muts]
            | cons o σ =>
              simp only [muts]
              rw [ih (t := t) (by simpa using e) (fun i h => by simpa using k (i + 1) (by simpa using h))]
    exact gen hl (t := List.replicate (N.length - vs.length) none) fun i hi => by rw [k i hi]; rfl
  generalize hr : m (startE N.length (L.map (·.t))) = r at hp
  cases r with
  | stk => exact hp
  | ex n ρ' =>
    intro M' H' L' σ' c u s' l' k hc
    obtain ⟨f1, f2⟩ := lenk l' k
    exact hp M' H' _ c (u.pad.sub fun r hr => muts_sub.subset hr) (s'.sub muts_sub) f1 f2 hc
  | ok o ρ' =>
    cases o with
    | nx =>
      intro M' H' L' σ' u s' l' k
      obtain ⟨f1, f2⟩ := lenk l' k
      refine hp M' H' .non [] [] (muts ms L') ?_ ((s'.sub muts_sub).sh .non) f1 f2
      have u2 := u.pad.sub (L' := muts ms L') fun r hr => muts_sub.subset hr
      exact ⟨u2.mm, u2.hm, u2.hd, fun a h => u2.xs a ((Xs.cons.mp h).elim (fun z => absurd z List.not_mem_nil) id), fun a h => u2.ys a ((Ys.cons.mp h).elim (fun z => absurd z List.not_mem_nil) id), u2.ms⟩
    | bk => exact hp.elim
    | ct => exact hp.elim
    | rt z =>
      intro M' H' k e L' σ' v u s' l' kp al
      obtain ⟨f1, f2⟩ := lenk l' kp
      cases z with
      | v t => exact hp M' H' v k e _ (u.pad.sub fun r hr => (List.mem_cons.mp hr).elim (fun z => by rw [z]; exact List.mem_cons_self ..) fun z => List.mem_cons_of_mem _ (muts_sub.subset z)) (s'.sub (muts_sub.cons₂ _)) f1 f2
      | al i =>
        replace al : (L'.map (·.v))[i]? = some (some v) := al
        simp only [outF] at hp
        cases hi : ρ'[i]? with
        | none => rw [hi] at hp; exact hp.elim
        | some t =>
          simp only [hi] at hp
          rw [← l'.t, List.getElem?_map] at hi
          obtain ⟨r, hr, rfl⟩ := Option.map_eq_some_iff.mp hi
          rw [List.getElem?_map, hr, Option.map_some] at al
          have al := Option.some.inj al
          have sL := s'.tail
          split at hp
          · split at hp
            · rename_i d ed
              have ok := sL.ok r (List.mem_of_getElem? hr)
              have rv : Rep K mg M' v d := by
                cases ok with
                | sh r => cases al; cases ed; exact r
                | no => cases ed
                | ow => cases ed
                | lo => cases ed
                | ob => cases ed
                | lb => cases ed
              refine hp M' H' v [] [] (muts ms L') ?_ ((sL.sub muts_sub).sh rv) f1 f2
              have u2 := u.pad.sub (L' := muts ms L') fun r hr => List.mem_cons_of_mem _ (muts_sub.subset hr)
              exact ⟨u2.mm, u2.hm, u2.hd, fun a h => u2.xs a ((Xs.cons.mp h).elim (fun z => absurd z List.not_mem_nil) id), fun a h => u2.ys a ((Ys.cons.mp h).elim (fun z => absurd z List.not_mem_nil) id), u2.ms⟩
            · exact hp.elim
          · rename_i nm
            have er : r = ⟨some v, r.t, r.k, r.e⟩ := by rw [← al]
            have hm := List.mem_of_getElem? hr
            refine hp M' H' v r.k r.e (muts ms L') ?_ ?_ f1 f2
            · rw [← er]
              exact u.pad.sub fun q hq => List.mem_cons_of_mem _ ((List.mem_cons.mp hq).elim (fun z => by rw [z]; exact hm) fun z => muts_sub.subset z)
            · rw [← er]
              refine (sL.sub muts_sub).cons (sL.ok r hm) fun q hq => ?_
              obtain ⟨j, j1, j2⟩ := muts_ix hq
              exact sL.ix (fun z => nm (by rw [z]; exact j1)) hr j2
end
section
variable {P : Program} {w : World} {K : PySem.W.Frag} {mg : Str → Option Value} {base : Heap}
/-- a def: how it is called, what it is worth -/
structure Fn (P : Program) (w : World) (K : PySem.W.Frag) (mg : Str → Option Value) (base : Heap) (k : Nat) (f : Addr) (ms : List Bool) (F : PF) : Prop where
  ex : ∃ (fd : FuncData) (ps : List Str), FnOk P w K mg base (L2.CX P w) k f fd ps (SpD K mg ms F) ∧ Binds K fd ps []
  kp : PySem.W.keepIn K (.ref f) = true
theorem SpD.imp {ms : List Bool} {F F' : PF} (h : ∀ ts r, F ts = r → r ≠ .stk → F' ts = r) {vs : List V} {H : Hp} {Q : VK} {E : XK} (s : SpD K mg ms F vs H Q E) : SpD K mg ms F' vs H Q E := by
  obtain ⟨hn, M, L, s, hv, hp⟩ := s
  refine ⟨hn, M, L, s, hv, ?_⟩
  rw [h _ _ rfl (by intro z; rw [z] at hp; exact hp)]
  exact hp
theorem Fn.mono {j k : Nat} {f : Addr} {ms : List Bool} {F : PF} (c : Fn P w K mg base j f ms F) (h : j ≤ k) : Fn P w K mg base k f ms F := by
  obtain ⟨fd, ps, G, b⟩ := c.ex
  exact ⟨⟨fd, ps, G.mono h, b⟩, c.kp⟩
/-- nothing is promised -/
theorem Fn.never {k : Nat} {f : Addr} {ms : List Bool} {fd : FuncData} {ps : List Str} (b : Binds K fd ps []) (kp : PySem.W.keepIn K (.ref f) = true) : Fn P w K mg base k f ms fun _ => .stk := by
  have no : ∀ vs H Q E, ¬ SpD K mg ms (fun _ => .stk) vs H Q E := fun vs H Q E ⟨_, _, _, _, _, hp⟩ => hp
  exact ⟨⟨fd, ps, ⟨fun vs H Q E h => absurd h (no vs H Q E), fun A outer s H args us vs Q E _ _ _ _ h => absurd h (no vs H Q E)⟩, b⟩, kp⟩
/-- THE RULE: a def by its body's meaning -/
theorem fn_body {x qual : Str} {st : Stmt} {f : Addr} {fd : FuncData} {N ps : List Str} {k : Nat} {m : DS} (ms : List Bool) (hm : ms.length = ps.length) (hN : ps.length ≤ N.length) (F : Fun K x qual st f fd) (S : FnScope N ps (defScope st)) (b : Binds K fd ps [])
    (hbody : ∀ (cdv : Value) (A : Around) (outer : List PySem.Env) (s : Shared) (H : Hp) (E : XK), Room k (A.deeper (envOfC qual (defScope st) s.heap.objs.size f cdv)) →
      Takes (cxOf (L2.CX P w) P w K mg base N qual (defScope st) f cdv A outer s H E) (fun c d _ H' => E c d H') →
      QSs (cxOf (L2.CX P w) P w K mg base N qual (defScope st) f cdv A outer s H E) ms (fun c d _ H' => E c d H') (defBody st) m) : Fn P w K mg base (k + 1) f ms (runF ms N.length m) :=
  ⟨⟨fd, ps, F.okX S (fun vs H Q E h => h.1.trans hm) fun cdv A outer s H vs Q E hr h => ⟨_, hbody cdv A outer s H E hr (takes_of rfl rfl rfl rfl), out_ok (by rw [h.1, hm]; exact hN) h⟩, b⟩, F.kp⟩
end
/-! ### calls -/
def lendT : T → Option T
  | .no => none
  | .sh d => some (.sh d)
  | .ow d => some (.lo d)
  | .lo d => some (.lo d)
  | .ob C fs => some (.lb C fs)
  | .lb C fs => some (.lb C fs)
def ownT : T → Option T
  | .ow d => some (.ow d)
  | .ob C fs => some (.ob C fs)
  | _ => none
def gt (ρ : Env) : Z → Option T
  | .v t => some t
  | .al i => ρ[i]?
def lend1 (ρ : Env) (m : Bool) (z : Z) : Option T := (gt ρ z).bind fun t => if m = true then ownT t else lendT t
def lends (ρ : Env) : List Bool → List Z → Option (List T)
  | [], [] => some []
  | m :: ms, z :: zs => match lend1 ρ m z, lends ρ ms zs with
    | some t, some ts => some (t :: ts)
    | _, _ => none
  | _, _ => none
def isAl (i : Nat) : Z → Bool
  | .al j => decide (i = j)
  | .v _ => false
/-- what is changed is handed in once alone -/
def okAl : List Bool → List Z → Bool
  | m :: ms, z :: zs => (match z with
    | .al i => (ms.zip zs).all fun q => !((m || q.1) && isAl i q.2)
    | .v _ => true) && okAl ms zs
  | _, _ => true
def noLoF : List (Str × FT) → Bool
  | [] => true
  | (_, .lo _) :: _ => false
  | _ :: fs => noLoF fs
def noLo : T → Bool
  | .lo _ => false
  | .lb _ _ => false
  | .ob _ fs => noLoF fs
  | _ => true
def isOwn : T → Bool
  | .ow _ => true
  | .ob _ _ => true
  | _ => false
/-- no own thing is lent -/
def noOwn (ρ : Env) : List Bool → List Z → Bool
  | m :: ms, z :: zs => (m || (match gt ρ z with
    | some t => !isOwn t
    | none => true)) && noOwn ρ ms zs
  | _, _ => true
def putF : List Bool → List Z → List T → Env → Env
  | true :: ms, .al i :: zs, f :: fin, ρ => putF ms zs fin (ρ.set i f)
  | true :: ms, .v _ :: zs, _ :: fin, ρ => putF ms zs fin ρ
  | false :: ms, _ :: zs, fin, ρ => putF ms zs fin ρ
  | _, _, _, ρ => ρ
def noLos (t : T) (fin : List T) : Bool := noLo t && fin.all noLo
def call (ms : List Bool) (F : PF) (zs : List Z) : DE := fun ρ => match lends ρ ms zs with
  | none => .stk
  | some ts => if okAl ms zs = true then (match F ts with
    | .stk => .stk
    | .ok t fin => if (noLos t fin || noOwn ρ ms zs) = true then .ok (.v t) (putF ms zs fin ρ) else .stk
    | .ex n fin => if (noLos .no fin || noOwn ρ ms zs) = true then .ex n (putF ms zs fin ρ) else .stk) else .stk
section
variable {K : PySem.W.Frag} {mg : Str → Option Value} {M M' H H' : Hp} {L L' G hs : List Rt}
def lentR (r : Rt) (t : T) : Rt := ⟨r.v, t, [], r.k ++ r.e⟩
theorem Rok.lent {r : Rt} {t : T} (ok : Rok K mg M H r) (e : lendT r.t = some t) : Rok K mg M H (lentR r t) := by
  cases ok with
  | no o => cases e
  | sh r => cases e; exact .sh r
  | ow h c n => cases e; exact .lo (.of h) c
  | lo h c => cases e; exact .lo h c
  | ob h0 h n fl nd ne => cases e; exact .lb h0 h fl
  | lb h0 h fl => cases e; exact .lb h0 h fl
theorem noLoF_e {fvs : List (Str × V)} {fs : List (Str × FT)} {k e : List Addr} (f : Flds K mg M H fvs fs k e) (n : noLoF fs = true) : e = [] := by
  induction f with
  | nil => rfl
  | sh r _ ih => exact ih n
  | ow h c m _ ih => exact ih n
  | lo h c _ ih => cases n
theorem noLo_e {r : Rt} (ok : Rok K mg M H r) (n : noLo r.t = true) : r.e = [] := by
  cases ok with
  | no o => rfl
  | sh r => rfl
  | ow h c m => rfl
  | lo h c => cases n
  | ob h0 h m fl nd ne => exact noLoF_e fl n
  | lb h0 h fl => cases n
/-- where an argument's root is -/
def posZ (n j : Nat) : Z → Nat
  | .v _ => j
  | .al i => n + i
/-- the callee's roots, each from its place -/
inductive Src (G : List Rt) (n : Nat) : Nat → List Bool → List Z → List Rt → Prop
  | nil (j : Nat) : Src G n j [] [] []
  | mut {j : Nat} {ms : List Bool} {z : Z} {zs : List Z} {r : Rt} {rs : List Rt} : G[posZ n j z]? = some r → Src G n (j + 1) ms zs rs → Src G n j (true :: ms) (z :: zs) (r :: rs)
  | lnt {j : Nat} {ms : List Bool} {z : Z} {zs : List Z} {r : Rt} {t : T} {rs : List Rt} : G[posZ n j z]? = some r → lendT r.t = some t → Src G n (j + 1) ms zs rs → Src G n j (false :: ms) (z :: zs) (lentR r t :: rs)
/-- the changed places -/
def mpos (n : Nat) : Nat → List Bool → List Z → List Nat
  | j, true :: ms, z :: zs => posZ n j z :: mpos n (j + 1) ms zs
  | j, false :: ms, _ :: zs => mpos n (j + 1) ms zs
  | _, _, _ => []
theorem Src.mem {n : Nat} : ∀ {j : Nat} {ms : List Bool} {zs : List Z} {rc : List Rt}, Src G n j ms zs rc → ∀ r ∈ rc, (∃ p ∈ mpos n j ms zs, G[p]? = some r) ∨ ∃ (p : Nat) (s : Rt) (t : T), G[p]? = some s ∧ lendT s.t = some t ∧ r = lentR s t
  | _, _, _, _, .nil _, r, h => by cases h
  | j, _, _, _, .mut e q, r, h => by
    rcases List.mem_cons.mp h with rfl | h
    · exact .inl ⟨_, List.mem_cons_self .., e⟩
    · rcases q.mem r h with ⟨p, h1, h2⟩ | h
      · exact .inl ⟨p, List.mem_cons_of_mem _ h1, h2⟩
      · exact .inr h
  | j, _, _, _, .lnt e l q, r, h => by
    rcases List.mem_cons.mp h with rfl | h
    · exact .inr ⟨_, _, _, e, l, rfl⟩
    · exact q.mem r h
theorem posZ_v {n j j' : Nat} {z z' : Z} (hj : j < j') (hn : j' < n) (h : posZ n j z = posZ n j' z') : ∃ i, z = .al i ∧ z' = .al i := by
  cases z with
  | v t =>
    cases z' with
    | v t' => simp only [posZ] at h; omega
    | al i' => simp only [posZ] at h; omega
  | al i =>
    cases z' with
    | v t' => simp only [posZ] at h; omega
    | al i' => simp only [posZ] at h; exact ⟨i, rfl, by rw [show i' = i by omega]⟩
/-- the places further on -/
theorem Src.at {n : Nat} : ∀ {j : Nat} {ms : List Bool} {zs : List Z} {rc : List Rt}, Src G n j ms zs rc → ∀ r ∈ rc, ∃ (j' : Nat) (m : Bool) (z : Z) (s : Rt), j ≤ j' ∧ j' < j + zs.length ∧ (m, z) ∈ ms.zip zs ∧ G[posZ n j' z]? = some s ∧ ((m = true ∧ r = s) ∨ (m = false ∧ ∃ t, lendT s.t = some t ∧ r = lentR s t))
  | _, _, _, _, .nil _, r, h => by cases h
  | j, _, _, _, .mut (z := z) e q, r, h => by
    rcases List.mem_cons.mp h with rfl | h
    · exact ⟨j, true, z, _, Nat.le_refl _, by simp, by simp, e, .inl ⟨rfl, rfl⟩⟩
    · obtain ⟨j', m, z', s, h1, h2, h3, h4, h5⟩ := q.at r h
      exact ⟨j', m, z', s, by omega, by simp; omega, by simp [h3], h4, h5⟩
  | j, _, _, _, .lnt (z := z) e l q, r, h => by
    rcases List.mem_cons.mp h with rfl | h
    · exact ⟨j, false, z, _, Nat.le_refl _, by simp, by simp, e, .inr ⟨rfl, _, l, rfl⟩⟩
    · obtain ⟨j', m, z', s, h1, h2, h3, h4, h5⟩ := q.at r h
      exact ⟨j', m, z', s, by omega, by simp; omega, by simp [h3], h4, h5⟩
theorem sep_lent {r s : Rt} {t : T} (h : Sep r s) : Sep r (lentR s t) := ⟨fun _ _ => List.not_mem_nil, fun a ha hb => (List.mem_append.mp hb).elim (h.kk a ha) (h.ke a ha), fun _ h => absurd h List.not_mem_nil⟩
theorem sep_lent2 {r s : Rt} {t u : T} : Sep (lentR r t) (lentR s u) := ⟨fun _ h => absurd h List.not_mem_nil, fun _ h => absurd h List.not_mem_nil, fun _ h => absurd h List.not_mem_nil⟩
theorem Src.s {n : Nat} (sG : S K mg M H G) : ∀ {j : Nat} {ms : List Bool} {zs : List Z} {rc : List Rt}, Src G n j ms zs rc → j + zs.length ≤ n → okAl ms zs = true → S K mg M H rc
  | _, _, _, _, .nil _, _, _ => .nil sG.le
  | j, _, _, _, .mut (ms := ms) (z := z) (zs := zs) (r := r) e q, hn, ok => by
    simp only [okAl, Bool.and_eq_true] at ok
    simp only [List.length_cons] at hn
    refine (Src.s sG q (by omega) ok.2).cons (sG.ok _ (List.mem_of_getElem? e)) fun s hs => ?_
    obtain ⟨j', m, z', s', h1, h2, h3, h4, h5⟩ := q.at s hs
    have ne : posZ n j z ≠ posZ n j' z' := fun h => by
      obtain ⟨i, rfl, rfl⟩ := posZ_v (by omega) (by omega) h
      have := List.all_eq_true.mp ok.1 _ h3
      simp [isAl] at this
    have sp := sG.ix ne e h4
    rcases h5 with ⟨_, rfl⟩ | ⟨_, t, _, rfl⟩
    · exact sp
    · exact sep_lent sp
  | j, _, _, _, .lnt (ms := ms) (z := z) (zs := zs) (r := r) (t := t) e l q, hn, ok => by
    simp only [okAl, Bool.and_eq_true] at ok
    simp only [List.length_cons] at hn
    refine (Src.s sG q (by omega) ok.2).cons ((sG.ok _ (List.mem_of_getElem? e)).lent l) fun s hs => ?_
    obtain ⟨j', m, z', s', h1, h2, h3, h4, h5⟩ := q.at s hs
    rcases h5 with ⟨hm, rfl⟩ | ⟨_, t, _, rfl⟩
    · have ne : posZ n j z ≠ posZ n j' z' := fun h => by
        obtain ⟨i, rfl, rfl⟩ := posZ_v (by omega) (by omega) h
        have := List.all_eq_true.mp ok.1 _ h3
        rw [hm] at this
        simp [isAl] at this
      exact (sep_lent (sG.ix ne e h4).symm).symm
    · exact sep_lent2
def bl1 (G : List Rt) (p : Nat) : List Rt := match G[p]? with
  | some r => G.set p ⟨r.v, .no, [], []⟩
  | none => G
def blank : List Rt → List Nat → List Rt
  | G, [] => G
  | G, p :: ps => blank (bl1 G p) ps
theorem bl1_at {p q : Nat} {r : Rt} (h : (bl1 G p)[q]? = some r) : (r.k = [] ∧ r.e = []) ∨ (q ≠ p ∧ G[q]? = some r) := by
  unfold bl1 at h
  split at h
  · rcases set_at h with ⟨_, rfl, _⟩ | ⟨n, h⟩
    · exact .inl ⟨rfl, rfl⟩
    · exact .inr ⟨fun z => n z.symm, h⟩
  · rename_i e
    refine .inr ⟨fun z => ?_, h⟩
    rw [z, e] at h
    cases h
theorem blank_at : ∀ {ps : List Nat} {G : List Rt} {q : Nat} {r : Rt}, (blank G ps)[q]? = some r → (r.k = [] ∧ r.e = []) ∨ (q ∉ ps ∧ G[q]? = some r)
  | [], G, q, r, h => .inr ⟨List.not_mem_nil, h⟩
  | p :: ps, G, q, r, h => by
    rcases blank_at (ps := ps) (G := bl1 G p) h with h | ⟨h1, h2⟩
    · exact .inl h
    · rcases bl1_at h2 with h | ⟨h3, h4⟩
      · exact .inl h
      · exact .inr ⟨fun z => (List.mem_cons.mp z).elim h3 h1, h4⟩
theorem bl1_v {p : Nat} : (bl1 G p).map (·.v) = G.map (·.v) := by
  unfold bl1
  split
  · rename_i r e
    apply List.ext_getElem?
    intro j
    rw [List.getElem?_map, List.getElem?_map]
    by_cases h : p = j
    · subst h
      rw [List.getElem?_set_self (List.getElem?_eq_some_iff.mp e).1, e]
      rfl
    · rw [List.getElem?_set_ne h]
  · rfl
theorem blank_v : ∀ {ps : List Nat} {G : List Rt}, (blank G ps).map (·.v) = G.map (·.v)
  | [], _ => rfl
  | p :: ps, G => (blank_v (ps := ps) (G := bl1 G p)).trans bl1_v
theorem bl1_s {p : Nat} (s : S K mg M H G) : S K mg M H (bl1 G p) := by
  unfold bl1
  split
  · exact s.set (.no _) fun j t _ _ => sep_sh t
  · exact s
theorem blank_s : ∀ {ps : List Nat} {G : List Rt}, S K mg M H G → S K mg M H (blank G ps)
  | [], _, s => s
  | p :: ps, G, s => blank_s (ps := ps) (bl1_s s)
theorem bl1_split {p : Nat} (a b : List Rt) : ∃ a' b', bl1 (a ++ b) p = a' ++ b' ∧ a'.length = a.length := by
  unfold bl1
  split
  · rename_i r e
    rw [List.set_append]
    split
    · exact ⟨_, _, rfl, by simp⟩
    · exact ⟨_, _, rfl, rfl⟩
  · exact ⟨a, b, rfl, rfl⟩
theorem blank_split : ∀ {ps : List Nat} (a b : List Rt), ∃ a' b', blank (a ++ b) ps = a' ++ b' ∧ a'.length = a.length
  | [], a, b => ⟨a, b, rfl, rfl⟩
  | p :: ps, a, b => by
    obtain ⟨a1, b1, e1, l1⟩ := bl1_split (p := p) a b
    obtain ⟨a2, b2, e2, l2⟩ := blank_split (ps := ps) a1 b1
    exact ⟨a2, b2, by unfold blank; rw [e1]; exact e2, l2.trans l1⟩
/-- the env's slots that are not changed keep what they hold -/
theorem bl1_t {p q : Nat} (h : q ≠ p) : (bl1 G p)[q]? = G[q]? := by
  unfold bl1
  split
  · rw [List.getElem?_set_ne (Ne.symm h)]
  · rfl
theorem blank_t : ∀ {ps : List Nat} {G : List Rt} {q : Nat}, q ∉ ps → (blank G ps)[q]? = G[q]?
  | [], _, _, _ => rfl
  | p :: ps, G, q, h => by
    unfold blank
    rw [blank_t (fun z => h (List.mem_cons_of_mem _ z)), bl1_t fun z => h (by rw [z]; exact List.mem_cons_self ..)]
def putL : List Bool → List Z → List Rt → List Rt → List Rt
  | true :: ms, .al i :: zs, f :: fs, L => putL ms zs fs (L.set i f)
  | true :: ms, .v _ :: zs, _ :: fs, L => putL ms zs fs L
  | false :: ms, _ :: zs, fs, L => putL ms zs fs L
  | _, _, _, L => L
theorem putL_s : ∀ {ms : List Bool} {zs : List Z} {A fs L : List Rt}, S K mg M H (A ++ (fs ++ L)) → S K mg M H (A ++ putL ms zs fs L)
  | true :: ms, .al i :: zs, A, f :: fs, L, s => by
    unfold putL
    have p : (A ++ (f :: fs ++ L)).Perm (f :: (A ++ (fs ++ L))) := by
      rw [List.cons_append]
      exact List.perm_middle
    have s1 := s.perm p
    refine putL_s (ms := ms) (zs := zs) ?_
    have e : A ++ (fs ++ L.set i f) = (A ++ (fs ++ L)).set (A.length + (fs.length + i)) f := by
      rw [List.set_append, if_neg (by omega), List.set_append, if_neg (by omega)]
      congr 3
      omega
    rw [e]
    exact s1.tail.set s1.head fun j t _ ht => s1.sep t (List.mem_of_getElem? ht)
  | true :: ms, .v _ :: zs, A, f :: fs, L, s => by
    unfold putL
    exact putL_s (s.sub ((List.Sublist.refl A).append (by rw [List.cons_append]; exact List.sublist_cons_self ..)))
  | false :: ms, z :: zs, A, fs, L, s => by
    unfold putL
    exact putL_s s
  | [], zs, A, fs, L, s => by
    unfold putL
    exact s.sub ((List.Sublist.refl A).append (List.sublist_append_right ..))
  | true :: ms, [], A, fs, L, s => by
    unfold putL
    exact s.sub ((List.Sublist.refl A).append (List.sublist_append_right ..))
  | false :: ms, [], A, fs, L, s => by
    unfold putL
    exact s.sub ((List.Sublist.refl A).append (List.sublist_append_right ..))
  | true :: ms, .al i :: zs, A, [], L, s => by
    unfold putL
    exact s
  | true :: ms, .v _ :: zs, A, [], L, s => by
    unfold putL
    exact s
theorem putL_mem : ∀ {ms : List Bool} {zs : List Z} {fs L : List Rt} {r : Rt}, r ∈ putL ms zs fs L → r ∈ fs ∨ r ∈ L
  | true :: ms, .al i :: zs, f :: fs, L, r, h => by
    unfold putL at h
    rcases putL_mem h with h | h
    · exact .inl (List.mem_cons_of_mem _ h)
    · rcases List.mem_or_eq_of_mem_set h with h | h
      · exact .inr h
      · exact .inl (by rw [h]; exact List.mem_cons_self ..)
  | true :: ms, .v _ :: zs, f :: fs, L, r, h => by
    unfold putL at h
    exact (putL_mem h).imp (List.mem_cons_of_mem _) id
  | false :: ms, z :: zs, fs, L, r, h => by
    unfold putL at h
    exact putL_mem h
  | [], zs, fs, L, r, h => by unfold putL at h; exact .inr h
  | true :: ms, [], fs, L, r, h => by unfold putL at h; exact .inr h
  | false :: ms, [], fs, L, r, h => by unfold putL at h; exact .inr h
  | true :: ms, .al i :: zs, [], L, r, h => by unfold putL at h; exact .inr h
  | true :: ms, .v _ :: zs, [], L, r, h => by unfold putL at h; exact .inr h
end
end V

set_option Elab.async false
set_option linter.all false
set_option maxRecDepth 100000
/-! V6: calls of defs, methods, classes. -/
namespace V
open PySem PySem.Spec PyProof.Rows L2
section
variable {K : PySem.W.Frag} {mg : Str → Option Value} {M M' H H' : Hp} {L L' G hs : List Rt} {σ : L2.St} {ρ : Env}
theorem ownT_eq {t u : T} (h : ownT t = some u) : u = t := by
  cases t <;> cases h <;> rfl
theorem lend_src (l : SL L σ ρ) {n : Nat} : ∀ {ms : List Bool} {zs : List Z} {vs : List V} {ts : List T} {pre hs : List Rt}, n = pre.length + hs.length → hs.map vt = (vs.map some).zip (zs.map zt) → Als L vs zs → lends ρ ms zs = some ts →
    ∃ rc, Src ((pre ++ hs) ++ L) n pre.length ms zs rc ∧ rc.map (·.v) = vs.map some ∧ rc.map (·.t) = ts ∧ ms.length = zs.length
  | [], [], _, _, pre, hs, hn, hh, .nil, e => by
    cases e
    exact ⟨[], .nil _, rfl, rfl, rfl⟩
  | [], _ :: _, _, _, _, _, _, _, _, e => by cases e
  | _ :: _, [], _, _, _, _, _, _, _, e => by cases e
  | m :: ms, z :: zs, v :: vs, ts, pre, hs, hn, hh, .cons a b, e => by
    simp only [lends] at e
    split at e
    · rename_i t ts' e1 e2
      cases e
      match hs, hh with
      | r0 :: hs, hh =>
        simp only [List.map_cons, List.zip_cons_cons, List.cons.injEq] at hh
        obtain ⟨rc, q1, q2, q3, q4⟩ := lend_src l (n := n) (pre := pre ++ [r0]) (hs := hs) (by simp at hn ⊢; omega) hh.2 b e2
        have eG : ((pre ++ [r0]) ++ hs) ++ L = (pre ++ (r0 :: hs)) ++ L := by simp
        rw [eG] at q1
        rw [show (pre ++ [r0]).length = pre.length + 1 by simp] at q1
        have key : ∃ r, ((pre ++ (r0 :: hs)) ++ L)[posZ n pre.length z]? = some r ∧ r.v = some v ∧ gt ρ z = some r.t := by
          cases z with
          | v u =>
            refine ⟨r0, ?_, congrArg Prod.fst hh.1, ?_⟩
            · simp [posZ]
            · exact congrArg some (congrArg Prod.snd hh.1).symm
          | al i =>
            replace a : (L.map (·.v))[i]? = some (some v) := a
            rw [List.getElem?_map] at a
            obtain ⟨r, hr, er⟩ := Option.map_eq_some_iff.mp a
            refine ⟨r, ?_, er, ?_⟩
            · rw [List.getElem?_append_right (by simp [posZ]; simp at hn; omega)]
              have : n + i - (pre ++ r0 :: hs).length = i := by simp at hn ⊢; omega
              simp only [posZ]
              rw [this]
              exact hr
            · show ρ[i]? = _
              rw [← l.t, List.getElem?_map, hr]
              rfl
        obtain ⟨r, k1, k2, k3⟩ := key
        simp only [lend1, k3, Option.bind_some] at e1
        cases m with
        | true =>
          rw [if_pos rfl] at e1
          have := ownT_eq e1
          subst this
          exact ⟨r :: rc, .mut k1 q1, by simp [q2, k2], by simp [q3], by simp [q4]⟩
        | false =>
          rw [if_neg (by simp)] at e1
          exact ⟨lentR r t :: rc, .lnt k1 e1 q1, by simp [q2, lentR, k2], by simp [q3, lentR], by simp [q4]⟩
    · cases e
def mal : List Bool → List Z → List Nat
  | true :: ms, .al i :: zs => i :: mal ms zs
  | _ :: ms, _ :: zs => mal ms zs
  | _, _ => []
theorem mpos_mal {n : Nat} : ∀ {j : Nat} {ms : List Bool} {zs : List Z} {i : Nat}, j + zs.length ≤ n → n + i ∈ mpos n j ms zs → i ∈ mal ms zs
  | j, true :: ms, .al k :: zs, i, hn, h => by
    simp only [mpos, posZ, List.mem_cons] at h
    simp only [mal, List.mem_cons]
    simp only [List.length_cons] at hn
    rcases h with h | h
    · exact .inl (by omega)
    · exact .inr (mpos_mal (by omega) h)
  | j, true :: ms, .v t :: zs, i, hn, h => by
    simp only [mpos, posZ, List.mem_cons] at h
    simp only [mal]
    simp only [List.length_cons] at hn
    rcases h with h | h
    · omega
    · exact mpos_mal (by omega) h
  | j, false :: ms, .al k :: zs, i, hn, h => by
    simp only [mpos] at h
    simp only [mal]
    simp only [List.length_cons] at hn
    exact mpos_mal (by omega) h
  | j, false :: ms, .v t :: zs, i, hn, h => by
    simp only [mpos] at h
    simp only [mal]
    simp only [List.length_cons] at hn
    exact mpos_mal (by omega) h
  | _, [], _, _, _, h => by simp [mpos] at h
  | _, true :: _, [], _, _, h => by simp [mpos] at h
  | _, false :: _, [], _, _, h => by simp [mpos] at h
theorem putL_t : ∀ {ms : List Bool} {zs : List Z} {fs b : List Rt} {ρ : Env}, ms.length = zs.length → fs.length = (muts ms zs).length → b.length = ρ.length → (∀ q, q ∉ mal ms zs → (b.map (·.t))[q]? = ρ[q]?) → (putL ms zs fs b).map (·.t) = putF ms zs (fs.map (·.t)) ρ
  | true :: ms, .al i :: zs, [], b, ρ, hm, hf, hb, h => by simp [muts] at hf
  | true :: ms, .v t :: zs, [], b, ρ, hm, hf, hb, h => by simp [muts] at hf
  | true :: ms, .al i :: zs, f :: fs, b, ρ, hm, hf, hb, h => by
    simp only [putL, putF, List.map_cons]
    refine putL_t (by simpa using hm) (by simpa [muts] using hf) (by simpa using hb) fun q hq => ?_
    rw [List.map_set]
    by_cases e : i = q
    · subst e
      by_cases hl : i < ρ.length
      · rw [List.getElem?_set_self (by simpa [hb] using hl), List.getElem?_set_self hl]
      · rw [List.getElem?_eq_none (by simp; omega), List.getElem?_eq_none (by simp; omega)]
    · rw [List.getElem?_set_ne e, List.getElem?_set_ne e]
      exact h q fun z => (List.mem_cons.mp z).elim (fun z => e z.symm) hq
  | true :: ms, .v t :: zs, f :: fs, b, ρ, hm, hf, hb, h => by
    simp only [putL, putF, List.map_cons]
    exact putL_t (by simpa using hm) (by simpa [muts] using hf) hb fun q hq => h q hq
  | false :: ms, .al i :: zs, fs, b, ρ, hm, hf, hb, h => by
    simp only [putL, putF]
    exact putL_t (by simpa using hm) (by simpa [muts] using hf) hb fun q hq => h q hq
  | false :: ms, .v t :: zs, fs, b, ρ, hm, hf, hb, h => by
    simp only [putL, putF]
    exact putL_t (by simpa using hm) (by simpa [muts] using hf) hb fun q hq => h q hq
  | [], [], fs, b, ρ, hm, hf, hb, h => by
    simp only [putL, putF]
    apply List.ext_getElem?
    intro q
    exact h q List.not_mem_nil
  | [], _ :: _, _, _, _, hm, _, _, _ => by simp at hm
  | true :: _, [], _, _, _, hm, _, _, _ => by simp at hm
  | false :: _, [], _, _, _, hm, _, _, _ => by simp at hm
theorem set_v {b : List Rt} {i : Nat} {f : Rt} {σ : L2.St} (h : b.map (·.v) = σ) (e : σ[i]? = some f.v) : (b.set i f).map (·.v) = σ := by
  rw [List.map_set, h]
  apply List.ext_getElem?
  intro q
  by_cases z : i = q
  · subst z
    rw [List.getElem?_set_self (List.getElem?_eq_some_iff.mp e).1, e]
  · rw [List.getElem?_set_ne z]
theorem putL_v (l : L.map (·.v) = σ) : ∀ {ms : List Bool} {zs : List Z} {vs : List V} {fs b : List Rt}, Als L vs zs → fs.map (·.v) = (muts ms vs).map some → b.map (·.v) = σ → (putL ms zs fs b).map (·.v) = σ
  | true :: ms, .al i :: zs, v :: vs, f :: fs, b, .cons a as, hf, hb => by
    simp only [putL]
    simp only [muts, List.map_cons, List.cons.injEq] at hf
    replace a : (L.map (·.v))[i]? = some (some v) := a
    rw [l] at a
    exact putL_v l as hf.2 (set_v hb (by rw [hf.1]; exact a))
  | true :: ms, .v t :: zs, v :: vs, f :: fs, b, .cons a as, hf, hb => by
    simp only [putL]
    simp only [muts, List.map_cons, List.cons.injEq] at hf
    exact putL_v l as hf.2 hb
  | false :: ms, z :: zs, v :: vs, fs, b, .cons a as, hf, hb => by
    simp only [putL]
    exact putL_v l as hf hb
  | true :: ms, .al i :: zs, v :: vs, [], b, _, hf, hb => by simp [putL]; exact hb
  | true :: ms, .v t :: zs, v :: vs, [], b, _, hf, hb => by simp [putL]; exact hb
  | [], zs, vs, fs, b, _, hf, hb => by simp [putL]; exact hb
  | true :: ms, [], vs, fs, b, _, hf, hb => by simp [putL]; exact hb
  | false :: ms, [], vs, fs, b, _, hf, hb => by simp [putL]; exact hb
theorem muts_len {α β : Type} : ∀ {ms : List Bool} {a : List α} {b : List β}, a.length = b.length → (muts ms a).length = (muts ms b).length
  | [], _, _, _ => by simp [muts]
  | true :: ms, [], [], _ => rfl
  | false :: ms, [], [], _ => rfl
  | true :: ms, x :: a, y :: b, h => by simp [muts, muts_len (ms := ms) (a := a) (b := b) (by simpa using h)]
  | false :: ms, x :: a, y :: b, h => by simp [muts, muts_len (ms := ms) (a := a) (b := b) (by simpa using h)]
  | _ :: _, [], _ :: _, h => by simp at h
  | _ :: _, _ :: _, [], h => by simp at h
theorem als_len : ∀ {vs : List V} {zs : List Z}, Als L vs zs → vs.length = zs.length
  | _, _, .nil => rfl
  | _, _, .cons _ b => congrArg (· + 1) (als_len b)
theorem notOwn_k {r : Rt} (ok : Rok K mg M H r) (n : isOwn r.t = false) : r.k = [] := by
  cases ok with
  | no o => rfl
  | sh r => rfl
  | ow h c m => cases n
  | lo h c => rfl
  | ob h0 h m fl nd ne => cases n
  | lb h0 h fl => rfl
theorem Rok.kE {r : Rt} (ok : Rok K mg M H r) : ∀ a ∈ r.k, a ∉ r.e := by
  cases ok with
  | no o => exact fun _ h => absurd h List.not_mem_nil
  | sh r => exact fun _ h => absurd h List.not_mem_nil
  | ow h c m => exact fun _ _ => List.not_mem_nil
  | lo h c => exact fun _ h => absurd h List.not_mem_nil
  | ob h0 h m fl nd ne => exact ne
  | lb h0 h fl => exact fun _ h => absurd h List.not_mem_nil
/-- where lent roots come from, if none of them is own -/
theorem src_noOwn {n : Nat} (sG : S K mg M H G) : ∀ {j : Nat} {ms : List Bool} {zs : List Z} {rc : List Rt}, Src G n j ms zs rc → (∀ j' z r, j ≤ j' → (false, z) ∈ ms.zip zs → G[posZ n j' z]? = some r → True) → noOwn ρ ms zs = true → (∀ (j' : Nat) (z : Z) (r : Rt), j ≤ j' → j' < j + zs.length → zs[j' - j]? = some z → G[posZ n j' z]? = some r → gt ρ z = some r.t) →
    ∀ r ∈ rc, (∃ p ∈ mpos n j ms zs, G[p]? = some r) ∨ ∃ (p : Nat) (s : Rt), G[p]? = some s ∧ s.k = [] ∧ r.k = [] ∧ r.e = s.e
  | _, _, _, _, .nil _, _, _, _, r, h => by cases h
  | j, _, _, _, .mut (z := z) e q, tr, no, hg, r, h => by
    simp only [noOwn, Bool.and_eq_true] at no
    rcases List.mem_cons.mp h with rfl | h
    · exact .inl ⟨_, List.mem_cons_self .., e⟩
    · rcases src_noOwn sG q (fun _ _ _ _ _ _ => trivial) no.2 (fun j' z' r' h1 h2 h3 h4 => hg j' z' r' (by omega) (by simp; omega) (by rw [show j' - j = (j' - (j + 1)) + 1 by omega]; simpa using h3) h4) r h with ⟨p, h1, h2⟩ | h
      · exact .inl ⟨p, List.mem_cons_of_mem _ h1, h2⟩
      · exact .inr h
  | j, _, _, _, .lnt (z := z) (r := r0) e lt q, tr, no, hg, r, h => by
    simp only [noOwn, Bool.and_eq_true, Bool.false_or] at no
    rcases List.mem_cons.mp h with rfl | h
    · refine .inr ⟨_, _, e, ?_, rfl, ?_⟩
      · have g := hg j z r0 (Nat.le_refl _) (by simp) (by simp) e
        rw [g] at no
        exact notOwn_k (sG.ok _ (List.mem_of_getElem? e)) (by simpa using no.1)
      · have g := hg j z r0 (Nat.le_refl _) (by simp) (by simp) e
        rw [g] at no
        show r0.k ++ r0.e = r0.e
        rw [notOwn_k (sG.ok _ (List.mem_of_getElem? e)) (by simpa using no.1)]
        rfl
    · rcases src_noOwn sG q (fun _ _ _ _ _ _ => trivial) no.2 (fun j' z' r' h1 h2 h3 h4 => hg j' z' r' (by omega) (by simp; omega) (by rw [show j' - j = (j' - (j + 1)) + 1 by omega]; simpa using h3) h4) r h with ⟨p, h1, h2⟩ | h
      · exact .inl ⟨p, by simpa [mpos] using h1, h2⟩
      · exact .inr h
theorem al_get {vs : List V} {zs : List Z} (hh : hs.map vt = (vs.map some).zip (zs.map zt)) (l : SL L σ ρ) (hvz : vs.length = zs.length) {j : Nat} {z : Z} {r : Rt} (h1 : zs[j]? = some z) (h2 : (hs ++ L)[posZ hs.length j z]? = some r) : gt ρ z = some r.t := by
  have hl : hs.length = zs.length := by
    have := congrArg List.length hh
    simp at this
    omega
  cases z with
  | v t =>
    have hj : j < hs.length := by rw [hl]; exact (List.getElem?_eq_some_iff.mp h1).1
    simp only [posZ] at h2
    rw [List.getElem?_append_left hj] at h2
    have q : (hs.map vt)[j]? = some (vt r) := by rw [List.getElem?_map, h2]; rfl
    rw [hh, List.getElem?_zip_eq_some] at q
    have q2 := q.2
    rw [List.getElem?_map, h1] at q2
    simp only [Option.map_some, Option.some.injEq, zt] at q2
    show some t = some r.t
    rw [q2]
    rfl
  | al i =>
    simp only [posZ] at h2
    rw [List.getElem?_append_right (by omega), Nat.add_sub_cancel_left] at h2
    show ρ[i]? = _
    rw [← l.t, List.getElem?_map, h2]
    rfl
end
section
variable {X : Cx} {Wx : WX}
/-- behind a call: the callee's roots, then the env with what was changed put back -/
theorem back_ok {ms0 ms : List Bool} {zs0 zs : List Z} {vs0 vs : List V} {M H : Hp} {hs L rc : List Rt} {σ : L2.St} {ρ : Env} (s : S X.K X.mg M H (hs ++ L)) (l : SL L σ ρ) (hh : hs.map vt = shA.hd vs0 zs0) (al0 : Als L vs0 zs0) (al : Als L vs zs)
    (hmz : ms.length = zs.length) (hmal : mal ms0 zs0 = mal ms zs) (sr : Src (hs ++ L) hs.length 0 ms0 zs0 rc) {M' H' : Hp} {A fs : List Rt} (sA : S X.K X.mg M' H' (A ++ fs)) (u : Up M H rc M' H' (A ++ fs)) (hlo : (∀ r ∈ A ++ fs, r.e = []) ∨ noOwn ρ ms0 zs0 = true) (hfs : fs.map (·.v) = (muts ms vs).map some) :
      ∃ L', S X.K X.mg M' H' (A ++ L') ∧ Up M H (hs ++ L) M' H' (A ++ L') ∧ SL L' σ (putF ms zs (fs.map (·.t)) ρ) := by
  have hvz0 := als_len al0
  have hvz := als_len al
  have hlen : hs.length = zs0.length := by
    have := congrArg List.length hh
    simp [shA] at this
    omega
  have xrc : ∀ a, Xs rc a → ∃ p ∈ mpos hs.length 0 ms0 zs0, ∃ r, (hs ++ L)[p]? = some r ∧ a ∈ r.k := by
    rintro a ⟨r, hr, ha⟩
    rcases sr.mem r hr with ⟨p, h1, h2⟩ | ⟨p, s', t, h1, h2, rfl⟩
    · exact ⟨p, h1, r, h2, ha⟩
    · exact absurd ha List.not_mem_nil
  have sF : S X.K X.mg M H (blank (hs ++ L) (mpos hs.length 0 ms0 zs0)) := blank_s s
  have hx : ∀ a, Xs (blank (hs ++ L) (mpos hs.length 0 ms0 zs0)) a ∨ Ys (blank (hs ++ L) (mpos hs.length 0 ms0 zs0)) a → ¬ Xs rc a := by
    intro a h hc
    obtain ⟨p, hp', r, hr, ha⟩ := xrc a hc
    have fin : ∀ (q : Nat) (r' : Rt), q ∉ mpos hs.length 0 ms0 zs0 → (hs ++ L)[q]? = some r' → a ∈ r'.k ∨ a ∈ r'.e → False := fun q r' hq hr' ha' => by
      have sp := s.ix (fun z : p = q => hq (by rw [← z]; exact hp')) hr hr'
      exact ha'.elim (sp.kk a ha) (sp.ke a ha)
    rcases h with ⟨r', hr', ha'⟩ | ⟨r', hr', ha'⟩
    · obtain ⟨q, hq⟩ := List.mem_iff_getElem?.mp hr'
      rcases blank_at hq with ⟨z, _⟩ | ⟨h1, h2⟩
      · rw [z] at ha'; cases ha'
      · exact fin q r' h1 h2 (.inl ha')
    · obtain ⟨q, hq⟩ := List.mem_iff_getElem?.mp hr'
      rcases blank_at hq with ⟨_, z⟩ | ⟨h1, h2⟩
      · rw [z] at ha'; cases ha'
      · exact fin q r' h1 h2 (.inr ha')
  obtain ⟨b1, b2, eb, lb⟩ := blank_split (ps := mpos hs.length 0 ms0 zs0) hs L
  have ysrc : noOwn ρ ms0 zs0 = true → ∀ a, Ys rc a → ∃ (p : Nat) (s' : Rt), (hs ++ L)[p]? = some s' ∧ a ∈ s'.e ∧ (p ∈ mpos hs.length 0 ms0 zs0 ∨ s'.k = []) := by
    rintro no a ⟨r, hr, ha⟩
    rcases src_noOwn s sr (fun _ _ _ _ _ _ => trivial) no (fun j' z r h1 h2 h3 h4 => al_get hh l hvz0 (by simpa using h3) h4) r hr with ⟨p, h1, h2⟩ | ⟨p, s', h1, h2, h3, h4⟩
    · exact ⟨p, r, h2, ha, .inl h1⟩
    · exact ⟨p, s', h1, by rw [← h4]; exact ha, .inr h2⟩
  have hY : ∀ a, Ys (A ++ fs) a → Ys (hs ++ L) a := by
    intro a ha
    rcases hlo with z | no
    · obtain ⟨r, hr, ha⟩ := ha
      rw [z r hr] at ha; cases ha
    · obtain ⟨p, s', h1, h2, _⟩ := ysrc no a (u.ys a ha)
      exact ⟨s', List.mem_of_getElem? h1, h2⟩
  have he : ∀ a, Ys (A ++ fs) a → ¬ Xs (blank (hs ++ L) (mpos hs.length 0 ms0 zs0)) a := by
    intro a ha hX
    rcases hlo with z | no
    · obtain ⟨r, hr, ha⟩ := ha
      rw [z r hr] at ha; cases ha
    · obtain ⟨p, s', h1, h2, h3⟩ := ysrc no a (u.ys a ha)
      obtain ⟨r', hr', ha'⟩ := hX
      obtain ⟨q, hq⟩ := List.mem_iff_getElem?.mp hr'
      rcases blank_at hq with ⟨z, _⟩ | ⟨k1, k2⟩
      · rw [z] at ha'; cases ha'
      · by_cases e : q = p
        · subst e
          rw [h1] at k2
          cases k2
          rcases h3 with h3 | h3
          · exact k1 h3
          · rw [h3] at ha'; cases ha'
        · exact (s.ix e k2 h1).ke a ha' h2
  have s1 := frame2 sF hx sA u he
  have u1 := up_frame (fr := blank (hs ++ L) (mpos hs.length 0 ms0 zs0)) (G := hs ++ L) (fun a h => by
      obtain ⟨p, _, r, hr, ha⟩ := xrc a h
      exact ⟨r, List.mem_of_getElem? hr, ha⟩) hY (by
      rintro a ⟨r', hr', ha'⟩
      obtain ⟨q, hq⟩ := List.mem_iff_getElem?.mp hr'
      rcases blank_at hq with ⟨z, _⟩ | ⟨k1, k2⟩
      · rw [z] at ha'; cases ha'
      · exact ⟨r', List.mem_of_getElem? k2, ha'⟩) (by
      rintro a ⟨r', hr', ha'⟩
      obtain ⟨q, hq⟩ := List.mem_iff_getElem?.mp hr'
      rcases blank_at hq with ⟨_, z⟩ | ⟨k1, k2⟩
      · rw [z] at ha'; cases ha'
      · exact ⟨r', List.mem_of_getElem? k2, ha'⟩) u
  rw [eb] at s1 u1
  have s2 : S X.K X.mg M' H' (A ++ (fs ++ b2)) := s1.sub (by
    rw [List.append_assoc]
    exact (List.Sublist.refl A).append ((List.Sublist.refl fs).append (List.sublist_append_right ..)))
  have bv : b2.map (·.v) = σ := by
    have q := blank_v (G := hs ++ L) (ps := mpos hs.length 0 ms0 zs0)
    rw [eb, List.map_append, List.map_append] at q
    have := (List.append_inj q (by simpa using lb)).2
    rw [this, l.v]
  refine ⟨putL ms zs fs b2, putL_s s2, u1.sub fun r hr => ?_, putL_v l.v al hfs bv, putL_t hmz ?_ ?_ fun q hq => ?_⟩
  · rcases List.mem_append.mp hr with h | h
    · exact List.mem_append_left _ (List.mem_append_left _ h)
    · rcases putL_mem h with h | h
      · exact List.mem_append_left _ (List.mem_append_right _ h)
      · exact List.mem_append_right _ (List.mem_append_right _ h)
  · have := congrArg List.length hfs
    simp only [List.length_map] at this
    rw [this]
    exact muts_len hvz
  · have h1 : b2.length = σ.length := by rw [← bv, List.length_map]
    have h2 : L.length = σ.length := by rw [← l.v, List.length_map]
    have h3 : L.length = ρ.length := by rw [← l.t, List.length_map]
    omega
  · have q2 : hs.length + q ∉ mpos hs.length 0 ms0 zs0 := fun z => hq (by rw [← hmal]; exact mpos_mal (by omega) z)
    have q3 := blank_t (G := hs ++ L) q2
    rw [eb, List.getElem?_append_right (by omega), List.getElem?_append_right (by omega)] at q3
    rw [lb, Nat.add_sub_cancel_left] at q3
    rw [List.getElem?_map, q3, ← List.getElem?_map, l.t]
theorem noLos_e {M H : Hp} {A fs : List Rt} (s : S X.K X.mg M H (A ++ fs)) (ha : ∀ r ∈ A, noLo r.t = true) (hf : (fs.map (·.t)).all noLo = true) : ∀ r ∈ A ++ fs, r.e = [] := fun r hr => by
  refine noLo_e (s.ok r hr) ?_
  rcases List.mem_append.mp hr with h | h
  · exact ha r h
  · exact List.all_eq_true.mp hf _ (List.mem_map_of_mem h)
theorem call_ok {ms : List Bool} {F : PF} {zs : List Z} {vs : List V} {M H : Hp} {hs L : List Rt} {σ : L2.St} {ρ : Env} {E : XK} {Q : VK} (s : S X.K X.mg M H (hs ++ L)) (l : SL L σ ρ) (hh : hs.map vt = shA.hd vs zs) (al : Als L vs zs)
    (hp : Post X.K X.mg shE E M H (hs ++ L) σ Q (call ms F zs ρ)) : SpD X.K X.mg ms F vs H Q E := by
  have hvz := als_len al
  have hlen : hs.length = zs.length := by
    have := congrArg List.length hh
    simp [shA] at this
    omega
  unfold call at hp
  cases ets : lends ρ ms zs with
  | none => simp only [ets] at hp; exact hp.elim
  | some ts =>
  simp only [ets] at hp
  split at hp
  case isFalse => exact hp.elim
  rename_i ok
  obtain ⟨rc, sr, rv, rt, hmz⟩ := lend_src l (n := hs.length) (pre := []) (hs := hs) (by simp) hh al ets
  simp only [List.nil_append, List.length_nil] at sr
  refine ⟨hvz.trans hmz.symm, M, rc, sr.s s (by omega) ok, rv, ?_⟩
  rw [rt]
  cases eF : F ts with
  | stk => simp only [eF] at hp; exact hp.elim
  | ok t fin =>
    simp only [eF] at hp
    split at hp
    case isFalse => exact hp.elim
    rename_i hlo
    intro M' H' v k e fs u s' hv ht
    have hlo' : (∀ r ∈ [⟨some v, t, k, e⟩] ++ fs, r.e = []) ∨ noOwn ρ ms zs = true := by
      rcases Bool.or_eq_true_iff.mp hlo with z | z
      · simp only [noLos, Bool.and_eq_true] at z
        exact .inl (noLos_e s' (fun r hr => by rw [List.mem_singleton.mp hr]; exact z.1) (by rw [ht]; exact z.2))
      · exact .inr z
    obtain ⟨L', r1, r2, r3⟩ := back_ok (A := [⟨some v, t, k, e⟩]) s l hh al al hmz rfl sr s' u hlo' hv
    rw [ht] at r3
    exact hp M' H' [⟨some v, t, k, e⟩] L' v r2 r1 r3 rfl trivial
  | ex n fin =>
    simp only [eF] at hp
    split at hp
    case isFalse => exact hp.elim
    rename_i hlo
    intro M' H' fs c u s' hv ht hc
    have hlo' : (∀ r ∈ [] ++ fs, r.e = []) ∨ noOwn ρ ms zs = true := by
      rcases Bool.or_eq_true_iff.mp hlo with z | z
      · simp only [noLos, Bool.and_eq_true] at z
        exact .inl (noLos_e (A := []) s' (fun r hr => absurd hr List.not_mem_nil) (by rw [ht]; exact z.2))
      · exact .inr z
    obtain ⟨L', r1, r2, r3⟩ := back_ok (A := []) s l hh al al hmz rfl sr s' u hlo' hv
    rw [ht] at r3
    exact hp M' H' L' c r2 r1 r3 hc
/-! ### C(..) -/
def make (Cn : Str) (ms : List Bool) (F : PF) (zs : List Z) : DE := fun ρ => match lends ρ ms zs with
  | none => .stk
  | some ts => if okAl ms zs = true then (match F (.ob Cn [] :: ts) with
    | .ok (.sh .non) (f :: fin) => if (noLos f fin || noOwn ρ ms zs) = true then .ok (.v f) (putF ms zs fin ρ) else .stk
    | .ex n (_ :: fin) => if (noLos .no fin) = true then .ex n (putF ms zs fin ρ) else .stk
    | _ => .stk) else .stk
theorem ob_new {M H : Hp} {G : List Rt} {Cn : Str} {C x dx : Addr} (hC : cnOf X.mg Cn = some C) (s : S X.K X.mg M H G) (hx : H x = none) (hdx : H dx = none) (ne : dx ≠ x) :
    S X.K X.mg M (upd (upd H dx (.own x)) x (.ins C dx [])) (⟨some (.ref x), .ob Cn [], [x], []⟩ :: G) ∧ Up M H G M (upd (upd H dx (.own x)) x (.ins C dx [])) (⟨some (.ref x), .ob Cn [], [x], []⟩ :: G) := by
  have hx' : (upd H dx (.own x)) x = none := by rw [upd_ne ne.symm]; exact hx
  have g : Grow M H M (upd (upd H dx (.own x)) x (.ins C dx [])) := (Grow.ow hdx).trans (Grow.ow hx')
  have le : Le M (upd (upd H dx (.own x)) x (.ins C dx [])) := (s.le.ow hdx).ow hx'
  have s1 := s.grow g le
  refine ⟨s1.cons (.ob hC upd_same (none_le s.le hx) .nil (by simp) (fun _ _ => List.not_mem_nil)) fun r hr => ?_, ⟨g.mm, fun a o h _ => g.hm a o h, g.hd, fun a h => ?_, fun a h => ?_, fun a o h => (g.ms a o h).imp id .inr⟩⟩
  · have hh := (s.ok r hr).has
    exact ⟨fun a ha hb => by rw [List.mem_singleton.mp ha] at hb; exact (hh.1 _ hb).1 hx, fun a ha hb => by rw [List.mem_singleton.mp ha] at hb; exact hh.2 _ hb hx, fun _ _ => List.not_mem_nil⟩
  · exact (Xs.cons.mp h).elim (fun z => .inr (by rw [List.mem_singleton.mp z]; exact hx)) .inl
  · exact (Ys.cons.mp h).elim (fun z => absurd z List.not_mem_nil) id
theorem make_ok {Cn : Str} {C : Addr} {ms : List Bool} {F : PF} {zs : List Z} {vs : List V} {M H : Hp} {hs L : List Rt} {σ : L2.St} {ρ : Env} {E : XK} {Q : VK} (hC : cnOf X.mg Cn = some C) (s : S X.K X.mg M H (hs ++ L)) (l : SL L σ ρ) (hh : hs.map vt = shA.hd vs zs) (al : Als L vs zs)
    (hp : Post X.K X.mg shE E M H (hs ++ L) σ Q (make Cn ms F zs ρ)) {x dx : Addr} (hx : H x = none) (hdx : H dx = none) (ne : dx ≠ x) : SpD X.K X.mg (true :: ms) F (.ref x :: vs) (upd (upd H dx (.own x)) x (.ins C dx [])) (fun v H2 => v = .non ∧ Q (.ref x) H2) E := by
  have hvz := als_len al
  obtain ⟨s1, u1⟩ := ob_new hC s hx hdx ne
  have hlen : hs.length = zs.length := by
    have := congrArg List.length hh
    simp [shA] at this
    omega
  unfold make at hp
  cases ets : lends ρ ms zs with
  | none => simp only [ets] at hp; exact hp.elim
  | some ts =>
  simp only [ets] at hp
  split at hp
  case isFalse => exact hp.elim
  rename_i ok
  have hh1 : (⟨some (.ref x), .ob Cn [], [x], []⟩ :: hs).map vt = shA.hd (.ref x :: vs) (.v (.ob Cn []) :: zs) := by
    simp only [List.map_cons, shA, List.zip_cons_cons]
    congr 1
  have al1 : Als L (.ref x :: vs) (.v (.ob Cn []) :: zs) := .cons trivial al
  have ets1 : lends ρ (true :: ms) (.v (.ob Cn []) :: zs) = some (.ob Cn [] :: ts) := by
    simp [lends, lend1, gt, ownT, ets]
  have ok1 : okAl (true :: ms) (.v (.ob Cn []) :: zs) = true := by simp [okAl, ok]
  obtain ⟨rc, sr, rv, rt, hmz⟩ := lend_src l (n := (⟨some (.ref x), .ob Cn [], [x], []⟩ :: hs : List Rt).length) (pre := []) (hs := ⟨some (.ref x), .ob Cn [], [x], []⟩ :: hs) (by simp) hh1 al1 ets1
  simp only [List.nil_append, List.length_nil] at sr
  have hmz' : ms.length = zs.length := by simpa using hmz
  refine ⟨by simp; omega, M, rc, sr.s s1 (by simp; omega) ok1, rv, ?_⟩
  rw [rt]
  cases eF : F (.ob Cn [] :: ts) with
  | stk => simp only [eF] at hp; exact hp.elim
  | ok t fin =>
    simp only [eF] at hp
    split at hp
    · rename_i f fin' e0
      cases e0
      split at hp
      case isFalse => exact hp.elim
      rename_i hlo
      intro M' H' v k e fs u s' hv ht
      match fs, ht, hv with
      | r0 :: fs, ht, hv =>
        simp only [List.map_cons, List.cons.injEq] at ht
        simp only [muts, List.map_cons, List.cons.injEq] at hv
        have vn : v = .non := by
          have ok := s'.head
          cases ok with
          | sh r => exact rep_non r
        have s2 : S X.K X.mg M' H' ([r0] ++ fs) := s'.tail
        have u2 := u.tail
        have hlo' : (∀ r ∈ [r0] ++ fs, r.e = []) ∨ noOwn ρ (true :: ms) (.v (.ob Cn []) :: zs) = true := by
          rcases Bool.or_eq_true_iff.mp hlo with z | z
          · simp only [noLos, Bool.and_eq_true] at z
            exact .inl (noLos_e s2 (fun r hr => by rw [List.mem_singleton.mp hr, ht.1]; exact z.1) (by rw [ht.2]; exact z.2))
          · exact .inr (by simp [noOwn, z])
        obtain ⟨L', r1, r2, r3⟩ := back_ok (A := [r0]) s1 l hh1 al1 al hmz' rfl sr s2 u2 hlo' hv.2
        rw [ht.2] at r3
        refine ⟨vn, hp M' H' [r0] L' (.ref x) (u1.trans r2) r1 r3 ?_ trivial⟩
        show [vt r0] = [(some (.ref x), f)]
        simp only [vt, hv.1, ht.1]
    · rename_i e0
      cases e0
    · exact hp.elim
  | ex n fin =>
    cases fin with
    | nil => simp only [eF] at hp; exact hp.elim
    | cons f fin =>
    simp only [eF] at hp
    cases hlo : noLos .no fin with
    | false => rw [hlo] at hp; exact hp.elim
    | true =>
    rw [hlo] at hp
    intro M' H' fs c u s' hv ht hc
    match fs, ht, hv with
    | r0 :: fs, ht, hv =>
      simp only [List.map_cons, List.cons.injEq] at ht
      simp only [muts, List.map_cons, List.cons.injEq] at hv
      have s2 : S X.K X.mg M' H' ([] ++ fs) := s'.tail
      have u2 : Up M _ rc M' H' ([] ++ fs) := u.tail
      simp only [noLos, Bool.and_eq_true] at hlo
      obtain ⟨L', r1, r2, r3⟩ := back_ok (A := []) s1 l hh1 al1 al hmz' rfl sr s2 u2 (.inl (noLos_e (A := []) s2 (fun r hr => absurd hr List.not_mem_nil) (by rw [ht.2]; exact hlo.2))) hv.2
      rw [ht.2] at r3
      exact hp M' H' L' c (u1.trans r2) r1 r3 hc
end
end V

set_option Elab.async false
set_option linter.all false
set_option maxRecDepth 100000
/-! V7: calls by the machine's rules; methods; fields. -/
namespace V
open PySem PySem.Spec PyProof.Rows L2
section
variable {X : Cx} {Wx : WX} {k j : Nat} {ms : List Bool} {f C : Addr} {F : PF} {x m : Str} {p pos apos : Pos} {e o : Expr} {es : List Expr} {mas : P (List Z)} {ma mo : DE}
/-- a def by its name -/
structure Cal (P : Program) (w : World) (K : PySem.W.Frag) (mg : Str → Option Value) (base : Heap) (k : Nat) (x : Str) (ms : List Bool) (F : PF) : Prop where
  ex : ∃ f, mg x = some (.ref f) ∧ Fn P w K mg base k f ms F
/-- a method by its class's name and its name -/
structure Met (P : Program) (w : World) (K : PySem.W.Frag) (mg : Str → Option Value) (base : Heap) (k : Nat) (Cn m : Str) (ms : List Bool) (F : PF) : Prop where
  ex : ∃ C f, cnOf mg Cn = some C ∧ Cls K C ∧ Meth K C m f ∧ Fn P w K mg base k f ms F
/-- a class by its name: its __init__ -/
structure Mak (P : Program) (w : World) (K : PySem.W.Frag) (mg : Str → Option Value) (base : Heap) (k : Nat) (Cn : Str) (ms : List Bool) (F : PF) : Prop where
  ex : ∃ C f, mg Cn = some (.ref C) ∧ Mk K C f ∧ Fn P w K mg base k f (true :: ms) F
theorem Cal.mono {P : Program} {w : World} {K : PySem.W.Frag} {mg : Str → Option Value} {base : Heap} (c : Cal P w K mg base j x ms F) (h : j ≤ k) : Cal P w K mg base k x ms F := by
  obtain ⟨f, e, G⟩ := c.ex
  exact ⟨f, e, G.mono h⟩
theorem Met.mono {P : Program} {w : World} {K : PySem.W.Frag} {mg : Str → Option Value} {base : Heap} {Cn : Str} (c : Met P w K mg base j Cn m ms F) (h : j ≤ k) : Met P w K mg base k Cn m ms F := by
  obtain ⟨C, f, a, b, d, G⟩ := c.ex
  exact ⟨C, f, a, b, d, G.mono h⟩
theorem Mak.mono {P : Program} {w : World} {K : PySem.W.Frag} {mg : Str → Option Value} {base : Heap} (c : Mak P w K mg base j x ms F) (h : j ≤ k) : Mak P w K mg base k x ms F := by
  obtain ⟨C, f, a, b, G⟩ := c.ex
  exact ⟨C, f, a, b, G.mono h⟩
def dCall (ms : List Bool) (F : PF) (mas : P (List Z)) : DE := bnd mas fun zs => call ms F zs
theorem q_call (c : Cal X.prog X.w X.K X.mg X.base k x ms F) (hr : Room j X.A) (hk : k ≤ j) (hg : Gl X x) (tk : Takes X Wx) (ha : QA X Wx (e :: es) mas) (hdb : (x == ("__debug__" : Str)) = false := by decide)
    (he : starEach (e :: es) X.env = (false, eval e X.env) :: starEach es X.env := by rfl) (hpl : (backTo pos (starEach es X.env)).any (·.1) = false := by rfl) : QE X Wx (.Call (.Name x p) (e :: es) [] pos) (dCall ms F mas) := by
  obtain ⟨f, hm, G⟩ := c.ex
  obtain ⟨fd, ps, G1, b⟩ := G.ex
  refine pe_imp (pe_callS G1 (hr.mono hk) hg hm G.kp b (fun σ => passAt tk σ) ha hdb he hpl) fun σ H Q h => ?_
  refine (run_bind (sa := shA) h).mono fun vs H1 h1 => ?_
  obtain ⟨M, hs, L, ρ, zs, s, l, q, al, hp⟩ := h1
  exact call_ok s l q al hp
theorem q_call0 (c : Cal X.prog X.w X.K X.mg X.base k x [] F) (hr : Room j X.A) (hk : k ≤ j) (hg : Gl X x) (tk : Takes X Wx) (hdb : (x == ("__debug__" : Str)) = false := by decide) : QE X Wx (.Call (.Name x p) [] [] pos) (dCall [] F aNil) := by
  obtain ⟨f, hm, G⟩ := c.ex
  obtain ⟨fd, ps, G1, b⟩ := G.ex
  refine pe_imp (t := fun σ H Q => SpD X.K X.mg [] F [] H Q (WE Wx σ)) ⟨fun pins s σ H Q I h => ?_⟩ fun σ H Q h => ?_
  · refine wpAny_Call_Name_kw (ld_glob I hg hm ?_ hdb)
    exact PySem.W.callWith_K0 I.kIn G.kp (run_fnS (us := []) G1 (hr.mono hk) b (passAt tk σ) I .nil h)
  · obtain ⟨M, L, ρ, s, l, hp⟩ := h
    exact call_ok (hs := []) (zs := []) s l rfl .nil hp
/-- the class and the fields of an instance -/
def insT : T → Option (Str × List Str)
  | .sh (.obj C fs _) => some (C, fs)
  | .ob C fs => some (C, fs.map (·.1))
  | .lb C fs => some (C, fs.map (·.1))
  | _ => none
theorem Flds.names {K : PySem.W.Frag} {mg : Str → Option Value} {M H : Hp} {fvs : List (Str × V)} {fs : List (Str × FT)} {k e : List Addr} (f : Flds K mg M H fvs fs k e) : fvs.map (·.1) = fs.map (·.1) := by
  induction f with
  | nil => rfl
  | sh _ _ ih => simp [ih]
  | ow _ _ _ _ ih => simp [ih]
  | lo _ _ _ ih => simp [ih]
theorem insT_ok {K : PySem.W.Frag} {mg : Str → Option Value} {M H : Hp} {r : Rt} {v : V} {Cn : Str} {fs : List Str} (hl : Le M H) (ok : Rok K mg M H r) (hv : r.v = some v) (e : insT r.t = some (Cn, fs)) : ∃ (a c dx : Addr) (fvs : List (Str × V)), v = .ref a ∧ cnOf mg Cn = some c ∧ H a = some (.ins c dx fvs) ∧ fvs.map (·.1) = fs := by
  cases ok with
  | no o => cases e
  | sh r =>
    rename_i d
    cases d <;> try (cases e)
    cases hv
    cases r with
    | obj h0 h q r => exact ⟨_, _, _, _, rfl, h0, hl.ex h rfl, q⟩
  | ow => cases e
  | lo => cases e
  | ob h0 h n fl nd ne => cases e; cases hv; exact ⟨_, _, _, _, rfl, h0, h, fl.names⟩
  | lb h0 h fl => cases e; cases hv; exact ⟨_, _, _, _, rfl, h0, h, fl.names⟩
theorem gt_ok {K : PySem.W.Frag} {mg : Str → Option Value} {M H : Hp} {hs L : List Rt} {σ : L2.St} {ρ : Env} {z : Z} {v : V} {t : T} (s : S K mg M H (hs ++ L)) (l : SL L σ ρ) (hh : (some v, zt z) ∈ hs.map vt) (al : Al L v z) (e : gt ρ z = some t) : ∃ r ∈ hs ++ L, r.v = some v ∧ r.t = t := by
  cases z with
  | v u =>
    cases e
    obtain ⟨r, hr, e1⟩ := List.mem_map.mp hh
    exact ⟨r, List.mem_append_left _ hr, congrArg Prod.fst e1, congrArg Prod.snd e1⟩
  | al i =>
    replace e : ρ[i]? = some t := e
    rw [← l.t, List.getElem?_map] at e
    obtain ⟨r, hr, rfl⟩ := Option.map_eq_some_iff.mp e
    replace al : (L.map (·.v))[i]? = some (some v) := al
    rw [List.getElem?_map, hr] at al
    exact ⟨r, List.mem_append_right _ (List.mem_of_getElem? hr), by simpa using al, rfl⟩
theorem lookup_none {m : Str} : ∀ {fvs : List (Str × V)}, (fvs.map (·.1)).contains m = false → fvs.lookup m = none
  | [], _ => rfl
  | (y, v) :: r, h => by
    simp only [List.map_cons, List.contains_cons, Bool.or_eq_false_iff] at h
    rw [List.lookup_cons, h.1]
    exact lookup_none h.2
/-- a method may be called of this -/
def recvOk (Cn m : Str) (q : Option (Str × List Str)) : Bool := match q with
  | some (C, fs) => decide (C = Cn) && !fs.contains m
  | none => false
def recv {α : Type} (Cn m : Str) (z : Z) (k : P α) : P α := fun ρ => if recvOk Cn m ((gt ρ z).bind insT) = true then k ρ else .stk
def dMeth (Cn m : Str) (ms : List Bool) (F : PF) (mo : DE) (mas : P (List Z)) : DE := bnd mo fun z => recv Cn m z (bnd mas fun zs => call ms F (z :: zs))
theorem recvOk_ok {Cn m : Str} {q : Option (Str × List Str)} (h : recvOk Cn m q = true) : ∃ fs, q = some (Cn, fs) ∧ fs.contains m = false := by
  unfold recvOk at h
  split at h
  · simp only [Bool.and_eq_true, decide_eq_true_eq, Bool.not_eq_true'] at h
    obtain ⟨rfl, h2⟩ := h
    exact ⟨_, rfl, h2⟩
  · cases h
theorem pe_methS {pl : Sem Bool} {fd : FuncData} {ps : List Str} {sp : Sp} {ta : TE} {t : TA} (he : PE X o ta) (c : Cls X.K C) (hm : Meth X.K C m f) (G : FnOk X.prog X.w X.K X.mg X.base (L2.CX X.prog X.w) k f fd ps sp) (hr : Room k X.A) (hb : Binds X.K fd ps []) (tk : Takes X Wx) (ha : PA X (e :: es) t)
    (hst : starEach (e :: es) X.env = (false, eval e X.env) :: starEach es X.env := by rfl) (hpl : (backTo pos (starEach es X.env)).any (·.1) = false := by rfl)
    (ht : eval (.Call (.Attribute o m apos) (e :: es) [] pos) X.env = (do
      let ov ← eval o X.env
      standAt apos.atName
      let (f, first) ← holding [ov] (getMethod ov m pl)
      callWith pos f first (backTo pos (starEach (e :: es) X.env)) (backToKw pos (keywordEach [] X.env))) := by rfl) :
    PE X (.Call (.Attribute o m apos) (e :: es) [] pos) (fun σ H Q => ta σ H fun x H1 => ∃ a dx fs, x = .ref a ∧ H1 a = some (.ins C dx fs) ∧ fs.lookup m = none ∧ t σ H1 fun vs H2 => sp (x :: vs) H2 Q (WE Wx σ)) := by
  refine ⟨fun pins s σ H Q I h => ?_⟩
  refine PySem.W.methodCall_KW (pl := pl) (thn (he.run pins s σ H _ I h) fun u s1 ⟨x, H1, I1, rx, a, dx, fs, ex, ea, l, q⟩ => ?_) ht
  subst ex
  obtain rfl : u = Value.ref a := rx
  refine getmeth_ok I1 ea c hm l ?_
  refine PySem.W.callWith_K (first := [.ref a]) (h₀ := X.base) I.ok.mod.kin hm.kp (thn (ha.run pos pins s1 σ H1 _ I1 q) fun us s2 ⟨vs, H2, I2, r, q2⟩ => ⟨I2.kIn, ?_⟩) hst hpl
  exact run_fnS (us := .ref a :: us) (vs := .ref a :: vs) G hr hb (passAt tk σ) I2 (.cons rfl r) q2
theorem pe_methS0 {pl : Sem Bool} {fd : FuncData} {ps : List Str} {sp : Sp} {ta : TE} (he : PE X o ta) (c : Cls X.K C) (hm : Meth X.K C m f) (G : FnOk X.prog X.w X.K X.mg X.base (L2.CX X.prog X.w) k f fd ps sp) (hr : Room k X.A) (hb : Binds X.K fd ps []) (tk : Takes X Wx)
    (ht : eval (.Call (.Attribute o m apos) [] [] pos) X.env = (do
      let ov ← eval o X.env
      standAt apos.atName
      let (f, first) ← holding [ov] (getMethod ov m pl)
      callWith pos f first (backTo pos (starEach [] X.env)) (backToKw pos (keywordEach [] X.env))) := by rfl) :
    PE X (.Call (.Attribute o m apos) [] [] pos) (fun σ H Q => ta σ H fun x H1 => ∃ a dx fs, x = .ref a ∧ H1 a = some (.ins C dx fs) ∧ fs.lookup m = none ∧ sp [x] H1 Q (WE Wx σ)) := by
  refine ⟨fun pins s σ H Q I h => ?_⟩
  refine PySem.W.methodCall_KW (pl := pl) (thn (he.run pins s σ H _ I h) fun u s1 ⟨x, H1, I1, rx, a, dx, fs, ex, ea, l, q⟩ => ?_) ht
  subst ex
  obtain rfl : u = Value.ref a := rx
  refine getmeth_ok I1 ea c hm l ?_
  exact PySem.W.callWith_K0 (first := [.ref a]) I1.kIn hm.kp (run_fnS (us := [.ref a]) (vs := [.ref a]) G hr hb (passAt tk σ) I1 (.cons rfl .nil) q)
theorem recv_ok {Cn : Str} {C' : Addr} (hC : cnOf X.mg Cn = some C') {M H : Hp} {hs L : List Rt} {σ : L2.St} {ρ : Env} {z : Z} {v : V} (s : S X.K X.mg M H (hs ++ L)) (l : SL L σ ρ) (hh : (some v, zt z) ∈ hs.map vt) (al : Al L v z) (h : recvOk Cn m ((gt ρ z).bind insT) = true) :
    ∃ a dx fs, v = .ref a ∧ H a = some (.ins C' dx fs) ∧ fs.lookup m = none := by
  obtain ⟨fs, e, hc⟩ := recvOk_ok h
  obtain ⟨t, e1, e2⟩ := Option.bind_eq_some_iff.mp e
  obtain ⟨r, hr, hv, rfl⟩ := gt_ok s l hh al e1
  obtain ⟨a, c, dx, fvs, rfl, h0, h1, rfl⟩ := insT_ok s.le (s.ok r hr) hv e2
  rw [hC] at h0
  cases h0
  exact ⟨a, dx, fvs, rfl, h1, lookup_none hc⟩
theorem q_meth {Cn : Str} {pl : Sem Bool} (c : Met X.prog X.w X.K X.mg X.base k Cn m ms F) (hr : Room j X.A) (hk : k ≤ j) (tk : Takes X Wx) (he : QE X Wx o mo) (ha : QA X Wx (e :: es) mas)
    (hst : starEach (e :: es) X.env = (false, eval e X.env) :: starEach es X.env := by rfl) (hpl : (backTo pos (starEach es X.env)).any (·.1) = false := by rfl)
    (ht : eval (.Call (.Attribute o m apos) (e :: es) [] pos) X.env = (do
      let ov ← eval o X.env
      standAt apos.atName
      let (f, first) ← holding [ov] (getMethod ov m pl)
      callWith pos f first (backTo pos (starEach (e :: es) X.env)) (backToKw pos (keywordEach [] X.env))) := by rfl) :
    QE X Wx (.Call (.Attribute o m apos) (e :: es) [] pos) (dMeth Cn m ms F mo mas) := by
  obtain ⟨C, f, hC, cl, hm, G⟩ := c.ex
  obtain ⟨fd, ps, G1, b⟩ := G.ex
  refine pe_imp (pe_methS he cl hm G1 (hr.mono hk) b tk ha hst hpl ht) fun σ H Q h => ?_
  refine (run_bind (sa := shE) h).mono fun v H1 h1 => ?_
  obtain ⟨M, hs, L, ρ, z, s, l, q, al, hp⟩ := h1
  dsimp only [recv] at hp
  cases hok : recvOk Cn m ((gt ρ z).bind insT) with
  | false => rw [hok] at hp; exact hp.elim
  | true =>
  rw [if_pos hok] at hp
  obtain ⟨a, dx, fs, rfl, h1, h2⟩ := recv_ok hC s l (mem1 q) al hok
  refine ⟨a, dx, fs, rfl, h1, h2, ?_⟩
  have hM : Mid X.K X.mg shE shE Wx (fun z => bnd mas fun zs => call ms F (z :: zs)) σ Q (.ref a) H1 := ⟨M, hs, L, ρ, z, s, l, q, al, hp⟩
  refine (mid_bind (sb := shA) (f := fun z zs => call ms F (z :: zs)) stays_E hM).mono fun vs H2 h2 => ?_
  obtain ⟨M, hs, L, ρ, q, s, l, qh, al, hp⟩ := h2
  exact call_ok (vs := .ref a :: vs) (zs := q.1 :: q.2) s l qh (.cons al.1 al.2) hp
theorem q_meth0 {Cn : Str} {pl : Sem Bool} (c : Met X.prog X.w X.K X.mg X.base k Cn m ms F) (hr : Room j X.A) (hk : k ≤ j) (tk : Takes X Wx) (he : QE X Wx o mo)
    (ht : eval (.Call (.Attribute o m apos) [] [] pos) X.env = (do
      let ov ← eval o X.env
      standAt apos.atName
      let (f, first) ← holding [ov] (getMethod ov m pl)
      callWith pos f first (backTo pos (starEach [] X.env)) (backToKw pos (keywordEach [] X.env))) := by rfl) :
    QE X Wx (.Call (.Attribute o m apos) [] [] pos) (dMeth Cn m ms F mo aNil) := by
  obtain ⟨C, f, hC, cl, hm, G⟩ := c.ex
  obtain ⟨fd, ps, G1, b⟩ := G.ex
  refine pe_imp (pe_methS0 he cl hm G1 (hr.mono hk) b tk ht) fun σ H Q h => ?_
  refine (run_bind (sa := shE) h).mono fun v H1 h1 => ?_
  obtain ⟨M, hs, L, ρ, z, s, l, q, al, hp⟩ := h1
  dsimp only [recv] at hp
  cases hok : recvOk Cn m ((gt ρ z).bind insT) with
  | false => rw [hok] at hp; exact hp.elim
  | true =>
  rw [if_pos hok] at hp
  obtain ⟨a, dx, fs, rfl, h1, h2⟩ := recv_ok hC s l (mem1 q) al hok
  exact ⟨a, dx, fs, rfl, h1, h2, call_ok (vs := [.ref a]) (zs := [z]) s l q (.cons al .nil) hp⟩
/-! ### C(..) -/
def dMake (Cn : Str) (ms : List Bool) (F : PF) (mas : P (List Z)) : DE := bnd mas fun zs => make Cn ms F zs
theorem run_makeS {fd : FuncData} {ps : List Str} {sp : Sp} {pins : List (Addr × Obj)} {σ : L2.St} {H : Hp} {s : Shared} {Q : VK} {us : List Value} {vs : List V} (M : Mk X.K C f) (G : FnOk X.prog X.w X.K X.mg X.base (L2.CX X.prog X.w) k f fd ps sp) (hr : Room (k + 1) X.A) (hb : Binds X.K fd ps [])
    (tk : Takes X Wx) (I : L2.Inv X pins σ H s) (r : Vals vs us)
    (h : ∀ x dx, H x = none → H dx = none → dx ≠ x → sp (.ref x :: vs) (upd (upd H dx (.own x)) x (.ins C dx [])) (fun v H2 => v = .non ∧ Q (.ref x) H2) (WE Wx σ)) :
    wpAny (model X.prog X.w) X.A (PySem.call (.ref C) us) (EP X pins σ Q) X.xe s := by
  have hq := h (s.heap.objs.size + 1) s.heap.objs.size (I.hok.fresh (Nat.le_succ _)) (I.hok.fresh (Nat.le_refl _)) (Nat.ne_of_lt (Nat.lt_succ_self _))
  have I2 := L2.Inv.made (C := C) I
  have r2 : Vals (L2.V.ref (s.heap.objs.size + 1) :: vs) (Value.ref (s.heap.objs.size + 1) :: us) := .cons rfl r
  have hl : (Value.ref (s.heap.objs.size + 1) :: us ++ []).length = ps.length := by
    have e := r2.length
    rw [G.len _ _ _ _ hq] at e
    rw [List.append_nil]
    exact e.symm
  refine wpAny_call (make_map (f := f) I.kIn M.makes M.init (beq_iff_eq.mp M.fn) (codeAny_mono (G.run _ X.stack _ _ ⟨Value.ref (s.heap.objs.size + 1) :: us, []⟩ (Value.ref (s.heap.objs.size + 1) :: us) _ _ (WE Wx σ) (hr.make C us [])
    (I2.env0.make C us []) (by have q := hb _ (Value.ref (s.heap.objs.size + 1) :: us) I2.kIn hl; rw [List.append_nil] at q; exact q) r2 hq) fun r s' hq' => ?_))
  cases r with
  | error e => exact passAt tk σ pins _ _ e s' I2 hq'
  | ok fl =>
    cases fl with
    | ret u =>
      obtain ⟨v, H', I3, rv, ev, q3⟩ := I2.after hq'
      subst ev
      exact ⟨rv, ⟨L2.V.ref (s.heap.objs.size + 1), H', I3, rfl, q3⟩⟩
    | next => exact False.elim hq'
    | brk => exact False.elim hq'
    | cont => exact False.elim hq'
theorem q_make (c : Mak X.prog X.w X.K X.mg X.base k x ms F) (hr : Room j X.A) (hk : k + 1 ≤ j) (hg : Gl X x) (tk : Takes X Wx) (ha : QA X Wx (e :: es) mas) (hdb : (x == ("__debug__" : Str)) = false := by decide)
    (he : starEach (e :: es) X.env = (false, eval e X.env) :: starEach es X.env := by rfl) (hpl : (backTo pos (starEach es X.env)).any (·.1) = false := by rfl) : QE X Wx (.Call (.Name x p) (e :: es) [] pos) (dMake x ms F mas) := by
  obtain ⟨C, f, hm, M, G⟩ := c.ex
  obtain ⟨fd, ps, G1, b⟩ := G.ex
  refine pe_imp (t := fun σ H Q => TAd X.K X.mg Wx mas σ H fun vs H1 => ∀ x dx, H1 x = none → H1 dx = none → dx ≠ x → SpD X.K X.mg (true :: ms) F (.ref x :: vs) (upd (upd H1 dx (.own x)) x (.ins C dx [])) (fun v H2 => v = .non ∧ Q (.ref x) H2) (WE Wx σ)) ⟨fun pins s σ H Q I h => ?_⟩ fun σ H Q h => ?_
  · refine wpAny_Call_Name_kw (ld_glob I hg hm ?_ hdb)
    refine PySem.W.callWith_K (h₀ := X.base) I.ok.mod.kin M.kp (thn (ha.run pos pins s σ H _ I h) fun us s1 ⟨vs, H1, I1, r, q⟩ => ⟨I1.kIn, ?_⟩) he hpl
    exact run_makeS M G1 (hr.mono hk) b tk I1 r q
  · refine (run_bind (sa := shA) h).mono fun vs H1 h1 => ?_
    obtain ⟨M', hs, L, ρ, zs, s, l, q, al, hp⟩ := h1
    intro x' dx h1 h2 h3
    exact make_ok (by unfold cnOf; rw [hm]) s l q al hp h1 h2 h3
/-! ### o.f -/
/-- a field of the instances of a class -/
structure Fld (K : PySem.W.Frag) (mg : Str → Option Value) (Cn f : Str) : Prop where
  ok : ∀ C, cnOf mg Cn = some C → Cls K C ∧ NoAttr K C f
def getF (fs : List Str) (l : List D) (f : Str) : Option D := match fs, l with
  | g :: fs, d :: l => if f == g then some d else getF fs l f
  | _, _ => none
def getFT (fs : List (Str × FT)) (f : Str) : Option FT := match fs with
  | (g, t) :: fs => if f == g then some t else getFT fs f
  | [] => none
/-- what a field of an own, of a lent instance is read as -/
def fldOb : Option FT → Option T
  | some (.sh d) => some (.sh d)
  | some (.lo d) => some (.lo d)
  | _ => none
def fldLb : Option FT → Option T
  | some (.sh d) => some (.sh d)
  | some (.ow d) => some (.lo d)
  | some (.lo d) => some (.lo d)
  | none => none
def fldT (Cn f : Str) : T → Option T
  | .sh (.obj C fs l) => if C = Cn then (getF fs l f).map .sh else none
  | .ob C fs => if C = Cn then fldOb (getFT fs f) else none
  | .lb C fs => if C = Cn then fldLb (getFT fs f) else none
  | _ => none
theorem getF_ok {K : PySem.W.Frag} {mg : Str → Option Value} {M : Hp} {f : Str} : ∀ {fvs : List (Str × V)} {ds : List D} {d : D}, Reps K mg M (fvs.map (·.2)) ds → getF (fvs.map (·.1)) ds f = some d → ∃ v, fvs.lookup f = some v ∧ Rep K mg M v d
  | [], _, _, _, e => by simp [getF] at e
  | (g, v) :: r, [], _, rs, _ => by cases rs
  | (g, v) :: r, d :: ds, d', rs, e => by
    simp only [List.map_cons] at rs e
    cases rs with
    | cons r1 r2 =>
      unfold getF at e
      rw [List.lookup_cons]
      cases h : f == g with
      | true => rw [h, if_pos rfl] at e; cases e; exact ⟨v, rfl, r1⟩
      | false => rw [h, if_neg (by simp)] at e; exact getF_ok r2 e
/-- a field's value -/
def FRep (K : PySem.W.Frag) (mg : Str → Option Value) (M H : Hp) (k e : List Addr) (v : V) : FT → Prop
  | .sh d => Rep K mg M v d
  | .ow d => ∃ a o, v = .ref a ∧ a ∈ k ∧ H a = some o ∧ Cel K mg M o d
  | .lo d => ∃ a o, v = .ref a ∧ a ∈ e ∧ At H a o ∧ Cel K mg M o d
theorem FRep.mono {K : PySem.W.Frag} {mg : Str → Option Value} {M H : Hp} {k e k' e' : List Addr} {v : V} {t : FT} (hk : ∀ a ∈ k, a ∈ k') (he : ∀ a ∈ e, a ∈ e') (h : FRep K mg M H k e v t) : FRep K mg M H k' e' v t := by
  cases t with
  | sh d => exact h
  | ow d => obtain ⟨a, o, h1, h2, h3⟩ := h; exact ⟨a, o, h1, hk a h2, h3⟩
  | lo d => obtain ⟨a, o, h1, h2, h3⟩ := h; exact ⟨a, o, h1, he a h2, h3⟩
theorem Flds.get {K : PySem.W.Frag} {mg : Str → Option Value} {M H : Hp} {f : Str} {fvs : List (Str × V)} {fs : List (Str × FT)} {k e : List Addr} (fl : Flds K mg M H fvs fs k e) {t : FT} (h : getFT fs f = some t) : ∃ v, fvs.lookup f = some v ∧ FRep K mg M H k e v t := by
  induction fl with
  | nil => cases h
  | @sh g v d fvs fs k e r _ ih =>
    unfold getFT at h
    rw [List.lookup_cons]
    cases hg : f == g with
    | true => rw [hg, if_pos rfl] at h; cases h; exact ⟨v, rfl, r⟩
    | false => rw [hg, if_neg (by simp)] at h; exact ih h
  | @ow g a o d fvs fs k e h1 c n _ ih =>
    unfold getFT at h
    rw [List.lookup_cons]
    cases hg : f == g with
    | true => rw [hg, if_pos rfl] at h; cases h; exact ⟨_, rfl, a, o, rfl, List.mem_cons_self .., h1, c⟩
    | false =>
      rw [hg, if_neg (by simp)] at h
      obtain ⟨v, q1, q2⟩ := ih h
      exact ⟨v, q1, q2.mono (fun a ha => List.mem_cons_of_mem _ ha) fun _ h => h⟩
  | @lo g a o d fvs fs k e h1 c _ ih =>
    unfold getFT at h
    rw [List.lookup_cons]
    cases hg : f == g with
    | true => rw [hg, if_pos rfl] at h; cases h; exact ⟨_, rfl, a, o, rfl, List.mem_cons_self .., h1, c⟩
    | false =>
      rw [hg, if_neg (by simp)] at h
      obtain ⟨v, q1, q2⟩ := ih h
      exact ⟨v, q1, q2.mono (fun _ h => h) fun a ha => List.mem_cons_of_mem _ ha⟩
def dFld (Cn f : Str) (mo : DE) : DE := bnd mo fun z => fun ρ => match (gt ρ z).bind (fldT Cn f) with
  | some t => .ok (.v t) ρ
  | none => .stk
/-- a part of a lent root is lent -/
theorem Post.lent {K : PySem.W.Frag} {mg : Str → Option Value} {E : XK} {M H : Hp} {G L : List Rt} {σ : L2.St} {ρ : Env} {Q : VK} {v : V} {t : T} {e : List Addr} (hp : Post K mg shE E M H G σ Q (.ok (.v t) ρ)) (s : S K mg M H L) (l : SL L σ ρ) (hG : ∀ r ∈ L, r ∈ G) (ok : Rok K mg M H ⟨some v, t, [], e⟩) (he : ∀ a ∈ e, Ys G a) (hx : ∀ a ∈ e, ¬ Xs L a) : Q v H := by
  refine hp M H [⟨some v, t, [], e⟩] L v ?_ (s.cons ok fun r hr => ⟨fun _ h => absurd h List.not_mem_nil, fun _ h => absurd h List.not_mem_nil, fun a ha hb => hx a hb ⟨r, hr, ha⟩⟩) l rfl trivial
  refine ⟨fun _ _ h => h, fun _ _ h _ => h, fun _ h => h, fun a h => .inl ?_, fun a h => ?_, fun _ _ h => .inl h⟩
  · rcases Xs.cons.mp h with z | ⟨r, hr, ha⟩
    · cases z
    · exact ⟨r, hG r hr, ha⟩
  · rcases Ys.cons.mp h with z | ⟨r, hr, ha⟩
    · exact he a z
    · exact ⟨r, hG r hr, ha⟩
theorem S.yx {K : PySem.W.Frag} {mg : Str → Option Value} {M H : Hp} {G : List Rt} (s : S K mg M H G) {r : Rt} (hr : r ∈ G) (hk : r.k = []) : ∀ a ∈ r.e, ¬ Xs G a := fun a ha ⟨q, hq, hb⟩ => by
  obtain ⟨i, hi⟩ := List.mem_iff_getElem?.mp hr
  obtain ⟨j, hj⟩ := List.mem_iff_getElem?.mp hq
  by_cases n : i = j
  · subst n
    rw [hi] at hj
    cases hj
    rw [hk] at hb
    cases hb
  · exact (s.ix n hi hj).ek a hb ha
theorem q_fld {Cn f : Str} (c : Fld X.K X.mg Cn f) (he : QE X Wx e ma) (hb : attributeBase e f X.env (eval e X.env) = eval e X.env := by rfl) : QE X Wx (.Attribute e f pos) (dFld Cn f ma) := pe_imp (pe_fld he hb) fun σ H Q h => by
  refine (run_bind (sa := shE) h).mono fun v H1 h1 => ?_
  obtain ⟨M, hs, L, ρ, z, s, l, q, al, hp⟩ := h1
  cases e1 : (gt ρ z).bind (fldT Cn f) with
  | none => simp only [e1] at hp; exact hp.elim
  | some t =>
    simp only [e1] at hp
    obtain ⟨u, e2, e3⟩ := Option.bind_eq_some_iff.mp e1
    obtain ⟨r, hr, hv, rfl⟩ := gt_ok s l (mem1 q) al e2
    have ok := s.ok r hr
    have hG : ∀ r ∈ L, r ∈ hs ++ L := fun r hr => List.mem_append_right _ hr
    cases ok with
    | no o => cases e3
    | ow => cases e3
    | lo => cases e3
    | @sh v d rr =>
      cases hv
      cases d with
      | obj C fs l' =>
        simp only [fldT] at e3
        split at e3
        · rename_i hC
          subst hC
          obtain ⟨d, e4, rfl⟩ := Option.map_eq_some_iff.mp e3
          cases rr with
          | @obj a c0 dx _ fvs _ _ h0 h q r =>
            subst q
            obtain ⟨u, h1, h2⟩ := getF_ok r e4
            obtain ⟨q1, q2⟩ := c.ok c0 h0
            exact ⟨a, c0, dx, fvs, u, rfl, s.le.ex h rfl, q1, q2, h1, (Post.res hp s.right l hG).here s.le h2⟩
        · cases e3
      | _ => cases e3
    | @ob a c0 dx C fvs fs k e h0 hH n fl nd ne =>
      cases hv
      simp only [fldT] at e3
      split at e3
      · rename_i hC
        subst hC
        obtain ⟨q1, q2⟩ := c.ok c0 h0
        cases eg : getFT fs f with
        | none => rw [eg] at e3; cases e3
        | some ft =>
          rw [eg] at e3
          obtain ⟨u, h1, h2⟩ := fl.get eg
          cases ft with
          | sh d => cases e3; exact ⟨a, c0, dx, fvs, u, rfl, hH, q1, q2, h1, (Post.res hp s.right l hG).here s.le h2⟩
          | ow d => cases e3
          | lo d =>
            cases e3
            obtain ⟨b, o, rfl, hb, hA, hc⟩ := h2
            refine ⟨a, c0, dx, fvs, _, rfl, hH, q1, q2, h1, Post.lent (e := [b]) hp s.right l hG (.lo hA hc) (fun x hx => by rw [List.mem_singleton.mp hx]; exact ⟨_, hr, hb⟩) fun x hx hX => ?_⟩
            rw [List.mem_singleton.mp hx] at hX
            obtain ⟨q, hq, hbq⟩ := hX
            obtain ⟨i, hi⟩ := List.mem_iff_getElem?.mp hr
            obtain ⟨j, hj⟩ := List.mem_iff_getElem?.mp (hG q hq)
            by_cases nn : i = j
            · subst nn
              rw [hi] at hj
              cases hj
              exact ne b hbq hb
            · exact (s.ix nn hi hj).ek b hbq hb
      · cases e3
    | @lb a c0 dx C fvs fs k e h0 hH fl =>
      cases hv
      simp only [fldT] at e3
      split at e3
      · rename_i hC
        subst hC
        obtain ⟨q1, q2⟩ := c.ok c0 h0
        have yx := s.yx hr rfl
        cases eg : getFT fs f with
        | none => rw [eg] at e3; cases e3
        | some ft =>
          rw [eg] at e3
          obtain ⟨u, h1, h2⟩ := fl.get eg
          cases ft with
          | sh d => cases e3; exact ⟨a, c0, dx, fvs, u, rfl, hH, q1, q2, h1, (Post.res hp s.right l hG).here s.le h2⟩
          | ow d =>
            cases e3
            obtain ⟨b, o, rfl, hb, hA, hc⟩ := h2
            have hbe : b ∈ a :: (k ++ e) := List.mem_cons_of_mem _ (List.mem_append_left _ hb)
            refine ⟨a, c0, dx, fvs, _, rfl, hH, q1, q2, h1, Post.lent (e := [b]) hp s.right l hG (.lo (.of hA) hc) (fun x hx => by rw [List.mem_singleton.mp hx]; exact ⟨_, hr, hbe⟩) fun x hx hX => ?_⟩
            rw [List.mem_singleton.mp hx] at hX
            exact yx b hbe (Xs.app.mpr (.inr hX))
          | lo d =>
            cases e3
            obtain ⟨b, o, rfl, hb, hA, hc⟩ := h2
            have hbe : b ∈ a :: (k ++ e) := List.mem_cons_of_mem _ (List.mem_append_right _ hb)
            refine ⟨a, c0, dx, fvs, _, rfl, hH, q1, q2, h1, Post.lent (e := [b]) hp s.right l hG (.lo hA hc) (fun x hx => by rw [List.mem_singleton.mp hx]; exact ⟨_, hr, hbe⟩) fun x hx hX => ?_⟩
            rw [List.mem_singleton.mp hx] at hX
            exact yx b hbe (Xs.app.mpr (.inr hX))
      · cases e3
end
end V

set_option Elab.async false
set_option linter.all false
set_option maxRecDepth 100000
/-! V8: statements, targets, stores, loops. -/
namespace V
open PySem PySem.Spec PyProof.Rows L2
def dSkip : DS := ret .nx
def dSeq (a b : DS) : DS := bnd a fun o => match o with
  | .nx => b
  | o => ret o
def dRet (m : DE) : DS := bnd m fun z => ret (.rt z)
def dRetN : DS := ret (.rt (.v (.sh .non)))
def dExpr (m : DE) : DS := bnd m fun _ => ret .nx
def dIf (c : P Bool) (a b : DS) : DS := bnd c fun k => if k = true then a else b
def dBrk : DS := ret .bk
abbrev DG := Z → P Unit
abbrev DGs := List D → P Unit
def dAsg (m : DE) (g : DG) : DS := bnd m fun z => bnd (g z) fun _ => ret .nx
/-- a name takes a value -/
def asg (i : Nat) : DG := fun z ρ => match z with
  | .v t => .ok () (ρ.set i t)
  | .al j => match ρ[j]? with
    | some (.sh d) => .ok () (ρ.set i (.sh d))
    | some (.lo d) => .ok () (ρ.set i (.lo d))
    | some (.lb C fs) => .ok () (ρ.set i (.lb C fs))
    | _ => .stk
def gsNil : DGs := fun ds => match ds with
  | [] => ret ()
  | _ => stk
def gsCons (g : DG) (gs : DGs) : DGs := fun ds => match ds with
  | d :: ds => bnd (g (.v (.sh d))) fun _ => gs ds
  | _ => stk
def gTp (n : Nat) (gs : DGs) : DG := fun z ρ => match gt ρ z with
  | some (.sh (.tup ds)) => if ds.length = n then gs ds ρ else .stk
  | _ => .stk
/-- a loop over what is visible -/
def loopD (g : DG) (body : DS) : List D → DS
  | [] => ret .nx
  | d :: ds => bnd (g (.v (.sh d))) fun _ => bnd body fun o => match o with
    | .nx => loopD g body ds
    | .ct => loopD g body ds
    | .bk => ret .nx
    | .rt z => ret (.rt z)
abbrev DI := P (List D)
def dFor (mi : DI) (g : DG) (body : DS) : DS := bnd mi fun ds => loopD g body ds
/-- a while of so many turns at most -/
def whileD (c : P Bool) (body : DS) : Nat → DS
  | 0 => stk
  | n + 1 => bnd c fun k => if k = true then (bnd body fun o => match o with
    | .nx => whileD c body n
    | .ct => whileD c body n
    | .bk => ret .nx
    | .rt z => ret (.rt z)) else ret .nx
/-- an own thing in a slot is given up (a step of the proof alone) -/
def dGive (i : Nat) : DS := fun ρ => match ρ[i]? with
  | some t => (match gv t with
    | some d => .ok .nx (ρ.set i (.sh d))
    | none => .stk)
  | none => .stk
/-- what a slot holds is forgotten -/
def dNo (i : Nat) : DS := fun ρ => .ok .nx (ρ.set i .no)
section
variable {K : PySem.W.Frag} {mg : Str → Option Value} {Wx : WX} {ms : List Bool} {M M' H H' : Hp} {G G' L L' : List Rt} {σ σ' : L2.St} {ρ : Env} {D : Ends}
theorem PostS.pull (u : Up M H G M' H' G') (k : Kept ms σ σ') : ∀ {r : PR O}, PostS K mg ms Wx M H G σ D r → PostS K mg ms Wx M' H' G' σ' D r
  | .stk, h => h
  | .ok .nx _, h => fun M2 H2 L2 σ2 u2 s l k2 => h M2 H2 L2 σ2 (u.trans u2) s l (k.trans k2)
  | .ok .bk _, h => fun M2 H2 L2 σ2 u2 s l k2 => h M2 H2 L2 σ2 (u.trans u2) s l (k.trans k2)
  | .ok .ct _, h => fun M2 H2 L2 σ2 u2 s l k2 => h M2 H2 L2 σ2 (u.trans u2) s l (k.trans k2)
  | .ok (.rt _) _, h => fun M2 H2 k e L2 σ2 v u2 s l k2 al => h M2 H2 k e L2 σ2 v (u.trans u2) s l (Kept.trans (by assumption) k2) al
  | .ex _ _, h => fun M2 H2 L2 σ2 c u2 s l k2 hc => h M2 H2 L2 σ2 c (u.trans u2) s l (k.trans k2) hc
theorem PostS.ne {r : PR O} (h : PostS K mg ms Wx M H G σ D r) : r ≠ .stk := by
  rintro rfl
  exact h
/-- a step, then statements -/
theorem lift_ok {α β : Type} {sh : Sh α β} {m : P α} {k : α → DS} {H : Hp} (h : TSd K mg ms Wx (bnd m k) D σ H) :
    Run K mg sh Wx m σ H fun b H1 => ∃ M hs L ρ a, S K mg M H1 (hs ++ L) ∧ SL L σ ρ ∧ hs.map vt = sh.hd b a ∧ sh.al M L b a ∧ PostS K mg ms Wx M H1 (hs ++ L) σ D (k a ρ) := by
  obtain ⟨M, L, ρ, s, l, hp⟩ := h
  refine ⟨M, L, ρ, s, l, ?_⟩
  have n := hp.ne
  generalize hr : bnd m k ρ = r at hp n
  rcases bnd_some hr n with ⟨a, ρ1, e1, e2⟩ | ⟨x, ρ1, e1, e2⟩
  · rw [e1]
    intro M' H' hs L' b u s' l' q al
    exact ⟨M', hs, L', ρ1, a, s', l', q, al, by rw [e2]; exact hp.pull u .refl⟩
  · rw [e1]
    subst e2
    intro M' H' L' c u s' l' hc
    exact hp M' H' L' σ c u s' l' .refl hc
/-- statements from the env's roots alone -/
theorem run_st {hs : List Rt} {m : DS} (s : S K mg M H (hs ++ L)) (l : SL L σ ρ) (hp : PostS K mg ms Wx M H (hs ++ L) σ D (m ρ)) : TSd K mg ms Wx m D σ H :=
  ⟨M, L, ρ, s.right, l, hp.pull (Up.refl.sub fun r hr => List.mem_append_right _ hr) .refl⟩
def PostG (K : PySem.W.Frag) (mg : Str → Option Value) (ms : List Bool) (Wx : WX) (M H : Hp) (G : List Rt) (σ : L2.St) (Q : L2.St → Hp → Prop) : PR Unit → Prop
  | .stk => False
  | .ok () ρ' => ∀ M' H' L' σ', Up M H G M' H' L' → S K mg M' H' L' → SL L' σ' ρ' → Kept ms σ σ' → Q σ' H'
  | .ex n ρ' => ∀ M' H' L' σ' c, Up M H G M' H' L' → S K mg M' H' L' → SL L' σ' ρ' → Kept ms σ σ' → cnOf mg n = some c → Wx (.ref c) none σ' H'
theorem PostG.pull {Q : L2.St → Hp → Prop} (u : Up M H G M' H' G') (k : Kept ms σ σ') : ∀ {r : PR Unit}, PostG K mg ms Wx M H G σ Q r → PostG K mg ms Wx M' H' G' σ' Q r
  | .stk, h => h
  | .ok _ _, h => fun M2 H2 L2 σ2 u2 s l k2 => h M2 H2 L2 σ2 (u.trans u2) s l (k.trans k2)
  | .ex _ _, h => fun M2 H2 L2 σ2 c u2 s l k2 hc => h M2 H2 L2 σ2 c (u.trans u2) s l (k.trans k2) hc
theorem PostG.ne {Q : L2.St → Hp → Prop} {r : PR Unit} (h : PostG K mg ms Wx M H G σ Q r) : r ≠ .stk := by
  rintro rfl
  exact h
def TGd (K : PySem.W.Frag) (mg : Str → Option Value) (ms : List Bool) (Wx : WX) (g : DG) : TG := fun v σ H Q => ∃ (M : Hp) (hs L : List Rt) (ρ : Env) (z : Z), S K mg M H (hs ++ L) ∧ SL L σ ρ ∧ hs.map vt = [(some v, zt z)] ∧ Al L v z ∧ PostG K mg ms Wx M H (hs ++ L) σ Q (g z ρ)
def TGsd (K : PySem.W.Frag) (mg : Str → Option Value) (ms : List Bool) (Wx : WX) (gs : DGs) : TGs := fun vs σ H Q => ∃ (M : Hp) (L : List Rt) (ρ : Env) (ds : List V.D), S K mg M H L ∧ SL L σ ρ ∧ Reps K mg M vs ds ∧ PostG K mg ms Wx M H L σ Q (gs ds ρ)
/-- what is walked: visible things, that lie still -/
def ItOk (K : PySem.W.Frag) (mg : Str → Option Value) (M : Hp) (J : It) (ds : List V.D) : Prop := ∀ (M1 H1 : Hp), (∀ a o, M a = some o → M1 a = some o) → Le M1 H1 →
  J.stop ds.length H1 ∧ ∀ (i : Nat) (d : V.D), ds[i]? = some d → J.go i H1 ∧ ∀ (x : V) (H2 : Hp), J.yld i H1 x H2 → ∃ M2, Grow M1 H1 M2 H2 ∧ Le M2 H2 ∧ Rep K mg M2 x d
def shI (K : PySem.W.Frag) (mg : Str → Option Value) : Sh (List V.D) It := ⟨fun _ _ => [], fun M _ J ds => ItOk K mg M J ds⟩
abbrev TId (K : PySem.W.Frag) (mg : Str → Option Value) (Wx : WX) (m : DI) : TI := Run K mg (shI K mg) Wx m
theorem stays_I : Stays (shI K mg) := fun _ _ _ _ _ _ hm _ h => fun M1 H1 hm1 hl => h M1 H1 (fun a o e => hm1 a o (hm a o e)) hl
end
section
variable {X : Cx} {Wx : WX} {ms : List Bool} {st : Stmt} {sts : List Stmt} {e : Expr} {es : List Expr} {me : DE} {m1 m2 : DS} {pos : Pos}
abbrev QG (X : Cx) (ms : List Bool) (Wx : WX) (t : Expr) (g : DG) : Prop := PG X t (TGd X.K X.mg ms Wx g)
abbrev QGs (X : Cx) (ms : List Bool) (Wx : WX) (ts : List Expr) (gs : DGs) : Prop := PGs X ts (TGsd X.K X.mg ms Wx gs)
abbrev QI (X : Cx) (Wx : WX) (tg it : Expr) (m : DI) : Prop := PI X tg it (TId X.K X.mg Wx m)
theorem pg_imp {t : Expr} {g g' : TG} (h : PG X t g) (i : ∀ v σ H Q, g' v σ H Q → g v σ H Q) : PG X t g' := ⟨fun pins s σ H v u Q I r q => h.run pins s σ H v u Q I r (i _ _ _ _ q)⟩
theorem pgs_imp {ts : List Expr} {g g' : TGs} (h : PGs X ts g) (i : ∀ v σ H Q, g' v σ H Q → g v σ H Q) : PGs X ts g' := ⟨fun pins s σ H v u Q I r q => h.run pins s σ H v u Q I r (i _ _ _ _ q)⟩
theorem pi_imp {tg it : Expr} {t t' : TI} (h : PI X tg it t) (i : ∀ σ H R, t' σ H R → t σ H R) : PI X tg it t' := ⟨fun pins s σ H R I q => h.run pins s σ H R I (i _ _ _ q)⟩
theorem qss_nil : QSs X ms Wx [] dSkip := pss_imp pss_nil fun D σ H ⟨M, L, ρ, s, l, hp⟩ => hp M H L σ .refl s l .refl
theorem seq_ok {D : Ends} {σ : L2.St} {H : Hp} (h : TSd X.K X.mg ms Wx (dSeq m1 m2) D σ H) : TSd X.K X.mg ms Wx m1 { D with nx := fun σ1 H1 => TSd X.K X.mg ms Wx m2 D σ1 H1 } σ H := by
  obtain ⟨M, L, ρ, s, l, hp⟩ := h
  refine ⟨M, L, ρ, s, l, ?_⟩
  have n := hp.ne
  unfold dSeq at hp n
  generalize hr : (bnd m1 fun o => match o with
    | .nx => m2
    | o => ret o) ρ = r at hp n
  rcases bnd_some hr n with ⟨o, ρ1, e1, e2⟩ | ⟨x, ρ1, e1, e2⟩
  · rw [e1]
    cases o with
    | nx => intro M' H' L' σ' u s' l' k; exact ⟨M', L', ρ1, s', l', by rw [show m2 ρ1 = r from e2]; exact hp.pull u k⟩
    | bk => subst e2; exact hp
    | ct => subst e2; exact hp
    | rt z => subst e2; exact hp
  · rw [e1]; subst e2; exact hp
theorem qss_cons (h1 : QS X ms Wx st m1) (h2 : QSs X ms Wx sts m2) : QSs X ms Wx (st :: sts) (dSeq m1 m2) := pss_imp (pss_cons h1 h2) fun D σ H h => seq_ok h
theorem qss_one (h1 : QS X ms Wx st m1) : QSs X ms Wx [st] m1 := pss_one h1
theorem S.set_no {K : PySem.W.Frag} {mg : Str → Option Value} {M H : Hp} {L : List Rt} (s : S K mg M H L) (i : Nat) (o : Option V) : S K mg M H (L.set i ⟨o, .no, [], []⟩) := s.set (.no _) fun j t _ _ => sep_sh t
theorem up_set_no {M H : Hp} {L : List Rt} {i : Nat} {o : Option V} : Up M H L M H (L.set i ⟨o, .no, [], []⟩) := Up.refl.drop (fun a ⟨r, hr, ha⟩ => by
    rcases List.mem_or_eq_of_mem_set hr with h | rfl
    · exact ⟨r, h, ha⟩
    · cases ha) fun a ⟨r, hr, ha⟩ => by
    rcases List.mem_or_eq_of_mem_set hr with h | rfl
    · exact ⟨r, h, ha⟩
    · cases ha
/-- steps of the proof alone, ahead of the rest -/
theorem qss_no (i : Nat) (h : QSs X ms Wx sts m1) : QSs X ms Wx sts (dSeq (dNo i) m1) := pss_imp h fun D σ H h => by
  obtain ⟨M, L, ρ, s, l, hp⟩ := h
  cases hi : L[i]? with
  | none =>
    refine ⟨M, L, ρ, s, l, ?_⟩
    have e : ρ.set i .no = ρ := List.set_eq_of_length_le (by rw [← l.t, List.length_map]; exact List.getElem?_eq_none_iff.mp hi)
    replace hp : PostS X.K X.mg ms Wx M H L σ D (m1 (ρ.set i .no)) := hp
    rw [e] at hp
    exact hp
  | some r => exact ⟨M, L.set i ⟨r.v, .no, [], []⟩, ρ.set i .no, s.set_no i _, l.set (r := ⟨r.v, .no, [], []⟩) fun q hq => by rw [hi] at hq; cases hq; rfl, PostS.pull up_set_no .refl hp⟩
theorem qss_give (i : Nat) (h : QSs X ms Wx sts m1) : QSs X ms Wx sts (dSeq (dGive i) m1) := pss_imp h fun D σ H h => by
  obtain ⟨M, L, ρ, s, l, hp⟩ := h
  cases hi : ρ[i]? with
  | none => simp only [dSeq, bnd, dGive, hi] at hp; exact hp.elim
  | some t =>
    cases hg : gv t with
    | none => simp only [dSeq, bnd, dGive, hi, hg] at hp; exact hp.elim
    | some d =>
      simp only [dSeq, bnd, dGive, hi, hg] at hp
      rw [← l.t, List.getElem?_map] at hi
      obtain ⟨r, hr, rfl⟩ := Option.map_eq_some_iff.mp hi
      obtain ⟨v', ev, rv, s2, u2⟩ := S.pub s hr hg
      exact ⟨_, _, _, s2, l.set (r := ⟨r.v, .sh d, [], []⟩) fun q hq => by rw [hr] at hq; cases hq; rfl, PostS.pull u2 .refl hp⟩
theorem qs_pass : QS X ms Wx (.Pass pos) dSkip := ps_imp ps_pass fun D σ H ⟨M, L, ρ, s, l, hp⟩ => hp M H L σ .refl s l .refl
theorem qs_break : QS X ms Wx (.Break pos) dBrk := ps_imp ps_break fun D σ H ⟨M, L, ρ, s, l, hp⟩ => hp M H L σ .refl s l .refl
theorem qs_expr (he : QE X Wx e me) (hs : swapsWith e none pos.line X.env = pure false := by rfl) : QS X ms Wx (.Expr e pos) (dExpr me) := ps_imp (ps_expr he hs) fun D σ H h => by
  refine (lift_ok (sh := shE) h).mono fun v H1 ⟨M, hs, L, ρ, z, s, l, q, al, hp⟩ => ?_
  exact hp M H1 L σ (Up.refl.sub fun r hr => List.mem_append_right _ hr) s.right l .refl
theorem qs_ret (he : QE X Wx e me) : QS X ms Wx (.Return (some e) pos) (dRet me) := ps_imp (ps_ret he) fun D σ H h => by
  refine (lift_ok (sh := shE) h).mono fun v H1 ⟨M, hs, L, ρ, z, s, l, q, al, hp⟩ => ?_
  obtain ⟨r, rfl, e1, e2⟩ := one_of q
  have er : r = ⟨some v, zt z, r.k, r.e⟩ := by rw [← e1, ← e2]
  rw [er] at s hp
  exact hp M H1 r.k r.e L σ v .refl s l .refl al
theorem qs_retN : QS X ms Wx (.Return none pos) dRetN := ps_imp ps_retN fun D σ H ⟨M, L, ρ, s, l, hp⟩ => by
  refine hp M H [] [] L σ .non ?_ (s.sh .non) l .refl trivial
  exact Up.refl.drop (fun a h => (Xs.cons.mp h).elim (fun z => absurd z List.not_mem_nil) id) fun a h => (Ys.cons.mp h).elim (fun z => absurd z List.not_mem_nil) id
theorem qs_if {c : Expr} {a b : List Stmt} {mc : P Bool} (hc : QT X Wx c mc) (ha : QSs X ms Wx a m1) (hb : QSs X ms Wx b m2) : QS X ms Wx (.If c a b pos) (dIf mc m1 m2) := ps_imp (ps_if hc ha hb) fun D σ H h => by
  refine (lift_ok (sh := shB) h).mono fun k H1 ⟨M, hs, L, ρ, z, s, l, q, al, hp⟩ => ?_
  cases al
  cases k with
  | true => exact run_st s l hp
  | false => exact run_st s l hp
/-! targets -/
theorem SL.len {L : List Rt} {σ : L2.St} {ρ : Env} (l : SL L σ ρ) : L.length = σ.length ∧ L.length = ρ.length := ⟨by rw [← l.v, List.length_map], by rw [← l.t, List.length_map]⟩
theorem asg_ok {K : PySem.W.Frag} {mg : Str → Option Value} {ms : List Bool} {Wx : WX} {M H : Hp} {hs L : List Rt} {σ : L2.St} {ρ : Env} {Q : L2.St → Hp → Prop} {i : Nat} {z : Z} {v : V} (hk : ms[i]? ≠ some true) (s : S K mg M H (hs ++ L)) (l : SL L σ ρ) (q : hs.map vt = [(some v, zt z)]) (al : Al L v z)
    (hp : PostG K mg ms Wx M H (hs ++ L) σ Q (asg i z ρ)) : Q (σ.set i (some v)) H := by
  have kept : Kept ms σ (σ.set i (some v)) := fun j hj => by
    rw [List.getElem?_set_ne (fun z => hk (by rw [z]; exact hj))]
  have go : ∀ (r : Rt), r.v = some v → (∀ j s', i ≠ j → L[j]? = some s' → Sep r s') → Rok K mg M H r → (∀ a ∈ r.k, Xs (hs ++ L) a) → (∀ a ∈ r.e, Ys (hs ++ L) a) → PostG K mg ms Wx M H (hs ++ L) σ Q (.ok () (ρ.set i r.t)) → Q (σ.set i (some v)) H := by
    intro r hv sp ok hx hy hp
    refine hp M H (L.set i r) _ (Up.refl.drop (fun a ⟨r', hr', ha⟩ => ?_) fun a ⟨r', hr', ha⟩ => ?_) (s.right.set ok sp) ⟨by rw [List.map_set, l.v, hv], by rw [List.map_set, l.t]⟩ kept
    · rcases List.mem_or_eq_of_mem_set hr' with h | rfl
      · exact ⟨r', List.mem_append_right _ h, ha⟩
      · exact hx a ha
    · rcases List.mem_or_eq_of_mem_set hr' with h | rfl
      · exact ⟨r', List.mem_append_right _ h, ha⟩
      · exact hy a ha
  cases z with
  | v t =>
    obtain ⟨r, rfl, e1, e2⟩ := one_of q
    replace e2 : r.t = t := e2
    refine go r e1 (fun j s' _ hj => s.sep s' (List.mem_of_getElem? hj)) s.head (fun a ha => ⟨r, List.mem_cons_self .., ha⟩) (fun a ha => ⟨r, List.mem_cons_self .., ha⟩) ?_
    rw [e2]
    exact hp
  | al j =>
    simp only [asg] at hp
    cases hj : ρ[j]? with
    | none => rw [hj] at hp; exact hp.elim
    | some t =>
      rw [hj] at hp
      rw [← l.t, List.getElem?_map] at hj
      obtain ⟨r, hr, rfl⟩ := Option.map_eq_some_iff.mp hj
      replace al : (L.map (·.v))[j]? = some (some v) := al
      rw [List.getElem?_map, hr, Option.map_some] at al
      have hm := List.mem_append_right hs (List.mem_of_getElem? hr)
      have key : r.k = [] → PostG K mg ms Wx M H (hs ++ L) σ Q (.ok () (ρ.set i r.t)) → Q (σ.set i (some v)) H := fun hk0 hp => by
        refine go r (Option.some.inj al) (fun j' s' n hj' => ?_) (s.ok r hm) (fun a ha => ⟨r, hm, ha⟩) (fun a ha => ⟨r, hm, ha⟩) hp
        by_cases e : j = j'
        · subst e
          rw [hr] at hj'
          cases hj'
          exact ⟨fun a ha => by rw [hk0] at ha; (cases ha), fun a ha => by rw [hk0] at ha; (cases ha), fun a ha => by rw [hk0] at ha; (cases ha)⟩
        · exact s.right.ix e hr hj'
      have ok := s.ok r hm
      cases ok with
      | no o => exact hp.elim
      | sh r => exact key rfl hp
      | ow => exact hp.elim
      | lo => exact key rfl hp
      | ob => exact hp.elim
      | lb => exact key rfl hp
theorem qg_name {i : Nat} {x : Str} (hN : X.N.Nodup) (hi : X.N[i]? = some x) (hk : (ms[i]? == some true) = false) (hx : Loc X.env.scope x) (hf : X.fn x = true ∨ X.env.scope.names.lookup x = some .local := by first | exact .inl rfl | exact .inr rfl | assumption) : QG X ms Wx (.Name x pos) (asg i) :=
  pg_imp (pg_name hN hi hx hf) fun v σ H Q ⟨M, hs, L, ρ, z, s, l, q, al, hp⟩ => asg_ok (by simpa using hk) s l q al hp
theorem qgs_nil : QGs X ms Wx [] gsNil := pgs_imp pgs_nil fun v σ H Q ⟨M, L, ρ, ds, s, l, rw, hp⟩ => by
  cases rw with
  | nil => exact ⟨rfl, hp M H L σ .refl s l .refl⟩
  | cons _ _ => exact hp.elim
theorem qgs_cons {t : Expr} {ts : List Expr} {g : DG} {gs : DGs} (h1 : QG X ms Wx t g) (h2 : QGs X ms Wx ts gs) (hsa : (assignEach (t :: ts) X.env).map (·.2) = assign t X.env :: (assignEach ts X.env).map (·.2) := by rfl) : QGs X ms Wx (t :: ts) (gsCons g gs) := pgs_imp (pgs_cons h1 h2 hsa) fun v σ H Q ⟨M, L, ρ, ds, s, l, rw, hp⟩ => by
  cases rw with
  | nil => exact hp.elim
  | @cons v vs d ds r1 r2 =>
    refine ⟨v, vs, rfl, ?_⟩
    replace hp : PostG X.K X.mg ms Wx M H L σ Q (bnd (g (.v (.sh d))) (fun _ => gs ds) ρ) := hp
    have n := hp.ne
    generalize hr : bnd (g (.v (.sh d))) (fun _ => gs ds) ρ = r at hp n
    refine ⟨M, [⟨some v, .sh d, [], []⟩], L, ρ, .v (.sh d), s.sh r1, l, rfl, trivial, ?_⟩
    have u0 : Up M H L M H ([⟨some v, .sh d, [], []⟩] ++ L) := Up.refl.drop (fun a h => (Xs.cons.mp h).elim (fun z => absurd z List.not_mem_nil) id) fun a h => (Ys.cons.mp h).elim (fun z => absurd z List.not_mem_nil) id
    rcases bnd_some hr n with ⟨a, ρ1, e1, e2⟩ | ⟨x, ρ1, e1, e2⟩
    · rw [e1]
      intro M' H' L' σ' u s' l' k
      exact ⟨M', L', ρ1, ds, s', l', r2.up u, by rw [e2]; exact (hp.pull u0 .refl).pull u k⟩
    · rw [e1]
      subst e2
      exact hp.pull u0 .refl
theorem qg_tup {ts : List Expr} {k n : Nat} {gs : DGs} (hc : X.calm = true) (h : QGs X ms Wx ts gs) (hn : ts.length = n := by rfl) (h1 : (assignEach ts X.env).length = n := by rfl) (h2 : (assignEach ts X.env).findIdx? (·.1) = none := by rfl) : QG X ms Wx (.Tuple ts k pos) (gTp n gs) := pg_imp (pg_tup hc h h1 h2) fun v σ H Q ⟨M, hs, L, ρ, z, s, l, q, al, hp⟩ => by
  unfold gTp at hp
  cases e1 : gt ρ z with
  | none => rw [e1] at hp; exact hp.elim
  | some t =>
    rw [e1] at hp
    obtain ⟨r, hr, hv, rfl⟩ := gt_ok s l (by rw [q]; exact List.mem_singleton.mpr rfl) al e1
    have ok := s.ok r hr
    cases ok with
    | @sh v' d rr =>
      cases hv
      cases d with
      | tup ds =>
        dsimp only at hp
        split at hp
        · rename_i hl
          obtain ⟨a, vs, rfl, m1, h1, r1⟩ := rep1_tup s.le (.inl rr)
          exact ⟨a, vs, rfl, .of h1, by rw [r1.length]; exact hl, M, L, ρ, ds, s.right, l, r1, hp.pull (Up.refl.sub fun r hr => List.mem_append_right _ hr) .refl⟩
        · exact hp.elim
      | _ => exact hp.elim
    | _ => exact hp.elim
theorem tasg_ok {g : DG} {D : Ends} {σ : L2.St} {H : Hp} (h : TSd X.K X.mg ms Wx (dAsg me g) D σ H) : TEd X.K X.mg Wx me σ H fun v H1 => TGd X.K X.mg ms Wx g v σ H1 D.nx := by
  refine (lift_ok (sh := shE) h).mono fun v H1 ⟨M, hs, L, ρ, z, s, l, q, al, hp⟩ => ?_
  refine ⟨M, hs, L, ρ, z, s, l, q, al, ?_⟩
  have n := hp.ne
  generalize hr : bnd (g z) (fun _ => ret O.nx) ρ = r at hp n
  rcases bnd_some hr n with ⟨a, ρ1, e1, e2⟩ | ⟨x, ρ1, e1, e2⟩
  · rw [e1]; subst e2; exact hp
  · rw [e1]; subst e2; exact hp
theorem qs_asg {tg : Expr} {g : DG} (he : QE X Wx e me) (hg : QG X ms Wx tg g) (hs : swapsWithSole [tg] e pos.line X.env = pure false := by rfl) (hw : swappedStores [tg] e X.env = pure none := by rfl) (h1 : (assignEach [tg] X.env).map (·.2) = [assign tg X.env] := by rfl) : QS X ms Wx (.Assign [tg] e pos) (dAsg me g) :=
  ps_imp (ps_asg he hg hs hw h1) fun D σ H h => tasg_ok h
def dSet (i : Nat) (m : DE) : DS := dAsg m (asg i)
theorem qs_set {i : Nat} {x : Str} {pos' : Pos} (hN : X.N.Nodup) (hi : X.N[i]? = some x) (hk : (ms[i]? == some true) = false) (hx : Loc X.env.scope x) (he : QE X Wx e me) (hs : swapsWith e (some (.Name x pos')) pos.line X.env = pure false := by rfl) (hf : X.fn x = true ∨ X.env.scope.names.lookup x = some .local := by first | exact .inl rfl | exact .inr rfl | assumption) :
    QS X ms Wx (.Assign [.Name x pos'] e pos) (dSet i me) := ps_imp (ps_set hN hi hx he hs hf) fun D σ H h => by
  refine (tasg_ok h).mono fun v H1 ⟨M, hs, L, ρ, z, s, l, q, al, hp⟩ => asg_ok (by simpa using hk) s l q al hp
/-! for -/
theorem for_ok {mi : DI} {g : DG} {tb : DS} {D : Ends} {σ : L2.St} {H : Hp} (h : TSd X.K X.mg ms Wx (dFor mi g tb) D σ H) : tFor (TId X.K X.mg Wx mi) (TGd X.K X.mg ms Wx g) (TSd X.K X.mg ms Wx tb) D σ H := by
  refine (lift_ok (sh := shI X.K X.mg) h).mono fun J H1 ⟨M1, hs1, L1, ρ1, ds, s1, l1, q1, it, hp1⟩ => ?_
  cases hs1 with
  | cons _ _ => cases q1
  | nil =>
  refine ⟨fun i m σ' H' => i ≤ ds.length ∧ m = ds.length - i ∧ ∃ M L ρ, Up M1 H1 L1 M H' L ∧ S X.K X.mg M H' L ∧ SL L σ' ρ ∧ Kept ms σ σ' ∧ PostS X.K X.mg ms Wx M H' L σ' D (loopD g tb (ds.drop i) ρ), ⟨ds.length, Nat.zero_le _, rfl, M1, L1, ρ1, .refl, s1, l1, .refl, by rw [List.drop_zero]; exact hp1⟩, ?_⟩
  rintro i m σ' H' ⟨hi, rfl, M, L, ρ, u, s, l, k, hp⟩
  obtain ⟨st, go⟩ := it M H' u.mm s.le
  by_cases hd : i < ds.length
  · have hdr : ds.drop i = ds[i] :: ds.drop (i + 1) := List.drop_eq_getElem_cons hd
    rw [hdr] at hp
    obtain ⟨g1, y1⟩ := go i ds[i] (List.getElem?_eq_getElem hd)
    refine .inr ⟨g1, fun σ2 H2 => ∃ M2 L2 ρ2, Up M H' L M2 H2 L2 ∧ S X.K X.mg M2 H2 L2 ∧ SL L2 σ2 ρ2 ∧ Kept ms σ' σ2 ∧ PostS X.K X.mg ms Wx M2 H2 L2 σ2 D (loopD g tb (ds.drop (i + 1)) ρ2), fun σ2 H2 ⟨M2, L2, ρ2, u2, s2, l2, k2, hp2⟩ => ?_, fun x H2 hy => ?_⟩
    · exact ⟨ds.length - (i + 1), by omega, by omega, rfl, M2, L2, ρ2, u.trans u2, s2, l2, k.trans k2, hp2⟩
    · obtain ⟨M2, gr, le2, rx⟩ := y1 x H2 hy
      have s2 := s.grow gr le2
      have u2 : Up M H' L M2 H2 L := gr.up
      have n := hp.ne
      unfold loopD at hp n
      generalize hr : (bnd (g (.v (.sh ds[i]))) fun _ => bnd tb fun o => match o with
        | .nx => loopD g tb (ds.drop (i + 1))
        | .ct => loopD g tb (ds.drop (i + 1))
        | .bk => ret .nx
        | .rt z => ret (.rt z)) ρ = r at hp n
      have u0 : Up M2 H2 L M2 H2 ([⟨some x, .sh ds[i], [], []⟩] ++ L) := Up.refl.drop (fun a h => (Xs.cons.mp h).elim (fun z => absurd z List.not_mem_nil) id) fun a h => (Ys.cons.mp h).elim (fun z => absurd z List.not_mem_nil) id
      refine ⟨M2, [⟨some x, .sh ds[i], [], []⟩], L, ρ, .v (.sh ds[i]), s2.sh rx, l, rfl, trivial, ?_⟩
      rcases bnd_some hr n with ⟨a, ρ3, e1, e2⟩ | ⟨xx, ρ3, e1, e2⟩
      · rw [e1]
        intro M3 H3 L3 σ3 u3 s3 l3 k3
        refine ⟨M3, L3, ρ3, s3, l3, ?_⟩
        have uu := (u2.trans u0).trans u3
        rcases bnd_some e2 n with ⟨o, ρ4, e4, e5⟩ | ⟨xx, ρ4, e4, e5⟩
        · rw [e4]
          cases o with
          | nx => intro M4 H4 L4 σ4 u4 s4 l4 k4; exact ⟨M4, L4, ρ4, uu.trans u4, s4, l4, k3.trans k4, by rw [show loopD g tb (ds.drop (i + 1)) ρ4 = r from e5]; exact hp.pull (uu.trans u4) (k3.trans k4)⟩
          | ct => intro M4 H4 L4 σ4 u4 s4 l4 k4; exact ⟨M4, L4, ρ4, uu.trans u4, s4, l4, k3.trans k4, by rw [show loopD g tb (ds.drop (i + 1)) ρ4 = r from e5]; exact hp.pull (uu.trans u4) (k3.trans k4)⟩
          | bk => subst e5; intro M4 H4 L4 σ4 u4 s4 l4 k4; exact hp M4 H4 L4 σ4 (uu.trans u4) s4 l4 (k3.trans k4)
          | rt z => subst e5; intro M4 H4 kk ee L4 σ4 v4 u4 s4 l4 k4 al4; exact hp M4 H4 kk ee L4 σ4 v4 (uu.trans u4) s4 l4 (k3.trans k4) al4
        · rw [e4]; subst e5; intro M4 H4 L4 σ4 c u4 s4 l4 k4 hc; exact hp M4 H4 L4 σ4 c (uu.trans u4) s4 l4 (k3.trans k4) hc
      · rw [e1]
        subst e2
        intro M3 H3 L3 σ3 c u3 s3 l3 k3 hc
        exact hp M3 H3 L3 σ3 c ((u2.trans u0).trans u3) s3 l3 k3 hc
  · have hd0 : i = ds.length := by omega
    subst hd0
    rw [List.drop_length] at hp
    exact .inl ⟨st, hp M H' L σ' .refl s l .refl⟩
theorem qs_for {tg iter : Expr} {body : List Stmt} {mi : DI} {g : DG} {mb : DS} (hp : PassesOwn (model X.prog X.w) X.A X.env X.xe) (hc : X.calm = true) (hi : QI X Wx tg iter mi) (hg : QG X ms Wx tg g) (hb : QSs X ms Wx body mb)
    (hs : ∀ x, foldedSetIterable iter X.env x = pure x := by intro _; rfl) : QS X ms Wx (.For tg iter body [] pos) (dFor mi g mb) := ps_imp (ps_for hp hc hi hg hb hs) fun D σ H h => for_ok h
/-! while -/
theorem while_ok {c : P Bool} {tb : DS} {N : Nat} {D : Ends} {σ : L2.St} {H : Hp} (h : TSd X.K X.mg ms Wx (whileD c tb N) D σ H) : tWhile (TTd X.K X.mg Wx c) (TSd X.K X.mg ms Wx tb) D σ H := by
  refine ⟨fun m σ H => TSd X.K X.mg ms Wx (whileD c tb m) D σ H, ⟨N, h⟩, ?_⟩
  intro m σ H h
  cases m with
  | zero =>
    obtain ⟨M, L, ρ, s, l, hp⟩ := h
    exact hp.elim
  | succ m =>
    refine (lift_ok (sh := shB) h).mono fun k H1 ⟨M, hs, L, ρ, z, s, l, q, al, hp⟩ => ?_
    cases al
    cases hs with
    | cons _ _ => cases q
    | nil =>
    cases k with
    | false =>
      rw [if_neg (by simp)]
      exact hp M H1 L σ .refl s l .refl
    | true =>
      rw [if_pos rfl]
      refine ⟨fun σ' H' => TSd X.K X.mg ms Wx (whileD c tb m) D σ' H', fun σ' H' h => ⟨m, Nat.lt_succ_self m, h⟩, ?_⟩
      rw [if_pos rfl] at hp
      refine ⟨M, L, ρ, s, l, ?_⟩
      have n := hp.ne
      generalize hr : (bnd tb fun o => match o with
        | .nx => whileD c tb m
        | .ct => whileD c tb m
        | .bk => ret .nx
        | .rt z => ret (.rt z)) ρ = r at hp n
      rcases bnd_some hr n with ⟨o, ρ4, e4, e5⟩ | ⟨xx, ρ4, e4, e5⟩
      · rw [e4]
        cases o with
        | nx => intro M4 H4 L4 σ4 u4 s4 l4 k4; exact ⟨M4, L4, ρ4, s4, l4, by rw [show whileD c tb m ρ4 = r from e5]; exact hp.pull u4 k4⟩
        | ct => intro M4 H4 L4 σ4 u4 s4 l4 k4; exact ⟨M4, L4, ρ4, s4, l4, by rw [show whileD c tb m ρ4 = r from e5]; exact hp.pull u4 k4⟩
        | bk => subst e5; exact hp
        | rt z => subst e5; exact hp
      · rw [e4]; subst e5; exact hp
theorem qs_while {c : Expr} {body : List Stmt} {mc : P Bool} {mb : DS} (N : Nat) (hp : PassesOwn (model X.prog X.w) X.A X.env X.xe) (hc : QT X Wx c mc) (hb : QSs X ms Wx body mb) : QS X ms Wx (.While c body [] pos) (whileD mc mb N) := ps_imp (ps_while hp hc hb) fun D σ H h => while_ok h
end
end V

set_option Elab.async false
set_option linter.all false
set_option maxRecDepth 100000
/-! V9: own things are written: methods, items, fields; op=. -/
namespace V
open PySem PySem.Spec PyProof.Rows L2
section
variable {K : PySem.W.Frag} {mg : Str → Option Value} {M H : Hp} {hs L : List Rt} {σ : L2.St} {ρ : Env}
/-- an own object is written -/
theorem S.write {i : Nat} {r r' : Rt} {a : Addr} {o : HO} (s : S K mg M H (hs ++ L)) (hi : L[i]? = some r) (ha : a ∈ r.k) (ok : Rok K mg M (upd H a o) r') (hk : ∀ x ∈ r'.k, x ∈ r.k ∨ Xs hs x) (he : ∀ x ∈ r'.e, Ys (hs ++ L) x) :
    S K mg M (upd H a o) (L.set i r') ∧ Up M H (hs ++ L) M (upd H a o) (L.set i r') := by
  have hm : r ∈ L := List.mem_of_getElem? hi
  have ha0 := (s.ok r (List.mem_append_right _ hm)).has.1 a ha
  have hle : Le M (upd H a o) := fun x u h => by
    have : x ≠ a := fun z => by rw [z, ha0.2] at h; cases h
    exact (s.le x u h).stay fun w hw => by rw [upd_ne this]; exact hw
  have hx : i < L.length := (List.getElem?_eq_some_iff.mp hi).1
  refine ⟨.of hle (fun j t e => ?_) fun j k t u l e1 e2 => ?_, ?_⟩
  · rcases set_at e with ⟨_, rfl, _⟩ | ⟨n, e⟩
    · exact ok
    · have sp := s.right.ix n hi e
      have stay : ∀ x, x ≠ a → (∀ w, H x = some w → upd H a o x = some w) ∧ (H x ≠ none → M x = none → M x = none) := fun x nx => ⟨fun w hw => by rw [upd_ne nx]; exact hw, fun _ h => h⟩
      exact (s.ok t (List.mem_append_right _ (List.mem_of_getElem? e))).stay .refl (fun x hx => stay x fun z => sp.kk a ha (by rw [← z]; exact hx)) fun x hx => stay x fun z => sp.ke a ha (by rw [← z]; exact hx)
  · have key : ∀ (j : Nat) (t : Rt), i ≠ j → L[j]? = some t → Sep r' t := fun j t n e => by
      have sp := s.right.ix n hi e
      have sh : ∀ q ∈ hs, Sep q t := fun q hq => s.app_sep q hq t (List.mem_of_getElem? e)
      refine ⟨fun x hx => ?_, fun x hx => ?_, fun x hx hb => ?_⟩
      · rcases hk x hx with z | ⟨q, hq, z⟩
        · exact sp.kk x z
        · exact (sh q hq).kk x z
      · rcases hk x hx with z | ⟨q, hq, z⟩
        · exact sp.ke x z
        · exact (sh q hq).ke x z
      · obtain ⟨q, hq, z⟩ := he x hb
        rcases List.mem_append.mp hq with hq | hq
        · exact (sh q hq).ek x hx z
        · obtain ⟨j', hj'⟩ := List.mem_iff_getElem?.mp hq
          by_cases ne : j = j'
          · subst ne
            rw [e] at hj'
            cases hj'
            have ok := s.ok _ (List.mem_append_right _ (List.mem_of_getElem? e))
            cases ok with
            | no o => cases hx
            | sh r => cases hx
            | ow h c m => cases z
            | lo h c => cases hx
            | ob h0 h m fl nd ne => exact ne x hx z
            | lb h0 h fl => cases hx
          · exact (s.right.ix ne e hj').ke x hx z
    rcases set_at e1 with ⟨rfl, rfl, _⟩ | ⟨n1, f1⟩ <;> rcases set_at e2 with ⟨rfl, rfl, _⟩ | ⟨n2, f2⟩
    · omega
    · exact key k u n2 f2
    · exact (key j t n1 f1).symm
    · exact s.right.ix (Nat.ne_of_lt l) f1 f2
  · have mem : ∀ {q : Rt}, q ∈ L.set i r' → q ∈ L ∨ q = r' := fun h => List.mem_or_eq_of_mem_set h
    refine ⟨fun _ _ h => h, fun x w hw n => ?_, fun x h => ?_, ?_, ?_, fun _ _ h => .inl h⟩
    · have : x ≠ a := fun z => n ⟨r, List.mem_append_right _ hm, by rw [z]; exact ha⟩
      rw [upd_ne this]; exact hw
    · by_cases z : x = a
      · subst z; rw [upd_same] at h; cases h
      · rw [upd_ne z] at h; exact h
    · rintro x ⟨q, hq, hx⟩
      rcases mem hq with h | rfl
      · exact .inl ⟨q, List.mem_append_right _ h, hx⟩
      · rcases hk x hx with z | ⟨q', hq', z⟩
        · exact .inl ⟨r, List.mem_append_right _ hm, z⟩
        · exact .inl ⟨q', List.mem_append_left _ hq', z⟩
    · rintro x ⟨q, hq, hx⟩
      rcases mem hq with h | rfl
      · exact ⟨q, List.mem_append_right _ h, hx⟩
      · exact he x hx
theorem S.writeCel {i : Nat} {l l' : V.D} {v : V} {o' : HO} (s : S K mg M H (hs ++ L)) (l0 : SL L σ ρ) (hi : ρ[i]? = some (.ow l)) (al : Al L v (.al i)) (c : Cel K mg M o' l') : ∃ a, v = .ref a ∧ S K mg M (upd H a o') (L.set i ⟨some (.ref a), .ow l', [a], []⟩) ∧ Up M H (hs ++ L) M (upd H a o') (L.set i ⟨some (.ref a), .ow l', [a], []⟩) ∧ SL (L.set i ⟨some (.ref a), .ow l', [a], []⟩) σ (ρ.set i (.ow l')) := by
  rw [← l0.t, List.getElem?_map] at hi
  obtain ⟨r, hr, et⟩ := Option.map_eq_some_iff.mp hi
  replace al : (L.map (·.v))[i]? = some (some v) := al
  rw [List.getElem?_map, hr, Option.map_some] at al
  have ok := s.ok r (List.mem_append_right _ (List.mem_of_getElem? hr))
  cases ok with
  | @ow a o d h c0 n =>
    cases al
    obtain ⟨s2, u2⟩ := s.write (r' := ⟨some (.ref a), .ow l', [a], []⟩) (o := o') hr (List.mem_cons_self ..) (.ow upd_same c n) (fun x hx => .inl hx) (fun x hx => absurd hx List.not_mem_nil)
    exact ⟨a, rfl, s2, u2, l0.set (r := ⟨some (.ref a), .ow l', [a], []⟩) fun q hq => by rw [hr] at hq; cases hq; rfl⟩
  | _ => cases et
theorem own_at {i : Nat} {l : V.D} {v : V} (s : S K mg M H (hs ++ L)) (l0 : SL L σ ρ) (hi : ρ[i]? = some (.ow l)) (al : Al L v (.al i)) : ∃ a o, v = .ref a ∧ H a = some o ∧ Cel K mg M o l ∧ M a = none := by
  rw [← l0.t, List.getElem?_map] at hi
  obtain ⟨r, hr, et⟩ := Option.map_eq_some_iff.mp hi
  replace al : (L.map (·.v))[i]? = some (some v) := al
  rw [List.getElem?_map, hr, Option.map_some] at al
  have ok := s.ok r (List.mem_append_right _ (List.mem_of_getElem? hr))
  cases ok with
  | @ow a o d h c0 n => cases al; cases et; exact ⟨a, o, rfl, h, c0, n⟩
  | _ => cases et
end
/-- a method that changes its own receiver: what it answers, what stands there behind -/
def MutS (K : PySem.W.Frag) (mg : Str → Option Value) (r : V → List V → Hp → VK → Prop) (f : V.D → List V.D → Option (V.D × V.D)) : Prop := ∀ {M H : Hp} {Q : VK} {a : Addr} {o : HO} {l t l' : V.D} {xs : List V} {ds : List V.D},
  Le M H → H a = some o → Cel K mg M o l → Reps K mg M xs ds → f l ds = some (t, l') → (∀ o' v, Cel K mg M o' l' → Rep K mg M v t → Q v (upd H a o')) → r (.ref a) xs H Q
def MutR (K : PySem.W.Frag) (mg : Str → Option Value) (r : V → List V → Hp → VK → Prop) (f : V.D → List V.D → Option (V.D × V.D)) : Prop := ∀ {M H : Hp} {Q : VK} {a : Addr} {o : HO} {l t l' : V.D} {xs : List V} {ds : List V.D},
  Le M H → H a = some o → Cel K mg M o l → Rep1s K mg M H xs ds → f l ds = some (t, l') → (∀ o' v, Cel K mg M o' l' → Rep K mg M v t → Q v (upd H a o')) → r (.ref a) xs H Q
def mutz (ar : Env → List Z → Option (List V.D)) (f : V.D → List V.D → Option (V.D × V.D)) (z : Z) (zs : List Z) : DE := fun ρ => match z with
  | .al i => match ρ[i]? with
    | some (.ow l) => (match ar ρ zs with
      | some ds => (match f l ds with
        | some (t, l') => .ok (.v (.sh t)) (ρ.set i (.ow l'))
        | none => .stk)
      | none => .stk)
    | _ => .stk
  | .v _ => .stk
section
variable {X : Cx} {Wx : WX} {x : Str} {p pos apos : Pos} {e o a : Expr} {es : List Expr} {mas : P (List Z)} {ma mo : DE} {id Ty : String}
theorem mut_fin {M H : Hp} {hs L : List Rt} {σ : L2.St} {ρ : Env} {Q : VK} {i : Nat} {l l' t : V.D} {v u : V} {E : XK} {o' : HO} (s : S X.K X.mg M H (hs ++ L)) (l0 : SL L σ ρ) (hi : ρ[i]? = some (.ow l)) (al : Al L v (.al i)) {a : Addr} (ev : v = .ref a) (c : Cel X.K X.mg M o' l') (ru : Rep X.K X.mg M u t)
    (hp : Post X.K X.mg shE E M H (hs ++ L) σ Q (.ok (.v (.sh t)) (ρ.set i (.ow l')))) : Q u (upd H a o') := by
  obtain ⟨a', e', s2, u2, l2⟩ := s.writeCel l0 hi al c
  rw [ev] at e'
  cases e'
  refine hp M _ [⟨some u, .sh t, [], []⟩] _ u ?_ (s2.sh ru) l2 rfl trivial
  exact u2.drop (L' := ⟨some u, .sh t, [], []⟩ :: L.set i ⟨some (.ref a), .ow l', [a], []⟩) (fun x h => (Xs.cons.mp h).elim (fun z => absurd z List.not_mem_nil) id) fun x h => (Ys.cons.mp h).elim (fun z => absurd z List.not_mem_nil) id
theorem mutS_ok {r : V → List V → Hp → VK → Prop} {f : V.D → List V.D → Option (V.D × V.D)} (hf : MutS X.K X.mg r f) {M H : Hp} {hs L : List Rt} {σ : L2.St} {ρ : Env} {Q : VK} {E : XK} {z : Z} {zs : List Z} {v : V} {vs : List V} (s : S X.K X.mg M H (hs ++ L)) (l : SL L σ ρ) (hh : ∀ p ∈ (vs.map some).zip (zs.map zt), p ∈ hs.map vt) (al : Al L v z) (als : Als L vs zs)
    (hp : Post X.K X.mg shE E M H (hs ++ L) σ Q (mutz shs f z zs ρ)) : r v vs H Q := by
  cases z with
  | v t => exact hp.elim
  | al i =>
    simp only [mutz] at hp
    cases hi : ρ[i]? with
    | none => rw [hi] at hp; exact hp.elim
    | some t =>
      cases t with
      | ow lc =>
        simp only [hi] at hp
        cases ha : shs ρ zs with
        | none => simp only [ha] at hp; exact hp.elim
        | some ds =>
          simp only [ha] at hp
          cases hfe : f lc ds with
          | none => simp only [hfe] at hp; exact hp.elim
          | some q =>
            obtain ⟨t, l'⟩ := q
            simp only [hfe] at hp
            obtain ⟨a, o, rfl, hH, c, n⟩ := own_at s l hi al
            exact hf s.le hH c (shs_ok s l hh als ha) hfe fun o' u c' ru => mut_fin s l hi al rfl c' ru hp
      | _ => simp only [hi] at hp; exact hp.elim
theorem mutR_ok {r : V → List V → Hp → VK → Prop} {f : V.D → List V.D → Option (V.D × V.D)} (hf : MutR X.K X.mg r f) {M H : Hp} {hs L : List Rt} {σ : L2.St} {ρ : Env} {Q : VK} {E : XK} {z : Z} {zs : List Z} {v : V} {vs : List V} (s : S X.K X.mg M H (hs ++ L)) (l : SL L σ ρ) (hh : ∀ p ∈ (vs.map some).zip (zs.map zt), p ∈ hs.map vt) (al : Al L v z) (als : Als L vs zs)
    (hp : Post X.K X.mg shE E M H (hs ++ L) σ Q (mutz zds f z zs ρ)) : r v vs H Q := by
  cases z with
  | v t => exact hp.elim
  | al i =>
    simp only [mutz] at hp
    cases hi : ρ[i]? with
    | none => rw [hi] at hp; exact hp.elim
    | some t =>
      cases t with
      | ow lc =>
        simp only [hi] at hp
        cases ha : zds ρ zs with
        | none => simp only [ha] at hp; exact hp.elim
        | some ds =>
          simp only [ha] at hp
          cases hfe : f lc ds with
          | none => simp only [hfe] at hp; exact hp.elim
          | some q =>
            obtain ⟨t, l'⟩ := q
            simp only [hfe] at hp
            obtain ⟨a, o, rfl, hH, c, n⟩ := own_at s l hi al
            exact hf s.le hH c (zds_ok s l hh als ha) hfe fun o' u c' ru => mut_fin s l hi al rfl c' ru hp
      | _ => simp only [hi] at hp; exact hp.elim
/-- a method of a built-in class: its receiver looked at ahead -/
def isL : Option T → Bool
  | some t => (match td t with
    | some (.lst _) => true
    | some (.scr _) => true
    | _ => false)
  | none => false
def isK : Option T → Bool
  | some t => (match td t with
    | some (.dk _ _) => true
    | some (.dt _ _) => true
    | _ => false)
  | none => false
def chk (ok : Option T → Bool) (z : Z) (k : DE) : DE := fun ρ => if ok (gt ρ z) = true then k ρ else .stk
def dBM (ok : Option T → Bool) (g : Z → List Z → DE) (mo : DE) (mas : P (List Z)) : DE := bnd mo fun z => chk ok z (bnd mas fun zs => g z zs)
def dBM0 (ok : Option T → Bool) (g : Z → List Z → DE) (mo : DE) : DE := bnd mo fun z => chk ok z (g z [])
theorem tyV_lst {K : PySem.W.Frag} {a : Addr} {vs : List V} {H : Hp} (h : SqL K H a vs) : tyV K "list" (.ref a) H := Or.inl ⟨rfl, vs, h⟩
theorem isL_ty {K : PySem.W.Frag} {mg : Str → Option Value} {M H : Hp} {hs L : List Rt} {σ : L2.St} {ρ : Env} {z : Z} {v : V} (s : S K mg M H (hs ++ L)) (l : SL L σ ρ) (hh : (some v, zt z) ∈ hs.map vt) (al : Al L v z) (e : isL (gt ρ z) = true) : tyV K "list" v H := by
  unfold isL at e
  cases hg : gt ρ z with
  | none => rw [hg] at e; cases e
  | some t =>
    rw [hg] at e
    dsimp only at e
    obtain ⟨r, hr, hv, rfl⟩ := gt_ok s l hh al hg
    have ok := s.ok r hr
    cases ht : td r.t with
    | none => rw [ht] at e; cases e
    | some d =>
      rw [ht] at e
      have r1 := td_ok s.le ok hv ht
      cases d with
      | lst l' => obtain ⟨a, vs, rfl, h, _⟩ := rep1_lst s.le r1; exact tyV_lst (.of h)
      | scr l' => obtain ⟨a, vs, rfl, h, _⟩ := rep1_scr s.le r1; exact tyV_lst h
      | _ => cases e
theorem run_bm {Ty : String} {rm : V → List V → Hp → VK → Prop} {ok : Option T → Bool} {g : Z → List Z → DE} (ht : ∀ {M H : Hp} {hs L : List Rt} {σ : L2.St} {ρ : Env} {z : Z} {v : V}, S X.K X.mg M H (hs ++ L) → SL L σ ρ → (some v, zt z) ∈ hs.map vt → Al L v z → ok (gt ρ z) = true → tyV X.K Ty v H)
    (hf : ∀ {M H : Hp} {hs L : List Rt} {σ : L2.St} {ρ : Env} {Q : VK} {E : XK} {z : Z} {zs : List Z} {v : V} {vs : List V}, S X.K X.mg M H (hs ++ L) → SL L σ ρ → (some v, zt z) ∈ hs.map vt → (∀ p ∈ (vs.map some).zip (zs.map zt), p ∈ hs.map vt) → Al L v z → Als L vs zs → Post X.K X.mg shE E M H (hs ++ L) σ Q (g z zs ρ) → rm v vs H Q)
    {σ : L2.St} {H : Hp} {Q : VK} (h : TEd X.K X.mg Wx (dBM ok g mo mas) σ H Q) : tBM X.K Ty rm (TEd X.K X.mg Wx mo) (TAd X.K X.mg Wx mas) σ H Q := by
  refine (run_bind (sa := shE) h).mono fun v H1 h1 => ?_
  obtain ⟨M, hs, L, ρ, z, s, l, q, al, hp⟩ := h1
  dsimp only [chk] at hp
  cases hok : ok (gt ρ z) with
  | false => rw [hok] at hp; exact hp.elim
  | true =>
    rw [if_pos hok] at hp
    refine ⟨ht s l (mem1 q) al hok, ?_⟩
    have hM : Mid X.K X.mg shE shE Wx (fun z => bnd mas fun zs => g z zs) σ Q v H1 := ⟨M, hs, L, ρ, z, s, l, q, al, hp⟩
    refine (mid_bind (sb := shA) (f := fun z zs => g z zs) stays_E hM).mono fun vs H2 h2 => ?_
    obtain ⟨M, hs, L, ρ, ⟨z1, z2⟩, s, l, q, al, hp⟩ := h2
    refine hf s l ?_ ?_ al.1 al.2 hp
    · rw [q]; exact List.mem_append_left _ (List.mem_singleton.mpr rfl)
    · intro p hp'; rw [q]; exact List.mem_append_right _ hp'
theorem run_bm0 {Ty : String} {rm : V → List V → Hp → VK → Prop} {ok : Option T → Bool} {g : Z → List Z → DE} (ht : ∀ {M H : Hp} {hs L : List Rt} {σ : L2.St} {ρ : Env} {z : Z} {v : V}, S X.K X.mg M H (hs ++ L) → SL L σ ρ → (some v, zt z) ∈ hs.map vt → Al L v z → ok (gt ρ z) = true → tyV X.K Ty v H)
    (hf : ∀ {M H : Hp} {hs L : List Rt} {σ : L2.St} {ρ : Env} {Q : VK} {E : XK} {z : Z} {zs : List Z} {v : V} {vs : List V}, S X.K X.mg M H (hs ++ L) → SL L σ ρ → (some v, zt z) ∈ hs.map vt → (∀ p ∈ (vs.map some).zip (zs.map zt), p ∈ hs.map vt) → Al L v z → Als L vs zs → Post X.K X.mg shE E M H (hs ++ L) σ Q (g z zs ρ) → rm v vs H Q)
    {σ : L2.St} {H : Hp} {Q : VK} (h : TEd X.K X.mg Wx (dBM0 ok g mo) σ H Q) : tBM0 X.K Ty rm (TEd X.K X.mg Wx mo) σ H Q := by
  refine (run_bind (sa := shE) h).mono fun v H1 h1 => ?_
  obtain ⟨M, hs, L, ρ, z, s, l, q, al, hp⟩ := h1
  dsimp only [chk] at hp
  cases hok : ok (gt ρ z) with
  | false => rw [hok] at hp; exact hp.elim
  | true =>
    rw [if_pos hok] at hp
    exact ⟨ht s l (mem1 q) al hok, hf s l (mem1 q) (zs := []) (vs := []) (fun p hp => by simp at hp) al .nil hp⟩
theorem run_mutS {Ty : String} {rm : V → List V → Hp → VK → Prop} {ok : Option T → Bool} {f : V.D → List V.D → Option (V.D × V.D)} (ht : ∀ {M H : Hp} {hs L : List Rt} {σ : L2.St} {ρ : Env} {z : Z} {v : V}, S X.K X.mg M H (hs ++ L) → SL L σ ρ → (some v, zt z) ∈ hs.map vt → Al L v z → ok (gt ρ z) = true → tyV X.K Ty v H) (hf : MutS X.K X.mg rm f)
    {σ : L2.St} {H : Hp} {Q : VK} (h : TEd X.K X.mg Wx (dBM ok (mutz shs f) mo mas) σ H Q) : tBM X.K Ty rm (TEd X.K X.mg Wx mo) (TAd X.K X.mg Wx mas) σ H Q := run_bm ht (fun s l _ hh al als hp => mutS_ok hf s l hh al als hp) h
theorem run_mutR {Ty : String} {rm : V → List V → Hp → VK → Prop} {ok : Option T → Bool} {f : V.D → List V.D → Option (V.D × V.D)} (ht : ∀ {M H : Hp} {hs L : List Rt} {σ : L2.St} {ρ : Env} {z : Z} {v : V}, S X.K X.mg M H (hs ++ L) → SL L σ ρ → (some v, zt z) ∈ hs.map vt → Al L v z → ok (gt ρ z) = true → tyV X.K Ty v H) (hf : MutR X.K X.mg rm f)
    {σ : L2.St} {H : Hp} {Q : VK} (h : TEd X.K X.mg Wx (dBM ok (mutz zds f) mo mas) σ H Q) : tBM X.K Ty rm (TEd X.K X.mg Wx mo) (TAd X.K X.mg Wx mas) σ H Q := run_bm ht (fun s l _ hh al als hp => mutR_ok hf s l hh al als hp) h
theorem run_mut0 {Ty : String} {rm : V → List V → Hp → VK → Prop} {ok : Option T → Bool} {f : V.D → List V.D → Option (V.D × V.D)} (ht : ∀ {M H : Hp} {hs L : List Rt} {σ : L2.St} {ρ : Env} {z : Z} {v : V}, S X.K X.mg M H (hs ++ L) → SL L σ ρ → (some v, zt z) ∈ hs.map vt → Al L v z → ok (gt ρ z) = true → tyV X.K Ty v H) (hf : MutS X.K X.mg rm f)
    {σ : L2.St} {H : Hp} {Q : VK} (h : TEd X.K X.mg Wx (dBM0 ok (mutz shs f) mo) σ H Q) : tBM0 X.K Ty rm (TEd X.K X.mg Wx mo) σ H Q := run_bm0 ht (fun s l _ hh al als hp => mutS_ok hf s l hh al als hp) h
/-! append, pop, extend, clear of one's own list -/
def ltOk (n : Nat) : Bool := decide (n < sizeLine)
theorem ltOk_iff {n : Nat} : ltOk n = true ↔ n < sizeLine := by unfold ltOk; exact decide_eq_true_iff
def fAppend : V.D → List V.D → Option (V.D × V.D)
  | .lst l, [d] => if ltOk l.length = true then some (.non, .lst (l ++ [d])) else none
  | _, _ => none
theorem mut_append : MutS X.K X.mg rAppend fAppend := by
  intro M H Q a o l t l' xs ds hl hH c r hf hq
  unfold fAppend at hf
  split at hf
  · rename_i l d
    split at hf
    · rename_i h
      cases hf
      cases c with
      | @lst vs _ rs =>
        match xs, r with
        | [y], .cons r1 .nil => exact ⟨a, vs, y, rfl, rfl, hH, by rw [rs.length]; exact ltOk_iff.mp h, hq _ _ (.lst (rs.append (.cons r1 .nil))) .non⟩
    · cases hf
  · cases hf
def fPop : V.D → List V.D → Option (V.D × V.D)
  | .lst l, [] => (l[l.length - 1]?).map fun d => (d, .lst l.dropLast)
  | _, _ => none
theorem mut_pop : MutS X.K X.mg rPop fPop := by
  intro M H Q a o l t l' xs ds hl hH c r hf hq
  unfold fPop at hf
  split at hf
  · obtain ⟨d, e, z⟩ := Option.map_eq_some_iff.mp hf
    cases z
    cases c with
    | @lst vs _ rs =>
      cases r
      obtain ⟨y, hy, ry⟩ := rs.get e
      exact ⟨a, vs, y, rfl, rfl, hH, by rw [rs.length]; exact hy, hq _ _ (.lst rs.dropLast) ry⟩
  · cases hf
def fExtend : V.D → List V.D → Option (V.D × V.D)
  | .lst l, [.lst m] => if szOk (l.length + m.length) = true then some (.non, .lst (l ++ m)) else none
  | _, _ => none
theorem mut_extend : MutR X.K X.mg rExtend fExtend := by
  intro M H Q a o l t l' xs ds hl hH c r hf hq
  unfold fExtend at hf
  split at hf
  · split at hf
    · rename_i h
      cases hf
      cases c with
      | @lst vs _ rs =>
        match xs, r with
        | [y], .cons r1 .nil =>
          obtain ⟨b, us, rfl, hb, r2⟩ := rep1_lst hl r1
          exact ⟨a, b, vs, us, rfl, rfl, hH, hb, by rw [rs.length, r2.length]; exact szOk_iff.mp h, hq _ _ (.lst (rs.append r2)) .non⟩
    · cases hf
  · cases hf
def fClear : V.D → List V.D → Option (V.D × V.D)
  | .lst _, [] => some (.non, .lst [])
  | _, _ => none
theorem mut_clear : MutS X.K X.mg rClear fClear := by
  intro M H Q a o l t l' xs ds hl hH c r hf hq
  unfold fClear at hf
  split at hf
  · cases hf
    cases c with
    | @lst vs _ rs =>
      cases r
      exact ⟨a, vs, rfl, rfl, hH, hq _ _ (.lst .nil) .non⟩
  · cases hf
def MSide (X : Cx) (o : Expr) (name : Str) (apos pos : Pos) (e : Expr) (es : List Expr) : Prop :=
  attributeBase o name X.env (eval o X.env) = eval o X.env ∧
  ((backTo pos (starEach (e :: es) X.env)).all (fun x => !x.1) && (backToKw pos (keywordEach [] X.env)).all (fun x => x.1.isSome)
      && decide ((e :: es).length + ([] : List Keyword).length + (if ([] : List Keyword).isEmpty then 0 else 1) < 30)) = true ∧
  (apos.endLine == pos.line) = true ∧ starEach (e :: es) X.env = (false, eval e X.env) :: starEach es X.env ∧ (backTo pos (starEach es X.env)).any (·.1) = false
theorem m_append (ho : QE X Wx o mo) (ha : QA X Wx (e :: es) mas) (z : MSide X o "append" apos pos e es := by exact ⟨rfl, rfl, rfl, rfl, rfl⟩) : QE X Wx (.Call (.Attribute o "append" apos) (e :: es) [] pos) (dBM isL (mutz shs fAppend) mo mas) :=
  pe_imp (pe_bm PySem.F.plainAttrs_list PySem.F.slot_list_append PySem.F.type_list_append mt_append ho ha z.1 z.2.1 z.2.2.1 z.2.2.2.1 z.2.2.2.2) fun _ _ _ h => run_mutS isL_ty mut_append h
theorem m_extend (ho : QE X Wx o mo) (ha : QA X Wx (e :: es) mas) (z : MSide X o "extend" apos pos e es := by exact ⟨rfl, rfl, rfl, rfl, rfl⟩) : QE X Wx (.Call (.Attribute o "extend" apos) (e :: es) [] pos) (dBM isL (mutz zds fExtend) mo mas) :=
  pe_imp (pe_bm PySem.F.plainAttrs_list PySem.F.slot_list_extend PySem.F.type_list_extend mt_extend ho ha z.1 z.2.1 z.2.2.1 z.2.2.2.1 z.2.2.2.2) fun _ _ _ h => run_mutR isL_ty mut_extend h
abbrev MSide0 (X : Cx) (o : Expr) (name : Str) (apos pos : Pos) : Prop := attributeBase o name X.env (eval o X.env) = eval o X.env ∧ (apos.endLine == pos.line) = true
theorem m_pop (ho : QE X Wx o mo) (z : MSide0 X o "pop" apos pos := by exact ⟨rfl, rfl⟩) : QE X Wx (.Call (.Attribute o "pop" apos) [] [] pos) (dBM0 isL (mutz shs fPop) mo) :=
  pe_imp (pe_bm0 PySem.F.plainAttrs_list PySem.F.slot_list_pop PySem.F.type_list_pop mt_pop ho z.1 z.2) fun _ _ _ h => run_mut0 isL_ty mut_pop h
theorem m_clear (ho : QE X Wx o mo) (z : MSide0 X o "clear" apos pos := by exact ⟨rfl, rfl⟩) : QE X Wx (.Call (.Attribute o "clear" apos) [] [] pos) (dBM0 isL (mutz shs fClear) mo) :=
  pe_imp (pe_bm0 PySem.F.plainAttrs_list PySem.F.slot_list_clear PySem.F.type_list_clear mt_clear ho z.1 z.2) fun _ _ _ h => run_mut0 isL_ty mut_clear h
end
/-! ### o[i] = v -/
def rSetDk : TSet := fun o i v H Q => ∃ a H4, o = .ref a ∧ DPut H a i v H4 ∧ Q H4
def rSetA : TSet := fun o i v H Q => rSetL o i v H Q ∨ rSetDk o i v H Q
theorem set_dict {X : Cx} (hu : X.A.units + 200 < cLine) : PSet X rSetDk := by
  intro pins s σ H o i v ov iv u Q I ro ri rv ⟨a, H4, h1, g, q⟩
  subst h1
  obtain rfl : ov = Value.ref a := ro
  exact d_setItem (by omega) I g ri rv fun s4 I4 => ⟨H4, I4, q⟩
theorem set_all {X : Cx} (hu : X.A.units + 200 < cLine) : PSet X rSetA := by
  intro pins s σ H o i v ov iv u Q I ro ri rv h
  rcases h with h | h
  · exact set_list pins s σ H o i v ov iv u Q I ro ri rv h
  · exact set_dict hu pins s σ H o i v ov iv u Q I ro ri rv h
section
variable {κ : Type} [DecidableEq κ]
/-- a key's place is filled -/
def putKs : List κ → List V.D → κ → V.D → List κ × List V.D
  | j :: ks, d :: ds, k, v => if j = k then (j :: ks, v :: ds) else let q := putKs ks ds k v; (j :: q.1, d :: q.2)
  | _, _, k, v => ([k], [v])
/-- the first of a key alone is filled: dicts here have each key once -/
def put1 (kvs : List (κ × V)) (k : κ) (v : V) : List (κ × V) := match kvs with
  | [] => [(k, v)]
  | p :: r => if p.1 = k then (p.1, v) :: r else p :: put1 r k v
theorem putK_put1 {k : κ} {v : V} : ∀ {kvs : List (κ × V)}, (kvs.map (·.1)).Nodup → putK kvs k v = put1 kvs k v
  | [], _ => rfl
  | p :: r, h => by
    simp only [List.map_cons, List.nodup_cons] at h
    unfold put1
    by_cases e : p.1 = k
    · rw [if_pos e]
      unfold putK
      have hany : ((p :: r).any fun kv => decide (kv.1 = k)) = true := by simp [e]
      rw [if_pos hany, List.map_cons, if_pos e]
      congr 1
      conv => rhs; rw [← List.map_id r]
      apply List.map_congr_left
      intro q hq
      have : ¬ q.1 = k := fun z => h.1 (by rw [e, ← z]; exact List.mem_map_of_mem hq)
      rw [if_neg this]; rfl
    · rw [if_neg e, ← putK_put1 h.2]
      unfold putK
      have ha : ((p :: r).any fun kv => decide (kv.1 = k)) = (r.any fun kv => decide (kv.1 = k)) := by simp [e]
      rw [ha]
      by_cases hr : (r.any fun kv => decide (kv.1 = k)) = true
      · rw [if_pos hr, if_pos hr, List.map_cons, if_neg e]
      · rw [if_neg hr, if_neg hr, List.cons_append]
theorem put1_rep {K : PySem.W.Frag} {mg : Str → Option Value} {M : Hp} {k : κ} {v : V} {d : V.D} (rv : Rep K mg M v d) : ∀ {kvs : List (κ × V)} {ds : List V.D}, Reps K mg M (kvs.map (·.2)) ds → (put1 kvs k v).map (·.1) = (putKs (kvs.map (·.1)) ds k d).1 ∧ Reps K mg M ((put1 kvs k v).map (·.2)) (putKs (kvs.map (·.1)) ds k d).2
  | [], [], _ => ⟨rfl, .cons rv .nil⟩
  | p :: r, d' :: ds, rs => by
    simp only [List.map_cons] at rs ⊢
    cases rs with
    | cons r1 r2 =>
      unfold put1 putKs
      by_cases e : p.1 = k
      · rw [if_pos e, if_pos e]
        exact ⟨rfl, .cons rv r2⟩
      · rw [if_neg e, if_neg e]
        obtain ⟨h1, h2⟩ := put1_rep (k := k) rv r2
        exact ⟨by simp [h1], .cons r1 h2⟩
end
/-- an item set: what stands there behind -/
def ndOk {κ : Type} [DecidableEq κ] (ks : List κ) (n : Nat) : Bool := decide ks.Nodup && decide (n < sizeLine)
def fSet (l i d : V.D) : Option V.D := match l with
  | .lst l => (match i with
    | .int z => (ixN l.length z).map fun j => .lst (l.set j d)
    | _ => none)
  | .dk ks l => (keyD i).bind fun k => if ndOk ks l.length = true then some (.dk (putKs ks l k d).1 (putKs ks l k d).2) else none
  | .dt ks l => (keyT i).bind fun k => if ndOk ks l.length = true then some (.dt (putKs ks l k d).1 (putKs ks l k d).2) else none
  | _ => none
theorem set_ok {K : PySem.W.Frag} {mg : Str → Option Value} {M H : Hp} {a : Addr} {o : HO} {l i d l' : V.D} {y v : V} {Q : Hp → Prop} (hl : Le M H) (hH : H a = some o) (c : Cel K mg M o l) (ri : Rep1 K mg M H y i) (rd : Rep K mg M v d) (e : fSet l i d = some l') (q : ∀ o', Cel K mg M o' l' → Q (upd H a o')) : rSetA (.ref a) y v H Q := by
  cases c with
  | @lst vs ds rs =>
    simp only [fSet] at e
    split at e
    · rename_i z
      obtain ⟨j, e1, rfl⟩ := Option.map_eq_some_iff.mp e
      exact .inl ⟨a, vs, z, j, rfl, rep1_int ri, hH, by rw [rs.length]; exact e1, q _ (.lst (rs.set rd j))⟩
    · cases e
  | @dk kvs ks ds hk rs =>
    subst hk
    obtain ⟨k, e1, e2⟩ := Option.bind_eq_some_iff.mp e
    split at e2
    · rename_i hn
      cases e2
      simp only [ndOk, Bool.and_eq_true, decide_eq_true_eq] at hn
      obtain ⟨q1, q2⟩ := put1_rep (k := k) rd rs
      refine .inr ⟨a, _, rfl, .inl ⟨kvs, k, hH, keyD_ok ri e1, ?_, rfl⟩, q _ (.dk ?_ ?_)⟩
      · have := rs.length
        rw [List.length_map] at this
        rw [this]; exact hn.2
      · rw [putK_put1 hn.1]; exact q1
      · rw [putK_put1 hn.1]; exact q2
    · cases e2
  | @dt kvs ks ds hk rs =>
    subst hk
    obtain ⟨k, e1, e2⟩ := Option.bind_eq_some_iff.mp e
    split at e2
    · rename_i hn
      cases e2
      simp only [ndOk, Bool.and_eq_true, decide_eq_true_eq] at hn
      obtain ⟨q1, q2⟩ := put1_rep (k := k) rd rs
      obtain ⟨b, rfl, hb⟩ := keyT_ok hl ri e1
      refine .inr ⟨a, _, rfl, .inr ⟨kvs, k, b, hH, rfl, hb, ?_, rfl⟩, q _ (.dt ?_ ?_)⟩
      · have := rs.length
        rw [List.length_map] at this
        rw [this]; exact hn.2
      · rw [putK_put1 hn.1]; exact q1
      · rw [putK_put1 hn.1]; exact q2
    · cases e2
def setZ (o i z : Z) : P Unit := fun ρ => match o with
  | .al j => match ρ[j]? with
    | some (.ow l) => (match zd ρ i, gt ρ z with
      | some i, some (.sh d) => (match fSet l i d with
        | some l' => .ok () (ρ.set j (.ow l'))
        | none => .stk)
      | _, _ => .stk)
    | _ => .stk
  | .v _ => .stk
def gSub (mo mi : DE) : DG := fun z => bnd mo fun o => bnd mi fun i => setZ o i z
section
variable {X : Cx} {Wx : WX} {ms : List Bool} {x : Str} {pos p apos pos2 p2 : Pos} {e o it : Expr} {me mo mi : DE}
theorem shv {K : PySem.W.Frag} {mg : Str → Option Value} {M H : Hp} {hs L : List Rt} {σ : L2.St} {ρ : Env} {z : Z} {v : V} {d : V.D} (s : S K mg M H (hs ++ L)) (l : SL L σ ρ) (hh : (some v, zt z) ∈ hs.map vt) (al : Al L v z) (e : gt ρ z = some (.sh d)) : Rep K mg M v d := by
  obtain ⟨r, hr, hv, ht⟩ := gt_ok s l hh al e
  have ok := s.ok r hr
  cases ok with
  | sh r => cases hv; cases ht; exact r
  | _ => cases ht
/-- a step behind a pending value -/
theorem run_pend {α β : Type} {sh : Sh α β} {m : P α} {f : α → P Unit} {M H : Hp} {hs L : List Rt} {σ : L2.St} {ρ : Env} {Q : L2.St → Hp → Prop} (s : S X.K X.mg M H (hs ++ L)) (l : SL L σ ρ) (hp : PostG X.K X.mg ms Wx M H (hs ++ L) σ Q (bnd m f ρ)) :
    Run X.K X.mg sh Wx m σ H fun b H1 => ∃ M1 hs1 L1 ρ1 a, S X.K X.mg M1 H1 (hs ++ (hs1 ++ L1)) ∧ SL L1 σ ρ1 ∧ hs1.map vt = sh.hd b a ∧ sh.al M1 L1 b a ∧ (∀ x o, M x = some o → M1 x = some o) ∧ L.map (·.v) = L1.map (·.v) ∧ PostG X.K X.mg ms Wx M1 H1 (hs ++ (hs1 ++ L1)) σ Q (f a ρ1) := by
  refine ⟨M, L, ρ, s.right, l, ?_⟩
  have n := hp.ne
  generalize hr : bnd m f ρ = r at hp n
  rcases bnd_some hr n with ⟨a, ρ1, e1, e2⟩ | ⟨x, ρ1, e1, e2⟩
  · rw [e1]
    intro M' H' hs' L' b u s' l' q al
    obtain ⟨s2, u2⟩ := s.frame s' u
    exact ⟨M', hs', L', ρ1, a, s2, l', q, al, u.mm, l.v.trans l'.v.symm, by rw [e2]; exact hp.pull u2 .refl⟩
  · rw [e1]
    subst e2
    intro M' H' L' c u s' l' hc
    obtain ⟨s2, u2⟩ := s.frame s' u
    exact hp M' H' L' σ c (u2.sub fun r hr => List.mem_append_right _ hr) s' l' .refl hc
theorem qg_sub (hu : X.A.units + 200 < cLine) (ho : QE X Wx o mo) (hi : QE X Wx it mi)
    (ha : ∀ v, assign (.Subscript o it pos) X.env v = (do
      let ov ← holding [v] (eval o X.env)
      let iv ← holding [v, ov] (eval it X.env)
      standAt pos
      holding [v, ov, iv] (setItem ov iv v)
      release [v, ov, iv] []) := by intro _; rfl) : QG X ms Wx (.Subscript o it pos) (gSub mo mi) := pg_imp (L2.pg_sub ho hi (set_all hu) ha) fun v σ H Q ⟨M, hs, L, ρ, z, s, l, q, al, hp⟩ => by
  refine (run_pend (sh := shE) s l hp).mono fun o1 H1 ⟨M1, hs1, L1, ρ1, a1, s1, l1, q1, al1, mm1, lv1, hp1⟩ => ?_
  rw [← List.append_assoc] at s1 hp1
  refine (run_pend (sh := shE) s1 l1 hp1).mono fun i1 H2 ⟨M2, hs2, L2, ρ2, a2, s2, l2, q2, al2, mm2, lv2, hp2⟩ => ?_
  have alz : Al L2 v z := (al.stays lv1).stays lv2
  have alo : Al L2 o1 a1 := Al.stays lv2 al1
  rw [← List.append_assoc] at s2 hp2
  cases a1 with
  | v t => exact hp2.elim
  | al j =>
    simp only [setZ] at hp2
    cases hj : ρ2[j]? with
    | none => rw [hj] at hp2; exact hp2.elim
    | some t =>
      rw [hj] at hp2
      cases t with
      | ow lc =>
        dsimp only at hp2
        cases h1 : zd ρ2 a2 with
        | none => rw [h1] at hp2; exact hp2.elim
        | some ii =>
          cases h2 : gt ρ2 z with
          | none => rw [h1, h2] at hp2; exact hp2.elim
          | some tz =>
            rw [h1, h2] at hp2
            cases tz with
            | sh d =>
              dsimp only at hp2
              cases h3 : fSet lc ii d with
              | none => rw [h3] at hp2; exact hp2.elim
              | some l' =>
                rw [h3] at hp2
                obtain ⟨a, oc, rfl, hH, c, n⟩ := own_at s2 l2 hj alo
                refine set_ok s2.le hH c (zd_ok s2 l2 ?_ al2 h1) (shv s2 l2 ?_ alz h2) h3 fun o' c' => ?_
                · simp [q2, shE]
                · simp [q]
                · obtain ⟨a', e', s3, u3, l3⟩ := s2.writeCel l2 hj alo c'
                  cases e'
                  exact hp2 M2 _ _ σ u3 s3 l3 .refl
            | _ => exact hp2.elim
      | _ => exact hp2.elim
/-! {} -/
def dDict : DE := ret (.v (.ow (.dk [] [])))
def dDictT : DE := ret (.v (.ow (.dt [] [])))
theorem q_dict : QE X Wx (.Dict [] [] pos) dDict := pe_imp pe_dnewK fun σ H Q ⟨M, L, ρ, s, l, hp⟩ p np => (Post.res hp s l fun _ h => h).own s.le np (.dk rfl .nil)
theorem q_dictT : QE X Wx (.Dict [] [] pos) dDictT := pe_imp pe_dnewT fun σ H Q ⟨M, L, ρ, s, l, hp⟩ p np => (Post.res hp s l fun _ h => h).own s.le np (.dt rfl .nil)
/-! o.f = v -/
def putFT (fs : List (Str × FT)) (f : Str) (t : FT) : List (Str × FT) := match fs with
  | (g, u) :: fs => if g = f then (g, t) :: fs else (g, u) :: putFT fs f t
  | [] => [(f, t)]
/-- what a value is as a field -/
def ftOf (ρ : Env) : Z → Option FT
  | .v (.sh d) => some (.sh d)
  | .v (.ow d) => some (.ow d)
  | .v (.lo d) => some (.lo d)
  | .al i => match ρ[i]? with
    | some (.sh d) => some (.sh d)
    | some (.lo d) => some (.lo d)
    | _ => none
  | _ => none
def fsOk (n : Nat) : Bool := decide (n < 1000)
def setFld (Cn f : Str) (z o : Z) : DS := fun ρ => match o with
  | .al i => match ρ[i]?, ftOf ρ z with
    | some (.ob C fs), some t => if (decide (C = Cn) && fsOk fs.length) = true then .ok .nx (ρ.set i (.ob C (putFT fs f t))) else .stk
    | _, _ => .stk
  | .v _ => .stk
def dFldSet (Cn f : Str) (mv mo : DE) : DS := bnd mv fun z => bnd mo fun o => setFld Cn f z o
/-- a field put in: the addresses behind -/
theorem Flds.put {K : PySem.W.Frag} {mg : Str → Option Value} {M H H' : Hp} {f : Str} {v : V} {t : FT} {kn en : List Addr} (hn : FRep K mg M H' kn en v t) (hnM : ∀ a ∈ kn, M a = none) (hkn : ∀ a b, a ∈ kn → b ∈ kn → a = b) {fvs : List (Str × V)} {fs : List (Str × FT)} {k e : List Addr} (fl : Flds K mg M H fvs fs k e) (hk : ∀ a ∈ k, ∀ o, H a = some o → H' a = some o) (he : ∀ a ∈ e, ∀ o, H a = some o → H' a = some o) (nd : k.Nodup) (hkk : ∀ a ∈ kn, a ∉ k) (hke : ∀ a ∈ kn, a ∉ e) (hek : ∀ a ∈ en, a ∉ k) (hee : ∀ a ∈ kn, a ∉ en) (hx : ∀ a ∈ k, a ∉ e) :
    ∃ k' e', Flds K mg M H' (L2.putF f v fvs) (putFT fs f t) k' e' ∧ (∀ a ∈ k', a ∈ k ∨ a ∈ kn) ∧ (∀ a ∈ e', a ∈ e ∨ a ∈ en) ∧ k'.Nodup ∧ ∀ a ∈ k', a ∉ e' := by
  have one : ∀ {fvs : List (Str × V)} {fs : List (Str × FT)} {k e : List Addr}, Flds K mg M H' fvs fs k e → k.Nodup → (∀ a ∈ kn, a ∉ k) → (∀ a ∈ kn, a ∉ e) → (∀ a ∈ en, a ∉ k) → (∀ a ∈ k, a ∉ e) →
      ∃ k' e', Flds K mg M H' ((f, v) :: fvs) ((f, t) :: fs) k' e' ∧ (∀ a ∈ k', a ∈ k ∨ a ∈ kn) ∧ (∀ a ∈ e', a ∈ e ∨ a ∈ en) ∧ k'.Nodup ∧ ∀ a ∈ k', a ∉ e' := by
    intro fvs fs k e fl nd hkk hke hek hx
    cases t with
    | sh d => exact ⟨k, e, .sh hn fl, fun a h => .inl h, fun a h => .inl h, nd, hx⟩
    | ow d =>
      obtain ⟨a, o, rfl, ha, h1, c⟩ := hn
      refine ⟨a :: k, e, .ow h1 c (hnM a ha) fl, fun x h => (List.mem_cons.mp h).elim (fun z => .inr (by rw [z]; exact ha)) .inl, fun x h => .inl h, List.nodup_cons.mpr ⟨hkk a ha, nd⟩, fun x h => (List.mem_cons.mp h).elim (fun z => by rw [z]; exact hke a ha) (hx x)⟩
    | lo d =>
      obtain ⟨a, o, rfl, ha, h1, c⟩ := hn
      exact ⟨k, a :: e, .lo h1 c fl, fun x h => .inl h, fun x h => (List.mem_cons.mp h).elim (fun z => .inr (by rw [z]; exact ha)) .inl, nd, fun x h hb => (List.mem_cons.mp hb).elim (fun z => hek a ha (by rw [← z]; exact h)) (hx x h)⟩
  induction fl with
  | nil =>
    obtain ⟨k', e', h⟩ := one .nil .nil (fun _ _ => List.not_mem_nil) (fun _ _ => List.not_mem_nil) (fun _ _ => List.not_mem_nil) (fun _ h => absurd h List.not_mem_nil)
    exact ⟨k', e', h⟩
  | @sh g u d fvs fs k e r q ih =>
    unfold L2.putF putFT
    by_cases z : g = f
    · subst z
      rw [if_pos rfl, if_pos rfl]
      exact one (q.stay .refl (fun a ha => ⟨hk a ha, fun _ h => h⟩) he) nd hkk hke hek hx
    · rw [if_neg z, if_neg z]
      obtain ⟨k', e', h1, h2⟩ := ih hk he nd hkk hke hek hx
      exact ⟨k', e', .sh r h1, h2⟩
  | @ow g a o d fvs fs k e h1 c n q ih =>
    unfold L2.putF putFT
    have nd' := List.nodup_cons.mp nd
    by_cases z : g = f
    · subst z
      rw [if_pos rfl, if_pos rfl]
      obtain ⟨k', e', p1, p2, p3⟩ := one (q.stay .refl (fun a ha => ⟨hk a (List.mem_cons_of_mem _ ha), fun _ h => h⟩) he) nd'.2 (fun a ha hb => hkk a ha (List.mem_cons_of_mem _ hb)) hke (fun a ha hb => hek a ha (List.mem_cons_of_mem _ hb)) (fun a ha => hx a (List.mem_cons_of_mem _ ha))
      exact ⟨k', e', p1, fun a ha => (p2 a ha).imp (List.mem_cons_of_mem _) id, p3⟩
    · rw [if_neg z, if_neg z]
      obtain ⟨k', e', p1, p2, p3, p4, p5⟩ := ih (fun a ha => hk a (List.mem_cons_of_mem _ ha)) he nd'.2 (fun a ha hb => hkk a ha (List.mem_cons_of_mem _ hb)) hke (fun a ha hb => hek a ha (List.mem_cons_of_mem _ hb)) (fun a ha => hx a (List.mem_cons_of_mem _ ha))
      refine ⟨a :: k', e', .ow (hk a (List.mem_cons_self ..) _ h1) c n p1, fun x hx => (List.mem_cons.mp hx).elim (fun z => .inl (by rw [z]; exact List.mem_cons_self ..)) fun z => (p2 x z).imp (List.mem_cons_of_mem _) id, p3, List.nodup_cons.mpr ⟨fun h => ?_, p4⟩, fun x hxx => (List.mem_cons.mp hxx).elim (fun z hb => ?_) (p5 x)⟩
      · rcases p2 a h with h | h
        · exact nd'.1 h
        · exact hkk a h (List.mem_cons_self ..)
      · rw [z] at hb
        rcases p3 a hb with h | h
        · exact hx a (List.mem_cons_self ..) h
        · exact hek a h (List.mem_cons_self ..)
  | @lo g a o d fvs fs k e h1 c q ih =>
    unfold L2.putF putFT
    by_cases z : g = f
    · subst z
      rw [if_pos rfl, if_pos rfl]
      obtain ⟨k', e', p1, p2, p3, p4⟩ := one (q.stay .refl (fun a ha => ⟨hk a ha, fun _ h => h⟩) (fun a ha => he a (List.mem_cons_of_mem _ ha))) nd hkk (fun a ha hb => hke a ha (List.mem_cons_of_mem _ hb)) hek (fun a ha hb => hx a ha (List.mem_cons_of_mem _ hb))
      exact ⟨k', e', p1, p2, fun a ha => (p3 a ha).imp (List.mem_cons_of_mem _) id, p4⟩
    · rw [if_neg z, if_neg z]
      obtain ⟨k', e', p1, p2, p3, p4, p5⟩ := ih hk (fun a ha => he a (List.mem_cons_of_mem _ ha)) nd hkk (fun a ha hb => hke a ha (List.mem_cons_of_mem _ hb)) hek (fun a ha hb => hx a ha (List.mem_cons_of_mem _ hb))
      refine ⟨k', a :: e', .lo (h1.stay (he a (List.mem_cons_self ..))) c p1, p2, fun x hx => (List.mem_cons.mp hx).elim (fun z => .inl (by rw [z]; exact List.mem_cons_self ..)) fun z => (p3 x z).imp (List.mem_cons_of_mem _) id, p4, fun x hx' hb => (List.mem_cons.mp hb).elim (fun z => ?_) (p5 x hx')⟩
      rw [z] at hx'
      rcases p2 a hx' with h | h
      · exact hx a h (List.mem_cons_self ..)
      · exact hke a h (List.mem_cons_self ..)
end
end V

set_option Elab.async false
set_option linter.all false
set_option maxRecDepth 100000
/-! V10: fields of own objects are set and written; op=. -/
namespace V
open PySem PySem.Spec PyProof.Rows L2
section
variable {X : Cx} {Wx : WX} {ms : List Bool} {x : Str} {i : Nat} {pos p apos tpos p2 : Pos} {e o it : Expr} {me mo mi : DE} {es : List Expr} {mas : P (List Z)}
theorem run_pendS {α β : Type} {sh : Sh α β} {m : P α} {f : α → DS} {M H : Hp} {hs L : List Rt} {σ : L2.St} {ρ : Env} {D : Ends} (s : S X.K X.mg M H (hs ++ L)) (l : SL L σ ρ) (hp : PostS X.K X.mg ms Wx M H (hs ++ L) σ D (bnd m f ρ)) :
    Run X.K X.mg sh Wx m σ H fun b H1 => ∃ M1 hs1 L1 ρ1 a, S X.K X.mg M1 H1 (hs ++ (hs1 ++ L1)) ∧ SL L1 σ ρ1 ∧ hs1.map vt = sh.hd b a ∧ sh.al M1 L1 b a ∧ (∀ x o, M x = some o → M1 x = some o) ∧ L.map (·.v) = L1.map (·.v) ∧ PostS X.K X.mg ms Wx M1 H1 (hs ++ (hs1 ++ L1)) σ D (f a ρ1) := by
  refine ⟨M, L, ρ, s.right, l, ?_⟩
  have n := hp.ne
  generalize hr : bnd m f ρ = r at hp n
  rcases bnd_some hr n with ⟨a, ρ1, e1, e2⟩ | ⟨x, ρ1, e1, e2⟩
  · rw [e1]
    intro M' H' hs' L' b u s' l' q al
    obtain ⟨s2, u2⟩ := s.frame s' u
    exact ⟨M', hs', L', ρ1, a, s2, l', q, al, u.mm, l.v.trans l'.v.symm, by rw [e2]; exact hp.pull u2 .refl⟩
  · rw [e1]
    subst e2
    intro M' H' L' c u s' l' hc
    obtain ⟨s2, u2⟩ := s.frame s' u
    exact hp M' H' L' σ c (u2.sub fun r hr => List.mem_append_right _ hr) s' l' .refl hc
/-- the own object of a slot -/
theorem ob_at {K : PySem.W.Frag} {mg : Str → Option Value} {M H : Hp} {hs L : List Rt} {σ : L2.St} {ρ : Env} {i : Nat} {C : Str} {fs : List (Str × FT)} {v : V} (s : S K mg M H (hs ++ L)) (l0 : SL L σ ρ) (hi : ρ[i]? = some (.ob C fs)) (al : Al L v (.al i)) :
    ∃ a c dx fvs k e, v = .ref a ∧ L[i]? = some ⟨some (.ref a), .ob C fs, a :: k, e⟩ ∧ cnOf mg C = some c ∧ H a = some (.ins c dx fvs) ∧ M a = none ∧ Flds K mg M H fvs fs k e ∧ (a :: k).Nodup ∧ ∀ x ∈ a :: k, x ∉ e := by
  rw [← l0.t, List.getElem?_map] at hi
  obtain ⟨r, hr, et⟩ := Option.map_eq_some_iff.mp hi
  replace al : (L.map (·.v))[i]? = some (some v) := al
  rw [List.getElem?_map, hr, Option.map_some] at al
  have ok := s.ok r (List.mem_append_right _ (List.mem_of_getElem? hr))
  cases ok with
  | @ob a c dx C' fvs fs' k e h0 h n fl nd ne => cases al; cases et; exact ⟨a, c, dx, fvs, k, e, rfl, hr, h0, h, n, fl, nd, ne⟩
  | _ => cases et
theorem flds_len {K : PySem.W.Frag} {mg : Str → Option Value} {M H : Hp} {fvs : List (Str × V)} {fs : List (Str × FT)} {k e : List Addr} (f : Flds K mg M H fvs fs k e) : fvs.length = fs.length := by
  have := congrArg List.length f.names
  simpa using this
/-- a value as a field: what it is, its addresses -/
theorem ftOf_ok {K : PySem.W.Frag} {mg : Str → Option Value} {M H : Hp} {hs L : List Rt} {σ : L2.St} {ρ : Env} {z : Z} {v : V} {t : FT} (s : S K mg M H (hs ++ L)) (l : SL L σ ρ) (hh : (some v, zt z) ∈ hs.map vt) (al : Al L v z) (e : ftOf ρ z = some t) {i : Nat} {a : Addr} {k : List Addr} {ro : Rt} (hi : L[i]? = some ro) (hk : ro.k = a :: k) (ne : ∀ x ∈ ro.k, x ∉ ro.e) (o' : HO) :
    ∃ kn en, FRep K mg M (upd H a o') kn en v t ∧ (∀ x ∈ kn, M x = none) ∧ (∀ x y, x ∈ kn → y ∈ kn → x = y) ∧ (∀ x ∈ kn, Xs hs x ∧ x ∉ ro.k ∧ x ∉ ro.e ∧ x ∉ en) ∧ ∀ x ∈ en, Ys (hs ++ L) x ∧ x ∉ ro.k := by
  have hro : ro ∈ L := List.mem_of_getElem? hi
  have aK : a ∈ ro.k := by rw [hk]; exact List.mem_cons_self ..
  have stay : ∀ {x : Addr} {o : HO}, x ≠ a → At H x o → At (upd H a o') x o := fun n h => h.stay fun w hw => by rw [upd_ne n]; exact hw
  have shc : ∀ {d : V.D}, Rep K mg M v d → ∃ kn en, FRep K mg M (upd H a o') kn en v (.sh d) ∧ (∀ x ∈ kn, M x = none) ∧ (∀ x y, x ∈ kn → y ∈ kn → x = y) ∧ (∀ x ∈ kn, Xs hs x ∧ x ∉ ro.k ∧ x ∉ ro.e ∧ x ∉ en) ∧ ∀ x ∈ en, Ys (hs ++ L) x ∧ x ∉ ro.k := fun r =>
    ⟨[], [], r, fun _ h => absurd h List.not_mem_nil, fun _ _ h => absurd h List.not_mem_nil, fun _ h => absurd h List.not_mem_nil, fun _ h => absurd h List.not_mem_nil⟩
  have loc : ∀ {d : V.D} {r : Rt}, r ∈ hs ++ L → r.v = some v → r.t = .lo d → (∀ x ∈ r.e, x ∉ ro.k) → ∃ kn en, FRep K mg M (upd H a o') kn en v (.lo d) ∧ (∀ x ∈ kn, M x = none) ∧ (∀ x y, x ∈ kn → y ∈ kn → x = y) ∧ (∀ x ∈ kn, Xs hs x ∧ x ∉ ro.k ∧ x ∉ ro.e ∧ x ∉ en) ∧ ∀ x ∈ en, Ys (hs ++ L) x ∧ x ∉ ro.k := fun {d r} hr hv ht hd => by
    have ok := s.ok r hr
    cases ok with
    | @lo b o d' h c =>
      cases hv; cases ht
      refine ⟨[], [b], ⟨b, o, rfl, List.mem_cons_self .., stay (fun z => hd b (List.mem_cons_self ..) (by rw [z]; exact aK)) h, c⟩, fun _ h => absurd h List.not_mem_nil, fun _ _ h => absurd h List.not_mem_nil, fun _ h => absurd h List.not_mem_nil, fun x hx => ⟨⟨_, hr, hx⟩, hd x hx⟩⟩
    | _ => cases ht
  cases z with
  | v t' =>
    obtain ⟨r, hr, e1⟩ := List.mem_map.mp hh
    have hv : r.v = some v := congrArg Prod.fst e1
    have ht : r.t = t' := congrArg Prod.snd e1
    have sp : Sep r ro := s.app_sep r hr ro hro
    have ok := s.ok r (List.mem_append_left _ hr)
    cases t' with
    | sh d =>
      cases e
      cases ok with
      | sh rr => cases hv; cases ht; exact shc rr
      | _ => cases ht
    | ow d =>
      cases e
      cases ok with
      | @ow b o d' h c n =>
        cases hv; cases ht
        refine ⟨[b], [], ⟨b, o, rfl, List.mem_cons_self .., ?_, c⟩, fun x hx => by rw [List.mem_singleton.mp hx]; exact n, fun x y hx hy => by rw [List.mem_singleton.mp hx, List.mem_singleton.mp hy], fun x hx => ⟨⟨_, hr, hx⟩, sp.kk x hx, sp.ke x hx, List.not_mem_nil⟩, fun _ h => absurd h List.not_mem_nil⟩
        rw [upd_ne fun z => sp.kk b (List.mem_cons_self ..) (by rw [z]; exact aK)]
        exact h
      | _ => cases ht
    | lo d => cases e; exact loc (List.mem_append_left _ hr) hv ht fun x hx hb => sp.ek x hb hx
    | _ => cases e
  | al j =>
    simp only [ftOf] at e
    split at e
    · rename_i d ht
      cases e
      exact shc (shv s l hh al ht)
    · rename_i d ht
      cases e
      obtain ⟨r, hr, hv, ht'⟩ := gt_ok s l hh al ht
      refine loc hr hv ht' fun x hx hb => ?_
      rcases List.mem_append.mp hr with hr' | hr'
      · exact (s.app_sep r hr' ro hro).ek x hb hx
      · obtain ⟨j', hj'⟩ := List.mem_iff_getElem?.mp hr'
        by_cases n : i = j'
        · subst n
          rw [hi] at hj'
          cases hj'
          exact ne x hb hx
        · exact (s.right.ix n hi hj').ke x hb hx
    · cases e
theorem qs_fld {Cn f : Str} (c : Fld X.K X.mg Cn f) (ho : QE X Wx o mo) (hv : QE X Wx e me) (hs : swapsWith e (some (.Attribute o f p2)) pos.line X.env = pure false := by rfl) : QS X ms Wx (.Assign [.Attribute o f p2] e pos) (dFldSet Cn f me mo) := ps_imp (ps_fld ho hv hs) fun D σ H h => by
  refine (lift_ok (sh := shE) h).mono fun v H1 ⟨M, hs, L, ρ, z, s, l, q, al, hp⟩ => ?_
  refine (run_pendS (sh := shE) s l hp).mono fun o1 H2 ⟨M1, hs1, L1, ρ1, z1, s1, l1, q1, al1, mm1, lv1, hp1⟩ => ?_
  rw [← List.append_assoc] at s1 hp1
  have alz : Al L1 v z := Al.stays lv1 al
  cases z1 with
  | v t => exact hp1.elim
  | al i =>
    simp only [setFld] at hp1
    cases hi : ρ1[i]? with
    | none => rw [hi] at hp1; exact hp1.elim
    | some t =>
      cases hf : ftOf ρ1 z with
      | none => rw [hi, hf] at hp1; (cases t <;> exact hp1.elim)
      | some ft =>
      rw [hi, hf] at hp1
      cases t with
      | ob C fs =>
        dsimp only at hp1
        split at hp1
        · rename_i ok
          simp only [Bool.and_eq_true, decide_eq_true_eq, fsOk] at ok
          obtain ⟨rfl, hl⟩ := ok
          obtain ⟨a, c0, dx, fvs, k, e, rfl, hL, h0, hH, n, fl, nd, ne⟩ := ob_at s1 l1 hi al1
          obtain ⟨q1', q2'⟩ := c.ok c0 h0
          have hzh : (some v, zt z) ∈ (hs ++ hs1).map vt := by rw [List.map_append, q]; exact List.mem_append_left _ (List.mem_singleton.mpr rfl)
          obtain ⟨kn, en, fr, m1, m2, m3, m4⟩ := ftOf_ok s1 l1 hzh alz hf hL rfl ne (.ins c0 dx (L2.putF f v fvs))
          have nd' := List.nodup_cons.mp nd
          obtain ⟨k', e', p1, p2, p3, p4, p5⟩ := Flds.put (H := H2) fr m1 m2 fl (fun x hx w hw => by rw [upd_ne fun z => nd'.1 (by rw [← z]; exact hx)]; exact hw) (fun x hx w hw => by rw [upd_ne fun z => ne a (List.mem_cons_self ..) (by rw [← z]; exact hx)]; exact hw) nd'.2
            (fun x hx hb => (m3 x hx).2.1 (List.mem_cons_of_mem _ hb)) (fun x hx hb => (m3 x hx).2.2.1 hb) (fun x hx hb => (m4 x hx).2 (List.mem_cons_of_mem _ hb)) (fun x hx => (m3 x hx).2.2.2) (fun x hx => ne x (List.mem_cons_of_mem _ hx))
          have ak : a ∉ k' := fun h => (p2 a h).elim nd'.1 fun h => (m3 a h).2.1 (List.mem_cons_self ..)
          have ae : a ∉ e' := fun h => (p3 a h).elim (ne a (List.mem_cons_self ..)) fun h => (m4 a h).2 (List.mem_cons_self ..)
          obtain ⟨s2, u2⟩ := s1.write (o := .ins c0 dx (L2.putF f v fvs)) (r' := ⟨some (.ref a), .ob C (putFT fs f ft), a :: k', e'⟩) hL (List.mem_cons_self ..)
            (.ob h0 upd_same n p1 (List.nodup_cons.mpr ⟨ak, p4⟩) (fun x hx => (List.mem_cons.mp hx).elim (fun z => by rw [z]; exact ae) (p5 x)))
            (fun x hx => (List.mem_cons.mp hx).elim (fun z => .inl (by rw [z]; exact List.mem_cons_self ..)) fun z => (p2 x z).imp (List.mem_cons_of_mem _) fun h => (m3 x h).1)
            (fun x hx => (p3 x hx).elim (fun z => ⟨_, List.mem_append_right _ (List.mem_of_getElem? hL), z⟩) fun z => (m4 x z).1)
          refine ⟨a, c0, dx, fvs, rfl, hH, q1', q2', by rw [flds_len fl]; exact hl, ?_⟩
          exact hp1 _ _ _ σ u2 s2 (l1.set (r := ⟨some (.ref a), .ob C (putFT fs f ft), a :: k', e'⟩) fun q hq => by rw [hL] at hq; cases hq; rfl) .refl
        · exact hp1.elim
      | _ => exact hp1.elim

/-! op= -/
def augOk (op : Operator) (f : D → D → Option T) : Prop := op = .Add ∧ f = (fun x y => wAdd x y) ∨ op = .Sub ∧ f = wSub
/-- of whole numbers -/
def iOp (g : Int → Int → Int) : D → D → Option T := fun x y => match x, y with
  | .int i, .int j => some (.sh (.int (g i j)))
  | _, _ => none
/-- name op= e -/
def dAug (i : Nat) (g : Int → Int → Int) (m : DE) : DS := fun ρ => match ρ[i]? with
  | some (.sh (.int x)) => (bnd m fun z => fun ρ => match zd ρ z with
    | some (.int y) => .ok .nx (ρ.set i (.sh (.int (g x y))))
    | _ => .stk) ρ
  | _ => .stk
theorem qs_aug {op : Operator} {g : Int → Int → Int} {pos' : Pos} (hg : PIp X op (ipI g)) (hN : X.N.Nodup) (hi : X.N[i]? = some x) (hk : (ms[i]? == some true) = false) (hx : Loc X.env.scope x) (he : QE X Wx e me) (hf : X.fn x = true ∨ X.env.scope.names.lookup x = some .local := by first | exact .inl rfl | exact .inr rfl | assumption) :
    QS X ms Wx (.AugAssign (.Name x pos') op e pos) (dAug i g me) := ps_imp (ps_aug hN hi hx he hg hf) fun D σ H ⟨M, L, ρ, s, l, hp⟩ => by
  unfold dAug at hp
  cases h1 : ρ[i]? with
  | none => rw [h1] at hp; exact hp.elim
  | some t =>
    rw [h1] at hp
    cases t with
    | sh d =>
      cases d with
      | int xi =>
        dsimp only at hp
        have hL : ∃ r, L[i]? = some r ∧ r.t = .sh (.int xi) := by
          rw [← l.t, List.getElem?_map] at h1
          exact Option.map_eq_some_iff.mp h1
        obtain ⟨r, hr, ht⟩ := hL
        have ok := s.ok r (List.mem_of_getElem? hr)
        have hv : r.v = some (.int xi) := by
          cases ok with
          | sh rr => cases ht; rw [rep_int rr]
          | _ => cases ht
        refine ⟨.int xi, by rw [← l.v, List.getElem?_map, hr, Option.map_some, hv], ?_⟩
        refine (lift_ok (sh := shE) (ms := ms) (D := D) (k := fun z => fun ρ => match zd ρ z with
          | some (.int y) => .ok .nx (ρ.set i (.sh (.int (g xi y))))
          | _ => .stk) ⟨M, L, ρ, s, l, hp⟩).mono fun v H1 ⟨M1, hs1, L1, ρ1, z, s1, l1, q1, al1, hp1⟩ => ?_
        skip
        cases h2 : zd ρ1 z with
        | none => rw [h2] at hp1; exact hp1.elim
        | some d =>
          rw [h2] at hp1
          cases d with
          | int y =>
            refine ⟨xi, y, rfl, rep1_int (zd_ok s1 l1 (mem1 q1) al1 h2), ?_⟩
            have hk' : ms[i]? ≠ some true := by simpa using hk
            have s2 := s1.right
            refine hp1 M1 H1 (L1.set i ⟨some (.int (g xi y)), .sh (.int (g xi y)), [], []⟩) _ (Up.refl.drop (fun a ⟨r', hr', ha⟩ => ?_) fun a ⟨r', hr', ha⟩ => ?_) (s2.set (.sh (.int _)) fun j t _ _ => sep_sh t) ⟨by rw [List.map_set, l1.v], by rw [List.map_set, l1.t]⟩ (fun j hj => by rw [List.getElem?_set_ne (fun z => hk' (by rw [z]; exact hj))])
            · rcases List.mem_or_eq_of_mem_set hr' with h | rfl
              · exact ⟨r', List.mem_append_right _ h, ha⟩
              · cases ha
            · rcases List.mem_or_eq_of_mem_set hr' with h | rfl
              · exact ⟨r', List.mem_append_right _ h, ha⟩
              · cases ha
          | _ => exact hp1.elim
      | _ => exact hp.elim
    | _ => exact hp.elim
end
end V

set_option Elab.async false
set_option linter.all false
set_option maxRecDepth 100000
/-! V11: built-in functions and methods that read. -/
namespace RT
open PySem PySem.Spec PyProof.Rows L2 PySem.Calls
section
variable {prog : Program} {w : World} {A : Around} {E : Value → Shared → Prop} {s : Shared}
theorem extend_rev {R : Result → Shared → Prop} {it l S : Addr} {items : Array Value} {c₀ : Nat} (hh : A.handled = none) (hit : s.heap.IsRevIter it l ((items.size : Int) - 1)) (hl : s.heap.IsList l items) (hne : l ≠ it) (hn : items.size ≤ sizeLine) (hSi : S ≠ it) (hSl : S ≠ l)
    (hS : s.heap.get? S = some { cls := .type "list", data := .seq #[] c₀ })
    (hR : ∀ (h' : Heap) (tk : Nat) (acc : Array Value) (c' : Nat), (∀ b o, b ≠ it → b ≠ S → s.heap.get? b = some o → h'.get? b = some o) → h'.get? S = some { cls := .type "list", dict := none, data := .seq acc c', slots := #[] } → ItemsOf (fun i v => items[items.size - 1 - i]? = some v) acc items.size → R (.ok (.ret .none)) { s with heap := h', toks := tk }) :
    wpAny (model prog w) A.in1 (Builtin.List.listExtendWith (.ref S) (.ref it) .none)
      (fun fin s' => match fin with | .done f => R (.ok f) s' | .again c' => c'.quiet = true ∧ codeAny (model prog w) A c' R s') (fun e s' => R (.error e) s') s := by
  have W := (Walks.listRev (prog := prog) (w := w) (A := A.in1) hh it l hne items).toS
  have hSf : S ∉ [it, l] := by simp only [List.mem_cons, List.not_mem_nil, or_false, not_or]; exact ⟨hSi, hSl⟩
  have hT : s.TypeIs (.ref it) "list_reverseiterator" := Heap.IsRevIter.typeIs hit
  have h1 : Builtin.List.listSameRef (.ref S) (.ref it) = false := by simp [Builtin.List.listSameRef, hSi]
  unfold Builtin.List.listExtendWith
  refine wpAny_bind (wpAny_typeOf hT ?_)
  rw [if_neg (by rw [h1]; decide)]
  refine wpAny_bind (wpAny_pyIter_revIter hit ?_)
  refine wpAny_bind (wpAny_holding ?_)
  unfold Builtin.List.listLengthHint
  refine wpAny_bind (wpAny_specialOf hT nolen_lri ?_)
  show wpAny _ A.in1 (specialOf (Value.ref it) (Str.ofString "__length_hint__") >>= _) _ _ _
  refine wpAny_bind (wpAny_specialOf hT hint_lri ?_)
  generalize hid : ("list_reverseiterator.__length_hint__" : String) = id0
  wp_delta
  rw [show splitId id0 = some ("list_reverseiterator", "__length_hint__") from by subst hid; decide +kernel]
  subst hid
  refine wpAny_bind (wpAny_isInstance (b := true) hT (by rw [isSubtype_type]; kernel_rfl) ?_)
  refine wpAny_pure ?_
  rw [if_neg (by decide)]
  have e0 : ((items.size : Nat) : Int) - 1 - ((0 : Nat) : Int) = (items.size : Int) - 1 := by omega
  refine wpAny_pure ⟨plainId_quiet F.plain_extend_loop _, codeAny_extend_loopS W hn _ hSf _ items.size 0 _ _ _ rfl (Nat.zero_le _) ⟨Nat.zero_le _, by rw [e0]; exact hit, hl⟩ hS (ItemsOf.nil _) fun s' acc' c' hm hS' hacc => ?_⟩
  rw [Moved.eq_with hm]
  refine hR s'.heap s'.toks acc' c' (fun b o hb hb2 e => hm.heap b o (fun hmem => ?_) e) hS' hacc
  rcases List.mem_cons.mp hmem with e' | hmem
  · exact hb2 e'
  · exact hb (List.mem_singleton.mp hmem)
theorem call_list_rev {it l : Addr} {items : Array Value} {Q : Value → Shared → Prop} (hh : A.handled = none) (hit : s.heap.IsRevIter it l ((items.size : Int) - 1)) (hl : s.heap.IsList l items) (hne : l ≠ it) (hn : items.size ≤ sizeLine)
    (hQ : ∀ (h' : Heap) (tk : Nat) (acc : Array Value) (c' : Nat), (∀ b o, b ≠ it → s.heap.get? b = some o → h'.get? b = some o) → h'.get? s.heap.objs.size = some { cls := .type "list", dict := none, data := .seq acc c', slots := #[] } → ItemsOf (fun i v => items[items.size - 1 - i]? = some v) acc items.size → Q (.ref s.heap.objs.size) { s with heap := h', toks := tk }) :
    wpAny (model prog w) A (call (.type "list") [.ref it]) Q E s := by
  obtain ⟨oi, hoi, _⟩ := id hit
  obtain ⟨ol, hol, _⟩ := id hl
  have hSi : s.heap.objs.size ≠ it := Nat.ne_of_gt (Heap.lt_size hoi)
  have hSl : s.heap.objs.size ≠ l := Nat.ne_of_gt (Heap.lt_size hol)
  refine callType_codes (Q₁ := fun obj s₁ => obj = .ref s.heap.objs.size ∧ s₁ = { s with heap := s.heap.push { cls := .type "list", data := .seq #[] } }) F.called_list (F.typeCall_list_1 _) F.entry_list_init
    (code_list_new _ ⟨rfl, rfl⟩) fun obj s₁ h₁ => ?_
  obtain ⟨rfl, rfl⟩ := h₁
  have hS : (s.heap.push { cls := .type "list", data := .seq #[] }).get? s.heap.objs.size = some { cls := .type "list", data := .seq #[] } := Heap.get?_push_size _ rfl
  have hit1 : (s.heap.push { cls := .type "list", data := .seq #[] }).IsRevIter it l ((items.size : Int) - 1) := hit.at fun o e => Heap.get?_push_of_some _ e
  have hl1 : (s.heap.push { cls := .type "list", data := .seq #[] }).IsList l items := hl.push _
  refine ⟨⟨_, hS, rfl⟩, F.args_list_init_2 _ _, ?_⟩
  show wpAny _ A.in1.in1 (do let old ← Builtin.List.listItems (.ref s.heap.objs.size); Builtin.List.listUpdate (.ref s.heap.objs.size) (fun _ => #[]); letGo old.toList.reverse; Builtin.List.listExtendWith (.ref s.heap.objs.size) (.ref it) .none) _ _ _
  refine wpAny_bind ?_
  unfold Builtin.List.listItems
  refine wpAny_bind (wpAny_seqItems hS rfl (wpAny_pure ?_))
  show wpAny _ A.in1.in1 (updateSeq s.heap.objs.size (fun _ => #[]) >>= fun _ => letGo (#[] : Array Value).toList.reverse >>= fun _ => Builtin.List.listExtendWith (.ref s.heap.objs.size) (.ref it) .none) _ _ _
  refine wpAny_bind (wpAny_updateSeq hS rfl ?_)
  have hS₂ := Heap.get?_update_self (Obj.mapSeq (fun _ => (#[] : Array Value))) hS rfl
  have oth : ∀ b o, b ≠ s.heap.objs.size → (s.heap.push { cls := .type "list", data := .seq #[] }).get? b = some o → ((s.heap.push { cls := .type "list", data := .seq #[] }).update s.heap.objs.size (Obj.mapSeq (fun _ => (#[] : Array Value)))).get? b = some o :=
    fun b o hb e => (Heap.get?_update_other _ _ (Ne.symm hb)).trans e
  refine wpAny_bind (wpAny_letGo ?_)
  refine extend_rev (A := A.in1) (s := { s with heap := _ }) hh (hit1.at fun o e => oth _ o hSi.symm e) ?_ hne hn hSi hSl hS₂ fun h' tk acc c' hk hS' hi => ?_
  · obtain ⟨o, ho, r⟩ := hl1
    exact ⟨o, oth _ o hSl.symm ho, r⟩
  · exact ⟨rfl, hQ h' tk acc c' (fun b o hb e => hk b o hb (Nat.ne_of_lt (Heap.lt_size e)) (oth b o (Nat.ne_of_lt (Heap.lt_size e)) (Heap.get?_push_of_some _ e))) hS' hi⟩
end
end RT

namespace V
open PySem PySem.Spec PyProof.Rows L2 RT RZ
section
variable {X : Cx} {Wx : WX} {x n y : Str} {i j : Nat} {pos p p2 : Pos}
/-- the caught exception's object, from now on tracked -/
theorem inv_track {pins : List (Addr × Obj)} {σ : L2.St} {H : Hp} {s sI : Shared} {a : Addr} {o : HO} {σ' : L2.St} {H' : Hp} (I : L2.Inv X pins σ H s) (na : H a = none) (oa : Obj) (ha : s.heap.get? a = some oa) (hcell : ∀ v, oa.data ≠ .cell v) (nL : a ≠ X.env.locals)
    (hx : X.ex = []) (J : L2.Inv X pins σ' H' sI) (new : sI.heap.get? a = none) (hnew : ObjOk X.prog X.w (upd H a o) s.heap a o) : L2.Inv X pins σ (upd H a o) s := by
  have n0 : ∀ b ob, X.s_0.heap.get? b = some ob → b ≠ a := fun b ob e z => by
    obtain ⟨o', h⟩ := J.base.there b ob e (by rw [hx]; simp)
    rw [z, new] at h; cases h
  refine ⟨I.ok, I.os, I.bare, ⟨I.base.keep, I.base.slot, fun b ob e nb hb => by rw [upd_ne (n0 b ob e)]; exact I.base.free b ob e nb hb, I.base.there, fun b xs e => ?_, fun b ob u e => ?_, fun b ps e => ?_⟩, I.loc, I.cell, ?_, fun c cc e => ?_, fun q hq => ?_, fun b u e => ?_, I.len⟩
  · have q := I.base.tups b xs e
    rw [upd_ne (ne_of_none q na)]; exact q
  · have q := I.base.frzs b ob u e
    rw [upd_ne (ne_of_none q na)]; exact q
  · obtain ⟨more, q⟩ := I.base.tbls b ps e
    exact ⟨more, by rw [upd_ne (ne_of_none q na)]; exact q⟩
  · rw [upd_ne nL.symm]; exact I.free
  · obtain ⟨v, oc, h1, h2⟩ := I.cell c cc e
    have ne : cc ≠ a := fun z => by rw [z, ha] at h1; cases h1; exact hcell v h2
    rw [upd_ne ne]; exact I.freeC c cc e
  · obtain ⟨q1, q2, q3, q4, q5⟩ := I.pin q hq
    obtain ⟨r1, _⟩ := J.pin q hq
    have ne : q.1 ≠ a := fun z => by rw [z, new] at r1; cases r1
    exact ⟨q1, by rw [upd_ne ne]; exact q2, q3, q4, q5⟩
  · by_cases hb : b = a
    · subst hb
      rw [upd_same] at e; cases e; exact hnew
    · rw [upd_ne hb] at e
      exact (I.hok b u e).stay (fun _ _ _ q => q) (fun c q => by rw [upd_ne (ne_of_none q na)]; exact q) fun c xs q => by rw [upd_ne (ne_of_none q na)]; exact q
theorem exQ_ok {P : Program} {w : World} {H : Hp} {h : Heap} {a : Addr} {cls : Value} {oe : Obj} {vs : Array Value} (e : h.get? a = some oe) (z : Zc cls none oe) (d : oe.data = .fields vs) : ObjOk P w H h a (ExQ cls a) :=
  ⟨⟨oe, vs, e, z, d⟩, ⟨oe, e⟩, fun h1 h2 ⟨oe, vs, e, r⟩ k => ⟨oe, vs, k _ e, r⟩⟩
end
section
variable {X : Cx} {Wx : WX} {x : Str} {p p2 pos pos2 apos : Pos} {e e2 o a : Expr} {es : List Expr} {mas : P (List Z)} {ma me mo : DE} {r : List V → Hp → VK → Prop} {f : List V.D → Option T} {id Tyn : String}
theorem q_callB (hf : OpN X.K X.mg r f) (hc : CallR X (.builtin id) r) (hg : Gl X x) (hm : X.mg x = none) (hv : bootBuiltins x = some (.builtin id)) (ha : QA X Wx (e :: es) mas) (hn : x ≠ "__name__" := by decide) (hdb : (x == ("__debug__" : Str)) = false := by decide)
    (he : starEach (e :: es) X.env = (false, eval e X.env) :: starEach es X.env := by rfl) (hpl : (backTo pos (starEach es X.env)).any (·.1) = false := by rfl) : QE X Wx (.Call (.Name x p) (e :: es) [] pos) (dN f mas) :=
  pe_imp (pe_callB hc hg hm hv ha hn hdb he hpl) fun σ H Q h => runN hf h
theorem q_callTy (hf : OpN X.K X.mg r f) (hc : CallR X (.type Tyn) r) (hg : Gl X x) (hm : X.mg x = none) (hv : bootBuiltins x = some (.type Tyn)) (ha : QA X Wx (e :: es) mas) (hn : x ≠ "__name__" := by decide) (hdb : (x == ("__debug__" : Str)) = false := by decide)
    (he : starEach (e :: es) X.env = (false, eval e X.env) :: starEach es X.env := by rfl) (hpl : (backTo pos (starEach es X.env)).any (·.1) = false := by rfl) : QE X Wx (.Call (.Name x p) (e :: es) [] pos) (dN f mas) :=
  pe_imp (pe_callTy hc hg hm hv ha hn hdb he hpl) fun σ H Q h => runN hf h
/-- of one value -/
def one (g : V.D → Option T) : List V.D → Option T
  | [d] => g d
  | _ => none
theorem opN_one {g : V.D → Option T} (h : ∀ {M H : Hp} {Q : VK} {v : V} {d : V.D} {t : T}, Le M H → Rep1 X.K X.mg M H v d → g d = some t → Res X.K X.mg M H Q t → r [v] H Q) : OpN X.K X.mg r (one g) := by
  intro M H Q xs ds t hl ra hm hp
  unfold one at hm
  split at hm
  · match xs, ra with
    | [v], .cons r1 .nil => exact h hl r1 hm hp
  · cases hm
/-! len -/
def lenD : V.D → Option Nat
  | .str z => if szOk z.length = true then some z.length else none
  | .dk _ l => some l.length
  | d => (seqD d).map List.length
def wLen : List V.D → Option T := one fun d => (lenD d).map fun (n : Nat) => .sh (.int (n : Int))
theorem call_lenDR : CallR X (.builtin "len") (fun xs H Q => ∃ a kvs, xs = [L2.V.ref a] ∧ Rd H a (.dK kvs) ∧ Q (.int kvs.length) H) := by
  intro pins s σ H xs us Q I r h
  obtain ⟨a, kvs, rfl, ha, q⟩ := h
  obtain ⟨u, rfl, ru⟩ := vals1 r
  cases ru
  exact d_len I ha fun t s' I' => ⟨.int kvs.length, H, I', ⟨t, rfl⟩, q⟩
def rLen (K : PySem.W.Frag) : List V → Hp → VK → Prop := fun xs H Q => (∃ x n, xs = [x] ∧ LenV K x H n ∧ Q (.int n) H) ∨ (∃ a kvs, xs = [L2.V.ref a] ∧ Rd H a (.dK kvs) ∧ Q (.int (kvs.length : Nat)) H)
theorem call_lenA : CallR X (.builtin "len") (rLen X.K) := .or call_len call_lenDR

theorem opN_len : OpN X.K X.mg (rLen X.K) wLen := opN_one fun {M H Q v d t} hl ra e hp => by
  obtain ⟨n, e0, rfl⟩ := Option.map_eq_some_iff.mp e
  unfold lenD at e0
  split at e0
  · split at e0
    · rename_i h
      cases e0
      exact .inl ⟨_, _, rfl, by rw [rep1_str ra]; exact ⟨szOk_iff.mp h, rfl⟩, hp.here hl (.int _)⟩
    · cases e0
  · cases e0
    obtain ⟨p, kvs, rfl, hr, _, rs⟩ := rep1_dk hl ra
    refine .inr ⟨p, kvs, rfl, hr, ?_⟩
    have el := rs.length
    rw [List.length_map] at el
    rw [el]
    exact hp.here hl (.int _)
  · obtain ⟨l, e1, rfl⟩ := Option.map_eq_some_iff.mp e0
    obtain ⟨p, vs, rfl, hq, rs⟩ := seqD_ok hl ra e1
    refine .inl ⟨_, l.length, rfl, ?_, hp.here hl (.int _)⟩
    rcases hq with hq | hq
    · exact .inl ⟨vs, hq, rs.length.symm⟩
    · exact .inr ⟨vs, hq, rs.length.symm⟩
/-! sum of whole numbers -/
def intsD : List V.D → Option (List Int)
  | [] => some []
  | .int i :: ds => (intsD ds).map (i :: ·)
  | _ => none
theorem ints_ok {K : PySem.W.Frag} {mg : Str → Option Value} {M : Hp} : ∀ {ds : List V.D} {vs : List V} {ns : List Int}, Reps K mg M vs ds → intsD ds = some ns → vs = ns.map L2.V.int
  | [], _, _, .nil, e => by simp [intsD] at e; subst e; rfl
  | .int i :: ds, _, _, .cons r t, e => by
    simp only [intsD, Option.map_eq_some_iff] at e
    obtain ⟨ns, e, rfl⟩ := e
    rw [rep_int r, ints_ok t e]
    rfl
def lstD : V.D → Option (List V.D)
  | .lst l => some l
  | .scr l => some l
  | _ => none
theorem lstD_ok {M H : Hp} {K : PySem.W.Frag} {mg : Str → Option Value} {v : V} {d : V.D} {l : List V.D} (hl : Le M H) (r : Rep1 K mg M H v d) (e : lstD d = some l) : ∃ a vs, v = .ref a ∧ SqL K H a vs ∧ Reps K mg M vs l := by
  unfold lstD at e
  split at e
  · cases e
    obtain ⟨a, vs, rfl, h, r⟩ := rep1_lst hl r
    exact ⟨a, vs, rfl, .of h, r⟩
  · cases e
    exact rep1_scr hl r
  · cases e
def wSum : List V.D → Option T := one fun d => (lstD d).bind fun l => (intsD l).map fun ns => .sh (.int ns.sum)
theorem opN_sum : OpN X.K X.mg (rSum X.K) wSum := opN_one fun {M H Q v d t} hl ra e hp => by
  obtain ⟨l, e1, e2⟩ := Option.bind_eq_some_iff.mp e
  obtain ⟨ns, e3, rfl⟩ := Option.map_eq_some_iff.mp e2
  obtain ⟨p, vs, rfl, hq, rs⟩ := lstD_ok hl ra e1
  rw [ints_ok rs e3] at hq
  exact ⟨p, ns, rfl, hq, hp.here hl (.int _)⟩
/-! min, max of two -/
def two (g : Int → Int → Int) : List V.D → Option T
  | [.int i, .int j] => some (.sh (.int (g i j)))
  | _ => none
theorem opN_two {g : Int → Int → Int} : OpN X.K X.mg (fun xs H Q => ∃ i j, xs = [.int i, .int j] ∧ Q (.int (g i j)) H) (two g) := by
  intro M H Q xs ds t hl ra hm hp
  unfold two at hm
  split at hm
  · rename_i i j
    match xs, ra with
    | [u, v], .cons r1 (.cons r2 .nil) =>
      cases hm
      exact ⟨i, j, by rw [rep1_int r1, rep1_int r2], hp.here hl (.int _)⟩
  · cases hm
def wMin : List V.D → Option T := two fun i j => if j < i then j else i
def wMax : List V.D → Option T := two fun i j => if j > i then j else i
theorem opN_min : OpN X.K X.mg (fun xs H Q => ∃ i j, xs = [.int i, .int j] ∧ Q (.int (if j < i then j else i)) H) wMin := opN_two
theorem opN_max : OpN X.K X.mg (fun xs H Q => ∃ i j, xs = [.int i, .int j] ∧ Q (.int (if j > i then j else i)) H) wMax := opN_two
/-! int -/
def wInt : List V.D → Option T := one fun d => match d with
  | .int i => some (.sh (.int i))
  | .bl b => some (.sh (.int (if b then 1 else 0)))
  | _ => none
def rIntT : List V → Hp → VK → Prop := fun xs H Q => (∃ i, xs = [.int i] ∧ Q (.int i) H) ∨ ∃ k, xs = [.bl k] ∧ Q (.int (if k then 1 else 0)) H
theorem opN_int : OpN X.K X.mg rIntT wInt := opN_one (r := rIntT) fun {M H Q v d t} hl ra e hp => by
  split at e
  · cases e; exact .inl ⟨_, by rw [rep1_int ra], hp.here hl (.int _)⟩
  · cases e; exact .inr ⟨_, by rw [rep1_bl ra], hp.here hl (.int _)⟩
  · cases e
/-! list, tuple of a list or a tuple -/
def wList : List V.D → Option T := one fun d => (seqD d).map fun l => .ow (.lst l)
def rList (K : PySem.W.Frag) : List V → Hp → VK → Prop := fun xs H Q => ∃ p ys, xs = [.ref p] ∧ (SqL K H p ys ∨ SqT K H p ys) ∧ ∀ l, H l = none → Q (.ref l) (upd H l (.lst ys))
theorem opN_list : OpN X.K X.mg (rList X.K) wList := opN_one fun {M H Q v d t} hl ra e hp => by
  obtain ⟨l, e1, rfl⟩ := Option.map_eq_some_iff.mp e
  obtain ⟨p, vs, rfl, hq, rs⟩ := seqD_ok hl ra e1
  exact ⟨p, vs, rfl, hq, fun q nq => hp.own hl nq (.lst rs)⟩
def wTuple : List V.D → Option T := one fun d => (seqD d).map fun l => .sh (.tup l)
def rTupleQ (K : PySem.W.Frag) : List V → Hp → VK → Prop := fun xs H Q => ∃ p ys, xs = [.ref p] ∧ ((SqL K H p ys ∧ ∀ l, H l = none → Q (.ref l) (upd H l (.tup ys))) ∨ (SqT K H p ys ∧ Q (.ref p) H))
theorem opN_tuple : OpN X.K X.mg (rTupleQ X.K) wTuple := opN_one fun {M H Q v d t} hl ra e hp => by
  obtain ⟨l, e1, rfl⟩ := Option.map_eq_some_iff.mp e
  cases d with
  | tup l' =>
    cases e1
    obtain ⟨a, vs, rfl, h0, h1, r1⟩ := rep1_tup hl ra
    exact ⟨a, vs, rfl, .inr ⟨.of h1, hp.here hl (.tup h0 r1)⟩⟩
  | lst l' =>
    cases e1
    obtain ⟨a, vs, rfl, h1, r1⟩ := rep1_lst hl ra
    exact ⟨a, vs, rfl, .inl ⟨.of h1, fun q nq => hp.new hl nq fun le => .tup upd_same (r1.le le)⟩⟩
  | scr l' =>
    cases e1
    obtain ⟨a, vs, rfl, h1, r1⟩ := rep1_scr hl ra
    exact ⟨a, vs, rfl, .inl ⟨h1, fun q nq => hp.new hl nq fun le => .tup upd_same (r1.le le)⟩⟩
  | _ => cases e1
/-! dict of a dict -/
def wDict : List V.D → Option T := one fun d => match d with
  | .dk ks l => some (.ow (.dk ks l))
  | _ => none
def rDictD : List V → Hp → VK → Prop := fun xs H Q => ∃ (a : Addr) (kvs : List (Key × V)), xs = [.ref a] ∧ Rd H a (.dK kvs) ∧ ∀ p, H p = none → Q (.ref p) (upd H p (.dK kvs))
theorem opN_dict : OpN X.K X.mg rDictD wDict := opN_one fun {M H Q v d t} hl ra e hp => by
  split at e
  · cases e
    obtain ⟨p, kvs, rfl, hr, rfl, rs⟩ := rep1_dk hl ra
    exact ⟨p, kvs, rfl, hr, fun q nq => hp.own hl nq (.dk rfl rs)⟩
  · cases e
/-! isinstance with a built-in class -/
inductive Ty where
  | non | bl | int | str | tup | lst | dk
  deriving DecidableEq
def Ty.nm : Ty → String
  | .non => "NoneType" | .bl => "bool" | .int => "int" | .str => "str" | .tup => "tuple" | .lst => "list" | .dk => "dict"
def Ty.sub (t T : Ty) : Bool := decide (t = T) || (decide (t = .bl) && decide (T = .int))
theorem kit_sub (t T : Ty) : kitB t.nm T.nm = some (t.sub T) := by cases t <;> cases T <;> decide +kernel

def tyD : V.D → Option Ty
  | .non => some .non
  | .bl _ => some .bl
  | .int _ => some .int
  | .str _ => some .str
  | .tup _ => some .tup
  | .lst _ => some .lst
  | .dk _ _ => some .dk
  | _ => none
theorem tyD_ok {K : PySem.W.Frag} {mg : Str → Option Value} {M H : Hp} {v : V} {w : V.D} {t : Ty} (hl : Le M H) (r : Rep1 K mg M H v w) (e : tyD w = some t) : TyX K H v (.type t.nm) := by
  unfold tyD at e
  split at e
  · cases e; rw [rep1_non r]; exact .base .non
  · cases e; rw [rep1_bl r]; exact .base (.bl _)
  · cases e; rw [rep1_int r]; exact .base (.int _)
  · cases e; rw [rep1_str r]; exact .base (.str _)
  · cases e
    obtain ⟨a, vs, rfl, _, h, _⟩ := rep1_tup hl r
    exact .base (.tup h)
  · cases e
    obtain ⟨a, vs, rfl, h, _⟩ := rep1_lst hl r
    exact .base (.lst h)
  · cases e
    obtain ⟨a, kvs, rfl, h, _, _⟩ := rep1_dk hl r
    rcases h with h | ⟨o, h⟩
    · exact .base (.dK h)
    · exact .fDict h
  · cases e
def wIsi (T : Ty) : V.D → Option V.T := fun d => (tyD d).map fun t => .sh (.bl (t.sub T))
theorem q_isi (T : Ty) {tn : Str} {p2 : Pos} (hg : Gl X "isinstance") (hm : X.mg "isinstance" = none) (hgT : Gl X tn) (hmT : X.mg tn = none) (hvT : bootBuiltins tn = some (.type T.nm)) (ha : QE X Wx a ma) (hv : bootBuiltins "isinstance" = some (.builtin "isinstance") := by decide +kernel)
    (hnT : tn ≠ "__name__" := by decide) (hdT : (tn == ("__debug__" : Str)) = false := by decide)
    (h1 : starEach [a, .Name tn p2] X.env = (false, eval a X.env) :: starEach [.Name tn p2] X.env := by rfl) (h2 : starEach [.Name tn p2] X.env = (false, eval (.Name tn p2) X.env) :: starEach [] X.env := by rfl)
    (hpl : (backTo pos (starEach [.Name tn p2] X.env)).any (·.1) = false := by rfl) : QE X Wx (.Call (.Name "isinstance" p) [a, .Name tn p2] [] pos) (d1 (wIsi T) ma) := by
  refine pe_imp (pe_callB call_isi hg hm hv (pa_cons ha (pa_cons (pe_bltn (v := .ty T.nm) hgT hmT hvT rfl hnT hdT) pa_nil h2) h1) (he := h1) (hpl := hpl)) fun σ H Q h => ?_
  refine (run_bind (sa := shE) h).mono fun v H1 h1 => ?_
  obtain ⟨M, hs, L, ρ, z, s, l, q, al, hp⟩ := h1
  obtain ⟨d, e1, hp⟩ := rd_ok hp
  obtain ⟨t, ef, hp⟩ := ans_ok hp
  obtain ⟨t0, e2, rfl⟩ := Option.map_eq_some_iff.mp ef
  exact ⟨v, .ty T.nm, .type t0.nm, .type T.nm, t0.sub T, rfl, .ty _, tyD_ok s.le (zd_ok s l (mem1 q) al e1) e2, kit_ty (kit_sub t0 T), (hp.res s.right l fun r hr => List.mem_append_right _ hr).here s.le (.bl _)⟩
/-! list(reversed(l)) -/
def tLstRev (K : PySem.W.Frag) (te : TE) : TE := fun σ H Q => te σ H fun v H1 => ∃ (a : Addr) (xs : List V), v = .ref a ∧ SqL K H1 a xs ∧ ∀ q, H1 q = none → Q (.ref q) (upd H1 q (.lst xs.reverse))
theorem pe_lstRev {te : TE} (hx : X.ex = []) (hc : X.calm = true) (hg : Gl X "list") (hm : X.mg "list" = none) (hg2 : Gl X "reversed") (hm2 : X.mg "reversed" = none) (he : PE X e te)
    (hs : starEach [e] X.env = (false, eval e X.env) :: starEach [] X.env := by rfl)
    (hs2 : starEach [.Call (.Name "reversed" p2) [e] [] pos2] X.env = (false, eval (.Call (.Name "reversed" p2) [e] [] pos2) X.env) :: starEach [] X.env := by rfl) :
    PE X (.Call (.Name "list" p) [.Call (.Name "reversed" p2) [e] [] pos2] [] pos) (tLstRev X.K te) := by
  refine ⟨fun pins s σ H Q I h => ?_⟩
  refine Call_ (ld_blt I hg hm boot_list (PyProof.Rows.callWith_type1 (args_cons (Call_ (ld_blt I hg2 hm2 PyProof.Rows.boot_reversed (PyProof.Rows.callWith_type1 (args_cons (thn (he.run pins s σ H _ I h) fun u s1 ⟨v, H1, I1, r1, q1⟩ => args_nil ?_) hs) hs rfl))) hs2) hs2 rfl))
  obtain ⟨a, xs, ev, hq, q⟩ := q1
  subst ev
  obtain rfl : u = Value.ref a := r1
  obtain ⟨its, rv, p', hz⟩ := I1.list hq
  refine call_reversed_list p'.isList (args_nil ?_)
  have k0 : ∀ b o, s1.heap.get? b = some o → (s1.heap.push (revObj a ((its.toArray.size : Int) - 1))).get? b = some o := fun b o e => Heap.get?_push_of_some _ e
  have I2 : L2.Inv X pins σ H1 { s1 with heap := s1.heap.push (revObj a ((its.toArray.size : Int) - 1)) } := I1.kept (t' := s1.toks) k0
  obtain ⟨f0, f1, f2, f3, f4, f5⟩ := I1.fpOk (H' := H1) (b := s1.heap.objs.size) (Nat.le_refl _) (I1.hok.fresh (Nat.le_refl _))
  have hl := p'.isList
  obtain ⟨ol, hol, _⟩ := id hl
  have hne : a ≠ s1.heap.objs.size := Nat.ne_of_lt (Heap.lt_size hol)
  have hn : its.toArray.size ≤ sizeLine := by rw [List.size_toArray, ← rv.length]; exact hz
  refine call_list_rev (s := { s1 with heap := s1.heap.push (revObj a ((its.toArray.size : Int) - 1)) }) (I1.ok.hd hc) ⟨_, Heap.get?_push_size _ rfl, rfl, rfl⟩ (hl.push _) hne hn fun h' tk acc c' hk hS hi => ?_
  have hS0 : H1 (s1.heap.push (revObj a ((its.toArray.size : Int) - 1))).objs.size = none := I2.hok.fresh (Nat.le_refl _)
  have I3 : L2.Inv X pins σ H1 { s1 with heap := h', toks := tk } := I2.turned (t' := tk) (fun b o hb e => hk b o hb e) f0 f1 f3 f4 f5
  have hz2 : xs.reverse.length ≤ sizeLine := by rw [List.length_reverse]; exact hz
  have okN : ObjOk X.prog X.w (upd H1 (s1.heap.push (revObj a ((its.toArray.size : Int) - 1))).objs.size (.lst xs.reverse)) h' (s1.heap.push (revObj a ((its.toArray.size : Int) - 1))).objs.size (.lst xs.reverse) := ⟨hz2, acc.toList, c', vals_rev rv hi, by rw [Array.toArray_toList]; exact hS⟩
  have hlt : X.env.locals < s1.heap.objs.size := I1.lt
  refine ⟨.ref _, upd H1 _ (.lst xs.reverse), inv_track (s := { s1 with heap := h', toks := tk }) I3 hS0 _ hS (fun v z => by cases z) ?_ hx I2 (Heap.get?_none_of_le (Nat.le_refl _)) okN, rfl, q _ hS0⟩
  intro z
  have e1 : (s1.heap.push (revObj a ((its.toArray.size : Int) - 1))).objs.size = s1.heap.objs.size + 1 := by rw [Heap.size_push]
  exact absurd hlt (by rw [← z, e1]; exact Nat.not_lt.mpr (Nat.le_succ _))

def wRev : V.D → Option T := fun d => (lstD d).map fun l => .ow (.lst l.reverse)
theorem q_lstRev (hx : X.ex = []) (hc : X.calm = true) (hg : Gl X "list") (hm : X.mg "list" = none) (hg2 : Gl X "reversed") (hm2 : X.mg "reversed" = none) (he : QE X Wx e me)
    (hs : starEach [e] X.env = (false, eval e X.env) :: starEach [] X.env := by rfl)
    (hs2 : starEach [.Call (.Name "reversed" p2) [e] [] pos2] X.env = (false, eval (.Call (.Name "reversed" p2) [e] [] pos2) X.env) :: starEach [] X.env := by rfl) :
    QE X Wx (.Call (.Name "list" p) [.Call (.Name "reversed" p2) [e] [] pos2] [] pos) (d1 wRev me) := pe_imp (pe_lstRev hx hc hg hm hg2 hm2 he hs hs2) fun σ H Q h => by
  refine (run_bind (sa := shE) h).mono fun v H1 h1 => ?_
  obtain ⟨M, hs, L, ρ, z, s, l, q, al, hp⟩ := h1
  obtain ⟨d, e1, hp⟩ := rd_ok hp
  obtain ⟨t, ef, hp⟩ := ans_ok hp
  obtain ⟨l', e2, rfl⟩ := Option.map_eq_some_iff.mp ef
  obtain ⟨a, vs, rfl, hq, rs⟩ := lstD_ok s.le (zd_ok s l (mem1 q) al e1) e2
  exact ⟨a, vs, rfl, hq, fun q nq => (hp.res s.right l fun r hr => List.mem_append_right _ hr).own s.le nq (.lst rs.reverse)⟩
/-! sep.join(texts) -/
def strsD : List V.D → Option (List Str)
  | [] => some []
  | .str z :: ds => (strsD ds).map (z :: ·)
  | _ => none
theorem strsD_ok {K : PySem.W.Frag} {mg : Str → Option Value} {M : Hp} : ∀ {ds : List V.D} {vs : List V} {ns : List Str}, Reps K mg M vs ds → strsD ds = some ns → vs = ns.map L2.V.str
  | [], _, _, .nil, e => by simp [strsD] at e; subst e; rfl
  | .str i :: ds, _, _, .cons r t, e => by
    simp only [strsD, Option.map_eq_some_iff] at e
    obtain ⟨ns, e, rfl⟩ := e
    rw [rep_str r, strsD_ok t e]
    rfl
def jnOk (zs : List Str) (a : Str) : Bool := decide ((zs.map (·.length)).sum + zs.length * a.length ≤ 16777216)
def wJoin : V.D → V.D → Option T := fun x y => match x with
  | .str a => (seqD y).bind fun l => (strsD l).bind fun zs => if jnOk zs a = true then some (.sh (.str (Str.join a zs))) else none
  | _ => none
def isStr (z : Z) (k : DE) : DE := fun ρ => match zd ρ z with
  | some (.str _) => k ρ
  | _ => .stk
def dStrM (g : V.D → V.D → Option T) (mo me : DE) : DE := bnd mo fun x => isStr x (bnd me fun y => rd x fun d => rd y fun e => ans (g d e))
def rJoin (K : PySem.W.Frag) : V → List V → Hp → VK → Prop := fun x xs H Q => ∃ a p, ∃ ys : List Str, x = .str a ∧ xs = [.ref p] ∧ (SqL K H p (ys.map L2.V.str) ∨ SqT K H p (ys.map L2.V.str)) ∧
      (ys.map (·.length)).sum + ys.length * a.length ≤ 16777216 ∧ Q (.str (Txt.join a ys)) H
theorem op2_join : Op2 X.K X.mg (fun x y H Q => rJoin X.K x [y] H Q) wJoin := by
  intro M H Q x y a b t hl ra rb hm hp
  unfold wJoin at hm
  split at hm
  · rename_i z
    obtain ⟨l, e1, e2⟩ := Option.bind_eq_some_iff.mp hm
    obtain ⟨zs, e3, e4⟩ := Option.bind_eq_some_iff.mp e2
    split at e4
    · rename_i h
      cases e4
      obtain ⟨p, vs, rfl, hq, rs⟩ := seqD_ok hl rb e1
      rw [strsD_ok rs e3] at hq
      exact ⟨z, p, zs, rep1_str ra, rfl, hq, of_decide_eq_true h, by rw [TL.join_eq]; exact hp.here hl (.str _)⟩
    · cases e4
  · cases hm
theorem q_join (ho : QE X Wx o mo) (he : QE X Wx e me) (hs : starEach [e] X.env = [(false, eval e X.env)] := by rfl) (hbase : attributeBase o "join" X.env (eval o X.env) = eval o X.env := by rfl) (hline : (apos.endLine == pos.line) = true := by rfl) :
    QE X Wx (.Call (.Attribute o "join" apos) [e] [] pos) (dStrM wJoin mo me) := pe_imp (pe_join ho he hs hbase hline) fun σ H Q h => by
  refine (run_bind (sa := shE) h).mono fun v H1 h1 => ?_
  obtain ⟨M, hs, L, ρ, z, s, l, q, al, hp⟩ := h1
  dsimp only [isStr] at hp
  cases hz : zd ρ z with
  | none => rw [hz] at hp; exact hp.elim
  | some d =>
    rw [hz] at hp
    cases d with
    | str a =>
      refine ⟨⟨a, rep1_str (zd_ok s l (mem1 q) al hz)⟩, ?_⟩
      have hM : Mid X.K X.mg shE shE Wx (fun x => bnd me fun y => rd x fun d => rd y fun e => ans (wJoin d e)) σ Q v H1 := ⟨M, hs, L, ρ, z, s, l, q, al, hp⟩
      refine (mid_bind (sb := shE) (f := fun x y => rd x fun d => rd y fun e => ans (wJoin d e)) stays_E hM).mono fun u H2 h2 => ?_
      obtain ⟨M, hs, L, ρ, ⟨z1, z2⟩, s, l, q, al, hp⟩ := h2
      obtain ⟨d, e1, hp⟩ := rd_ok hp
      obtain ⟨e, e2, hp⟩ := rd_ok hp
      obtain ⟨t, ef, hp⟩ := ans_ok hp
      refine op2_join s.le (zd_ok s l ?_ al.1 e1) (zd_ok s l ?_ al.2 e2) ef (hp.res s.right l fun r hr => List.mem_append_right _ hr)
      · rw [q]; exact List.mem_append_left _ (List.mem_singleton.mpr rfl)
      · rw [q]; exact List.mem_append_right _ (List.mem_singleton.mpr rfl)
    | _ => exact hp.elim
/-- a method that reads: by values -/
def rdm (f : V.D → List V.D → Option T) (z : Z) (zs : List Z) : DE := rd z fun d => rds zs fun ds => ans (f d ds)
def OpM (K : PySem.W.Frag) (mg : Str → Option Value) (r : V → List V → Hp → VK → Prop) (f : V.D → List V.D → Option T) : Prop := ∀ {M H : Hp} {Q : VK} {x : V} {xs : List V} {d : V.D} {ds : List V.D} {t : T},
  Le M H → Rep1 K mg M H x d → Rep1s K mg M H xs ds → f d ds = some t → Res K mg M H Q t → r x xs H Q
theorem rdm_ok {rm : V → List V → Hp → VK → Prop} {f : V.D → List V.D → Option T} (hf : OpM X.K X.mg rm f) {M H : Hp} {hs L : List Rt} {σ : L2.St} {ρ : Env} {Q : VK} {E : XK} {z : Z} {zs : List Z} {v : V} {vs : List V} (s : S X.K X.mg M H (hs ++ L)) (l : SL L σ ρ) (hz : (some v, zt z) ∈ hs.map vt) (hh : ∀ p ∈ (vs.map some).zip (zs.map zt), p ∈ hs.map vt) (al : Al L v z) (als : Als L vs zs)
    (hp : Post X.K X.mg shE E M H (hs ++ L) σ Q (rdm f z zs ρ)) : rm v vs H Q := by
  obtain ⟨d, e1, hp⟩ := rd_ok hp
  obtain ⟨ds, e2, hp⟩ := rds_ok hp
  obtain ⟨t, ef, hp⟩ := ans_ok hp
  exact hf s.le (zd_ok s l hz al e1) (zds_ok s l hh als e2) ef (hp.res s.right l fun r hr => List.mem_append_right _ hr)
/-! l.count(v), l.index(v) -/
theorem mt_countD (hu : X.A.units + 200 < cLine) : MtR X "list.count" (fun x xs H Q => ∃ (a : Addr) (y : V) (d : PyData) (ds : List PyData), x = L2.V.ref a ∧ xs = [y] ∧ Dp X.K H (L2.V.ref a) (.list ds) ∧ Dp X.K H y d ∧ PyData.canLayAll0 ds = true ∧ d.canLay0 = true ∧ d.depth ≤ 100 ∧ Q (.int ((ds.countP fun z => PyData.eqv z d : Nat) : Int)) H) := by
  intro pins s σ H x xs v us Q I rx rxs h
  obtain ⟨a, y, d, ds, rfl, rfl, hl, hy, c1, c2, c3, q⟩ := h
  cases rx
  cases rxs with
  | cons ry rt =>
    rename_i uy ut
    cases rt
    obtain ⟨bs, r1⟩ := Dp.reads I d y uy hy ry
    have hroom : X.A.units + 1 + min (PyData.depthAll ds) d.depth < cLine := by omega
    cases hl with
    | lst hs ha =>
      obtain ⟨its, rv, ⟨⟨cls, dd, data, sls⟩, n, ho, hc, hdn, hdt⟩, hlen⟩ := I.list hs
      simp only at hc hdt
      subst hc hdt
      obtain ⟨as, h4⟩ := Dp.readsAll I ds _ its ha rv
      have hmap : its.map (SeqAt.readOf s.heap) = ds := SeqAt.readsAll_map ds its as c1 h4
      refine call_meets PySem.F.slot_list_count ⟨_, ho, rfl⟩ PySem.F.entry_list_count (PySem.F.args_list_count_2 _ _)
        (SeqAt.list_countAt a its.toArray n dd sls uy (fun u => PyData.eqv (SeqAt.readOf s.heap u) d)) ⟨ho, SeqAt.items_eqAt (vs := its.toArray) (show ReadsAll s.heap its.toArray.toList ds as from h4) r1 c1 c2 hroom, ?_⟩
      have ec : its.toArray.toList.countP (fun u => PyData.eqv (SeqAt.readOf s.heap u) d) = ds.countP fun z => PyData.eqv z d := by
        rw [← hmap, List.countP_map] <;> rfl
      refine ⟨.int ((ds.countP fun z => PyData.eqv z d : Nat) : Int), H, I.tok _, ⟨s.toks, ?_⟩, q⟩
      rw [← ec]

def rCountD (K : PySem.W.Frag) : V → List V → Hp → VK → Prop := fun x xs H Q => ∃ (a : Addr) (y : V) (d : PyData) (ds : List PyData), x = L2.V.ref a ∧ xs = [y] ∧ Dp K H (L2.V.ref a) (.list ds) ∧ Dp K H y d ∧ PyData.canLayAll0 ds = true ∧ d.canLay0 = true ∧ d.depth ≤ 100 ∧ Q (.int ((ds.countP fun z => PyData.eqv z d : Nat) : Int)) H
def wCount : V.D → List V.D → Option T
  | w, [y] => match py w, py y with
    | some (.list ds), some d => if inOk d ds = true then some (.sh (.int ((ds.countP fun z => PyData.eqv z d : Nat) : Int))) else none
    | _, _ => none
  | _, _ => none
theorem opM_count : OpM X.K X.mg (rCountD X.K) wCount := by
  intro M H Q x xs d ds t hl ra rs hm hp
  unfold wCount at hm
  split at hm
  · rename_i y
    match xs, rs with
    | [y'], .cons r1 .nil =>
      split at hm
      · rename_i ds d e1 e2
        split at hm
        · rename_i ok
          cases hm
          simp only [inOk, Bool.and_eq_true, decide_eq_true_eq] at ok
          have d1 := (ra.full hl).dp e1
          have d2 := (r1.full hl).dp e2
          cases id d1 with
          | lst _ _ => exact ⟨_, y', d, ds, rfl, rfl, d1, d2, ok.1.2, ok.1.1, ok.2, hp.here hl (.int _)⟩
        · cases hm
      · cases hm
  · cases hm
/-- the first place of an equal one -/
theorem mt_indexQ (hu : X.A.units + 200 < cLine) : MtR X "list.index" (fun x xs H Q => ∃ (a : Addr) (y : V) (d : PyData) (ds : List PyData) (j : Nat), x = L2.V.ref a ∧ xs = [y] ∧ Dp X.K H (L2.V.ref a) (.list ds) ∧ Dp X.K H y d ∧ PyData.canLayAll0 ds = true ∧ d.canLay0 = true ∧ d.depth ≤ 100 ∧ (ds.findIdx? fun z => PyData.eqv z d) = some j ∧ Q (.int (j : Nat)) H) := by
  intro pins s σ H x xs v us Q I rx rxs h
  obtain ⟨a, y, d, ds, j, rfl, rfl, hl, hy, c1, c2, c3, hj, q⟩ := h
  cases rx
  cases rxs with
  | cons ry rt =>
    rename_i uy ut
    cases rt
    obtain ⟨bs, r1⟩ := Dp.reads I d y uy hy ry
    have hroom : X.A.units + 1 + min (PyData.depthAll ds) d.depth < cLine := by omega
    cases hl with
    | lst hs ha =>
      obtain ⟨its, rv, ⟨⟨cls, dd, data, sls⟩, n, ho, hc, hdn, hdt⟩, hlen⟩ := I.list hs
      simp only at hc hdt
      subst hc hdt
      obtain ⟨as, h4⟩ := Dp.readsAll I ds _ its ha rv
      have hn : its.length = ds.length := SeqAt.ReadsAll.length ds its as h4
      have hmap : its.map (SeqAt.readOf s.heap) = ds := SeqAt.readsAll_map ds its as c1 h4
      have hvl := rv.length
      have hsl := sizeLine_eq
      obtain ⟨hjd, hj1, hj2⟩ := List.findIdx?_eq_some_iff_getElem.mp hj
      have hjl : j < its.length := by omega
      have hjs : j < its.toArray.size := by simpa using hjl
      have at_ : ∀ (m : Nat) (hm : m < its.toArray.size) (hm2 : m < ds.length), SeqAt.readOf s.heap its.toArray[m] = ds[m] := by
        intro m hm hm2
        have hml : m < its.length := by simpa using hm
        have e1 : (its.map (SeqAt.readOf s.heap))[m]? = ds[m]? := by rw [hmap]
        rw [List.getElem?_map, List.getElem?_eq_getElem hml, List.getElem?_eq_getElem hm2] at e1
        have e2 : SeqAt.readOf s.heap its[m] = ds[m] := Option.some.inj e1
        simpa using e2
      refine call_meets PySem.F.slot_list_index ⟨_, ho, rfl⟩ PySem.F.entry_list_index (PySem.F.args_list_index_2 _ _)
        (SeqAt.list_indexAt a its.toArray n dd sls uy (fun u => PyData.eqv (SeqAt.readOf s.heap u) d) j hjs (by omega) ?_ ?_) ⟨ho, SeqAt.items_eqAt (vs := its.toArray) (show ReadsAll s.heap its.toArray.toList ds as from h4) r1 c1 c2 hroom, ?_⟩
      · show PyData.eqv (SeqAt.readOf s.heap its.toArray[j]) d = true
        rw [at_ j hjs hjd]
        exact hj1
      · intro m hm hmj
        show PyData.eqv (SeqAt.readOf s.heap its.toArray[m]) d = false
        rw [at_ m hm (by omega)]
        exact Bool.eq_false_iff.mpr (hj2 m hmj)
      · exact ⟨.int (j : Nat), H, I.tok _, ⟨_, rfl⟩, q⟩

def wIndex : V.D → List V.D → Option T
  | w, [y] => match py w, py y with
    | some (.list ds), some d => if inOk d ds = true then (ds.findIdx? fun z => PyData.eqv z d).map fun j => .sh (.int ((j : Nat) : Int)) else none
    | _, _ => none
  | _, _ => none
def rIndexQ (K : PySem.W.Frag) : V → List V → Hp → VK → Prop := fun x xs H Q => ∃ (a : Addr) (y : V) (d : PyData) (ds : List PyData) (j : Nat), x = L2.V.ref a ∧ xs = [y] ∧ Dp K H (L2.V.ref a) (.list ds) ∧ Dp K H y d ∧ PyData.canLayAll0 ds = true ∧ d.canLay0 = true ∧ d.depth ≤ 100 ∧ (ds.findIdx? fun z => PyData.eqv z d) = some j ∧ Q (.int (j : Nat)) H
theorem opM_index : OpM X.K X.mg (rIndexQ X.K) wIndex := by
  intro M H Q x xs d ds t hl ra rs hm hp
  unfold wIndex at hm
  split at hm
  · rename_i y
    match xs, rs with
    | [y'], .cons r1 .nil =>
      split at hm
      · rename_i ds d e1 e2
        split at hm
        · rename_i ok
          obtain ⟨j, e3, rfl⟩ := Option.map_eq_some_iff.mp hm
          simp only [inOk, Bool.and_eq_true, decide_eq_true_eq] at ok
          have d1 := (ra.full hl).dp e1
          have d2 := (r1.full hl).dp e2
          cases id d1 with
          | lst _ _ => exact ⟨_, y', d, ds, j, rfl, rfl, d1, d2, ok.1.2, ok.1.1, ok.2, e3, hp.here hl (.int _)⟩
        · cases hm
      · cases hm
  · cases hm
theorem m_count (hu : X.A.units + 200 < cLine) (ho : QE X Wx o mo) (ha : QA X Wx (e :: es) mas) (z : MSide X o "count" apos pos e es := by exact ⟨rfl, rfl, rfl, rfl, rfl⟩) : QE X Wx (.Call (.Attribute o "count" apos) (e :: es) [] pos) (dBM isL (rdm wCount) mo mas) :=
  pe_imp (pe_bm PySem.F.plainAttrs_list PySem.F.slot_list_count PySem.F.type_list_count (mt_countD hu) ho ha z.1 z.2.1 z.2.2.1 z.2.2.2.1 z.2.2.2.2) fun _ _ _ h => run_bm isL_ty (rdm_ok opM_count) h
theorem m_index (hu : X.A.units + 200 < cLine) (ho : QE X Wx o mo) (ha : QA X Wx (e :: es) mas) (z : MSide X o "index" apos pos e es := by exact ⟨rfl, rfl, rfl, rfl, rfl⟩) : QE X Wx (.Call (.Attribute o "index" apos) (e :: es) [] pos) (dBM isL (rdm wIndex) mo mas) :=
  pe_imp (pe_bm PySem.F.plainAttrs_list PySem.F.slot_list_index PySem.F.type_list_index (mt_indexQ hu) ho ha z.1 z.2.1 z.2.2.1 z.2.2.2.1 z.2.2.2.2) fun _ _ _ h => run_bm isL_ty (rdm_ok opM_index) h
end
end V

set_option Elab.async false
set_option linter.all false
set_option maxRecDepth 100000
/-! V12: what is walked; comprehensions. -/
namespace V
open PySem PySem.Spec PyProof.Rows L2 RZ RT
section
variable {X : Cx} {Wx : WX} {tg it e e2 : Expr} {me : DE} {mas : P (List Z)} {pos p tpos : Pos} {elts : List Expr} {kk : Nat}
/-- a list or a tuple is walked -/
theorem pi_seq {l : Expr} {tl : TE} (hl : PE X l tl) : PI X tg l (fun σ H R => tl σ H fun x H1 => ∃ a, x = .ref a ∧ (((∃ xs, SqL X.K H1 a xs) ∧ R (Itl X.K a) H1) ∨ ((∃ xs, SqT X.K H1 a xs) ∧ R (Itt X.K a) H1))) := by
  refine ⟨fun pins s σ H R I h => ?_⟩
  refine thn (hl.run pins s σ H _ I h) fun v s1 ⟨x, H1, I1, r1, q1⟩ => ?_
  obtain ⟨a, e, q1⟩ := q1
  subst e
  cases r1
  rcases q1 with ⟨⟨xs, hq⟩, q⟩ | ⟨⟨xs, hq⟩, q⟩
  · obtain ⟨its, rv, p, hz⟩ := I1.list hq
    refine wpAny_pyIter_list p.isList ?_
    refine ⟨s1.heap.objs.size, [s1.heap.objs.size], _, _, H1, rfl, I1.kept (t' := s1.toks) fun b o e => Heap.get?_push_of_some _ e, turn_list a _, ⟨_, Heap.get?_push_size _ rfl, rfl, rfl⟩, fun b hb => ?_, q⟩
    have e : b = s1.heap.objs.size := by simpa using hb
    subst e
    exact I1.fpOk (Nat.le_refl _) (I1.hok.fresh (Nat.le_refl _))
  · obtain ⟨its, rv, p, hz⟩ := I1.tuple hq
    refine wpAny_pyIter_tuple (show s1.heap.IsTuple a its.toArray from p) ?_
    refine ⟨s1.heap.objs.size, [s1.heap.objs.size], _, _, H1, rfl, I1.kept (t' := s1.toks) fun b o e => Heap.get?_push_of_some _ e, turn_tuple a _, ⟨_, Heap.get?_push_size _ rfl, rfl, rfl⟩, fun b hb => ?_, q⟩
    have e : b = s1.heap.objs.size := by simpa using hb
    subst e
    exact I1.fpOk (Nat.le_refl _) (I1.hok.fresh (Nat.le_refl _))

/-- of one shared value: what is walked -/
def iOf (f : V.D → Option (List V.D)) (m : DE) : DI := bnd m fun z => fun ρ => match gt ρ z with
  | some (.sh d) => (match f d with
    | some ds => .ok ds ρ
    | none => .stk)
  | _ => .stk
theorem run_iOf {f : V.D → Option (List V.D)} {σ : L2.St} {H : Hp} {R : It → Hp → Prop} (h : TId X.K X.mg Wx (iOf f me) σ H R) : TEd X.K X.mg Wx me σ H fun v H1 => ∃ (M : Hp) (d : V.D) (ds : List V.D), Le M H1 ∧ Rep X.K X.mg M v d ∧ f d = some ds ∧ ∀ J, ItOk X.K X.mg M J ds → R J H1 := by
  refine (run_bind (sa := shE) h).mono fun v H1 h1 => ?_
  obtain ⟨M, hs, L, ρ, z, s, l, q, al, hp⟩ := h1
  dsimp only at hp
  cases hg : gt ρ z with
  | none => rw [hg] at hp; exact hp.elim
  | some t =>
    rw [hg] at hp
    cases t with
    | sh d =>
      dsimp only at hp
      cases hf : f d with
      | none => rw [hf] at hp; exact hp.elim
      | some ds =>
        rw [hf] at hp
        exact ⟨M, d, ds, s.le, shv s l (mem1 q) al hg, hf, fun J hJ => hp M H1 [] L J (Up.refl.sub fun r hr => List.mem_append_right _ hr) s.right l rfl hJ⟩
    | _ => exact hp.elim
/-- of shared values -/
def iOfN (f : List V.D → Option (List V.D)) (m : P (List Z)) : DI := bnd m fun zs => fun ρ => match shs ρ zs with
  | some es => (match f es with
    | some ds => .ok ds ρ
    | none => .stk)
  | none => .stk
theorem run_iOfN {f : List V.D → Option (List V.D)} {σ : L2.St} {H : Hp} {R : It → Hp → Prop} (h : TId X.K X.mg Wx (iOfN f mas) σ H R) : TAd X.K X.mg Wx mas σ H fun vs H1 => ∃ (M : Hp) (es : List V.D) (ds : List V.D), Le M H1 ∧ Reps X.K X.mg M vs es ∧ f es = some ds ∧ ∀ J, ItOk X.K X.mg M J ds → R J H1 := by
  refine (run_bind (sa := shA) h).mono fun v H1 h1 => ?_
  obtain ⟨M, hs, L, ρ, z, s, l, q, al, hp⟩ := h1
  dsimp only at hp
  cases hg : shs ρ z with
  | none => rw [hg] at hp; exact hp.elim
  | some es =>
    rw [hg] at hp
    dsimp only at hp
    cases hf : f es with
    | none => rw [hf] at hp; exact hp.elim
    | some ds =>
      rw [hf] at hp
      exact ⟨M, es, ds, s.le, shs_ok s l (fun p hp => by rw [q]; exact hp) al hg, hf, fun J hJ => hp M H1 [] L J (Up.refl.sub fun r hr => List.mem_append_right _ hr) s.right l rfl hJ⟩
/-- a visible list, a visible tuple, as they stand later -/
theorem seq_later {M H : Hp} {v : V} {d : V.D} {l : List V.D} (r : Rep X.K X.mg M v d) (e : seqD d = some l) : ∃ a vs, v = .ref a ∧ Reps X.K X.mg M vs l ∧ ((∀ M1 H1, (∀ a o, M a = some o → M1 a = some o) → Le M1 H1 → SqL X.K H1 a vs) ∨ (∀ M1 H1, (∀ a o, M a = some o → M1 a = some o) → Le M1 H1 → SqT X.K H1 a vs)) := by
  unfold seqD at e
  split at e
  · cases e
    cases r with
    | tup h rs => exact ⟨_, _, rfl, rs, .inr fun M1 H1 hm hl => .of (hl.ex (hm _ _ h) rfl)⟩
  · cases e
    cases r with
    | lst h rs => exact ⟨_, _, rfl, rs, .inl fun M1 H1 hm hl => .of (hl.ex (hm _ _ h) rfl)⟩
  · cases e
    cases r with
    | scr h rs =>
      refine ⟨_, _, rfl, rs, .inl fun M1 H1 hm hl => ?_⟩
      rcases h with ⟨o, h⟩ | h
      · exact .inl (.inr ⟨o, hl.ex (hm _ _ h) rfl⟩)
      · exact .inr h
  · cases e
theorem itOk_list {M : Hp} {a : Addr} {vs : List V} {l : List V.D} (r : Reps X.K X.mg M vs l) (h : ∀ M1 H1, (∀ a o, M a = some o → M1 a = some o) → Le M1 H1 → SqL X.K H1 a vs) : ItOk X.K X.mg M (Itl X.K a) l := by
  intro M1 H1 hm hl
  have hq := h M1 H1 hm hl
  refine ⟨⟨vs, hq, by rw [r.length]; exact Nat.le_refl _⟩, fun i d hd => ?_⟩
  obtain ⟨x, hx, rx⟩ := r.get hd
  refine ⟨⟨vs, x, hq, hx⟩, fun y H2 hy => ?_⟩
  obtain ⟨rfl, h2⟩ := hy
  have q := h2 vs hq
  rw [hx] at q
  cases q
  exact ⟨M1, .refl, hl, rx.le (le_mm hm)⟩
theorem itOk_tup {M : Hp} {a : Addr} {vs : List V} {l : List V.D} (r : Reps X.K X.mg M vs l) (h : ∀ M1 H1, (∀ a o, M a = some o → M1 a = some o) → Le M1 H1 → SqT X.K H1 a vs) : ItOk X.K X.mg M (Itt X.K a) l := by
  intro M1 H1 hm hl
  have hq := h M1 H1 hm hl
  refine ⟨⟨vs, hq, by rw [r.length]; exact Nat.le_refl _⟩, fun i d hd => ?_⟩
  obtain ⟨x, hx, rx⟩ := r.get hd
  refine ⟨⟨vs, x, hq, hx⟩, fun y H2 hy => ?_⟩
  obtain ⟨rfl, h2⟩ := hy
  have q := h2 vs hq
  rw [hx] at q
  cases q
  exact ⟨M1, .refl, hl, rx.le (le_mm hm)⟩
theorem mm_refl {M : Hp} : ∀ a o, M a = some o → M a = some o := fun _ _ h => h
theorem qi_seq (he : QE X Wx e me) : QI X Wx tg e (iOf seqD me) := pi_imp (pi_seq he) fun σ H R h => (run_iOf h).mono fun v H1 ⟨M, d, ds, hl, rw, hf, hR⟩ => by
  obtain ⟨a, vs, rfl, rs, hq⟩ := seq_later (H := H1) rw hf
  refine ⟨a, rfl, ?_⟩
  rcases hq with hq | hq
  · exact .inl ⟨⟨vs, hq M H1 mm_refl hl⟩, hR _ (itOk_list rs hq)⟩
  · exact .inr ⟨⟨vs, hq M H1 mm_refl hl⟩, hR _ (itOk_tup rs hq)⟩
/-! a text -/
def strP : V.D → Option (List V.D)
  | .str z => some (z.cps.toList.map fun c => .str ⟨#[c]⟩)
  | _ => none
theorem qi_str (he : QE X Wx e me) : QI X Wx tg e (iOf strP me) := pi_imp (pi_str he) fun σ H R h => (run_iOf h).mono fun v H1 ⟨M, d, ds, hl, rw, hf, hR⟩ => by
  unfold strP at hf
  split at hf
  · rename_i z
    cases hf
    refine ⟨z, rep_str rw, hR _ fun M1 H2 hm hl2 => ⟨?_, fun i d hd => ?_⟩⟩
    · show z.cps.size ≤ _
      simp
    · rw [List.getElem?_map] at hd
      cases e1 : z.cps.toList[i]? with
      | none => rw [e1] at hd; cases hd
      | some c =>
        rw [e1] at hd
        cases hd
        have e2 : z.cps[i]? = some c := by rw [← Array.getElem?_toList]; exact e1
        have hi : i < z.cps.size := by
          have := (List.getElem?_eq_some_iff.mp e1).1
          simpa using this
        refine ⟨hi, fun y H3 ⟨h1, c', h2, h3⟩ => ?_⟩
        subst h1; subst h3
        rw [e2] at h2
        cases h2
        exact ⟨M1, .refl, hl2, .str _⟩
  · cases hf
/-! range -/
def upto (lo c : Int) (n : Nat) : List V.D := (List.range n).map fun i => .int (lo + (i : Nat) * c)
theorem itOk_rng {M : Hp} {lo : Int} {n : Nat} : ItOk X.K X.mg M (Itr lo n) (upto lo 1 n) := by
  intro M1 H1 ex hr
  refine ⟨by show n ≤ _; simp [upto], fun i d hd => ?_⟩
  unfold upto at hd
  rw [List.getElem?_map] at hd
  cases e1 : (List.range n)[i]? with
  | none => rw [e1] at hd; cases hd
  | some j =>
    rw [e1] at hd
    cases hd
    obtain ⟨hi, hj⟩ := List.getElem?_eq_some_iff.mp e1
    rw [List.getElem_range] at hj
    subst hj
    rw [List.length_range] at hi
    refine ⟨hi, fun y H3 ⟨h1, h2⟩ => ?_⟩
    subst h1; subst h2
    refine ⟨M1, .refl, hr, ?_⟩
    show Rep _ _ _ (L2.V.int (lo + i)) (.int (lo + (i : Nat) * (1 : Int)))
    have : lo + (i : Nat) * (1 : Int) = lo + i := by omega
    rw [this]
    exact .int _
theorem itOk_rngC {M : Hp} {lo c : Int} {n : Nat} : ItOk X.K X.mg M (Itc lo c n) (upto lo c n) := by
  intro M1 H1 ex hr
  refine ⟨by show n ≤ _; simp [upto], fun i d hd => ?_⟩
  unfold upto at hd
  rw [List.getElem?_map] at hd
  cases e1 : (List.range n)[i]? with
  | none => rw [e1] at hd; cases hd
  | some j =>
    rw [e1] at hd
    cases hd
    obtain ⟨hi, hj⟩ := List.getElem?_eq_some_iff.mp e1
    rw [List.getElem_range] at hj
    subst hj
    rw [List.length_range] at hi
    refine ⟨hi, fun y H3 ⟨h1, h2⟩ => ?_⟩
    subst h1; subst h2
    exact ⟨M1, .refl, hr, .int _⟩
def sm (i : Int) : Bool := decide (-(2 ^ 62) ≤ i) && decide (i < 2 ^ 62)
def rng1 : List V.D → Option (List V.D)
  | [.int j] => if sm j = true then some (upto 0 1 j.toNat) else none
  | _ => none
def rng2 : List V.D → Option (List V.D)
  | [.int i, .int j] => if (sm i && sm j) = true then some (upto i 1 (j - i).toNat) else none
  | _ => none
theorem qi_range1 {a : Expr} (hg : Gl X "range") (hm : X.mg "range" = none) (ha : QA X Wx [a] mas) (hs : starEach [a] X.env = [(false, eval a X.env)] := by rfl) : QI X Wx tg (.Call (.Name "range" p) [a] [] pos) (iOfN rng1 mas) :=
  pi_imp (pi_range1 hg hm ha hs) fun σ H R h => (run_iOfN h).mono fun vs H1 ⟨M, ws, ds, hl, rw, hf, hR⟩ => by
    unfold rng1 at hf
    split at hf
    · rename_i j
      split at hf
      · rename_i hj
        cases hf
        match vs, rw with
        | [v], .cons r1 .nil =>
          simp only [sm, Bool.and_eq_true, decide_eq_true_eq] at hj
          exact ⟨j, by rw [rep_int r1], hj.1, hj.2, hR _ itOk_rng⟩
      · cases hf
    · cases hf
theorem qi_range2 {a b : Expr} (hg : Gl X "range") (hm : X.mg "range" = none) (ha : QA X Wx [a, b] mas) (hs : starEach [a, b] X.env = [(false, eval a X.env), (false, eval b X.env)] := by rfl) (hs2 : starEach [b] X.env = [(false, eval b X.env)] := by rfl) : QI X Wx tg (.Call (.Name "range" p) [a, b] [] pos) (iOfN rng2 mas) :=
  pi_imp (pi_range2 hg hm ha hs hs2) fun σ H R h => (run_iOfN h).mono fun vs H1 ⟨M, ws, ds, hl, rw, hf, hR⟩ => by
    unfold rng2 at hf
    split at hf
    · rename_i i j
      split at hf
      · rename_i hj
        cases hf
        match vs, rw with
        | [v, u], .cons r1 (.cons r2 .nil) =>
          simp only [sm, Bool.and_eq_true, decide_eq_true_eq] at hj
          exact ⟨i, j, by rw [rep_int r1, rep_int r2], ⟨hj.1.1, hj.1.2, hj.2.1, hj.2.2⟩, hR _ itOk_rng⟩
      · cases hf
    · cases hf
/-- the turns of range(i, j, c), c above nought -/
def rngN (i j c : Int) : Nat := if i < j then ((j - i - 1) / c + 1).toNat else 0
def r3Ok (i j c : Int) : Bool := decide (0 < c) && decide (c < 1000) && decide (0 ≤ i) && decide (i ≤ 1000000) && decide (0 ≤ j) && decide (j ≤ 1000000)
def rng3 : List V.D → Option (List V.D)
  | [.int i, .int j, .int c] => if r3Ok i j c = true then some (upto i c (rngN i j c)) else none
  | _ => none
theorem rngC_ok {i j c : Int} (h : 0 < c ∧ c < 1000 ∧ 0 ≤ i ∧ i ≤ 1000000 ∧ 0 ≤ j ∧ j ≤ 1000000) : RgC i j c (rngN i j c) := by
  obtain ⟨h1, h2, h3, h4, h5, h6⟩ := h
  have hq : i < j → 0 ≤ (j - i - 1) / c ∧ (j - i - 1) / c ≤ 1000000 := fun hl => by
    refine ⟨Int.ediv_nonneg (by omega) (by omega), ?_⟩
    have := Int.ediv_le_self c (a := j - i - 1) (by omega)
    omega
  have hs : Builtin.Range.rangeSize i j c = ((rngN i j c : Nat) : Int) := by
    unfold Builtin.Range.rangeSize rngN
    rw [if_pos h1]
    by_cases hl : i < j
    · rw [if_pos hl, if_pos hl]
      have := hq hl
      omega
    · rw [if_neg hl, if_neg hl]; rfl
  have hn : (rngN i j c : Int) ≤ 1000001 := by
    unfold rngN
    by_cases hl : i < j
    · rw [if_pos hl]
      have := hq hl
      omega
    · rw [if_neg hl]; decide
  refine ⟨by omega, by omega, ?_, hs⟩
  unfold Builtin.Range.small
  rw [hs]
  simp only [Builtin.Range.rangeFitsLong, Bool.and_eq_true, Bool.or_eq_true, decide_eq_true_eq, beq_iff_eq, if_pos h1]
  omega
theorem qi_range3 {a b c : Expr} (hg : Gl X "range") (hm : X.mg "range" = none) (ha : QA X Wx [a, b, c] mas) (hs : starEach [a, b, c] X.env = (false, eval a X.env) :: starEach [b, c] X.env := by rfl) (hpl : (backTo pos (starEach [b, c] X.env)).any (·.1) = false := by rfl) :
    QI X Wx tg (.Call (.Name "range" p) [a, b, c] [] pos) (iOfN rng3 mas) :=
  pi_imp (pi_range3 hg hm ha hs hpl) fun σ H R h => (run_iOfN h).mono fun vs H1 ⟨M, ws, ds, hl, rw, hf, hR⟩ => by
    unfold rng3 at hf
    split at hf
    · rename_i i j c
      split at hf
      · rename_i hj
        cases hf
        simp only [r3Ok, Bool.and_eq_true, decide_eq_true_eq] at hj
        match vs, rw with
        | [v, u, w], .cons r1 (.cons r2 (.cons r3 .nil)) => exact ⟨i, j, c, _, by rw [rep_int r1, rep_int r2, rep_int r3], rngC_ok ⟨hj.1.1.1.1.1, hj.1.1.1.1.2, hj.1.1.1.2, hj.1.1.2, hj.1.2, hj.2⟩, hR _ itOk_rngC⟩
      · cases hf
    · cases hf
/-! enumerate, zip, reversed -/
def numbered : Nat → List D → List D
  | _, [] => []
  | n, d :: ds => .tup [.int (n : Nat), d] :: numbered (n + 1) ds
theorem numbered_get : ∀ {l : List D} {n i : Nat}, (numbered n l)[i]? = (l[i]?).map fun d => .tup [.int ((n + i : Nat) : Int), d]
  | [], _, _ => by simp [numbered]
  | d :: l, n, 0 => by simp [numbered]
  | d :: l, n, i + 1 => by
    simp only [numbered, List.getElem?_cons_succ]
    rw [numbered_get]
    have : n + 1 + i = n + (i + 1) := by omega
    rw [this]
theorem numbered_len : ∀ {l : List D} {n : Nat}, (numbered n l).length = l.length
  | [], _ => rfl
  | d :: l, n => by simp [numbered, numbered_len]
/-- a list alone -/
theorem lst_later {M H : Hp} {v : V} {d : V.D} {l : List V.D} (r : Rep X.K X.mg M v d) (e : lstD d = some l) : ∃ a vs, v = .ref a ∧ Reps X.K X.mg M vs l ∧ (∀ M1 H1, (∀ a o, M a = some o → M1 a = some o) → Le M1 H1 → SqL X.K H1 a vs) := by
  unfold lstD at e
  split at e
  · cases e
    cases r with
    | lst h rs => exact ⟨_, _, rfl, rs, fun M1 H1 hm hl => .of (hl.ex (hm _ _ h) rfl)⟩
  · cases e
    cases r with
    | scr h rs =>
      refine ⟨_, _, rfl, rs, fun M1 H1 hm hl => ?_⟩
      rcases h with ⟨o, h⟩ | h
      · exact .inl (.inr ⟨o, hl.ex (hm _ _ h) rfl⟩)
      · exact .inr h
  · cases e
def tupD : V.D → Option (List V.D)
  | .tup l => some l
  | _ => none
theorem tup_later {M H : Hp} {v : V} {d : V.D} {l : List V.D} (r : Rep X.K X.mg M v d) (e : tupD d = some l) : ∃ a vs, v = .ref a ∧ Reps X.K X.mg M vs l ∧ (∀ M1 H1, (∀ a o, M a = some o → M1 a = some o) → Le M1 H1 → SqT X.K H1 a vs) := by
  unfold tupD at e
  split at e
  · cases e
    cases r with
    | tup h rs => exact ⟨_, _, rfl, rs, fun M1 H1 hm hl => .of (hl.ex (hm _ _ h) rfl)⟩
  · cases e
def enumP : List V.D → Option (List V.D)
  | [w] => (lstD w).map (numbered 0)
  | _ => none
/-- a new tuple is laid -/
theorem new_tup {M1 H1 : Hp} {T : Addr} {vs : List V} {ds : List V.D} (hl : Le M1 H1) (hT : H1 T = none) (r : Reps X.K X.mg M1 vs ds) : ∃ M2, Grow M1 H1 M2 (upd H1 T (.tup vs)) ∧ Le M2 (upd H1 T (.tup vs)) ∧ Rep X.K X.mg M2 (.ref T) (.tup ds) :=
  ⟨upd M1 T (.tup vs), .sh hl hT, .sh hl hT, .tup upd_same (r.le (le_mm (upd_mono (none_le hl hT))))⟩
theorem qi_enum (hg : Gl X "enumerate") (hm : X.mg "enumerate" = none) (ha : QA X Wx [e] mas) (hs : starEach [e] X.env = [(false, eval e X.env)] := by rfl) : QI X Wx (.Tuple elts kk tpos) (.Call (.Name "enumerate" p) [e] [] pos) (iOfN enumP mas) :=
  pi_imp (pi_enum hg hm ha hs) fun σ H R h => (run_iOfN h).mono fun vs H1 ⟨M, ws, ds, hl, rw, hf, hR⟩ => by
    unfold enumP at hf
    split at hf
    · rename_i w
      obtain ⟨l, e1, rfl⟩ := Option.map_eq_some_iff.mp hf
      match vs, rw with
      | [v], .cons r1 .nil =>
        obtain ⟨a, us, rfl, rs, hq⟩ := lst_later (H := H1) r1 e1
        refine ⟨a, us, rfl, hq M H1 mm_refl hl, hR _ fun M1 H2 hm hl2 => ?_⟩
        have hu := hq M1 H2 hm hl2
        refine ⟨⟨us, hu, by rw [rs.length, numbered_len]; exact Nat.le_refl _⟩, fun i d hd => ?_⟩
        rw [numbered_get] at hd
        obtain ⟨d', e2, rfl⟩ := Option.map_eq_some_iff.mp hd
        obtain ⟨x, hx, rx⟩ := rs.get e2
        refine ⟨⟨us, x, hu, hx⟩, fun y H3 ⟨T, x', h2, h3, h4, h5⟩ => ?_⟩
        subst h2; subst h4
        have q := h5 us hu
        rw [hx] at q
        cases q
        refine new_tup hl2 h3 (.cons ?_ (.cons (rx.le (le_mm hm)) .nil))
        rw [Nat.zero_add]
        exact .int _
    · cases hf
def pairUp : List D → List D → List D
  | a :: as, b :: bs => .tup [a, b] :: pairUp as bs
  | _, _ => []
theorem pairUp_get : ∀ {as bs : List D} {i : Nat} {d : D}, (pairUp as bs)[i]? = some d → ∃ a b, as[i]? = some a ∧ bs[i]? = some b ∧ d = .tup [a, b]
  | [], _, _, _, h => by simp [pairUp] at h
  | _ :: _, [], _, _, h => by simp [pairUp] at h
  | a :: as, b :: bs, 0, _, h => by simp [pairUp] at h; subst h; exact ⟨a, b, rfl, rfl, rfl⟩
  | a :: as, b :: bs, i + 1, d, h => by
    obtain ⟨x, y, h1, h2, h3⟩ := pairUp_get (as := as) (bs := bs) (i := i) (by simpa [pairUp] using h)
    exact ⟨x, y, by simpa using h1, by simpa using h2, h3⟩
theorem pairUp_len : ∀ {as bs : List D}, as.length ≤ (pairUp as bs).length ∨ bs.length ≤ (pairUp as bs).length
  | [], _ => .inl (by simp)
  | _ :: _, [] => .inr (by simp)
  | a :: as, b :: bs => by
    rcases pairUp_len (as := as) (bs := bs) with h | h
    · exact .inl (by simp [pairUp]; exact h)
    · exact .inr (by simp [pairUp]; exact h)
/-- zip of two lists, of two tuples -/
def zipP : List V.D → Option (List V.D)
  | [w, u] => match lstD w, lstD u with
    | some a, some b => some (pairUp a b)
    | _, _ => match tupD w, tupD u with
      | some a, some b => some (pairUp a b)
      | _, _ => none
  | _ => none
theorem qi_zip (hg : Gl X "zip") (hm : X.mg "zip" = none) (ha : QA X Wx [e, e2] mas) (hs : starEach [e, e2] X.env = (false, eval e X.env) :: starEach [e2] X.env := by rfl) (hpl : (backTo pos (starEach [e2] X.env)).any (·.1) = false := by rfl) :
    QI X Wx (.Tuple elts kk tpos) (.Call (.Name "zip" p) [e, e2] [] pos) (iOfN zipP mas) :=
  pi_imp (pi_zipA hg hm ha hs hpl) fun σ H R h => (run_iOfN h).mono fun vs H1 ⟨M, ws, ds, hl, rw, hf, hR⟩ => by
    unfold zipP at hf
    split at hf
    · rename_i w u
      match vs, rw with
      | [v1, v2], .cons r1 (.cons r2 .nil) =>
        split at hf
        · rename_i as bs e1 e2
          cases hf
          obtain ⟨a, us, rfl, rs, hq⟩ := lst_later (H := H1) r1 e1
          obtain ⟨b, us2, rfl, rs2, hq2⟩ := lst_later (H := H1) r2 e2
          refine ⟨a, b, us, us2, rfl, .inl ⟨hq M H1 mm_refl hl, hq2 M H1 mm_refl hl, hR _ fun M1 H2 hm hl2 => ?_⟩⟩
          have hu := hq M1 H2 hm hl2
          have hu2 := hq2 M1 H2 hm hl2
          refine ⟨⟨us, us2, hu, hu2, by rw [rs.length, rs2.length]; exact pairUp_len⟩, fun i d hd => ?_⟩
          obtain ⟨x, y, q1, q2, rfl⟩ := pairUp_get hd
          obtain ⟨x', hx, rx⟩ := rs.get q1
          obtain ⟨y', hy, ry⟩ := rs2.get q2
          refine ⟨⟨us, us2, x', y', hu, hu2, hx, hy⟩, fun z H3 ⟨T, x2, y2, g1, g2, g3, g4, g5⟩ => ?_⟩
          subst g1; subst g3
          have k1 := g4 us hu
          have k2 := g5 us2 hu2
          rw [hx] at k1; rw [hy] at k2
          cases k1; cases k2
          exact new_tup hl2 g2 (.cons (rx.le (le_mm hm)) (.cons (ry.le (le_mm hm)) .nil))
        · split at hf
          · rename_i as bs e1 e2
            cases hf
            obtain ⟨a, us, rfl, rs, hq⟩ := tup_later (H := H1) r1 e1
            obtain ⟨b, us2, rfl, rs2, hq2⟩ := tup_later (H := H1) r2 e2
            refine ⟨a, b, us, us2, rfl, .inr ⟨hq M H1 mm_refl hl, hq2 M H1 mm_refl hl, hR _ fun M1 H2 hm hl2 => ?_⟩⟩
            have hu := hq M1 H2 hm hl2
            have hu2 := hq2 M1 H2 hm hl2
            refine ⟨⟨us, us2, hu, hu2, by rw [rs.length, rs2.length]; exact pairUp_len⟩, fun i d hd => ?_⟩
            obtain ⟨x, y, q1, q2, rfl⟩ := pairUp_get hd
            obtain ⟨x', hx, rx⟩ := rs.get q1
            obtain ⟨y', hy, ry⟩ := rs2.get q2
            refine ⟨⟨us, us2, x', y', hu, hu2, hx, hy⟩, fun z H3 ⟨T, x2, y2, g1, g2, g3, g4, g5⟩ => ?_⟩
            subst g1; subst g3
            have k1 := g4 us hu
            have k2 := g5 us2 hu2
            rw [hx] at k1; rw [hy] at k2
            cases k1; cases k2
            exact new_tup hl2 g2 (.cons (rx.le (le_mm hm)) (.cons (ry.le (le_mm hm)) .nil))
          · cases hf
    · cases hf
end
/-! ### comprehensions -/
def wipeE (ρ : Env) : List Nat → Env
  | [] => ρ
  | v :: vs => (wipeE ρ vs).set v .no
def wipeL (L : List Rt) : List Nat → List Rt
  | [] => L
  | v :: vs => (wipeL L vs).set v ⟨none, .no, [], []⟩
section
variable {K : PySem.W.Frag} {mg : Str → Option Value} {M H : Hp} {L A : List Rt} {σ : L2.St} {ρ : Env}
theorem wipeL_s (s : S K mg M H (A ++ L)) : ∀ vs : List Nat, S K mg M H (A ++ wipeL L vs)
  | [] => s
  | v :: vs => by
    have q := (wipeL_s s vs).set_no (A.length + v) none
    rw [List.set_append, if_neg (by omega), Nat.add_sub_cancel_left] at q
    exact q
theorem wipeL_mem : ∀ {vs : List Nat} {r : Rt}, r ∈ wipeL L vs → r ∈ L ∨ (r.k = [] ∧ r.e = [])
  | [], _, h => .inl h
  | v :: vs, r, h => by
    rcases List.mem_or_eq_of_mem_set h with h | rfl
    · exact wipeL_mem h
    · exact .inr ⟨rfl, rfl⟩
theorem wipeL_sl (l : SL L σ ρ) : ∀ vs : List Nat, SL (wipeL L vs) (L2.wipe σ vs) (wipeE ρ vs)
  | [] => l
  | v :: vs => by
    have q := wipeL_sl l vs
    refine ⟨?_, ?_⟩
    · show ((wipeL L vs).set v _).map _ = _
      rw [List.map_set, q.v]; rfl
    · show ((wipeL L vs).set v _).map _ = _
      rw [List.map_set, q.t]; rfl
theorem up_wipeL {vs : List Nat} : Up M H (A ++ L) M H (A ++ wipeL L vs) := by
  refine Up.refl.drop (fun a ⟨r, hr, ha⟩ => ?_) fun a ⟨r, hr, ha⟩ => ?_
  · rcases List.mem_append.mp hr with h | h
    · exact ⟨r, List.mem_append_left _ h, ha⟩
    · rcases wipeL_mem h with h | h
      · exact ⟨r, List.mem_append_right _ h, ha⟩
      · rw [h.1] at ha; cases ha
  · rcases List.mem_append.mp hr with h | h
    · exact ⟨r, List.mem_append_left _ h, ha⟩
    · rcases wipeL_mem h with h | h
      · exact ⟨r, List.mem_append_right _ h, ha⟩
      · rw [h.2] at ha; cases ha
/-- the wiped slots get back what stood in them -/
theorem unwipe : ∀ {vs : List Nat} {L : List Rt}, S K mg M H (A ++ L) → L.map (·.v) = L2.wipe σ vs → L.map (·.t) = ρ → (∀ i ∈ vs, ∀ t, ρ[i]? = some t → t = .no) → ∃ L', S K mg M H (A ++ L') ∧ SL L' σ ρ ∧ Up M H (A ++ L) M H (A ++ L')
  | [], L, s, hv, ht, _ => ⟨L, s, ⟨hv, ht⟩, .refl⟩
  | v :: vs, L, s, hv, ht, hn => by
    have hlen : L.length = (L2.wipe σ vs).length := by
      have := congrArg List.length hv
      simpa [L2.wipe] using this
    have s2 := s.set_no (A.length + v) ((L2.wipe σ vs)[v]?.join)
    rw [List.set_append, if_neg (by omega), Nat.add_sub_cancel_left] at s2
    have hv2 : (L.set v ⟨(L2.wipe σ vs)[v]?.join, .no, [], []⟩).map (·.v) = L2.wipe σ vs := by
      rw [List.map_set, hv]
      show ((L2.wipe σ vs).set v none).set v _ = _
      rw [List.set_set]
      apply List.ext_getElem?
      intro j
      by_cases e : v = j
      · subst e
        by_cases h : v < (L2.wipe σ vs).length
        · rw [List.getElem?_set_self h, List.getElem?_eq_getElem h]; rfl
        · rw [List.getElem?_eq_none (by simp; omega), List.getElem?_eq_none (by omega)]
      · rw [List.getElem?_set_ne e]
    have ht2 : (L.set v ⟨(L2.wipe σ vs)[v]?.join, .no, [], []⟩).map (·.t) = ρ := by
      rw [List.map_set, ht]
      apply List.ext_getElem?
      intro j
      by_cases e : v = j
      · subst e
        by_cases h : v < ρ.length
        · rw [List.getElem?_set_self h, List.getElem?_eq_getElem h, hn v (List.mem_cons_self ..) _ (List.getElem?_eq_getElem h)]
        · rw [List.getElem?_eq_none (by simp; omega), List.getElem?_eq_none (by omega)]
      · rw [List.getElem?_set_ne e]
    obtain ⟨L', s3, l3, u3⟩ := unwipe s2 hv2 ht2 fun i hi => hn i (List.mem_cons_of_mem _ hi)
    refine ⟨L', s3, l3, Up.trans (Up.refl.drop (fun a ⟨r, hr, ha⟩ => ?_) fun a ⟨r, hr, ha⟩ => ?_) u3⟩
    · rcases List.mem_append.mp hr with h | h
      · exact ⟨r, List.mem_append_left _ h, ha⟩
      · rcases List.mem_or_eq_of_mem_set h with h | rfl
        · exact ⟨r, List.mem_append_right _ h, ha⟩
        · cases ha
    · rcases List.mem_append.mp hr with h | h
      · exact ⟨r, List.mem_append_left _ h, ha⟩
      · rcases List.mem_or_eq_of_mem_set h with h | rfl
        · exact ⟨r, List.mem_append_right _ h, ha⟩
        · cases ha
theorem wipeE_no : ∀ {vs : List Nat} {ρ : Env} {i : Nat} {t : T}, i ∈ vs → (wipeE ρ vs)[i]? = some t → t = .no
  | v :: vs, ρ, i, t, hi, h => by
    by_cases e : v = i
    · subst e
      have hl : v < (wipeE ρ vs).length := by
        have := (List.getElem?_eq_some_iff.mp h).1
        simpa [wipeE] using this
      replace h : ((wipeE ρ vs).set v .no)[v]? = some t := h
      rw [List.getElem?_set_self hl] at h
      exact (Option.some.inj h).symm
    · replace h : ((wipeE ρ vs).set v .no)[i]? = some t := h
      rw [List.getElem?_set_ne e] at h
      exact wipeE_no ((List.mem_cons.mp hi).resolve_left fun z => e z.symm) h
theorem wipe_set {σ : L2.St} {i : Nat} {v : V} : ∀ {vs : List Nat}, i ∈ vs → L2.wipe (σ.set i (some v)) vs = L2.wipe σ vs
  | u :: vs, h => by
    unfold L2.wipe
    by_cases e : i = u
    · subst e
      by_cases hm : i ∈ vs
      · rw [wipe_set hm]
      · have gen : ∀ {us : List Nat}, i ∉ us → L2.wipe (σ.set i (some v)) us = (L2.wipe σ us).set i (some v) := fun {us} => by
          induction us with
          | nil => intro _; rfl
          | cons u us ih =>
            intro hn
            unfold L2.wipe
            rw [ih (fun z => hn (List.mem_cons_of_mem _ z)), List.set_comm _ _ (fun z => hn (by rw [z]; exact List.mem_cons_self))]
        rw [gen hm, List.set_set]
    · rw [wipe_set ((List.mem_cons.mp h).resolve_left e)]
/-- a target that stores in the slots vs alone -/
def TgOk (K : PySem.W.Frag) (mg : Str → Option Value) (vs : List Nat) (t : TG) (g : DG) : Prop := ∀ (v : V) (σ : L2.St) (H : Hp) (Q : L2.St → Hp → Prop) (M : Hp) (A L : List Rt) (ρ ρ' : Env) (d : V.D),
  S K mg M H (A ++ L) → SL L σ ρ → Rep K mg M v d → g (.v (.sh d)) ρ = .ok () ρ' → (∀ σ' L', S K mg M H (A ++ L') → SL L' σ' ρ' → L2.wipe σ' vs = L2.wipe σ vs → Up M H (A ++ L) M H (A ++ L') → Q σ' H) → t v σ H Q
def TgsOk (K : PySem.W.Frag) (mg : Str → Option Value) (vs : List Nat) (t : TGs) (g : DGs) : Prop := ∀ (us : List V) (σ : L2.St) (H : Hp) (Q : L2.St → Hp → Prop) (M : Hp) (A L : List Rt) (ρ ρ' : Env) (ds : List V.D),
  S K mg M H (A ++ L) → SL L σ ρ → Reps K mg M us ds → g ds ρ = .ok () ρ' → (∀ σ' L', S K mg M H (A ++ L') → SL L' σ' ρ' → L2.wipe σ' vs = L2.wipe σ vs → Up M H (A ++ L) M H (A ++ L') → Q σ' H) → t us σ H Q
theorem tg_name {vs : List Nat} {i : Nat} (hi : i ∈ vs) : TgOk K mg vs (gName i) (asg i) := by
  intro v σ H Q M A L ρ ρ' d s l r hm q
  cases hm
  have s2 : S K mg M H (A ++ L.set i ⟨some v, .sh d, [], []⟩) := by
    have := s.set (i := A.length + i) (.sh r) fun j t _ _ => sep_sh t
    rw [List.set_append, if_neg (by omega), Nat.add_sub_cancel_left] at this
    exact this
  refine q (σ.set i (some v)) _ s2 ⟨by rw [List.map_set, l.v], by rw [List.map_set, l.t]⟩ (wipe_set hi) (Up.refl.drop (fun a ⟨r, hr, ha⟩ => ?_) fun a ⟨r, hr, ha⟩ => ?_)
  · rcases List.mem_append.mp hr with h | h
    · exact ⟨r, List.mem_append_left _ h, ha⟩
    · rcases List.mem_or_eq_of_mem_set h with h | rfl
      · exact ⟨r, List.mem_append_right _ h, ha⟩
      · cases ha
  · rcases List.mem_append.mp hr with h | h
    · exact ⟨r, List.mem_append_left _ h, ha⟩
    · rcases List.mem_or_eq_of_mem_set h with h | rfl
      · exact ⟨r, List.mem_append_right _ h, ha⟩
      · cases ha
theorem tgs_nil {vs : List Nat} : TgsOk K mg vs gNil gsNil := by
  intro v σ H Q M A L ρ ρ' ds s l r hm q
  cases r with
  | nil => cases hm; exact ⟨rfl, q σ L s l rfl .refl⟩
  | cons _ _ => cases hm
theorem tgs_cons {vs : List Nat} {t : TG} {ts : TGs} {g : DG} {gs : DGs} (h1 : TgOk K mg vs t g) (h2 : TgsOk K mg vs ts gs) : TgsOk K mg vs (gCons t ts) (gsCons g gs) := by
  intro v σ H Q M A L ρ ρ' ds s l r hm q
  cases r with
  | nil => cases hm
  | @cons v vs d ds r1 r2 =>
    refine ⟨v, vs, rfl, ?_⟩
    rcases bnd_some hm (by simp) with ⟨u, ρ1, e1, e2⟩ | ⟨n, ρ1, e1, e2⟩
    · refine h1 v σ H _ M A L ρ ρ1 d s l r1 e1 fun σ' L' s' l' hw u1 => ?_
      exact h2 vs σ' H Q M A L' ρ1 ρ' ds s' l' r2 e2 fun σ2 L2 s2 l2 hw2 u2 => q σ2 L2 s2 l2 (hw2.trans hw) (u1.trans u2)
    · cases e2
theorem tg_tup {vs : List Nat} {n : Nat} {ts : TGs} {gs : DGs} (h : TgsOk K mg vs ts gs) : TgOk K mg vs (gTup K n ts) (gTp n gs) := by
  intro v σ H Q M A L ρ ρ' d s l r hm q
  unfold gTp at hm
  cases d with
  | tup ds =>
    simp only [gt] at hm
    split at hm
    · rename_i hl
      obtain ⟨a, us, rfl, m1, h1, r1⟩ := rep1_tup s.le (.inl r)
      exact ⟨a, us, rfl, .of h1, by rw [r1.length]; exact hl, h us σ H Q M A L ρ ρ' ds s l r1 hm q⟩
    · cases hm
  | _ => cases hm
end
/-- nothing may be raised -/
def nox {α : Type} (m : P α) : P α := fun ρ => match m ρ with
  | .ex _ _ => .stk
  | r => r
/-- an item that is made -/
def itm (z : Z) (k : V.D → P (List V.D)) : P (List V.D) := match z with
  | .v (.sh y) => k y
  | _ => stk
def compT (g : DG) (c : P Bool) (m : DE) (vs : List Nat) : List V.D → List V.D → P (List V.D)
  | [], acc => ret acc
  | d :: ds, acc => bnd (nox (g (.v (.sh d)))) fun _ => bnd (nox c) fun b => if b = true then bnd (nox m) fun z => itm z fun y => if ltOk acc.length = true then (fun ρ => compT g c m vs ds (acc ++ [y]) (wipeE ρ vs)) else stk
      else fun ρ => compT g c m vs ds acc (wipeE ρ vs)
/-- [elt for .. in .. if ..] -/
def dLc (vs : List Nat) (mi : DI) (g : DG) (c : P Bool) (m : DE) : DE := bnd mi fun ds => bnd (fun ρ => compT g c m vs ds [] (wipeE ρ vs)) fun l => ret (.v (.ow (.lst l)))
def cYes : P Bool := ret true
def W0 : WX := fun _ _ _ _ => False
theorem nox_inv {α : Type} {m : P α} {ρ : Env} {r : PR α} (h : nox m ρ = r) (n : r ≠ .stk) : ∃ a ρ', m ρ = .ok a ρ' ∧ r = .ok a ρ' := by
  unfold nox at h
  cases e : m ρ with
  | stk => rw [e] at h; exact absurd h.symm n
  | ok a ρ' => rw [e] at h; exact ⟨a, ρ', rfl, h.symm⟩
  | ex x ρ' => rw [e] at h; exact absurd h.symm n
theorem bnd_nox {α β : Type} {m : P α} {f : α → P β} {ρ : Env} {r : PR β} (h : bnd (nox m) f ρ = r) (n : r ≠ .stk) : ∃ a ρ', m ρ = .ok a ρ' ∧ f a ρ' = r := by
  rcases bnd_some h n with ⟨a, ρ1, e1, e2⟩ | ⟨x, ρ1, e1, e2⟩
  · obtain ⟨b, ρ2, e3, e4⟩ := nox_inv e1 (by simp)
    cases e4
    exact ⟨a, ρ1, e3, e2⟩
  · obtain ⟨b, ρ2, e3, e4⟩ := nox_inv e1 (by simp)
    cases e4
theorem compT_no {g : DG} {c : P Bool} {m : DE} {vs : List Nat} : ∀ {ds acc : List V.D} {ρ : Env} {r : PR (List V.D)}, compT g c m vs ds acc (wipeE ρ vs) = r → r ≠ .stk → ∃ l ρ', r = .ok l (wipeE ρ' vs)
  | [], acc, ρ, r, h, n => ⟨acc, ρ, h.symm⟩
  | d :: ds, acc, ρ, r, h, n => by
    unfold compT at h
    obtain ⟨a, ρ1, e1, h⟩ := bnd_nox h n
    obtain ⟨b, ρ2, e2, h⟩ := bnd_nox h n
    cases b with
    | false => exact compT_no h n
    | true =>
      rw [if_pos rfl] at h
      obtain ⟨z, ρ3, e3, h⟩ := bnd_nox h n
      unfold itm at h
      split at h
      · split at h
        · exact compT_no h n
        · exact absurd h.symm n
      · exact absurd h.symm n
section
variable {X : Cx} {Wx : WX}
theorem wipe_none {σ : L2.St} {i : Nat} : ∀ {vs : List Nat}, L2.wipe (σ.set i none) vs = (L2.wipe σ vs).set i none
  | [] => rfl
  | u :: vs => by
    unfold L2.wipe
    rw [wipe_none]
    by_cases e : i = u
    · subst e; rw [List.set_set]
    · rw [List.set_comm _ _ e]
theorem wipe_wipe {σ : L2.St} : ∀ {vs us : List Nat}, (∀ v ∈ vs, v ∈ us) → L2.wipe (L2.wipe σ vs) us = L2.wipe σ us
  | [], _, _ => rfl
  | v :: vs, us, h => by
    show L2.wipe ((L2.wipe σ vs).set v none) us = _
    rw [wipe_none, wipe_wipe (fun x hx => h x (List.mem_cons_of_mem _ hx))]
    have gen : ∀ {us : List Nat}, v ∈ us → (L2.wipe σ us).set v none = L2.wipe σ us := fun {us} => by
      induction us with
      | nil => intro h; cases h
      | cons u us ih =>
        intro hm
        unfold L2.wipe
        by_cases e : v = u
        · subst e; rw [List.set_set]
        · rw [List.set_comm _ _ (Ne.symm e), ih ((List.mem_cons.mp hm).resolve_left e)]
    exact gen (h v List.mem_cons_self)

/-- from the walk on -/
theorem lc_mid {vs : List Nat} {g : TG} {gd : DG} {c : P Bool} {m : DE} (hg : TgOk X.K X.mg vs g gd) {σ : L2.St} {H H1 M1 : Hp} {Q : VK} {J : It} {L1 : List Rt} {ρ1 : Env} {ds : List V.D} (s1 : S X.K X.mg M1 H1 L1) (l1 : SL L1 σ ρ1) (it : ItOk X.K X.mg M1 J ds)
    (hp : Post X.K X.mg shE (fun c d H' => Wx c d σ H') M1 H1 L1 σ Q (bnd (fun ρ => compT gd c m vs ds [] (wipeE ρ vs)) (fun l => ret (Z.v (T.ow (.lst l)))) ρ1)) :
    tLc (fun _ _ R => R J H1) g (TTd X.K X.mg W0 c) (TEd X.K X.mg W0 m) vs σ H Q := by
  intro Dd hD
  have n := hp.ne
  generalize hr : (bnd (fun ρ => compT gd c m vs ds [] (wipeE ρ vs)) fun l => ret (Z.v (T.ow (.lst l)))) ρ1 = r at hp n
  have hc0 : ∃ l ρf, compT gd c m vs ds [] (wipeE ρ1 vs) = .ok l (wipeE ρf vs) ∧ r = .ok (.v (.ow (.lst l))) (wipeE ρf vs) := by
    rcases bnd_some hr n with ⟨a, ρ2, e1, e2⟩ | ⟨x, ρ2, e1, e2⟩
    · obtain ⟨l, ρf, e3⟩ := compT_no e1 (by simp)
      cases e3
      exact ⟨_, ρf, e1, e2.symm⟩
    · obtain ⟨l, ρf, e3⟩ := compT_no e1 (by simp)
      cases e3
  obtain ⟨l, ρf, hc, rfl⟩ := hc0
  -- the new list as a root
  let rD : List V.D → Rt := fun ad => ⟨some (.ref Dd), .ow (.lst ad), [Dd], []⟩
  have s0 : S X.K X.mg M1 (upd H1 Dd (.lst [])) ([rD []] ++ L1) ∧ Up M1 H1 L1 M1 (upd H1 Dd (.lst [])) ([rD []] ++ L1) := by
    have g0 : Grow M1 H1 M1 (upd H1 Dd (.lst [])) := .ow hD
    refine ⟨(s1.grow g0 (s1.le.ow hD)).cons (.ow upd_same (.lst .nil) (none_le s1.le hD)) fun r hr => ?_, ⟨g0.mm, fun a o h _ => g0.hm a o h, g0.hd, fun a h => ?_, fun a h => ?_, fun a o h => (g0.ms a o h).imp id .inr⟩⟩
    · have hh := (s1.ok r hr).has
      exact ⟨fun a ha hb => by rw [List.mem_singleton.mp ha] at hb; exact (hh.1 _ hb).1 hD, fun a ha hb => by rw [List.mem_singleton.mp ha] at hb; exact hh.2 _ hb hD, fun _ _ => List.not_mem_nil⟩
    · exact (Xs.cons.mp h).elim (fun z => .inr (by rw [List.mem_singleton.mp z]; exact hD)) .inl
    · exact (Ys.cons.mp h).elim (fun z => absurd z List.not_mem_nil) id
  refine ⟨fun i n H => i ≤ ds.length ∧ n = ds.length - i ∧ ∃ (M : Hp) (L : List Rt) (ρ : Env) (ad : List V.D), S X.K X.mg M H ([rD ad] ++ L) ∧ Up M1 H1 L1 M H ([rD ad] ++ L) ∧ SL L (L2.wipe σ vs) (wipeE ρ vs) ∧ compT gd c m vs (ds.drop i) ad (wipeE ρ vs) = .ok l (wipeE ρf vs),
    ⟨ds.length, Nat.zero_le _, rfl, M1, wipeL L1 vs, ρ1, [], wipeL_s s0.1 vs, s0.2.trans up_wipeL, wipeL_sl l1 vs, by rw [List.drop_zero]; exact hc⟩, ?_⟩
  rintro i n H ⟨hi, rfl, M, L, ρ, ad, s, u, sl, hl⟩
  obtain ⟨st, go⟩ := it M H u.mm s.le
  by_cases hd : i < ds.length
  · have hdr : ds.drop i = ds[i] :: ds.drop (i + 1) := List.drop_eq_getElem_cons hd
    rw [hdr] at hl
    obtain ⟨g1, y1⟩ := go i ds[i] (List.getElem?_eq_getElem hd)
    refine .inr ⟨g1, fun H' => i + 1 ≤ ds.length ∧ ∃ (M : Hp) (L : List Rt) (ρ : Env) (ad : List V.D), S X.K X.mg M H' ([rD ad] ++ L) ∧ Up M1 H1 L1 M H' ([rD ad] ++ L) ∧ SL L (L2.wipe σ vs) (wipeE ρ vs) ∧ compT gd c m vs (ds.drop (i + 1)) ad (wipeE ρ vs) = .ok l (wipeE ρf vs), fun H' ⟨q1, q2⟩ => ⟨ds.length - (i + 1), by omega, q1, rfl, q2⟩, fun x H' hy => ?_⟩
    obtain ⟨M2, gr, le2, rx⟩ := y1 x H' hy
    have s2 := s.grow gr le2
    have u2 := u.trans (gr.up (L := [rD ad] ++ L))
    unfold compT at hl
    obtain ⟨_, ρ3, e3, hl⟩ := bnd_nox hl (by simp)
    refine hg x _ H' _ M2 [rD ad] L _ ρ3 _ s2 sl rx e3 fun σ3 L3 s3 l3 hw u3 => ⟨hw.trans (wipe_wipe fun _ z => z), ?_⟩
    have u23 := u2.trans u3
    have hw2 : L2.wipe σ3 vs = L2.wipe σ vs := hw.trans (wipe_wipe fun _ z => z)
    obtain ⟨b, ρ4, e4, hl⟩ := bnd_nox hl (by simp)
    refine ⟨M2, L3, ρ3, s3.right, l3, ?_⟩
    rw [e4]
    intro M4 H4 hs4 L4 b' u4 s4 l4 q4 hb
    cases hb
    cases hs4 with
    | cons _ _ => cases q4
    | nil =>
    obtain ⟨s5, u5⟩ := s3.frame s4 u4
    have u25 := u23.trans u5
    cases b with
    | false =>
      rw [if_neg (by simp)] at hl ⊢
      refine ⟨by omega, M4, wipeL L4 vs, ρ4, ad, wipeL_s s5 vs, u25.trans up_wipeL, ?_, hl⟩
      rw [← hw2]
      exact wipeL_sl l4 vs
    | true =>
      rw [if_pos rfl] at hl ⊢
      obtain ⟨z, ρ6, e6, hl⟩ := bnd_nox hl (by simp)
      refine ⟨M4, L4, ρ4, s4, l4, ?_⟩
      rw [e6]
      intro M6 H6 hs6 L6 v6 u6 s6 l6 q6 al6
      cases z with
      | al j => cases hl
      | v t =>
        cases t with
        | sh y =>
          simp only [itm] at hl
          split at hl
          · rename_i hlen
            obtain ⟨s7, u7⟩ := s5.frame s6 u6
            have u27 := u25.trans u7
            obtain ⟨r6, rfl, er1, er2⟩ := one_of q6
            have rv : Rep X.K X.mg M6 v6 y := by
              have ok := s6.head
              cases ok with
              | sh r => cases er1; cases er2; exact r
              | _ => cases er2
            have okD := s7.head
            have : ∃ av, H6 Dd = some (.lst av) ∧ Reps X.K X.mg M6 av ad ∧ M6 Dd = none := by
              cases okD with
              | ow h c n =>
                cases c with
                | lst r => exact ⟨_, h, r, n⟩
            obtain ⟨av, hav, ra, nD⟩ := this
            refine ⟨av, hav, by rw [ra.length]; exact ltOk_iff.mp hlen, ?_⟩
            have s8 : S X.K X.mg M6 H6 ([] ++ ([rD ad] ++ L6)) := s7.sub (by
              show List.Sublist (rD ad :: L6) (rD ad :: (r6 :: L6))
              exact (List.sublist_cons_self ..).cons₂ _)
            have u28 : Up M1 H1 L1 M6 H6 ([] ++ ([rD ad] ++ L6)) := u27.sub fun q hq => by
              rcases List.mem_cons.mp hq with rfl | hq
              · exact List.mem_cons_self ..
              · exact List.mem_cons_of_mem _ (List.mem_cons_of_mem _ hq)
            obtain ⟨s9, u9⟩ := s8.write (i := 0) (a := Dd) (o := .lst (av ++ [v6])) (r' := rD (ad ++ [y])) rfl (List.mem_cons_self ..) (.ow upd_same (.lst (ra.append (.cons rv .nil))) nD) (fun x hx => .inl hx) (fun x hx => absurd hx List.not_mem_nil)
            refine ⟨by omega, M6, wipeL L6 vs, ρ6, ad ++ [y], wipeL_s s9 vs, (u28.trans u9).trans (up_wipeL (A := [rD (ad ++ [y])])), ?_, hl⟩
            rw [← hw2]
            exact wipeL_sl l6 vs
          · cases hl
        | _ => cases hl
  · have hd0 : i = ds.length := by omega
    subst hd0
    rw [List.drop_length] at hl
    have e0 := hl
    unfold compT at e0
    have e1 : ad = l := by injection e0
    have e2 : wipeE ρ vs = wipeE ρf vs := by injection e0
    subst e1
    rw [e2] at sl
    obtain ⟨L', s3, l3, u3⟩ := unwipe s sl.v sl.t fun i hi t ht => wipeE_no hi ht
    exact .inl ⟨st, hp M H [rD ad] L' (.ref Dd) (u.trans u3) s3 l3 rfl trivial⟩
theorem lc_ok {vs : List Nat} {mi : DI} {g : TG} {gd : DG} {c : P Bool} {m : DE} (hg : TgOk X.K X.mg vs g gd) {σ : L2.St} {H : Hp} {Q : VK} (h : TEd X.K X.mg Wx (dLc vs mi gd c m) σ H Q) :
    tLc (TId X.K X.mg Wx mi) g (TTd X.K X.mg W0 c) (TEd X.K X.mg W0 m) vs σ H Q := by
  refine (run_bind (sa := shI X.K X.mg) h).mono fun J H1 h1 => ?_
  obtain ⟨M1, hs1, L1, ρ1, ds, s1, l1, q1, it, hp⟩ := h1
  cases hs1 with
  | cons _ _ => cases q1
  | nil =>
  exact lc_mid (H := H1) hg s1 l1 it hp 
theorem pts_yes : PTs X [] (TTd X.K X.mg W0 cYes) := ⟨fun pins s σ H Q I h => pts_nil.run pins s σ H Q I (by
  obtain ⟨M, L, ρ, s, l, hp⟩ := h
  exact hp.dry rfl rfl s l fun _ h => h)⟩
theorem gnm_ok {ms : List Bool} {i : Nat} {v : V} {σ : L2.St} {H : Hp} {Q : L2.St → Hp → Prop} (hk : (ms[i]? == some true) = false) (h : TGd X.K X.mg ms Wx (asg i) v σ H Q) : gName i v σ H Q := by
  obtain ⟨M, hs, L, ρ, z, s, l, q, al, hp⟩ := h
  exact asg_ok (by simpa using hk) s l q al hp
variable {ms : List Bool} {elt tg iter c : Expr} {scope : Scope} {own : List (Str × Nat)} {pos spos py : Pos} {mi : DI} {g : TG} {gd : DG} {m : DE} {mc : P Bool} {i : Nat} {y : Str}
theorem q_lc (hc : X.calm = true) (hN : X.N.Nodup) (hi : QI X Wx tg iter mi) (ok : BlkOk X.N X.env.scope scope own) (hk : TgOk X.K X.mg (own.map (·.2)) g gd)
    (hg : ∀ (s : Shared) (H : Hp) (C : Addr) (cl : List (Str × Addr)) (fp : List Addr), PG (X.blk s H scope (compEnvC scope cl C X.env) fp) tg g)
    (he : ∀ (s : Shared) (H : Hp) (C : Addr) (cl : List (Str × Addr)) (fp : List Addr), QE (X.blk s H scope (compEnvC scope cl C X.env) fp) W0 elt m)
    (hs : ∀ x, foldedSetIterable iter X.env x = pure x := by intro _; rfl) : QE X Wx (.ListComp elt [⟨tg, iter, [], 0⟩] scope pos) (dLc (own.map (·.2)) mi gd cYes m) :=
  pe_imp (pe_lc hc hN hi ok hg (fun _ _ _ _ _ => pts_yes) he hs) fun σ H Q h => lc_ok hk h
theorem q_lcIf (hc : X.calm = true) (hN : X.N.Nodup) (hi : QI X Wx tg iter mi) (ok : BlkOk X.N X.env.scope scope own) (hk : TgOk X.K X.mg (own.map (·.2)) g gd)
    (hg : ∀ (s : Shared) (H : Hp) (C : Addr) (cl : List (Str × Addr)) (fp : List Addr), PG (X.blk s H scope (compEnvC scope cl C X.env) fp) tg g)
    (ht : ∀ (s : Shared) (H : Hp) (C : Addr) (cl : List (Str × Addr)) (fp : List Addr), QT (X.blk s H scope (compEnvC scope cl C X.env) fp) W0 c mc)
    (he : ∀ (s : Shared) (H : Hp) (C : Addr) (cl : List (Str × Addr)) (fp : List Addr), QE (X.blk s H scope (compEnvC scope cl C X.env) fp) W0 elt m)
    (hs : ∀ x, foldedSetIterable iter X.env x = pure x := by intro _; rfl) : QE X Wx (.ListComp elt [⟨tg, iter, [c], 0⟩] scope pos) (dLc (own.map (·.2)) mi gd mc m) :=
  pe_imp (pe_lc hc hN hi ok hg (fun s H C cl fp => pts_one (ht s H C cl fp)) he hs) fun σ H Q h => lc_ok hk h
/-- give: the list is shared at once -/
def gvB : Bool → DE → DE
  | true, m => dGiv m
  | false, m => m
theorem setLc_ok {b : Bool} {vs : List Nat} (hk0 : (ms[i]? == some true) = false) (hk : TgOk X.K X.mg vs g gd) {D : Ends} {σ : L2.St} {H : Hp} (h : TSd X.K X.mg ms Wx (dSet i (gvB b (dLc vs mi gd mc m))) D σ H) : tLc (TId X.K X.mg Wx mi) g (TTd X.K X.mg W0 mc) (TEd X.K X.mg W0 m) vs σ H fun v H1 => gName i v σ H1 D.nx := by
  cases b with
  | false => exact lc_ok hk ((tasg_ok h).mono fun v H1 hv => gnm_ok hk0 hv)
  | true =>
    have h1 := (tasg_ok h).mono fun v H1 hv => gnm_ok hk0 hv
    refine lc_ok (Wx := Wx) hk ?_
    have h2 : TEd X.K X.mg Wx (dGiv (dLc vs mi gd mc m)) σ H fun v H1 => gName i v σ H1 D.nx := h1
    exact givD_ok h2
theorem qs_setLc {b : Bool} (hk0 : (ms[i]? == some true) = false) (hc : X.calm = true) (hN : X.N.Nodup) (hy : X.N[i]? = some y) (hyl : X.env.scope.names.lookup y = some .local) (hsw : swapsWith (.ListComp elt [⟨tg, iter, [], 0⟩] scope pos) (some (.Name y py)) spos.line X.env = pure true)
    (hi : QI X Wx tg iter mi) (ok : BlkOk X.N X.env.scope scope own) (hk : TgOk X.K X.mg (own.map (·.2)) g gd)
    (hg : ∀ (s : Shared) (H : Hp) (C : Addr) (cl : List (Str × Addr)) (fp : List Addr), PG (X.blk s H scope (compEnvC scope cl C X.env) fp) tg g)
    (he : ∀ (s : Shared) (H : Hp) (C : Addr) (cl : List (Str × Addr)) (fp : List Addr), QE (X.blk s H scope (compEnvC scope cl C X.env) fp) W0 elt m)
    (hs : ∀ x, foldedSetIterable iter X.env x = pure x := by intro _; rfl) : QS X ms Wx (.Assign [.Name y py] (.ListComp elt [⟨tg, iter, [], 0⟩] scope pos) spos) (dSet i (gvB b (dLc (own.map (·.2)) mi gd cYes m))) :=
  ps_imp (ps_setLc hc hN hy hyl hsw hi ok hg (fun _ _ _ _ _ => pts_yes) he hs) fun D σ H h => setLc_ok hk0 hk h
theorem qs_setLcIf {b : Bool} (hk0 : (ms[i]? == some true) = false) (hc : X.calm = true) (hN : X.N.Nodup) (hy : X.N[i]? = some y) (hyl : X.env.scope.names.lookup y = some .local) (hsw : swapsWith (.ListComp elt [⟨tg, iter, [c], 0⟩] scope pos) (some (.Name y py)) spos.line X.env = pure true)
    (hi : QI X Wx tg iter mi) (ok : BlkOk X.N X.env.scope scope own) (hk : TgOk X.K X.mg (own.map (·.2)) g gd)
    (hg : ∀ (s : Shared) (H : Hp) (C : Addr) (cl : List (Str × Addr)) (fp : List Addr), PG (X.blk s H scope (compEnvC scope cl C X.env) fp) tg g)
    (ht : ∀ (s : Shared) (H : Hp) (C : Addr) (cl : List (Str × Addr)) (fp : List Addr), QT (X.blk s H scope (compEnvC scope cl C X.env) fp) W0 c mc)
    (he : ∀ (s : Shared) (H : Hp) (C : Addr) (cl : List (Str × Addr)) (fp : List Addr), QE (X.blk s H scope (compEnvC scope cl C X.env) fp) W0 elt m)
    (hs : ∀ x, foldedSetIterable iter X.env x = pure x := by intro _; rfl) : QS X ms Wx (.Assign [.Name y py] (.ListComp elt [⟨tg, iter, [c], 0⟩] scope pos) spos) (dSet i (gvB b (dLc (own.map (·.2)) mi gd mc m))) :=
  ps_imp (ps_setLc hc hN hy hyl hsw hi ok hg (fun s H C cl fp => pts_one (ht s H C cl fp)) he hs) fun D σ H h => setLc_ok hk0 hk h
theorem qs_setLcG (hk0 : (ms[i]? == some true) = false) (hc : X.calm = true) (hN : X.N.Nodup) (hy : X.N[i]? = some y) (hyl : X.env.scope.names.lookup y = some .local) (hsw : swapsWith (.ListComp elt [⟨tg, iter, [], 0⟩] scope pos) (some (.Name y py)) spos.line X.env = pure true)
    (hi : QI X Wx tg iter mi) (ok : BlkOk X.N X.env.scope scope own) (hk : TgOk X.K X.mg (own.map (·.2)) g gd)
    (hg : ∀ (s : Shared) (H : Hp) (C : Addr) (cl : List (Str × Addr)) (fp : List Addr), PG (X.blk s H scope (compEnvC scope cl C X.env) fp) tg g)
    (he : ∀ (s : Shared) (H : Hp) (C : Addr) (cl : List (Str × Addr)) (fp : List Addr), QE (X.blk s H scope (compEnvC scope cl C X.env) fp) W0 elt m)
    (hs : ∀ x, foldedSetIterable iter X.env x = pure x := by intro _; rfl) : QS X ms Wx (.Assign [.Name y py] (.ListComp elt [⟨tg, iter, [], 0⟩] scope pos) spos) (dSet i (dGiv (dLc (own.map (·.2)) mi gd cYes m))) :=
  qs_setLc (b := true) hk0 hc hN hy hyl hsw hi ok hk hg he hs
theorem qs_setLcIfG (hk0 : (ms[i]? == some true) = false) (hc : X.calm = true) (hN : X.N.Nodup) (hy : X.N[i]? = some y) (hyl : X.env.scope.names.lookup y = some .local) (hsw : swapsWith (.ListComp elt [⟨tg, iter, [c], 0⟩] scope pos) (some (.Name y py)) spos.line X.env = pure true)
    (hi : QI X Wx tg iter mi) (ok : BlkOk X.N X.env.scope scope own) (hk : TgOk X.K X.mg (own.map (·.2)) g gd)
    (hg : ∀ (s : Shared) (H : Hp) (C : Addr) (cl : List (Str × Addr)) (fp : List Addr), PG (X.blk s H scope (compEnvC scope cl C X.env) fp) tg g)
    (ht : ∀ (s : Shared) (H : Hp) (C : Addr) (cl : List (Str × Addr)) (fp : List Addr), QT (X.blk s H scope (compEnvC scope cl C X.env) fp) W0 c mc)
    (he : ∀ (s : Shared) (H : Hp) (C : Addr) (cl : List (Str × Addr)) (fp : List Addr), QE (X.blk s H scope (compEnvC scope cl C X.env) fp) W0 elt m)
    (hs : ∀ x, foldedSetIterable iter X.env x = pure x := by intro _; rfl) : QS X ms Wx (.Assign [.Name y py] (.ListComp elt [⟨tg, iter, [c], 0⟩] scope pos) spos) (dSet i (dGiv (dLc (own.map (·.2)) mi gd mc m))) :=
  qs_setLcIf (b := true) hk0 hc hN hy hyl hsw hi ok hk hg ht he hs
theorem qs_setLcN (hk0 : (ms[i]? == some true) = false) (hc : X.calm = true) (hN : X.N.Nodup) (hy : X.N[i]? = some y) (hyl : X.env.scope.names.lookup y = some .local) (hsw : swapsWith (.ListComp elt [⟨tg, iter, [], 0⟩] scope pos) (some (.Name y py)) spos.line X.env = pure true)
    (hi : QI X Wx tg iter mi) (ok : BlkOk X.N X.env.scope scope own) (hk : TgOk X.K X.mg (own.map (·.2)) g gd)
    (hg : ∀ (s : Shared) (H : Hp) (C : Addr) (cl : List (Str × Addr)) (fp : List Addr), PG (X.blk s H scope (compEnvC scope cl C X.env) fp) tg g)
    (he : ∀ (s : Shared) (H : Hp) (C : Addr) (cl : List (Str × Addr)) (fp : List Addr), QE (X.blk s H scope (compEnvC scope cl C X.env) fp) W0 elt m)
    (hs : ∀ x, foldedSetIterable iter X.env x = pure x := by intro _; rfl) : QS X ms Wx (.Assign [.Name y py] (.ListComp elt [⟨tg, iter, [], 0⟩] scope pos) spos) (dSet i (dLc (own.map (·.2)) mi gd cYes m)) :=
  qs_setLc (b := false) hk0 hc hN hy hyl hsw hi ok hk hg he hs
theorem qs_setLcIfN (hk0 : (ms[i]? == some true) = false) (hc : X.calm = true) (hN : X.N.Nodup) (hy : X.N[i]? = some y) (hyl : X.env.scope.names.lookup y = some .local) (hsw : swapsWith (.ListComp elt [⟨tg, iter, [c], 0⟩] scope pos) (some (.Name y py)) spos.line X.env = pure true)
    (hi : QI X Wx tg iter mi) (ok : BlkOk X.N X.env.scope scope own) (hk : TgOk X.K X.mg (own.map (·.2)) g gd)
    (hg : ∀ (s : Shared) (H : Hp) (C : Addr) (cl : List (Str × Addr)) (fp : List Addr), PG (X.blk s H scope (compEnvC scope cl C X.env) fp) tg g)
    (ht : ∀ (s : Shared) (H : Hp) (C : Addr) (cl : List (Str × Addr)) (fp : List Addr), QT (X.blk s H scope (compEnvC scope cl C X.env) fp) W0 c mc)
    (he : ∀ (s : Shared) (H : Hp) (C : Addr) (cl : List (Str × Addr)) (fp : List Addr), QE (X.blk s H scope (compEnvC scope cl C X.env) fp) W0 elt m)
    (hs : ∀ x, foldedSetIterable iter X.env x = pure x := by intro _; rfl) : QS X ms Wx (.Assign [.Name y py] (.ListComp elt [⟨tg, iter, [c], 0⟩] scope pos) spos) (dSet i (dLc (own.map (·.2)) mi gd mc m)) :=
  qs_setLcIf (b := false) hk0 hc hN hy hyl hsw hi ok hk hg ht he hs
theorem tk0 : Takes X W0 := fun _ _ ⟨_, _, _, _, _, _, _, _, _, _, _, _, _, _, _, _, w⟩ => w.elim
end
end V

set_option Elab.async false
set_option linter.all false
set_option maxRecDepth 100000
/-! V13: exceptions: raised, caught; asked for their class. -/
namespace V
open PySem PySem.Spec PyProof.Rows L2
section
variable {X : Cx} {Wx : WX} {x n y : Str} {i j : Nat} {pos p p2 : Pos}
/-- what 'except c as n: y = n' wishes of an exception -/
def wKeep (K : PySem.W.Frag) (c : Value) (i j : Nat) (Wout : WX) (D : Ends) : WX := fun cls d σ H =>
  ∃ b, PySem.W.exmOne K cls c = some b ∧ (b = true → d = none ∧ ∀ a, H a = none → D.nx ((σ.set j (some (.ref a))).set i none) (upd H a (ExQ cls a))) ∧ (b = false → Wout cls d σ H)
theorem ps_try_keep {c : Value} {body : List Stmt} {np pos' yp np2 sp : Pos} {tb : WX → TS} {Wout : WX} (hs : X.stack = X.env :: X.outer) (hf : X.env.frame = some X.env.locals) (hex : X.ex = []) (hN : X.N.Nodup) (hi : X.N[i]? = some n) (hj : X.N[j]? = some y) (hij : i ≠ j) (hln : X.env.kindOf n = some .local) (hly : X.env.kindOf y = some .local) (hc : Names X x c) (tk : Takes X Wout)
    (hb : ∀ (W : WX) (pn : List (Addr × Obj)) (xe : Value → Shared → Prop), Takes (X.tr pn xe) W → PassesOwn (model X.prog X.w) X.A X.env xe → PSs (X.tr pn xe) body (tb W))
    (hst : ∀ (a : Addr) (oe : Obj) (pn : List (Addr × Obj)), PS (X.suite a ((a, oe) :: pn)) (.Assign [.Name y yp] (.Name n np2) sp) (tAsg (tVar i) (gName j))) :
    PS X (.Try body [.ExceptHandler (some (.Name x np)) (some n) [.Assign [.Name y yp] (.Name n np2) sp] pos'] [] [] pos) (fun D σ H => tb (wKeep X.K c i j Wout D) D σ H) := by
  refine ⟨fun pins s σ H D I h => ?_⟩
  have ok := I.ok
  have hfr : X.A.frames = some (X.env :: X.outer) := by rw [ok.frames, hs]
  have hloc : Loc X.env.scope n := .inl hln
  refine wpAny_Try_except ?_
  refine wpAny_mono ((hb (wKeep X.K c i j Wout D) (X.pn ++ pins) (fun e s₁ => wpAny (model X.prog X.w) X.A (noteFrame e X.env) (fun _ s₂ => wpAny (model X.prog X.w) X.A (setFlight e none) (fun _ s₃ =>
    wpAny (model X.prog X.w) X.A (handleBy e X.env [.ExceptHandler (some (.Name x np)) (some n) [.Assign [.Name y yp] (.Name n np2) sp] pos']) (SP X pins D) X.xe s₃) X.xe s₂) X.xe s₁) (fun u s' xx => ?_) PassesOwn.looking).run [] s σ H D (I.toTry _) h) (fun f s1 hsp => ?_) (fun e s1 he => he)
  · obtain ⟨a, B, sI, pins', σ', H', cls, d, rfl, J', nb, up, sky, na, os, ag, b, hb1, hyes, hno⟩ := xx
    have J : L2.Inv X pins σ' H' sI := J'.ofTry ok
    have sky' : Sky B (X.env :: X.outer) a (Zc cls d) X.env.locals s'.heap := by rw [← hs]; exact sky
    show wpAny (model X.prog X.w) X.A (noteFrame (.ref a) X.env) _ _ _
    refine Sky.land Zc.steady hfr hf sky' fun h3 fl3 up3 => ?_
    have J3 : L2.Inv X pins σ' H' { s' with heap := h3 } := J.landed nb fl3.1 (up.trans up3) os ag
    obtain ⟨oe3, vs3, he3, hz3, hd3⟩ := fl3.there
    have notFr : ∀ {h : Heap} {o : Obj} {vs : Array Value}, h.FunFrames B (X.env :: X.outer) → h.get? a = some o → o.data = .fields vs → a ∉ frs (X.env :: X.outer) := fun {h o vs} ff e dd hm => by
      obtain ⟨_, o', e', hnf⟩ := ff.mem hm
      rw [e] at e'; cases e'
      exact hnf _ dd
    have nfr := notFr fl3.2.2.1 he3 hd3
    have nL : a ≠ X.env.locals := fun z => nfr (List.mem_filterMap.mpr ⟨X.env, List.mem_cons_self, by rw [hf, z]⟩)
    have nF : a ∉ X.fs := fun hm => by
      obtain ⟨e, he, q⟩ := List.mem_filterMap.mp hm
      exact nfr (List.mem_filterMap.mpr ⟨e, List.mem_cons_of_mem _ he, q⟩)
    have newI : sI.heap.get? a = none := by
      cases e : sI.heap.get? a with
      | none => rfl
      | some ob =>
        have q := nb a ob e (by rw [hs]; exact nfr)
        rw [fl3.2.1] at q; cases q
    have S3 := J3.suite he3 hd3 na nL nF
    refine wpAny_handleBy_cons (codeAny_handlers_test ?_) (by intro q; cases q)
    have LT : PySem.W.Looks (model X.prog X.w) h3 (typeOf (.ref a)) cls := fun A Q E s k q => wpAny_typeOf_ref (k _ _ he3) (by rw [hz3.1]; exact q)
    have LM := PySem.W.exm_one (M := model X.prog X.w) (J3.kIn) LT hb1
    have test : ∀ {Q : Value → Shared → Prop} {E : Value → Shared → Prop}, Q c { s' with heap := h3 } → wpAny (model X.prog X.w) (X.A.mark (some (.ref a))) (eval (.Name x np) X.env) Q E { s' with heap := h3 } := fun {Q E} q => by
      obtain ⟨hg, hdbg, hm | ⟨hm, hv, hnn⟩⟩ := hc
      · exact ld_glob (X := X.suite a ((a, oe3) :: (X.pn ++ pins))) S3 hg hm q hdbg
      · exact ld_blt (X := X.suite a ((a, oe3) :: (X.pn ++ pins))) S3 hg hm hv q hnn hdbg
    refine test (LM.here ?_)
    cases b with
    | true =>
      refine codeAny_handlers_suite_as ?_
      refine HandSPX.lands_againZ fl3 fun h4 fl4 up4 => ?_
      have J4 : L2.Inv X pins σ' H' { s' with heap := h4 } := J.landed nb fl4.1 ((up.trans up3).trans up4) os ag
      obtain ⟨oe4, vs4, he4, hz4, hd4⟩ := fl4.there
      have S4 := J4.suite he4 hd4 na nL nF
      refine store_ok (X := X.suite a ((a, oe4) :: (X.pn ++ pins))) (v := .ref a) S4 hN hi hloc rfl (fun s5 S5 => ?_) (.inr hln)
      obtain ⟨hd0, hyes⟩ := hyes rfl
      have hl : i < σ'.length := by rw [J.len]; exact (List.getElem?_eq_some_iff.mp hi).1
      refine wpAny_mono ((pss_one (hst a oe4 (X.pn ++ pins))).run [] s5 _ H' { nx := fun σ6 H6 => σ6 = (σ'.set i (some (.ref a))).set j (some (.ref a)) ∧ H6 = H', rt := fun _ _ => False } S5 ⟨.ref a, by rw [List.getElem?_set_self hl], rfl, rfl⟩) (fun f s6 hsp => ?_) (fun _ _ z => False.elim z)
      cases f with
      | next =>
        obtain ⟨σ6, H6, S6, rfl, rfl⟩ := hsp
        obtain ⟨pa, pb, pc, pd, pe⟩ := S6.pin (a, oe4) (List.mem_append_left _ List.mem_cons_self)
        have K6 : L2.Inv X pins _ (upd H6 a (ExQ cls a)) s6 := inv_track (S6.unsuite ok) na oe4 pa pe nL hex J newI (exQ_ok pa (by rw [← hd0]; exact hz4) hd4)
        refine gone_ok K6 hN hi hln fun s7 J7 => ?_
        have e : ((σ'.set i (some (L2.V.ref a))).set j (some (L2.V.ref a))).set i none = (σ'.set j (some (L2.V.ref a))).set i none := by
          rw [List.set_comm _ _ hij, List.set_set]
        rw [e] at J7
        exact ⟨_, _, J7, hyes a na⟩
      | brk => obtain ⟨_, _, _, q⟩ := hsp; exact q.elim
      | cont => obtain ⟨_, _, _, q⟩ := hsp; exact q.elim
      | ret u => obtain ⟨_, _, _, _, _, q⟩ := hsp; exact q.elim
    | false =>
      show wpAny _ X.A (handleBy (.ref a) X.env []) _ _ _
      refine wpAny_handleBy_nil ?_
      obtain ⟨k1, k2, k3, oe, vs, T, oT, ts', he, hz, hd, h1, hr⟩ := id fl3
      unfold PySem.passOn
      refine wpAny_bind (wpAny_field he hd h1 ?_)
      rw [if_neg (show ¬ ((Value.ref T == Value.none) = true) from by simp)]
      have fin : wpAny (model X.prog X.w) X.A (setFlight (.ref a) X.env.frame) (fun _ s4 => wpAny (model X.prog X.w) X.A (throw (.ref a) : Sem Flow) (SP X pins D) X.xe s4) X.xe { s' with heap := h3 } := by
        rw [hf]
        refine HandSPX.setFlight_upZ fl3 fun h4 hh4 up4 => wpAny_throw (tk _ _ ?_)
        exact ⟨a, B, sI, pins, σ', H', cls, d, rfl, J, nb, (up.trans up3).trans up4, .inr (.inr (by rw [hs]; exact hh4)), na, os, ag, hno rfl⟩
      first
        | exact wpAny_bind (wpAny_pure (wpAny_bind fin))
        | exact wpAny_bind fin
  · cases f with
    | next =>
      obtain ⟨σ', H', J', q⟩ := hsp
      exact wpAny_execs_nil ⟨σ', H', J'.ofTry ok, q⟩
    | brk =>
      obtain ⟨σ', H', J', q⟩ := hsp
      exact ⟨σ', H', J'.ofTry ok, q⟩
    | cont =>
      obtain ⟨σ', H', J', q⟩ := hsp
      exact ⟨σ', H', J'.ofTry ok, q⟩
    | ret u =>
      obtain ⟨v, σ', H', J', r, q⟩ := hsp
      exact ⟨v, σ', H', J'.ofTry ok, r, q⟩
/-- what is known of an exception class by name -/
structure ExCls (K : PySem.W.Frag) (mg : Str → Option Value) (x : Str) : Prop where
  ex : ∃ C, mg x = some (.ref C) ∧ PySem.W.excIn K C [.type "ValueError", .type "Exception", .type "BaseException", .type "object"] "ValueError.__new__" = true ∧ PySem.W.keepIn K (.ref C) = true ∧ PySem.W.subIn K (.ref C) (.type "BaseException") = some true ∧ PySem.W.typeIn K (.ref C) = some (.type "type")
def dRse (x : Str) : DS := rse x
theorem qs_raise {ms : List Bool} {m : Str} {k : Nat} {p3 : Pos} (c : ExCls X.K X.mg x) (tk : Takes X Wx) (hg : Gl X x) (hc : X.calm = true) (hdb : (x == ("__debug__" : Str)) = false := by decide) : QS X ms Wx (.Raise (some (.Call (.Name x p) [.Constant (.str m) k p2] [] p3)) none pos) (dRse x) := by
  obtain ⟨C, gC, q, kC, h1, h2⟩ := c.ex
  refine ps_imp (ps_raise hc tk (pmk_own PySem.F.excBase_ValueError q gC kC (raises_own h1 h2) hg hdb)) fun D σ H ⟨M, L, ρ, s, l, hp⟩ => ?_
  exact hp M H L σ C .refl s l .refl (by unfold cnOf; rw [gC])
/-- which classes a clause catches -/
structure Catch (K : PySem.W.Frag) (mg : Str → Option Value) (c : Value) (l : List (Str × Bool)) : Prop where
  ok : ∀ x b, l.lookup x = some b → ∀ C, cnOf mg x = some C → PySem.W.exmOne K (.ref C) c = some b
def catch_ (l : List (Str × Bool)) (h : Str → DS) (body : DS) : DS := fun ρ => match body ρ with
  | .ex n ρ' => (match l.lookup n with
    | some true => h n ρ'
    | some false => .ex n ρ'
    | none => .stk)
  | r => r
def keepX (i j : Nat) (n : Str) : DS := fun ρ => .ok .nx ((ρ.set j (.sh (.exc n))).set i .no)
def dTryKeep (i j : Nat) (l : List (Str × Bool)) (body : DS) : DS := catch_ l (keepX i j) body
def dTry (l : List (Str × Bool)) (body suite : DS) : DS := catch_ l (fun _ => suite) body
theorem catch_ok {ms : List Bool} {l : List (Str × Bool)} {h : Str → DS} {body : DS} {D : Ends} {σ : L2.St} {H : Hp} {W : WX} (hw : TSd X.K X.mg ms Wx (catch_ l h body) D σ H)
    (hk : ∀ (M : Hp) (H1 : Hp) (L : List Rt) (ρ : Env) (σ1 : L2.St) (n : Str) (C : Addr), Kept ms σ σ1 → S X.K X.mg M H1 L → SL L σ1 ρ → cnOf X.mg n = some C → (match l.lookup n with
      | some true => PostS X.K X.mg ms Wx M H1 L σ1 D (h n ρ)
      | some false => Wx (.ref C) none σ1 H1
      | none => False) → W (.ref C) none σ1 H1) : TSd X.K X.mg ms W body D σ H := by
  obtain ⟨M, L, ρ, s, l0, hp⟩ := hw
  refine ⟨M, L, ρ, s, l0, ?_⟩
  unfold catch_ at hp
  cases e : body ρ with
  | stk => rw [e] at hp; exact hp.elim
  | ok o ρ' =>
    rw [e] at hp
    cases o <;> exact hp
  | ex n ρ' =>
    rw [e] at hp
    dsimp only at hp
    intro M' H' L' σ' C u s' l' k hC
    refine hk M' H' L' ρ' σ' n C k s' l' hC ?_
    cases hl : l.lookup n with
    | none => rw [hl] at hp; exact hp.elim
    | some b =>
      rw [hl] at hp
      cases b with
      | true => exact PostS.pull u k hp
      | false => exact hp M' H' L' σ' C u s' l' k hC
theorem qs_try_keep {ms : List Bool} {c : Value} {l : List (Str × Bool)} {body : List Stmt} {mb : DS} {np pos' yp np2 sp : Pos} (hc : Catch X.K X.mg c l) (hk1 : (ms[i]? == some true) = false) (hk2 : (ms[j]? == some true) = false) (hs : X.stack = X.env :: X.outer) (hf : X.env.frame = some X.env.locals) (hex : X.ex = []) (hN : X.N.Nodup) (hi : X.N[i]? = some n) (hj : X.N[j]? = some y) (hij : i ≠ j)
    (hln : X.env.kindOf n = some .local) (hly : X.env.kindOf y = some .local) (hnm : Names X x c) (tk : Takes X Wx)
    (hb : ∀ (W : WX) (pn : List (Addr × Obj)) (xe : Value → Shared → Prop), Takes (X.tr pn xe) W → PassesOwn (model X.prog X.w) X.A X.env xe → QSs (X.tr pn xe) ms W body mb)
    (hst : ∀ (a : Addr) (oe : Obj) (pn : List (Addr × Obj)), PS (X.suite a ((a, oe) :: pn)) (.Assign [.Name y yp] (.Name n np2) sp) (tAsg (tVar i) (gName j))) :
    QS X ms Wx (.Try body [.ExceptHandler (some (.Name x np)) (some n) [.Assign [.Name y yp] (.Name n np2) sp] pos'] [] [] pos) (dTryKeep i j l mb) :=
  ps_imp (ps_try_keep hs hf hex hN hi hj hij hln hly hnm tk (tb := fun W => TSd X.K X.mg ms W mb) hb hst) fun D σ H h => catch_ok h fun M H1 L ρ σ1 nm C k s sl hC hm => by
    cases hl : l.lookup nm with
    | none => rw [hl] at hm; exact hm.elim
    | some b =>
      rw [hl] at hm
      refine ⟨b, hc.ok nm b hl C hC, fun hb => ?_, fun hb => ?_⟩
      · subst hb
        refine ⟨rfl, fun a ha => ?_⟩
        have g : Grow M H1 (upd M a (ExQ (.ref C) a)) (upd H1 a (ExQ (.ref C) a)) := .sh s.le ha
        have s2 := s.grow g (.sh s.le ha)
        have r2 : Rep X.K X.mg (upd M a (ExQ (.ref C) a)) (.ref a) (.exc nm) := .exc hC upd_same
        have s3 : S X.K X.mg _ _ (L.set j ⟨some (.ref a), .sh (.exc nm), [], []⟩) := s2.set (.sh r2) fun _ t _ _ => sep_sh t
        have s4 := s3.set_no i none
        have kk1 : ms[i]? ≠ some true := by simpa using hk1
        have kk2 : ms[j]? ≠ some true := by simpa using hk2
        refine hm _ _ _ _ ?_ s4 ⟨?_, ?_⟩ fun q hq => ?_
        · have u0 : Up M H1 L _ _ L := g.up
          have u1 : Up (upd M a (ExQ (.ref C) a)) (upd H1 a (ExQ (.ref C) a)) L (upd M a (ExQ (.ref C) a)) (upd H1 a (ExQ (.ref C) a)) (L.set j ⟨some (.ref a), .sh (.exc nm), [], []⟩) := Up.refl.drop (fun b ⟨r, hr, hb⟩ => by
            rcases List.mem_or_eq_of_mem_set hr with h | rfl
            · exact ⟨r, h, hb⟩
            · cases hb) fun b ⟨r, hr, hb⟩ => by
            rcases List.mem_or_eq_of_mem_set hr with h | rfl
            · exact ⟨r, h, hb⟩
            · cases hb
          exact (u0.trans u1).trans up_set_no
        · rw [List.map_set, List.map_set, sl.v]
        · rw [List.map_set, List.map_set, sl.t]
        · rw [List.getElem?_set_ne (fun z => kk1 (by rw [z]; exact hq)), List.getElem?_set_ne (fun z => kk2 (by rw [z]; exact hq))]
      · subst hb
        exact hm
theorem qs_try {ms : List Bool} {c : Value} {l : List (Str × Bool)} {body suite : List Stmt} {b₀ : Stmt} {mb m2 : DS} {np pos' : Pos} (hc : Catch X.K X.mg c l) (hs : X.stack = X.env :: X.outer) (hf : X.env.frame = some X.env.locals) (hnm : Names X x c) (tk : Takes X Wx)
    (hb : ∀ (W : WX) (pn : List (Addr × Obj)) (xe : Value → Shared → Prop), Takes (X.tr pn xe) W → PassesOwn (model X.prog X.w) X.A X.env xe → QSs (X.tr pn xe) ms W body mb)
    (hsu : ∀ (a : Addr) (oe : Obj) (pn : List (Addr × Obj)), QSs (X.suite a ((a, oe) :: pn)) ms Wx (b₀ :: suite) m2) :
    QS X ms Wx (.Try body [.ExceptHandler (some (.Name x np)) none (b₀ :: suite) pos'] [] [] pos) (dTry l mb m2) :=
  ps_imp (ps_try_only hs hf hnm tk (tb := fun W => TSd X.K X.mg ms W mb) (ts := fun _ _ _ => TSd X.K X.mg ms Wx m2) hb fun a oe cls d pn _ _ => hsu a oe pn) fun D σ H h => catch_ok h fun M H1 L ρ σ1 nm C k s sl hC hm => by
    cases hl : l.lookup nm with
    | none => rw [hl] at hm; exact hm.elim
    | some b =>
      rw [hl] at hm
      refine ⟨b, hc.ok nm b hl C hC, fun hb a ha => ?_, fun hb => ?_⟩
      · subst hb
        exact ⟨M, L, ρ, s, sl, hm⟩
      · subst hb
        exact hm
/-! isinstance with an own class, or with ValueError -/
/-- what a class of exceptions is to isinstance; None too -/
structure Kits (K : PySem.W.Frag) (mg : Str → Option Value) (c : Value) (l : List (Str × Bool)) : Prop where
  ok : ∀ x b, l.lookup x = some b → ∀ C, cnOf mg x = some C → ExcC K C ∧ PySem.W.kitOne K (.ref C) c = some b
  none : PySem.W.kitOne K (.type "NoneType") c = some false
def wIsX (l : List (Str × Bool)) : V.D → Option T := fun d => match d with
  | .non => some (.sh (.bl false))
  | .exc n => (l.lookup n).map fun b => .sh (.bl b)
  | _ => none
theorem is_exc {pins : List (Addr × Obj)} {σ : L2.St} {H : Hp} {s : Shared} {a D : Addr} {c : Value} {b : Bool} {Q : Value → Shared → Prop} {A : Around} {E : Value → Shared → Prop} (I : L2.Inv X pins σ H s) (C : ExcC X.K D) (ha : H a = some (ExQ (.ref D) a)) (e : PySem.W.kitOne X.K (.ref D) c = some b) (h : ∀ tk, Q (.bool b) { s with toks := tk }) :
    wpAny (model X.prog X.w) A (PySem.call (.builtin "isinstance") [.ref a, c]) Q E s := by
  obtain ⟨⟨oe, vs, hget, hz, hv⟩, _⟩ := (show ObjOk X.prog X.w H s.heap a (ExQ (.ref D) a) from I.hok a _ ha)
  have J : PySem.W.InstAt s.heap a oe D none := by
    obtain ⟨oc, od, oda, osl⟩ := oe
    obtain ⟨h1, h2⟩ := hz
    dsimp only at h1 h2 hv
    subst h1 h2 hv
    exact ⟨hget, rfl, rfl, trivial⟩
  exact PySem.W.kia_one (PySem.W.handS_kitx_exc C.hg C.hk C.hs C.hd C.ha C.hn C.ht C.hm) I.kIn J e (fun z => nomatch z) h
def rIsX (K : PySem.W.Frag) (c : Value) : List V → Hp → VK → Prop := fun xs H Q => ∃ (x cv : V), xs = [x, cv] ∧ (∀ u, RelV cv u → u = c) ∧ ((x = .non ∧ PySem.W.kitOne K (.type "NoneType") c = some false ∧ Q (.bl false) H) ∨ ∃ (a D : Addr) (b : Bool), x = .ref a ∧ H a = some (ExQ (.ref D) a) ∧ ExcC K D ∧ PySem.W.kitOne K (.ref D) c = some b ∧ Q (.bl b) H)
theorem call_isX {c : Value} : CallR X (.builtin "isinstance") (rIsX X.K c) := by
  intro pins s σ H xs us Q I r h
  obtain ⟨x, cv, rfl, hcv, h⟩ := h
  cases r with
  | cons rx rr =>
    cases rr with
    | cons rt rr =>
      cases rr
      have ec := hcv _ rt
      subst ec
      rcases h with ⟨rfl, e, q⟩ | ⟨a, D, b, rfl, ha, C, e, q⟩
      · exact isinst_ok I rx .non e fun tk => ⟨.bl false, H, I.kept (t' := tk) fun _ _ z => z, rfl, q⟩
      · cases rx
        exact is_exc I C ha e fun tk => ⟨.bl b, H, I.kept (t' := tk) fun _ _ z => z, rfl, q⟩
theorem q_isX {e : Expr} {me : DE} {l : List (Str × Bool)} {cv : V} {c : Value} (kt : Kits X.K X.mg c l) (hcv : ∀ u, RelV cv u → u = c) (hg : Gl X "isinstance") (hm : X.mg "isinstance" = none) (hcl : PE X (.Name x p2) (tC cv)) (ha : QE X Wx e me) (hv : bootBuiltins "isinstance" = some (.builtin "isinstance") := by decide +kernel)
    (h1 : starEach [e, .Name x p2] X.env = (false, eval e X.env) :: starEach [.Name x p2] X.env := by rfl) (h2 : starEach [.Name x p2] X.env = (false, eval (.Name x p2) X.env) :: starEach [] X.env := by rfl)
    (hpl : (backTo pos (starEach [.Name x p2] X.env)).any (·.1) = false := by rfl) : QE X Wx (.Call (.Name "isinstance" p) [e, .Name x p2] [] pos) (d1 (wIsX l) me) := by
  refine pe_imp (pe_callB (call_isX (c := c)) hg hm hv (pa_cons ha (pa_cons hcl pa_nil h2) h1) (he := h1) (hpl := hpl)) fun σ H Q h => ?_
  refine (run_bind (sa := shE) h).mono fun v H1 h1 => ?_
  obtain ⟨M, hs, L, ρ, z, s, sl, q, al, hp⟩ := h1
  obtain ⟨d, e1, hp⟩ := rd_ok hp
  obtain ⟨t, ef, hp⟩ := ans_ok hp
  have r1 := zd_ok s sl (mem1 q) al e1
  have res := hp.res s.right sl fun r hr => List.mem_append_right _ hr
  refine ⟨v, cv, rfl, hcv, ?_⟩
  unfold wIsX at ef
  split at ef
  · cases ef
    exact .inl ⟨rep1_non r1, kt.none, res.here s.le (.bl _)⟩
  · rename_i n
    obtain ⟨b, e2, rfl⟩ := Option.map_eq_some_iff.mp ef
    rcases r1 with r1 | ⟨_, _, _, _, c⟩
    · cases r1 with
      | @exc a C _ hC hH =>
        obtain ⟨k1, k2⟩ := kt.ok n b e2 C hC
        exact .inr ⟨a, C, b, rfl, s.le.ex hH rfl, k1, k2, res.here s.le (.bl _)⟩
    · cases c
  · cases ef
theorem qg_cls {x : Str} {C : Addr} {p : Pos} (hg : Gl X x) (hm : X.mg x = some (.ref C)) (hd : (x == ("__debug__" : Str)) = false := by decide) : PE X (.Name x p) (tC (.ref C)) := pe_glob hg hm rfl hd
theorem own_cx {P : Program} {w : World} {K : PySem.W.Frag} {mg : Str → Option Value} {base : Heap} {N : List Str} {qual : Str} {f : Addr} {cd : Value} {A : Around} {outer : List PySem.Env} {s : Shared} {H : Hp} {E : XK} {scope : Scope} :
    PassesOwn (model P w) (cxOf (L2.CX P w) P w K mg base N qual scope f cd A outer s H E).A (cxOf (L2.CX P w) P w K mg base N qual scope f cd A outer s H E).env (cxOf (L2.CX P w) P w K mg base N qual scope f cd A outer s H E).xe :=
  passes_of (X := cxOf (L2.CX P w) P w K mg base N qual scope f cd A outer s H E) rfl
end
theorem hu_q {k : Nat} {A : Around} (r : Room k A) : A.units + 200 < cLine := by have := r.un; omega
/-- a def of the top -/
structure DefAt (K : PySem.W.Frag) (mg : Str → Option Value) (x : Str) (st : Stmt) : Prop where
  ex : ∃ f fd, mg x = some (.ref f) ∧ Fun K x x st f fd
theorem cal_of {P : Program} {w : World} {K : PySem.W.Frag} {mg : Str → Option Value} {base : Heap} {x : Str} {st : Stmt} {k : Nat} {ms : List Bool} {F : PF} (d : DefAt K mg x st) (h : ∀ f fd, Fun K x x st f fd → Fn P w K mg base k f ms F) : Cal P w K mg base k x ms F := by
  obtain ⟨f, fd, e, F1⟩ := d.ex
  exact ⟨f, e, h f fd F1⟩
end V

set_option Elab.async false
set_option linter.all false
set_option maxRecDepth 100000
/-! V14: the top's facts by an own hook; the end of a law. -/
namespace V
open PySem PySem.Spec PyProof.Rows L2
inductive Fx where
  | he (f : He.Fa)
  | exo (x : Str)
  | kit (x y : Str) (b : Bool)
  | kitV (x : Str)
  | kitN (y : Str)
  | kitNV
abbrev va : Value := .type "ValueError"
def Fx.ok (K : PySem.W.Frag) : Fx → Bool
  | .he f => f.ok K
  | .exo x => (He.eqO (PySem.W.findIn K (.ref (He.ga K x)) "__getattribute__") (some (some (.builtin "BaseException.__getattribute__"))) && He.eqO (PySem.W.findIn K (.ref (He.ga K x)) "__getattr__") (some none)) &&
      ((decide (PySem.W.subIn K (.ref (He.ga K x)) (.type "BaseException") = some true) && PySem.W.hasDictIn K (He.ga K x)) &&
      ((He.eqO (PySem.W.findIn K (.ref (He.ga K x)) "__class__") (some (some (.builtin "object.__class__"))) && He.eqO (PySem.W.specialIn K (.builtin "object.__class__") "__get__") (some (some (.builtin "getset_descriptor.__get__")))) &&
      (decide (PySem.W.takesIn K (.builtin "object.__class__") = some true) && decide (PySem.W.mroIn K (He.ga K x) (.type "object") = some true))))
  | .kit x y b => decide (PySem.W.kitOne K (.ref (He.ga K x)) (.ref (He.ga K y)) = some b)
  | .kitV x => decide (PySem.W.kitOne K (.ref (He.ga K x)) va = some true)
  | .kitN y => decide (PySem.W.kitOne K (.type "NoneType") (.ref (He.ga K y)) = some false)
  | .kitNV => decide (PySem.W.kitOne K (.type "NoneType") va = some false)
def obsQ (fx : List Fx) (fn : List He.DefD) (K : PySem.W.Frag) : He.AlD := ((fx.all fun f => f.ok K) && fn.all fun d => d.ok K, fn.map fun d => He.fnW K d.at_)
structure SaysQ (fx : List Fx) (fn : List He.DefD) (K : PySem.W.Frag) : Prop where
  e : obsQ fx fn K = He.valD fn
def obsQG (n : Nat) (fx : List Fx) (fn : List He.DefD) (g : Addr → Option Obj) : He.AlD := obsQ fx fn (He.frG g (He.asD g n))
def hookQ (n : Nat) (fx : List Fx) (fn : List He.DefD) : PySem.W.Hook where
  α := He.AlD
  obs := fun s => obsQG n fx fn s.heap.get?
  val := fun _ => He.valD fn
  says := fun _ h => ∃ K : PySem.W.Frag, K.In h ∧ SaysQ fx fn K
  of := fun _ _ e => ⟨_, He.frG_in, ⟨e⟩⟩
  keeps := fun _ _ _ ⟨K, hK, c⟩ k => ⟨K, PySem.W.Frag.In.keeps hK k, c⟩
theorem obsQG_eq {n : Nat} {fx : List Fx} {fn : List He.DefD} {g : Addr → Option Obj} {s : Shared} (h : ∀ a, g a = s.heap.get? a) : obsQG n fx fn g = (hookQ n fx fn).obs s := by
  obtain rfl : g = s.heap.get? := funext h
  rfl
section
variable {fx : List Fx} {fn : List He.DefD} {K : PySem.W.Frag} {mg : Str → Option Value} {h : Heap}
theorem SaysQ.fact (c : SaysQ fx fn K) (i : Nat) {f : Fx} (hi : fx[i]? = some f) : f.ok K = true := by
  have z : ((fx.all fun f => f.ok K) && fn.all fun d => d.ok K) = true := congrArg Prod.fst c.e
  exact List.all_eq_true.mp (He.ba z).1 f (List.mem_of_getElem? hi)
theorem SaysQ.fun_ (c : SaysQ fx fn K) (i : Nat) {d : He.DefD} (hi : fn[i]? = some d) : ∃ fd, FunD K d.name d.qual d.params d.body d.scope (d.dvs K) (d.kws K) (He.fAd K d.at_) fd := by
  have z : ((fx.all fun f => f.ok K) && fn.all fun d => d.ok K) = true := congrArg Prod.fst c.e
  have y : fn.map (fun d => He.fnW K d.at_) = fn.map He.DefD.val := congrArg Prod.snd c.e
  have x : He.fnW K d.at_ = d.val := by
    have x1 := congrArg (fun l => l[i]?) y
    simp only [List.getElem?_map, hi, Option.map_some, Option.some.injEq] at x1
    exact x1
  exact He.DefD.funD x (List.all_eq_true.mp (He.ba z).2 d (List.mem_of_getElem? hi))
/-- no defaults: as the layer wants it -/
theorem fun_of {x qual : Str} {st : Stmt} {f : Addr} {fd : FuncData} (F : FunD K x qual (defArgs st) (defBody st) (defScope st) [] [] f fd) : Fun K x qual st f fd := by
  obtain ⟨oc, od, dV, kV, doc, pm, an, cdv, ct, osl, e, lk, cd, dd, _⟩ := F.ex
  rcases dd with ⟨_, z⟩ | ⟨z, _⟩
  · subst z
    exact ⟨⟨oc, od, kV, doc, pm, an, cdv, ct, osl, e, lk, cd⟩, F.kp⟩
  · exact absurd rfl z
abbrev defD (x : Str) (st : Stmt) : He.DefD := ⟨(x, none), x, x, defArgs st, defBody st, defScope st, [], []⟩
theorem SaysQ.defAt (c : SaysQ fx fn K) (X : K.In h) (G : h.Ns mainGlobals mg) (i j : Nat) {x : Str} {st : Stmt} (hi : fn[i]? = some (defD x st)) (hj : fx[j]? = some (.he (.glo x))) : DefAt K mg x st := by
  obtain ⟨fd, F⟩ := c.fun_ i hi
  exact ⟨_, fd, He.glo_ok X G (c.fact j hj), fun_of F⟩
theorem SaysQ.free (c : SaysQ fx fn K) (X : K.In h) (G : h.Ns mainGlobals mg) (j : Nat) {x : Str} (hj : fx[j]? = some (.he (.free x))) : mg x = none := He.free_ok X G (c.fact j hj)
/-- an own class of exceptions -/
structure XCls (K : PySem.W.Frag) (mg : Str → Option Value) (x : Str) : Prop where
  g : mg x = some (.ref (He.ga K x))
  c : ExCls K mg x
  e : ExcC K (He.ga K x)
theorem SaysQ.xcls (c : SaysQ fx fn K) (X : K.In h) (G : h.Ns mainGlobals mg) (j k l : Nat) {x : Str} (hj : fx[j]? = some (.he (.glo x))) (hk : fx[k]? = some (.he (.exc x))) (hl : fx[l]? = some (.exo x)) : XCls K mg x := by
  have g := He.glo_ok X G (c.fact j hj)
  refine ⟨g, ⟨_, g, He.exc_ok (c.fact k hk)⟩, ?_⟩
  obtain ⟨a, b⟩ := He.ba (c.fact l hl)
  obtain ⟨a1, a2⟩ := He.ba a
  obtain ⟨b, d⟩ := He.ba b
  obtain ⟨b1, b2⟩ := He.ba b
  obtain ⟨d1, d2⟩ := He.ba d
  obtain ⟨d3, d4⟩ := He.ba d1
  obtain ⟨d5, d6⟩ := He.ba d2
  exact ⟨He.eqO_ok a1, He.eqO_ok a2, of_decide_eq_true b1, b2, He.eqO_ok d3, He.eqO_ok d4, of_decide_eq_true d5, of_decide_eq_true d6⟩
theorem cn_of {x : Str} {C : Addr} (g : mg x = some (.ref C)) : cnOf mg x = some C := by unfold cnOf; rw [g]
theorem XCls.cn {x : Str} (c : XCls K mg x) : cnOf mg x = some (He.ga K x) := cn_of c.g
/-- a clause that catches y, asked of the exceptions in l -/
def CatchL (K : PySem.W.Frag) (mg : Str → Option Value) (y : Str) (l : List (Str × Bool)) : Prop := ∀ p ∈ l, mg p.1 = some (.ref (He.ga K p.1)) ∧ PySem.W.exmOne K (.ref (He.ga K p.1)) (.ref (He.ga K y)) = some p.2
theorem lookup_mem {α : Type} {x : Str} {b : α} : ∀ {l : List (Str × α)}, l.lookup x = some b → (x, b) ∈ l
  | [], h => by cases h
  | (y, c) :: l, h => by
    rw [List.lookup_cons] at h
    split at h
    · rename_i e
      cases h
      rw [eq_of_beq e]
      exact List.mem_cons_self ..
    · exact List.mem_cons_of_mem _ (lookup_mem h)
theorem CatchL.ok {y : Str} {l : List (Str × Bool)} (c : CatchL K mg y l) : Catch K mg (.ref (He.ga K y)) l := ⟨fun x b e C hC => by
  obtain ⟨g, z⟩ := c _ (lookup_mem e)
  rw [cn_of g] at hC
  cases hC
  exact z⟩
def KitL (K : PySem.W.Frag) (mg : Str → Option Value) (v : Value) (l : List (Str × Bool)) : Prop := PySem.W.kitOne K (.type "NoneType") v = some false ∧ ∀ p ∈ l, XCls K mg p.1 ∧ PySem.W.kitOne K (.ref (He.ga K p.1)) v = some p.2
theorem KitL.ok {v : Value} {l : List (Str × Bool)} (c : KitL K mg v l) : Kits K mg v l := ⟨fun x b e C hC => by
  obtain ⟨g, z⟩ := c.2 _ (lookup_mem e)
  rw [g.cn] at hC
  cases hC
  exact ⟨g.e, z⟩, c.1⟩
theorem SaysQ.kit (c : SaysQ fx fn K) (j : Nat) {x y : Str} {b : Bool} (hj : fx[j]? = some (.kit x y b)) : PySem.W.kitOne K (.ref (He.ga K x)) (.ref (He.ga K y)) = some b := of_decide_eq_true (c.fact j hj)
theorem SaysQ.kitV (c : SaysQ fx fn K) (j : Nat) {x : Str} (hj : fx[j]? = some (.kitV x)) : PySem.W.kitOne K (.ref (He.ga K x)) va = some true := of_decide_eq_true (c.fact j hj)
theorem SaysQ.kitN (c : SaysQ fx fn K) (j : Nat) {y : Str} (hj : fx[j]? = some (.kitN y)) : PySem.W.kitOne K (.type "NoneType") (.ref (He.ga K y)) = some false := of_decide_eq_true (c.fact j hj)
theorem SaysQ.kitNV (c : SaysQ fx fn K) (j : Nat) (hj : fx[j]? = some .kitNV) : PySem.W.kitOne K (.type "NoneType") va = some false := of_decide_eq_true (c.fact j hj)
theorem SaysQ.exm (c : SaysQ fx fn K) (j : Nat) {x y : Str} {b : Bool} (hj : fx[j]? = some (.he (.exm x y b))) : PySem.W.exmOne K (.ref (He.ga K x)) (.ref (He.ga K y)) = some b := He.exm_ok (c.fact j hj)
end

/-! classes of one's own -/
abbrev metD (C m : Str) (q : Str) (st : Stmt) : He.DefD := ⟨(C, some m), m, q, defArgs st, defBody st, defScope st, [], []⟩
/-- a class: its methods are looked up plainly -/
structure ClsAt (K : PySem.W.Frag) (mg : Str → Option Value) (C : Str) : Prop where
  g : mg C = some (.ref (He.ga K C))
  c : Cls K (He.ga K C)
theorem ClsAt.cn {K : PySem.W.Frag} {mg : Str → Option Value} {C : Str} (c : ClsAt K mg C) : cnOf mg C = some (He.ga K C) := cn_of c.g
structure MetAt (K : PySem.W.Frag) (mg : Str → Option Value) (C m q : Str) (st : Stmt) : Prop where
  cl : ClsAt K mg C
  me : Meth K (He.ga K C) m (He.ma K (He.ga K C) m)
  fn : ∃ fd, Fun K m q st (He.ma K (He.ga K C) m) fd
structure MakAt (K : PySem.W.Frag) (mg : Str → Option Value) (C q : Str) (st : Stmt) : Prop where
  cl : ClsAt K mg C
  mkr : Mk K (He.ga K C) (He.ma K (He.ga K C) "__init__")
  fn : ∃ fd, Fun K "__init__" q st (He.ma K (He.ga K C) "__init__") fd
section
variable {fx : List Fx} {fn : List He.DefD} {K : PySem.W.Frag} {mg : Str → Option Value} {h : Heap}
theorem SaysQ.clsAt (c : SaysQ fx fn K) (X : K.In h) (G : h.Ns mainGlobals mg) (j k : Nat) {C : Str} (hj : fx[j]? = some (.he (.glo C))) (hk : fx[k]? = some (.he (.cls C))) : ClsAt K mg C := ⟨He.glo_ok X G (c.fact j hj), He.cls_ok (c.fact k hk)⟩
theorem SaysQ.metAt (c : SaysQ fx fn K) {C m q : Str} {st : Stmt} (cl : ClsAt K mg C) (i j : Nat) (hi : fn[i]? = some (metD C m q st)) (hj : fx[j]? = some (.he (.meth C m))) : MetAt K mg C m q st := by
  obtain ⟨fd, F⟩ := c.fun_ i hi
  exact ⟨cl, He.meth_ok (c.fact j hj), fd, fun_of F⟩
theorem SaysQ.makAt (c : SaysQ fx fn K) {C q : Str} {st : Stmt} (cl : ClsAt K mg C) (i j : Nat) (hi : fn[i]? = some (metD C "__init__" q st)) (hj : fx[j]? = some (.he (.mkr C))) : MakAt K mg C q st := by
  obtain ⟨fd, F⟩ := c.fun_ i hi
  exact ⟨cl, He.mkr_ok (c.fact j hj), fd, fun_of F⟩
theorem SaysQ.fld (c : SaysQ fx fn K) {C f : Str} (cl : ClsAt K mg C) (j : Nat) (hj : fx[j]? = some (.he (.noat C f))) : Fld K mg C f := ⟨fun C' hC => by
  rw [cl.cn] at hC
  cases hC
  exact ⟨cl.c, He.noat_ok (c.fact j hj)⟩⟩
theorem SaysQ.glI (c : SaysQ fx fn K) (X : K.In h) (G : h.Ns mainGlobals mg) (j : Nat) {x : Str} {i : Int} (hj : fx[j]? = some (.he (.int x i))) : GlI mg x i := ⟨He.int_ok X G (c.fact j hj)⟩
theorem SaysQ.glS (c : SaysQ fx fn K) (X : K.In h) (G : h.Ns mainGlobals mg) (j : Nat) {x z : Str} (hj : fx[j]? = some (.he (.str x z))) : GlS mg x z := ⟨He.str_ok X G (c.fact j hj)⟩
theorem met_of {P : Program} {w : World} {base : Heap} {C m q : Str} {st : Stmt} {k : Nat} {ms : List Bool} {F : PF} (d : MetAt K mg C m q st) (h : ∀ f fd, Fun K m q st f fd → Fn P w K mg base k f ms F) : Met P w K mg base k C m ms F := by
  obtain ⟨fd, F1⟩ := d.fn
  exact ⟨_, _, d.cl.cn, d.cl.c, d.me, h _ fd F1⟩
theorem mak_of {P : Program} {w : World} {base : Heap} {C q : Str} {st : Stmt} {k : Nat} {ms : List Bool} {F : PF} (d : MakAt K mg C q st) (h : ∀ f fd, Fun K "__init__" q st f fd → Fn P w K mg base k f (true :: ms) F) : Mak P w K mg base k C ms F := by
  obtain ⟨fd, F1⟩ := d.fn
  exact ⟨_, _, d.cl.g, d.mkr, h _ fd F1⟩
end
/-! ### the end -/
theorem fn_ok {P : Program} {w : World} {K : PySem.W.Frag} {mg : Str → Option Value} {base : Heap} {x qual : Str} {st : Stmt} {f : Addr} {fd : FuncData} {N ps : List Str} {k : Nat} {m : DS} (ms : List Bool) (hm : ms.length = ps.length) (hN : ps.length ≤ N.length) (F : Fun K x qual st f fd) (S : FnScope N ps (defScope st))
    (hbody : ∀ (cdv : Value) (A : Around) (outer : List PySem.Env) (s : Shared) (H : Hp) (E : XK), Room k (A.deeper (envOfC qual (defScope st) s.heap.objs.size f cdv)) →
      Takes (cxOf (L2.CX P w) P w K mg base N qual (defScope st) f cdv A outer s H E) (fun c d _ H' => E c d H') →
      QSs (cxOf (L2.CX P w) P w K mg base N qual (defScope st) f cdv A outer s H E) ms (fun c d _ H' => E c d H') (defBody st) m) : FnOk P w K mg base (L2.CX P w) (k + 1) f fd ps (SpD K mg ms (runF ms N.length m)) :=
  F.okX S (fun vs H Q E h => h.1.trans hm) fun cdv A outer s H vs Q E hr h => ⟨_, hbody cdv A outer s H E hr (takes_of rfl rfl rfl rfl), out_ok (by rw [h.1, hm]; exact hN) h⟩
theorem rep_ints {K : PySem.W.Frag} {mg : Str → Option Value} {M : Hp} : ∀ ns : List Int, Reps K mg M (ns.map L2.V.int) (ns.map V.D.int)
  | [] => .nil
  | n :: ns => .cons (.int n) (rep_ints ns)
theorem law_end {l : PySem.W.OpenLaw} {k : Nat} {q : Program} {loose : List Str} {XP : (Str → Option Value) → Heap → Prop} {d : DefRec} {fx : List Fx} {fn : List He.DefD} {F : PF} {x : Str}
    (hn : l.most = some 63) (hdf : d.params.defaults = []) (hr : Room k callerA)
    (H1 : ∀ (w : World) (mg : Str → Option Value) (fa : Addr) (h : Heap) (K : PySem.W.Frag), K.In h → h.Ns mainGlobals mg → SaysQ fx fn K → mg d.name = some (.ref fa) →
      ∃ fd : FuncData, (∀ (s : Shared) (u : Value), BindsTo s fd ⟨[u], []⟩ [(x, u)]) ∧ ∀ base : Heap, FnOk l.prog w K mg base (L2.CX l.prog w) k fa fd [x] (SpD K mg [false] F))
    (H2 : ∀ ns : List Int, ns.length ≤ 63 → (∀ z ∈ ns, Builtin.Int.intBits z ≤ 1048576) → F [.sh (.scr (ns.map V.D.int))] = .ok (.sh (.bl true)) []) :
    PySem.W.WalkO q loose XP (hookQ 4 fx fn).says l.row.toRowW d [] (fun f vs => PySem.call f vs) := by
  refine Att.attach_callB hn hdf fun w s₀ s₁ mg mb fa o pm cd doc a vs ns G Y ho hd hcd hmg hobj hints hlen hbits hg => ?_
  obtain ⟨K, KX, c⟩ := Y
  obtain ⟨fd, hb, hF⟩ := H1 w mg fa _ K KX G.T.g c hmg
  refine law_call KX G.T.g G.T.b G.T.builtins G.T.nolimit hg hobj hints (Nat.le_trans hlen (by decide)) hr (fun base _ _ => hF base) hb (fun H hO hS => ?_) fun H e s' z => ?_
  · have rs : Rep K mg H (.ref a) (.scr (ns.map V.D.int)) := by
      refine Rep.scr ?_ (rep_ints ns)
      rcases hS with z | z
      · rcases z with z | z
        · rcases hO a with y | ⟨o, xs, y⟩
          · rw [z] at y; cases y
          · rw [z] at y; cases y
        · exact .inl z
      · exact .inr z
    refine ⟨rfl, H, [⟨some (.ref a), .sh (.scr (ns.map V.D.int)), [], []⟩], (S.nil .refl).sh rs, rfl, ?_⟩
    rw [show ([⟨some (.ref a), .sh (.scr (ns.map V.D.int)), [], []⟩] : List Rt).map (·.t) = [.sh (.scr (ns.map V.D.int))] from rfl, H2 ns hlen hbits]
    intro M' H' v kk e fs u s' hv ht
    have ok := s'.head
    cases ok with
    | sh r => cases r; rfl
  · obtain ⟨_, _, _, _, _, _, _, _, _, _, _, _, z⟩ := z
    exact z
end V

set_option Elab.async false
set_option linter.all false
set_option maxRecDepth 100000
/-! V15: a < b < c, d.get(k, x), self.f[k] = v. -/
namespace V
open PySem PySem.Spec PyProof.Rows L2
section
variable {X : Cx} {Wx : WX} {x : Str} {p pos apos : Pos} {e o f a b c : Expr} {es : List Expr} {mas : P (List Z)} {ma mb mc mo me mx : DE}
/-! a < b < c -/
def isB : Option T → Option Bool
  | some (.sh (.bl k)) => some k
  | _ => none
def dChain (f g : V.D → V.D → Option T) (ma mb mc : DE) : DE := bnd ma fun x => bnd mb fun y => rd x fun d => rd y fun e => match isB (f d e) with
  | some true => bnd mc fun z => rd y fun e => rd z fun u => ans (g e u)
  | some false => ret (.v (.sh (.bl false)))
  | none => stk
theorem isB_ok {t : Option T} {k : Bool} (h : isB t = some k) : t = some (.sh (.bl k)) := by
  unfold isB at h
  split at h
  · cases h; rfl
  · cases h
theorem chain_ok {r r' : R2} {F G : V.D → V.D → Option T} (hf : Op2 X.K X.mg r F) (hg : Op2 X.K X.mg r' G) {σ : L2.St} {H : Hp} {Q : VK} (h : TEd X.K X.mg Wx (dChain F G ma mb mc) σ H Q) :
    tChain r r' (TEd X.K X.mg Wx ma) (TEd X.K X.mg Wx mb) (TEd X.K X.mg Wx mc) σ H Q := by
  refine (run_bind (sa := shE) h).mono fun x H1 h1 => ?_
  refine (mid_bind (sb := shE) (f := fun x y => rd x fun d => rd y fun e => match isB (F d e) with
    | some true => bnd mc fun z => rd y fun e => rd z fun u => ans (G e u)
    | some false => ret (.v (.sh (.bl false)))
    | none => stk) stays_E h1).mono fun y H2 h2 => ?_
  obtain ⟨M, hs, L, ρ, ⟨z1, z2⟩, s, l, q, al, hp⟩ := h2
  obtain ⟨d, e1, hp⟩ := rd_ok hp
  obtain ⟨e, e2, hp⟩ := rd_ok hp
  cases ef : isB (F d e) with
  | none => rw [ef] at hp; exact hp.elim
  | some k =>
    rw [ef] at hp
    have mx : (some x, zt z1) ∈ hs.map vt := by rw [q]; exact List.mem_append_left _ (List.mem_singleton.mpr rfl)
    have my : (some y, zt z2) ∈ hs.map vt := by rw [q]; exact List.mem_append_right _ (List.mem_singleton.mpr rfl)
    refine hf s.le (zd_ok s l mx al.1 e1) (zd_ok s l my al.2 e2) (isB_ok ef) fun M' H' v k' g hl ok hk => ?_
    have ev : v = .bl k := by
      cases ok with
      | sh rr => cases rr; rfl
    refine ⟨k, ev, ?_⟩
    cases k with
    | false =>
      rw [if_neg (by simp)]
      exact Post.res (hp.pull g.up) (s.grow g hl).right l (fun r hr => List.mem_append_right _ hr) |>.here hl (.bl _)
    | true =>
      rw [if_pos rfl]
      have hM : Mid X.K X.mg (shP shE shE x) shE Wx (fun w => bnd mc fun z => rd w.2 fun e => rd z fun u => ans (G e u)) σ Q y H' := ⟨M', hs, L, ρ, (z1, z2), s.grow g hl, l, q, al, hp.pull g.up⟩
      refine (mid_bind (sb := shE) (f := fun w z => rd w.2 fun e => rd z fun u => ans (G e u)) (stays_P stays_E stays_E) hM).mono fun w H3 h3 => ?_
      obtain ⟨M, hs, L, ρ, ⟨⟨z1, z2⟩, z3⟩, s, l, q, al, hp⟩ := h3
      obtain ⟨d, e1, hp⟩ := rd_ok hp
      obtain ⟨e, e2, hp⟩ := rd_ok hp
      obtain ⟨t, eg, hp⟩ := ans_ok hp
      refine hg s.le (zd_ok s l ?_ al.1.2 e1) (zd_ok s l ?_ al.2 e2) eg (hp.res s.right l fun r hr => List.mem_append_right _ hr)
      · rw [q]; exact List.mem_append_left _ (List.mem_append_right _ (List.mem_singleton.mpr rfl))
      · rw [q]; exact List.mem_append_right _ (List.mem_singleton.mpr rfl)
theorem cBl_run {m : DE} {σ : L2.St} {H : Hp} {Q : Bool → Hp → Prop} (h : TTd X.K X.mg Wx (cBl m) σ H Q) : TEd X.K X.mg Wx m σ H fun v H1 => ∃ k, v = .bl k ∧ Q k H1 := by
  refine (run_bind (sa := shE) h).mono fun x H1 h1 => ?_
  obtain ⟨M, hs, L, ρ, z, s, l, q, al, hp⟩ := h1
  obtain ⟨d, e1, hp⟩ := rdO_ok hp
  obtain ⟨k, ek, hp⟩ := opT_ok hp
  split at ek
  · cases ek
    exact ⟨k, rep1_bl (zd_ok s l (mem1 q) al e1), hp.dry rfl rfl s.right l fun r hr => List.mem_append_right _ hr⟩
  · cases ek
theorem q_chain {op op' : CmpOp} {r r' : R2} {F G : V.D → V.D → Option T} (hf : Op2 X.K X.mg r F) (hg : Op2 X.K X.mg r' G) (ho : OpR X (compareOp op) r) (ho' : OpR X (compareOp op') r') (ha : QE X Wx a ma) (hb : QE X Wx b mb) (hc : QE X Wx c mc)
    (hm : lastMarks [op, op'] [b, c] = false := by with_unfolding_all rfl) : QE X Wx (.Compare a [op, op'] [b, c] pos) (dChain F G ma mb mc) := pe_imp (pe_chain ho ho' ha hb hc hm) fun σ H Q h => chain_ok hf hg h
theorem qt_chain {op op' : CmpOp} {r r' : R2} {F G : V.D → V.D → Option T} (hf : Op2 X.K X.mg r F) (hg : Op2 X.K X.mg r' G) (ho : OpR X (compareOp op) r) (ho' : OpR X (compareOp op') r') (ha : QE X Wx a ma) (hb : QE X Wx b mb) (hc : QE X Wx c mc)
    (hm : lastMarks [op, op'] [b, c] = false := by with_unfolding_all rfl) : QT X Wx (.Compare a [op, op'] [b, c] pos) (cBl (dChain F G ma mb mc)) := pt_imp (pt_chain ho ho' ha hb hc hm) fun σ H Q h => chain_ok hf hg (cBl_run h)
/-! d.get(k, x) -/
def dGetZ (x y z : Z) : DE := fun ρ => match zd ρ x, zd ρ y, gt ρ z with
  | some d, some k, some (.sh u) => (match dGet d k with
    | some (some w) => .ok (.v (.sh w)) ρ
    | some none => .ok (.v (.sh u)) ρ
    | none => .stk)
  | _, _, _ => .stk
def dGet2 (mo me mx : DE) : DE := bnd mo fun x => chk isK x (bnd me fun y => bnd mx fun z => dGetZ x y z)
theorem isK_D {M H : Hp} {hs L : List Rt} {σ : L2.St} {ρ : Env} {z : Z} {v : V} {K : PySem.W.Frag} {mg : Str → Option Value} (s : S K mg M H (hs ++ L)) (l : SL L σ ρ) (hh : (some v, zt z) ∈ hs.map vt) (al : Al L v z) (e : isK (gt ρ z) = true) : ∃ a, v = .ref a ∧ IsD H a := by
  unfold isK at e
  cases hg : gt ρ z with
  | none => rw [hg] at e; cases e
  | some t =>
    rw [hg] at e
    dsimp only at e
    obtain ⟨r, hr, hv, rfl⟩ := gt_ok s l hh al hg
    have ok := s.ok r hr
    cases ht : td r.t with
    | none => rw [ht] at e; cases e
    | some d =>
      rw [ht] at e
      have r1 := td_ok s.le ok hv ht
      cases d with
      | dk ks l' => obtain ⟨a, vs, rfl, h, _⟩ := rep1_dk s.le r1; exact ⟨a, rfl, .inl ⟨vs, h⟩⟩
      | dt ks l' => obtain ⟨a, vs, rfl, h, _⟩ := rep1_dt s.le r1; exact ⟨a, rfl, .inr ⟨vs, h⟩⟩
      | _ => cases e
theorem q_get2 (hu : X.A.units + 200 < cLine) (ho : QE X Wx o mo) (he : QE X Wx e me) (hx : QE X Wx f mx)
    (m : M2 X o "get" apos e f pos := by exact ⟨rfl, rfl, rfl, rfl⟩) : QE X Wx (.Call (.Attribute o "get" apos) [e, f] [] pos) (dGet2 mo me mx) := by
  refine pe_imp (pe_dget2 (by omega) ho he hx m) fun σ H Q h => ?_
  refine (run_bind (sa := shE) h).mono fun v H1 h1 => ?_
  obtain ⟨M, hs, L, ρ, z, s, l, q, al, hp⟩ := h1
  dsimp only [chk] at hp
  cases hok : isK (gt ρ z) with
  | false => rw [hok] at hp; exact hp.elim
  | true =>
    rw [if_pos hok] at hp
    obtain ⟨a, rfl, hd⟩ := isK_D s l (mem1 q) al hok
    refine ⟨a, rfl, hd, ?_⟩
    have hM : Mid X.K X.mg shE shE Wx (fun x => bnd me fun y => bnd mx fun z => dGetZ x y z) σ Q (.ref a) H1 := ⟨M, hs, L, ρ, z, s, l, q, al, hp⟩
    refine (mid_bind (sb := shE) (f := fun x y => bnd mx fun z => dGetZ x y z) stays_E hM).mono fun y H2 h2 => ?_
    refine (mid_bind (sb := shE) (f := fun w z => dGetZ w.1 w.2 z) (stays_P stays_E stays_E) h2).mono fun u H3 h3 => ?_
    obtain ⟨M, hs, L, ρ, ⟨⟨z1, z2⟩, z3⟩, s, l, q, al, hp⟩ := h3
    have m1 : (some (V.ref a), zt z1) ∈ hs.map vt := by rw [q]; exact List.mem_append_left _ (List.mem_append_left _ (List.mem_singleton.mpr rfl))
    have m2 : (some y, zt z2) ∈ hs.map vt := by rw [q]; exact List.mem_append_left _ (List.mem_append_right _ (List.mem_singleton.mpr rfl))
    have m3 : (some u, zt z3) ∈ hs.map vt := by rw [q]; exact List.mem_append_right _ (List.mem_singleton.mpr rfl)
    simp only [dGetZ] at hp
    cases h1 : zd ρ z1 with
    | none => rw [h1] at hp; exact hp.elim
    | some d =>
    cases h2 : zd ρ z2 with
    | none => rw [h1, h2] at hp; exact hp.elim
    | some k =>
    cases h3 : gt ρ z3 with
    | none => rw [h1, h2, h3] at hp; exact hp.elim
    | some t =>
    rw [h1, h2, h3] at hp
    cases t with
    | sh w =>
      dsimp only at hp
      cases hg : dGet d k with
      | none => rw [hg] at hp; exact hp.elim
      | some og =>
        rw [hg] at hp
        obtain ⟨a', u', ea, dg, gr⟩ := dGet_ok s.le (zd_ok s l m1 al.1.1 h1) (zd_ok s l m2 al.1.2 h2) hg
        cases ea
        refine ⟨u', dg, ?_⟩
        have hG : ∀ r ∈ L, r ∈ hs ++ L := fun r hr => List.mem_append_right _ hr
        cases og with
        | none =>
          rw [show u' = none from gr]
          exact (Post.res hp s.right l hG).here s.le (shv s l m3 al.2 h3)
        | some y' =>
          obtain ⟨z', rfl, rz⟩ := gr
          exact (Post.res hp s.right l hG).here s.le rz
    | _ => exact hp.elim
end
/-! self.f[k] = v, self.f.append(v) -/
section
variable {K : PySem.W.Frag} {mg : Str → Option Value} {M H : Hp}
theorem Flds.ow_at {f : Str} {l l' : V.D} {fvs : List (Str × V)} {fs : List (Str × FT)} {k e : List Addr} (fl : Flds K mg M H fvs fs k e) (h : getFT fs f = some (.ow l)) (nd : k.Nodup) (ne : ∀ x ∈ k, x ∉ e) :
    ∃ b o, fvs.lookup f = some (.ref b) ∧ b ∈ k ∧ H b = some o ∧ Cel K mg M o l ∧ ∀ o' l', Cel K mg M o' l' → Flds K mg M (upd H b o') fvs (putFT fs f (.ow l')) k e := by
  induction fl with
  | nil => cases h
  | @sh g v d fvs fs k e r _ ih =>
    unfold getFT at h
    rw [List.lookup_cons]
    cases hg : f == g with
    | true => rw [hg, if_pos rfl] at h; cases h
    | false =>
      rw [hg, if_neg (by simp)] at h
      obtain ⟨b, o, h1, h2, h3, h4, h5⟩ := ih h nd ne
      refine ⟨b, o, h1, h2, h3, h4, fun o' l' c => ?_⟩
      unfold putFT
      rw [if_neg (by intro z; subst z; simp at hg)]
      exact .sh r (h5 o' l' c)
  | @ow g a oa d fvs fs k e h1 c n fl ih =>
    unfold getFT at h
    rw [List.lookup_cons]
    have nd' := List.nodup_cons.mp nd
    cases hg : f == g with
    | true =>
      rw [hg, if_pos rfl] at h
      cases h
      refine ⟨a, oa, rfl, List.mem_cons_self .., h1, c, fun o' l' c' => ?_⟩
      unfold putFT
      rw [if_pos (by simpa using Eq.symm (eq_of_beq hg))]
      refine .ow upd_same c' n (fl.stay .refl (fun x hx => ⟨fun w hw => ?_, fun _ h => h⟩) fun x hx w hw => ?_)
      · rw [upd_ne fun z => nd'.1 (by rw [← z]; exact hx)]; exact hw
      · rw [upd_ne fun z => ne a (List.mem_cons_self ..) (by rw [← z]; exact hx)]; exact hw
    | false =>
      rw [hg, if_neg (by simp)] at h
      obtain ⟨b, o, h2, h3, h4, h5, h6⟩ := ih h nd'.2 fun x hx => ne x (List.mem_cons_of_mem _ hx)
      refine ⟨b, o, h2, List.mem_cons_of_mem _ h3, h4, h5, fun o' l' c' => ?_⟩
      unfold putFT
      rw [if_neg (by intro z; subst z; simp at hg)]
      refine .ow ?_ c n (h6 o' l' c')
      rw [upd_ne fun z => nd'.1 (by rw [z]; exact h3)]
      exact h1
  | @lo g a oa d fvs fs k e h1 c fl ih =>
    unfold getFT at h
    rw [List.lookup_cons]
    cases hg : f == g with
    | true => rw [hg, if_pos rfl] at h; cases h
    | false =>
      rw [hg, if_neg (by simp)] at h
      obtain ⟨b, o, h2, h3, h4, h5, h6⟩ := ih h nd fun x hx hb => ne x hx (List.mem_cons_of_mem _ hb)
      refine ⟨b, o, h2, h3, h4, h5, fun o' l' c' => ?_⟩
      unfold putFT
      rw [if_neg (by intro z; subst z; simp at hg)]
      refine .lo (h1.stay fun w hw => ?_) c (h6 o' l' c')
      rw [upd_ne fun z => ne b h3 (by rw [← z]; exact List.mem_cons_self ..)]
      exact hw
/-- an own field of an own object is written -/
theorem S.writeFld {hs L : List Rt} {σ : L2.St} {ρ : Env} {i : Nat} {C f : Str} {fs : List (Str × FT)} {l : V.D} (s : S K mg M H (hs ++ L)) (l0 : SL L σ ρ) (hi : ρ[i]? = some (.ob C fs)) (hf : getFT fs f = some (.ow l)) :
    ∃ a c dx fvs b o, σ[i]? = some (some (.ref a)) ∧ cnOf mg C = some c ∧ H a = some (.ins c dx fvs) ∧ fvs.lookup f = some (.ref b) ∧ H b = some o ∧ Cel K mg M o l ∧ ∀ o' l', Cel K mg M o' l' →
      ∃ L', S K mg M (upd H b o') L' ∧ Up M H (hs ++ L) M (upd H b o') L' ∧ SL L' σ (ρ.set i (.ob C (putFT fs f (.ow l')))) := by
  have hi0 := hi
  rw [← l0.t, List.getElem?_map] at hi
  obtain ⟨r, hr, et⟩ := Option.map_eq_some_iff.mp hi
  have ok := s.ok r (List.mem_append_right _ (List.mem_of_getElem? hr))
  cases ok with
  | @ob a c dx C' fvs fs' k e h0 h n fl nd ne =>
    cases et
    have nd' := List.nodup_cons.mp nd
    obtain ⟨b, o, p1, p2, p3, p4, p5⟩ := fl.ow_at (l' := l) hf nd'.2 fun x hx => ne x (List.mem_cons_of_mem _ hx)
    refine ⟨a, c, dx, fvs, b, o, ?_, h0, h, p1, p3, p4, fun o' l' c' => ?_⟩
    · rw [← l0.v, List.getElem?_map, hr, Option.map_some]
    · have hok : Rok K mg M (upd H b o') ⟨some (.ref a), .ob C (putFT fs f (.ow l')), a :: k, e⟩ := .ob h0 (by rw [upd_ne fun z => nd'.1 (by rw [z]; exact p2)]; exact h) n (p5 o' l' c') nd ne
      have he : ∀ x ∈ e, Ys (hs ++ L) x := fun x hx => ⟨_, List.mem_append_right _ (List.mem_of_getElem? hr), hx⟩
      obtain ⟨s2, u2⟩ := s.write (o := o') (r' := ⟨some (.ref a), .ob C (putFT fs f (.ow l')), a :: k, e⟩) hr (List.mem_cons_of_mem _ p2) hok (fun x hx => .inl hx) he
      exact ⟨_, s2, u2, l0.set (r := ⟨some (.ref a), .ob C (putFT fs f (.ow l')), a :: k, e⟩) fun q hq => by rw [hr] at hq; cases hq; rfl⟩
  | _ => cases et
end
section
variable {X : Cx} {Wx : WX} {ms : List Bool} {x : Str} {p pos apos pos2 p2 : Pos} {e o it : Expr} {me mo mi : DE}
def gFSub (i : Nat) (Cn f : Str) (j : Nat) : DG := fun z ρ => match ρ[i]? with
  | some (.ob C fs) => (match getFT fs f, (ρ[j]?).bind td, gt ρ z with
    | some (.ow l), some k, some (.sh d) => if C = Cn then (match fSet l k d with
      | some l' => .ok () (ρ.set i (.ob C (putFT fs f (.ow l'))))
      | none => .stk) else .stk
    | _, _, _ => .stk)
  | _ => .stk
theorem slot_val {K : PySem.W.Frag} {mg : Str → Option Value} {M H : Hp} {hs L : List Rt} {σ : L2.St} {ρ : Env} {j : Nat} {d : V.D} (s : S K mg M H (hs ++ L)) (l : SL L σ ρ) (e : (ρ[j]?).bind td = some d) : ∃ v, σ[j]? = some (some v) ∧ Rep1 K mg M H v d := by
  obtain ⟨t, e1, e2⟩ := Option.bind_eq_some_iff.mp e
  rw [← l.t, List.getElem?_map] at e1
  obtain ⟨r, hr, rfl⟩ := Option.map_eq_some_iff.mp e1
  have ok := s.ok r (List.mem_append_right _ (List.mem_of_getElem? hr))
  obtain ⟨v, hv⟩ := ok.val (by intro z; rw [z] at e2; cases e2)
  exact ⟨v, by rw [← l.v, List.getElem?_map, hr, Option.map_some, hv], td_ok s.le ok hv e2⟩
theorem qg_fsub (i j : Nat) {Cn f xi xj : Str} (c : Fld X.K X.mg Cn f) (hu : X.A.units + 200 < cLine) {q1 q2 q3 : Pos}
    (hN : X.N[i]? = some xi := by rfl) (hv : Vis X.env.scope xi := by first | exact Or.inl rfl | exact Or.inr (Or.inl rfl) | exact Or.inr (Or.inr rfl)) (hd : (xi == ("__debug__" : Str)) = false := by decide) (hcd : (xi == ("__classdict__" : Str)) = false := by decide)
    (hN' : X.N[j]? = some xj := by rfl) (hv' : Vis X.env.scope xj := by first | exact Or.inl rfl | exact Or.inr (Or.inl rfl) | exact Or.inr (Or.inr rfl)) (hd' : (xj == ("__debug__" : Str)) = false := by decide) (hcd' : (xj == ("__classdict__" : Str)) = false := by decide)
    (hb : attributeBase (.Name xi q1) f X.env (eval (.Name xi q1) X.env) = eval (.Name xi q1) X.env := by rfl)
    (ha : ∀ v, assign (.Subscript (.Attribute (.Name xi q1) f q2) (.Name xj q3) pos) X.env v = (do
      let ov ← holding [v] (eval (.Attribute (.Name xi q1) f q2) X.env)
      let iv ← holding [v, ov] (eval (.Name xj q3) X.env)
      standAt pos
      holding [v, ov, iv] (setItem ov iv v)
      release [v, ov, iv] []) := by intro _; rfl) : QG X ms Wx (.Subscript (.Attribute (.Name xi q1) f q2) (.Name xj q3) pos) (gFSub i Cn f j) :=
  pg_imp (L2.pg_sub (pe_fld (pe_var hN hv hd hcd) hb) (pe_var hN' hv' hd' hcd') (set_all hu) ha) fun v σ H Q ⟨M, hs, L, ρ, z, s, l, q, al, hp⟩ => by
  unfold gFSub at hp
  cases hi : ρ[i]? with
  | none => rw [hi] at hp; exact hp.elim
  | some t =>
    rw [hi] at hp
    cases t with
    | ob C fs =>
      dsimp only at hp
      cases hf : getFT fs f with
      | none => rw [hf] at hp; exact hp.elim
      | some ft =>
      cases hk : (ρ[j]?).bind td with
      | none => rw [hf, hk] at hp; (cases ft <;> exact hp.elim)
      | some k =>
      cases hz : gt ρ z with
      | none => rw [hf, hk, hz] at hp; (cases ft <;> exact hp.elim)
      | some tz =>
      rw [hf, hk, hz] at hp
      cases ft with
      | ow lc =>
        cases tz with
        | sh d =>
          dsimp only at hp
          by_cases hC : C = Cn
          · subst hC
            rw [if_pos rfl] at hp
            cases h3 : fSet lc k d with
            | none => rw [h3] at hp; exact hp.elim
            | some l' =>
              rw [h3] at hp
              obtain ⟨a, c0, dx, fvs, b, oc, e1, e2, e3, e4, e5, e6, e7⟩ := s.writeFld l hi hf
              obtain ⟨kv, k1, k2⟩ := slot_val s l hk
              obtain ⟨c1, c2⟩ := c.ok c0 e2
              refine ⟨.ref a, e1, a, c0, dx, fvs, .ref b, rfl, e3, c1, c2, e4, kv, k1, ?_⟩
              refine set_ok s.le e5 e6 k2 (shv s l ?_ al hz) h3 fun o' c' => ?_
              · simp [q]
              · obtain ⟨L', s3, u3, l3⟩ := e7 o' l' c'
                exact hp M _ _ σ u3 s3 l3 .refl
          · rw [if_neg hC] at hp; exact hp.elim
        | _ => exact hp.elim
      | _ => exact hp.elim
    | _ => exact hp.elim
end
end V

set_option Elab.async false
set_option linter.all false
set_option maxRecDepth 100000
/-! V16: list.extend by a tuple. -/
namespace V
open PySem PySem.Spec PyProof.Rows L2
open PySem.AutoSeq1 in
theorem extT_meets (l : Addr) (items : Array Value) (n : Nat) (b : Addr) (items2 : Array Value) (o : Obj) (n2 : Nat) (hc : o.cls = .type "tuple") (hd : o.data = .seq items2 n2) (hs0 : ¬(!items.isEmpty && Builtin.List.listTooLong (items.size + items2.size)) = true) (hs1 : items.size ≤ sizeLine) (hs2 : items.size + items2.size ≤ sizeLine + 1) :
    Meets (Builtin.«list.extend» ⟨[.ref l, .ref b], []⟩) (fun _ R s => s.heap.get? l = some { cls := .type "list", dict := none, data := .seq items n, slots := #[] } ∧ s.heap.get? b = some o ∧ R (.ok (.ret Value.none)) { s with heap := s.heap.update l (Obj.mapSeq fun x => x ++ items2), toks := s.toks }) := by
  obtain ⟨cls, dict, data, slots⟩ := o
  simp only at hc hd
  subst hc hd
  exact .of_wp fun prog w A R s h => by
    obtain ⟨hp, g, d, tk, os⟩ := s; obtain ⟨hl, hb, h⟩ := h; have f1 := PySem.AutoSeq1.idx_int; have f2 := PySem.AutoSeq1.sub_tuple_tuple; have f3 := PySem.AutoSeq1.sub_list_list; have f4 := PySem.AutoSeq1.sub_tuple_list; have f5 := PySem.AutoSeq1.sub_list_tuple;
    have hz' : (items ++ items2).size ≤ sizeLine + 1 := by rw [Array.size_append]; exact hs2
    wp_walk using (wpAny_updateSeq hl rfl (hz := hs1) (_hz' := hz')), PySem.AutoSeq1.wpAny_loadPart' hl, PySem.AutoSeq1.wpAny_loadPart' hb; exact ⟨_, rfl, h⟩
def rExtendT (K : PySem.W.Frag) : V → List V → Hp → VK → Prop := fun x vs H Q => ∃ l b xs zs, x = .ref l ∧ vs = [.ref b] ∧ H l = some (.lst xs) ∧ SqT K H b zs ∧ xs.length + zs.length ≤ sizeLine ∧ Q .non (upd H l (.lst (xs ++ zs)))
theorem mt_extendT {X : Cx} : MtR X "list.extend" (rExtendT X.K) := by
  intro pins s σ H x vs v us Q I rx rv h
  obtain ⟨l, b, xs, zs, rfl, rfl, hH, hB, hz, q⟩ := h
  cases rx
  obtain ⟨u, rfl, ru⟩ := rv.one
  cases ru
  obtain ⟨z, its, n, r, hl, e⟩ := I.lstM hH
  obtain ⟨its2, r2, ⟨o, ho, hc, n2, hd⟩, hl2⟩ := I.tuple hB
  have e2 := r2.length
  have hsz : its.toArray.size + its2.toArray.size ≤ sizeLine := by rw [List.size_toArray, List.size_toArray]; omega
  have hlong : ¬ (!its.toArray.isEmpty && Builtin.List.listTooLong (its.toArray.size + its2.toArray.size)) = true := by
    rw [notLongL hsz, Bool.and_false]
    exact Bool.false_ne_true
  refine call_meets F.slot_list_extend ⟨_, e, rfl⟩ F.entry_list_extend (F.args_list_extend_2 _ _)
    (extT_meets l its.toArray n b its2.toArray o n2 hc hd hlong (by rw [List.size_toArray]; omega) (by omega)) ⟨e, ho, ?_⟩
  refine ⟨.non, _, I.lset (its' := its ++ its2) hH e (by simp) (r.append r2) ?_, rfl, q⟩
  rw [List.length_append]
  omega
def fExtendT : V.D → List V.D → Option (V.D × V.D)
  | .lst l, [.tup m] => if szOk (l.length + m.length) = true then some (.non, .lst (l ++ m)) else none
  | _, _ => none
section
variable {X : Cx} {Wx : WX} {pos apos : Pos} {e o : Expr} {es : List Expr} {mas : P (List Z)} {mo : DE}
theorem mut_extendT : MutR X.K X.mg (rExtendT X.K) fExtendT := by
  intro M H Q a o l t l' xs ds hl hH c r hf hq
  unfold fExtendT at hf
  split at hf
  · split at hf
    · rename_i h
      cases hf
      cases c with
      | @lst vs _ rs =>
        match xs, r with
        | [y], .cons r1 .nil =>
          obtain ⟨b, us, rfl, _, hb, r2⟩ := rep1_tup hl r1
          exact ⟨a, b, vs, us, rfl, rfl, hH, .of hb, by rw [rs.length, r2.length]; exact szOk_iff.mp h, hq _ _ (.lst (rs.append r2)) .non⟩
    · cases hf
  · cases hf
theorem m_extendT (ho : QE X Wx o mo) (ha : QA X Wx (e :: es) mas) (z : MSide X o "extend" apos pos e es := by exact ⟨rfl, rfl, rfl, rfl, rfl⟩) : QE X Wx (.Call (.Attribute o "extend" apos) (e :: es) [] pos) (dBM isL (mutz zds fExtendT) mo mas) :=
  pe_imp (pe_bm PySem.F.plainAttrs_list PySem.F.slot_list_extend PySem.F.type_list_extend mt_extendT ho ha z.1 z.2.1 z.2.2.1 z.2.2.2.1 z.2.2.2.2) fun _ _ _ h => run_mutR isL_ty mut_extendT h
end
end V

set_option Elab.async false
set_option linter.all false
set_option maxRecDepth 100000
set_option maxHeartbeats 1000000
/-! V17: tuple(reversed(a tuple)). -/
namespace RT2
open PySem PySem.Spec PyProof.Rows RT
theorem nolen_rt : typeLookup (.type "reversed") "__len__" = pure none := by rw [typeLookup_type, builtinLookup_eq_fast]; kernel_rfl
theorem slot_rt_hint : Slot "reversed" "__length_hint__" "reversed.__length_hint__" :=
  .of (owner := "reversed") (n := "__length_hint__") (by rw [typeLookup_type, builtinLookup_eq_fast]; kernel_rfl) (by decide +kernel) (by decide +kernel) (by decide +kernel)
    (by first | exact .inl (by decide +kernel) | exact .inr (by decide +kernel)) (by rw [isSubtype_type]; kernel_rfl)
theorem entry_rt_hint : entryFor table "reversed.__length_hint__" = some Builtin.«reversed.__length_hint__» := entryFor_of_tree (by kernel_rfl)
theorem args_rt_hint (a : Value) : argsOk "reversed.__length_hint__" ⟨[a], []⟩ := by
  unfold argsOk; rw [signature?_of (id := "reversed.__length_hint__") (n := ['_', '_', 't', 'n', 'i', 'h', '_', 'h', 't', 'g', 'n', 'e', 'l', '_', '_']) (o := ['d', 'e', 's', 'r', 'e', 'v', 'e', 'r']) (by kernel_rfl) owner_rt]; kernel_rfl
theorem tup_at {h h' : Heap} {a : Addr} {items : Array Value} (x : IsTup h a items) (e : ∀ o, h.get? a = some o → h'.get? a = some o) : IsTup h' a items := let ⟨o, ho, r⟩ := x; ⟨o, e _ ho, r⟩
section
variable {prog : Program} {w : World} {A : Around} {E : Value → Shared → Prop} {s : Shared}
theorem hint_call {it t : Addr} {items : Array Value} {Q : Value → Shared → Prop} (hit : IsRt s.heap it t ((items.size : Int) - 1)) (ht : IsTup s.heap t items) (hsz : items.size ≤ sizeLine)
    (hQ : ∀ tk tk', Q (.int (items.size : Int) tk') { s with toks := tk }) : wpAny (model prog w) A (call (.builtin "reversed.__length_hint__") [.ref it]) Q E s := by
  obtain ⟨o, ho, hc, hd⟩ := id hit
  rw [sizeLine_eq] at hsz
  refine wpAny_call_entry slot_rt_hint hit.typeIs entry_rt_hint ?_ (args_rt_hint _)
  unfold Builtin.«reversed.__length_hint__»
  refine wpAny_bind (wpAny_of_eq (a := (Value.ref it)) rfl ?_)
  try dsimp only
  refine wpAny_bind (wpAny_field ho hd (x := .ref t) rfl ?_)
  try dsimp only
  rw [if_neg (show ¬ (Value.ref t == Value.none) = true from fun h => Bool.false_ne_true h)]
  try dsimp only
  refine wpAny_bind (len_tuple ht (by omega) ?_)
  refine wpAny_bind (wpAny_of_eq (a := some ((items.size : Nat) : Int)) rfl ?_)
  try dsimp only
  refine wpAny_bind (wpAny_field (s := { s with toks := s.toks + 1 + 1 }) ho hd (x := rawInt ((items.size : Int) - 1)) rfl ?_)
  show wpAny _ _ (if (items.size : Int) < (items.size : Int) - 1 + 1 then _ else _) _ _ _
  rw [if_neg (by omega)]
  have e : (items.size : Int) - 1 + 1 = (items.size : Int) := by omega
  rw [e]
  unfold retInt
  refine wpAny_bind (wpAny_mkInt ?_)
  exact wpAny_pure ⟨_, rfl, hQ _ _⟩
theorem walks_rt (hh : A.handled = none) (I t : Addr) (hne : t ≠ I) (items : Array Value) (hsz : items.size ≤ sizeLine) :
    Walks prog w A I [I, t] [I] items.size (fun i v => items[items.size - 1 - i]? = some v) (fun i h => i ≤ items.size ∧ IsRt h I t ((items.size : Int) - 1 - (i : Int)) ∧ IsTup h t items) where
  sub := fun b hb => by simp at hb; simp [hb]
  frame := fun _ _ _ x hk => ⟨x.1, x.2.1.at fun o e => hk I (by simp) o e, tup_at x.2.2 fun o e => hk t (by simp) o e⟩
  item := fun i s Q E hi x hQ => by
    have e : (items.size : Int) - 1 - (i : Int) = ((items.size - 1 - i : Nat) : Int) := by omega
    have hit := x.2.1
    rw [e] at hit
    have hx : items[items.size - 1 - i]? = some (items[items.size - 1 - i]'(by omega)) := Array.getElem?_eq_getElem (by omega)
    refine next_rt_item hit x.2.2 hx hsz fun h' hit' hs' => ?_
    have e2 : ((items.size - 1 - i : Nat) : Int) - 1 = (items.size : Int) - 1 - ((i + 1 : Nat) : Int) := by omega
    rw [e2] at hit'
    exact hQ _ h' _ hx ⟨hi, hit', tup_at x.2.2 fun o eo => (hs'.2 t hne).trans eo⟩ fun b o hb eo => hs'.extBut b o (fun h => hb (by simp [h])) eo
  done := fun s Q E x hQ => by
    have e : (items.size : Int) - 1 - (items.size : Int) = -1 := by omega
    have hit := x.2.1
    rw [e] at hit
    exact next_rt_end hh hit fun h' he' => hQ h' s.toks fun b o hb eo => he' b o (fun h => hb (by simp [h])) eo
  self := fun _ _ _ _ x hQ => iter_rt x.2.1 hQ
theorem collect_rt {it t : Addr} {items : Array Value} {Q : List Value → Shared → Prop} (hh : A.handled = none) (hit : IsRt s.heap it t ((items.size : Int) - 1)) (hl : IsTup s.heap t items) (hne : t ≠ it) (hn : items.size ≤ sizeLine)
    (hQ : ∀ (h' : Heap) (tk : Nat) (acc : Array Value), (∀ b o, b ≠ it → s.heap.get? b = some o → h'.get? b = some o) → ItemsOf (fun i v => items[items.size - 1 - i]? = some v) acc items.size → Q acc.toList { s with heap := h', toks := tk }) :
    wpAny (model prog w) A (collect (.ref it)) Q E s := by
  have W := (walks_rt (prog := prog) (w := w) (A := A.in1) hh it t hne items hn).toS
  obtain ⟨oi, hoi, _⟩ := id hit
  obtain ⟨ol, hol, _⟩ := id hl
  have hSi : s.heap.objs.size ≠ it := Nat.ne_of_gt (Heap.lt_size hoi)
  have hSl : s.heap.objs.size ≠ t := Nat.ne_of_gt (Heap.lt_size hol)
  have hSf : s.heap.objs.size ∉ [it, t] := by simp only [List.mem_cons, List.not_mem_nil, or_false, not_or]; exact ⟨hSi, hSl⟩
  unfold collect
  refine wpAny_bind (wpAny_runValue (codeAny_builtin F.entry_proto_collect ?_))
  rw [Around.under_plainId F.plain_proto_collect _]
  show wpAny _ A.in1 (newList [] >>= fun l' => again (.builtin "list.__iadd__" ⟨[l', .ref it], []⟩)) _ _ s
  refine wpAny_bind (wpAny_newObj_type ?_)
  refine wpAny_pure ⟨plainId_quiet F.plain_list_iadd _, codeAny_builtin F.entry_list_iadd ?_⟩
  rw [Around.under_plainId F.plain_list_iadd _]
  have hS₁ : (s.heap.push { cls := .type "list", data := .seq ([] : List Value).toArray }).get? s.heap.objs.size = some { cls := .type "list", data := .seq ([] : List Value).toArray } := Heap.get?_push_size _ rfl
  have hit1 : IsRt (s.heap.push { cls := .type "list", data := .seq ([] : List Value).toArray }) it t ((items.size : Int) - 1) := hit.at fun o e => Heap.get?_push_of_some _ e
  have hl1 : IsTup (s.heap.push { cls := .type "list", data := .seq ([] : List Value).toArray }) t items := hl.push _
  have hT : ({ s with heap := s.heap.push { cls := .type "list", data := .seq ([] : List Value).toArray } } : Shared).TypeIs (.ref it) "reversed" := IsRt.typeIs (s := { s with heap := s.heap.push { cls := .type "list", data := .seq ([] : List Value).toArray } }) hit1
  have h1 : Builtin.List.listSameRef (.ref s.heap.objs.size) (.ref it) = false := by simp [Builtin.List.listSameRef, hSi]
  show wpAny _ A.in1 (Builtin.List.listExtendWith (.ref s.heap.objs.size) (.ref it) (.ref s.heap.objs.size)) _ _ _
  unfold Builtin.List.listExtendWith
  refine wpAny_bind (wpAny_typeOf hT ?_)
  rw [if_neg (by rw [h1]; decide)]
  refine wpAny_bind (iter_rt (s := { s with heap := s.heap.push { cls := .type "list", data := .seq ([] : List Value).toArray } }) hit1 ?_)
  refine wpAny_bind (wpAny_holding ?_)
  unfold Builtin.List.listLengthHint
  refine wpAny_bind (wpAny_specialOf hT nolen_rt ?_)
  show wpAny _ A.in1 (specialOf (Value.ref it) (Str.ofString "__length_hint__") >>= _) _ _ _
  refine wpAny_bind (wpAny_specialOf hT slot_rt_hint.lookup ?_)
  generalize hid : ("reversed.__length_hint__" : String) = id0
  wp_delta
  rw [show splitId id0 = some ("reversed", "__length_hint__") from by subst hid; decide +kernel]
  subst hid
  refine wpAny_bind (wpAny_isInstance (b := true) hT (by rw [isSubtype_type]; kernel_rfl) ?_)
  rw [if_neg (by decide)]
  dsimp only
  rw [if_neg (by decide +kernel)]
  refine wpAny_bind (wpAny_rule ?_)
  simp only [slot_rt_hint.bind]
  refine wpAny_bind (wpAny_pure ?_)
  dsimp only
  refine wpAny_bind (wpAny_attempt (hint_call (s := { s with heap := s.heap.push { cls := .type "list", data := .seq ([] : List Value).toArray } }) hit1 hl1 hn fun tk tk' => ?_))
  try dsimp only
  rw [show asInt? (Value.int (items.size : Int) tk') = pure (some (items.size : Int)) from rfl]
  refine wpAny_bind ?_
  refine wpAny_pure ?_
  have z1 : ¬ (!Builtin.List.listFitsIndex (items.size : Int)) = true := by
    rw [sizeLine_eq] at hn
    have : Builtin.List.listFitsIndex (items.size : Int) = true := by
      unfold Builtin.List.listFitsIndex
      rw [Bool.and_eq_true, decide_eq_true_eq, decide_eq_true_eq]
      omega
    rw [this]
    decide
  have z2 : ¬ ((items.size : Int) < 0) := by omega
  have z3 : ¬ Builtin.List.listTooLong (items.size : Int).toNat = true := by
    unfold Builtin.List.listTooLong
    rw [decide_eq_true_eq, Int.toNat_natCast]
    omega
  try dsimp only
  rw [if_neg z1]
  try dsimp only
  rw [if_neg z2]
  try dsimp only
  rw [if_neg z3]
  try dsimp only
  refine wpAny_pure ?_
  have e0 : ((items.size : Nat) : Int) - 1 - ((0 : Nat) : Int) = (items.size : Int) - 1 := by omega
  have fin : ∀ (h2 : Heap) (tk2 c : Nat), h2.get? s.heap.objs.size = some { cls := .type "list", dict := none, data := .seq #[] c, slots := #[] } → (∀ b o, b ≠ s.heap.objs.size → (s.heap.push { cls := .type "list", data := .seq ([] : List Value).toArray }).get? b = some o → h2.get? b = some o) →
      codeAny (model prog w) A (.builtin "list.extend.loop" ⟨[.ref s.heap.objs.size, .ref it, .ref s.heap.objs.size], []⟩) (fun r s' => match r with
        | .ok (.ret v) => wpAny (model prog w) A (match v with
          | .ref a => do
            let o ← load a
            match o.data with
              | .seq xs _ => pure xs.toList
              | _ => PySem.unsupported "internal:collect"
          | _ => PySem.unsupported "internal:collect") Q E s'
        | .ok _ => False
        | .error e => E e s') { s with heap := h2, toks := tk2 } := by
    intro h2 tk2 c hS₃ oth
    have st0 : (fun (i : Nat) (s' : Shared) => i ≤ items.size ∧ IsRt s'.heap it t ((items.size : Int) - 1 - (i : Int)) ∧ IsTup s'.heap t items) 0 ({ s with heap := h2, toks := tk2 } : Shared) :=
      ⟨Nat.zero_le _, by
        have e0 : ((items.size : Nat) : Int) - 1 - ((0 : Nat) : Int) = (items.size : Int) - 1 := by omega
        rw [e0]
        exact hit1.at fun o e => oth it o (Ne.symm hSi) e, tup_at hl1 fun o e => oth t o (Ne.symm hSl) e⟩
    refine codeAny_extend_loopS (walks_rt (prog := prog) (w := w) (A := A.in1) hh it t hne items hn).toS hn _ hSf _ items.size 0 _ _ _ rfl (Nat.zero_le _) st0 hS₃ (ItemsOf.nil _) fun s' acc' c' hm hS' hacc => ?_
    show wpAny _ A (load s.heap.objs.size >>= _) _ _ s'
    refine wpAny_bind (wpAny_load hS' ?_)
    refine wpAny_pure ?_
    rw [Moved.eq_with hm]
    refine hQ s'.heap s'.toks acc' (fun b o hb e => hm.heap b o (fun hmem => ?_) (oth b o ?_ (Heap.get?_push_of_some _ e))) hacc
    · rcases List.mem_cons.mp hmem with e' | hmem
      · exact absurd (Heap.lt_size e) (by rw [e']; exact Nat.lt_irrefl _)
      · exact hb (List.mem_singleton.mp hmem)
    · exact Nat.ne_of_lt (Heap.lt_size e)
  by_cases hz : items.size = 0
  · rw [if_neg (by rw [hz]; decide +kernel)]
    exact wpAny_pure ⟨plainId_quiet F.plain_extend_loop _, fin _ _ _ hS₁ fun _ _ _ e => e⟩
  · rw [if_pos (by rw [bne_iff_ne.mpr (show (items.size : Int) ≠ 0 by omega)]; rfl)]
    refine wpAny_bind (wpAny_rule ?_)
    refine wpAny_bind ?_
    show wpAny _ A.in1 (updateSeq s.heap.objs.size (·.push .none) >>= fun _ => updateSeq s.heap.objs.size (·.pop)) _ _ _
    refine wpAny_bind (wpAny_updateSeq hS₁ rfl ?_)
    have hS₂ := Heap.get?_update_self (Obj.mapSeq (·.push Value.none)) hS₁ rfl
    refine wpAny_updateSeq hS₂ rfl ?_
    have hS₃ := Heap.get?_update_self (Obj.mapSeq (·.pop)) hS₂ rfl
    exact wpAny_pure ⟨plainId_quiet F.plain_extend_loop _, fin _ _ _ hS₃ fun b o hb e => (Heap.get?_update_other _ _ (Ne.symm hb)).trans ((Heap.get?_update_other _ _ (Ne.symm hb)).trans e)⟩
theorem code_tuple_new_rt {it l : Addr} {items : Array Value} {Q₁ : Value → Shared → Prop} (hh : A.handled = none) (hit : IsRt s.heap it l ((items.size : Int) - 1)) (hl : IsTup s.heap l items) (hne : l ≠ it) (hn : items.size ≤ sizeLine)
    (h : ∀ (h' : Heap) (tk : Nat) (acc : Array Value), (∀ b o, b ≠ it → s.heap.get? b = some o → h'.get? b = some o) → ItemsOf (fun i v => items[items.size - 1 - i]? = some v) acc items.size →
      Q₁ (.ref h'.objs.size) { s with heap := h'.push { cls := .type "tuple", data := .seq acc }, toks := tk }) :
    codeAny (model prog w) A (.call (.builtin "tuple.__new__") ⟨[.type "tuple", .ref it], []⟩) (wants Q₁ E) s := by
  refine codeAny_of_tree ?_
  show wpAny _ A.in1 (do checkBuiltinCall "tuple.__new__" ⟨[.type "tuple", .ref it], []⟩; again (.builtin "tuple.__new__" ⟨[.type "tuple", .ref it], []⟩)) _ _ s
  refine wpAny_bind (wpAny_of_eq (F.newCall_tuple_1 _) (wpAny_pure ⟨plainId_quiet F.plain_tuple_new _, codeAny_builtin F.entry_tuple_new ?_⟩))
  rw [Around.under_plainId F.plain_tuple_new _]
  have hsub := sub_tuple_self
  have hinit := init_tuple_lookup
  have hmh := madeHere_tuple
  have hTI : s.TypeIs (.ref it) "reversed" := hit.typeIs
  have hh1 : A.in1.handled = none := hh
  wp_walk using wpAny_typeOf hTI, collect_rt (A := A.in1) hh1 hit hl hne hn
  intro h' tk acc hk hacc
  show wpAny _ _ (Builtin.Tuple.tupleExact acc.toList.toArray >>= fun v => ret v) _ _ _
  unfold Builtin.Tuple.tupleExact
  refine wpAny_bind (wpAny_newObj_type ?_ (by show acc.toList.toArray.size ≤ sizeLine; simp only [Array.toArray_toList]; rw [hacc.1]; exact hn))
  refine wpAny_pure ?_
  have e : acc.toList.toArray = acc := by simp
  rw [e]
  exact h h' tk acc hk hacc
theorem call_tuple_rt {it l : Addr} {items : Array Value} {Q : Value → Shared → Prop} (hh : A.handled = none) (hit : IsRt s.heap it l ((items.size : Int) - 1)) (hl : IsTup s.heap l items) (hne : l ≠ it) (hn : items.size ≤ sizeLine)
    (hQ : ∀ (h' : Heap) (tk : Nat) (acc : Array Value), (∀ b o, b ≠ it → s.heap.get? b = some o → h'.get? b = some o) → ItemsOf (fun i v => items[items.size - 1 - i]? = some v) acc items.size →
      Q (.ref h'.objs.size) { s with heap := h'.push { cls := .type "tuple", data := .seq acc }, toks := tk }) :
    wpAny (model prog w) A (call (.type "tuple") [.ref it]) Q E s := by
  refine callType_codes (Q₁ := fun obj s₁ => s₁.TypeIs obj "tuple" ∧ Q obj s₁) F.called_tuple (F.typeCall_tuple_1 _) F.entry_object_init
    (code_tuple_new_rt (A := A.in1) hh hit hl hne hn fun h' tk acc hk hacc => ⟨⟨_, Heap.get?_push_size _ rfl, rfl⟩, hQ h' tk acc hk hacc⟩) fun obj s₁ h₁ => ?_
  exact ⟨h₁.1, F.args_object_init_2 obj _, object_init_meets F.called_tuple.init.lookup F.called_tuple.made (by decide) prog w A.in1 _ s₁ ⟨h₁.1, rfl, h₁.2⟩⟩
end
end RT2
namespace V
open PySem PySem.Spec PyProof.Rows L2 PySem.Calls RT
section
variable {X : Cx} {Wx : WX} {e : Expr} {me : DE} {p p2 pos pos2 : Pos}
def tTupRevA (K : PySem.W.Frag) (te : TE) : TE := fun σ H Q => te σ H fun v H1 => ∃ (a : Addr) (xs : List V), v = .ref a ∧ (SqL K H1 a xs ∨ SqT K H1 a xs) ∧ ∀ q, H1 q = none → Q (.ref q) (upd H1 q (.tup xs.reverse))
theorem pe_tupRevA {te : TE} (hc : X.calm = true) (hg : Gl X "tuple") (hm : X.mg "tuple" = none) (hg2 : Gl X "reversed") (hm2 : X.mg "reversed" = none) (he : PE X e te)
    (hs : starEach [e] X.env = (false, eval e X.env) :: starEach [] X.env := by rfl)
    (hs2 : starEach [.Call (.Name "reversed" p2) [e] [] pos2] X.env = (false, eval (.Call (.Name "reversed" p2) [e] [] pos2) X.env) :: starEach [] X.env := by rfl) :
    PE X (.Call (.Name "tuple" p) [.Call (.Name "reversed" p2) [e] [] pos2] [] pos) (tTupRevA X.K te) := by
  refine ⟨fun pins s σ H Q I h => ?_⟩
  refine Call_ (ld_blt I hg hm boot_tuple (PyProof.Rows.callWith_type1 (args_cons (Call_ (ld_blt I hg2 hm2 PyProof.Rows.boot_reversed (PyProof.Rows.callWith_type1 (args_cons (thn (he.run pins s σ H _ I h) fun u s1 ⟨v, H1, I1, r1, q1⟩ => args_nil ?_) hs) hs rfl))) hs2) hs2 rfl))
  obtain ⟨a, xs, ev, hq, q⟩ := q1
  subst ev
  obtain rfl : u = Value.ref a := r1
  rcases hq with hq | hq
  · obtain ⟨its, rv, p', hz⟩ := I1.list hq
    refine call_reversed_list p'.isList (args_nil ?_)
    have I2 : L2.Inv X pins σ H1 { s1 with heap := s1.heap.push (revObj a ((its.toArray.size : Int) - 1)) } := I1.kept (t' := s1.toks) fun b o e => Heap.get?_push_of_some _ e
    obtain ⟨f0, f1, f2, f3, f4, f5⟩ := I1.fpOk (H' := H1) (b := s1.heap.objs.size) (Nat.le_refl _) (I1.hok.fresh (Nat.le_refl _))
    have hl := p'.isList
    obtain ⟨ol, hol, _⟩ := id hl
    have hne : a ≠ s1.heap.objs.size := Nat.ne_of_lt (Heap.lt_size hol)
    have hn : its.toArray.size ≤ sizeLine := by rw [List.size_toArray, ← rv.length]; exact hz
    refine call_tuple_rev (s := { s1 with heap := s1.heap.push (revObj a ((its.toArray.size : Int) - 1)) }) (I1.ok.hd hc) ⟨_, Heap.get?_push_size _ rfl, rfl, rfl⟩ (hl.push _) hne hn fun h' tk acc hk hi => ?_
    have I3 : L2.Inv X pins σ H1 { s1 with heap := h', toks := tk } := I2.turned (t' := tk) (fun b o hb e => hk b o hb e) f0 f1 f3 f4 f5
    refine ⟨.ref h'.objs.size, upd H1 h'.objs.size (.tup xs.reverse), I3.laid (t' := tk) (fun c o e => Heap.get?_push_of_some _ e) (Nat.le_refl _) (show ObjOk X.prog X.w _ _ _ (.tup xs.reverse) from ⟨by rw [List.length_reverse]; exact hz, acc.toList, vals_rev rv hi, ?_⟩), rfl, q _ (I3.hok.fresh (Nat.le_refl _))⟩
    rw [Array.toArray_toList]
    exact IsTup.new _ _
  · obtain ⟨its, rv, p', hz⟩ := I1.tuple hq
    have hn : its.toArray.size ≤ sizeLine := by rw [List.size_toArray, ← rv.length]; exact hz
    have hn' := hn
    rw [sizeLine_eq] at hn'
    refine call_reversed_tup p' (fun A E Q k => len_tuple p' (by omega) k) (args_nil ?_)
    have I2 : L2.Inv X pins σ H1 { s1 with heap := s1.heap.push (rtObj a ((its.toArray.size : Int) - 1)), toks := s1.toks + 1 + 1 } := I1.kept (t' := s1.toks + 1 + 1) fun b o e => Heap.get?_push_of_some _ e
    obtain ⟨f0, f1, f2, f3, f4, f5⟩ := I1.fpOk (H' := H1) (b := s1.heap.objs.size) (Nat.le_refl _) (I1.hok.fresh (Nat.le_refl _))
    obtain ⟨ol, hol, _⟩ := id p'
    have hne : a ≠ s1.heap.objs.size := Nat.ne_of_lt (Heap.lt_size hol)
    refine RT2.call_tuple_rt (s := { s1 with heap := s1.heap.push (rtObj a ((its.toArray.size : Int) - 1)), toks := s1.toks + 1 + 1 }) (I1.ok.hd hc) ⟨_, Heap.get?_push_size _ rfl, rfl, rfl⟩ (p'.push _) hne hn fun h' tk acc hk hi => ?_
    have I3 : L2.Inv X pins σ H1 { s1 with heap := h', toks := tk } := I2.turned (t' := tk) (fun b o hb e => hk b o hb e) f0 f1 f3 f4 f5
    refine ⟨.ref h'.objs.size, upd H1 h'.objs.size (.tup xs.reverse), I3.laid (t' := tk) (fun c o e => Heap.get?_push_of_some _ e) (Nat.le_refl _) (show ObjOk X.prog X.w _ _ _ (.tup xs.reverse) from ⟨by rw [List.length_reverse]; exact hz, acc.toList, vals_rev rv hi, ?_⟩), rfl, q _ (I3.hok.fresh (Nat.le_refl _))⟩
    rw [Array.toArray_toList]
    exact IsTup.new _ _
def wRevT : V.D → Option T := fun d => (seqD d).map fun l => .sh (.tup l.reverse)
theorem q_tupRev (_hx : X.ex = []) (hc : X.calm = true) (hg : Gl X "tuple") (hm : X.mg "tuple" = none) (hg2 : Gl X "reversed") (hm2 : X.mg "reversed" = none) (he : QE X Wx e me)
    (hs : starEach [e] X.env = (false, eval e X.env) :: starEach [] X.env := by rfl)
    (hs2 : starEach [.Call (.Name "reversed" p2) [e] [] pos2] X.env = (false, eval (.Call (.Name "reversed" p2) [e] [] pos2) X.env) :: starEach [] X.env := by rfl) :
    QE X Wx (.Call (.Name "tuple" p) [.Call (.Name "reversed" p2) [e] [] pos2] [] pos) (d1 wRevT me) := pe_imp (pe_tupRevA hc hg hm hg2 hm2 he hs hs2) fun σ H Q h => by
  refine (run_bind (sa := shE) h).mono fun v H1 h1 => ?_
  obtain ⟨M, hs, L, ρ, z, s, l, q, al, hp⟩ := h1
  obtain ⟨d, e1, hp⟩ := rd_ok hp
  obtain ⟨t, ef, hp⟩ := ans_ok hp
  obtain ⟨l', e2, rfl⟩ := Option.map_eq_some_iff.mp ef
  obtain ⟨a, vs, rfl, hq, rs⟩ := seqD_ok s.le (zd_ok s l (mem1 q) al e1) e2
  exact ⟨a, vs, rfl, hq, fun q nq => (hp.res s.right l fun r hr => List.mem_append_right _ hr).new s.le nq fun le => .tup upd_same (rs.reverse.le le)⟩
end
end V

set_option Elab.async false
set_option linter.all false
set_option maxRecDepth 100000
/-! V18: dicts compared. -/
namespace V
open PySem PySem.Spec PyProof.Rows L2
def getP : List Key → List PyData → Key → Option PyData
  | j :: ks, p :: ps, k => if j = k then some p else getP ks ps k
  | _, _, _ => none
def hitP (p : PyData) : Option PyData → Bool
  | some q => PyData.eqv p q
  | none => false
def dkEq : List Key → List PyData → List Key → List PyData → Bool
  | k :: ks, p :: ps, ls, qs => hitP p (getP ls qs k) && dkEq ks ps ls qs
  | _, _, _, _ => true
section
variable {X : Cx} {Wx : WX} {pins : List (Addr × Obj)} {σ : L2.St} {H : Hp} {s : Shared}
theorem getP_val {K : PySem.W.Frag} {k : Key} : ∀ {ls : List (Key × L2.V)} {qs : List PyData}, DpAll K H (ls.map (·.2)) qs → PyData.canLayAll0 qs = true →
    (∃ v q, valV ls k = some v ∧ getP (ls.map (·.1)) qs k = some q ∧ Dp K H v q ∧ q.canLay0 = true) ∨ (valV ls k = none ∧ getP (ls.map (·.1)) qs k = none)
  | [], _, .nil, _ => .inr ⟨rfl, rfl⟩
  | (j, v) :: ls, _, .cons (d := q) (ds := qs) h t, c => by
    simp only [PyData.canLayAll0, Bool.and_eq_true] at c
    by_cases z : j = k
    · refine .inl ⟨v, q, ?_, ?_, h, c.1⟩
      · unfold valV
        rw [List.find?_cons_of_pos (by simp [z])]
        rfl
      · rw [List.map_cons, getP, if_pos z]
    · have e1 : valV ((j, v) :: ls) k = valV ls k := by
        unfold valV
        rw [List.find?_cons_of_neg (by simp [z])]
      have e2 : getP (((j, v) :: ls).map (·.1)) (q :: qs) k = getP (ls.map (·.1)) qs k := by rw [List.map_cons, getP, if_neg z]
      rw [e1, e2]
      exact getP_val t c.2
theorem hits_dk {A : Around} (I : Inv X pins σ H s) (hu : A.units + 195 < cLine) {ls : List (Key × L2.V)} {vb : List (Key × Value)} (rb : KV ls vb) {qs : List PyData} (dq : DpAll X.K H (ls.map (·.2)) qs) (cq : PyData.canLayAll0 qs = true) :
    ∀ {ks : List (Key × L2.V)} {va : List (Key × Value)} {ps : List PyData}, KV ks va → DpAll X.K H (ks.map (·.2)) ps → PyData.canLayAll0 ps = true → PyData.depthAll ps ≤ 190 → PySem.W.KeqHits A s vb va (dkEq (ks.map (·.1)) ps (ls.map (·.1)) qs)
  | [], _, _, .nil, .nil, _, _ => .nil
  | (k, x) :: ks, _, _, .cons (b := (j, u)) h t, .cons (d := p) (ds := ps) hp tp, c, dp => by
    simp only [PyData.canLayAll0, Bool.and_eq_true] at c
    simp only [PyData.depthAll] at dp
    obtain ⟨h1, h2⟩ := h
    have h1' : k = j := h1
    subst h1'
    have ih := hits_dk I hu rb dq cq t tp c.2 (by omega)
    rw [List.map_cons, dkEq]
    rcases getP_val (k := k) dq cq with ⟨v, q, e1, e2, e3, e4⟩ | ⟨e1, e2⟩
    · have rr : RelO (some v) (valueAt vb k) := by rw [← e1]; exact rb.val k
      obtain ⟨y, hy, ry⟩ := rr.some_of
      rw [e2]
      obtain ⟨as, r1⟩ := Dp.reads I p x u hp h2
      obtain ⟨bs, r2⟩ := Dp.reads I q v y e3 ry
      exact .hit hy (SeqAt.eqAt_reads p q A s u y as bs r1 r2 c.1 e4 (by omega)) ih
    · rw [e2]
      have rr : RelO none (valueAt vb k) := by rw [← e1]; exact rb.val k
      have hy : valueAt vb k = none := by
        cases e : valueAt vb k with
        | none => rfl
        | some y => rw [e] at rr; exact rr.elim
      exact .miss hy
def rEqDk (K : PySem.W.Frag) (neg : Bool) : R2 := fun x y H Q => ∃ (a b : Addr) (ks ls : List (Key × L2.V)) (ps qs : List PyData), x = .ref a ∧ y = .ref b ∧ Rd H a (.dK ks) ∧ Rd H b (.dK ls) ∧ DpAll K H (ks.map (·.2)) ps ∧ DpAll K H (ls.map (·.2)) qs ∧ PyData.canLayAll0 ps = true ∧ PyData.canLayAll0 qs = true ∧ PyData.depthAll ps ≤ 190 ∧
  Q (.bl ((ks.length == ls.length && dkEq (ks.map (·.1)) ps (ls.map (·.1)) qs) != neg)) H
theorem op_eqDD (hu : X.A.units + 200 < cLine) : OpR X (compareOp .Eq) (rEqDk X.K false) := by
  intro pins s σ H x y v u Q I rx ry h
  obtain ⟨a, b, ks, ls, ps, qs, rfl, rfl, ea, eb, dp, dq, cp, cq, hd, q⟩ := h
  obtain rfl : v = Value.ref a := rx
  obtain rfl : u = Value.ref b := ry
  obtain ⟨_, ya, va, ra, da⟩ := dk_rd I.hok ea
  obtain ⟨_, yb, vb, rb, db⟩ := dk_rd I.hok eb
  rw [Bool.bne_false] at q
  have l1 : ks.length = va.length := ra.length
  have l2 : ls.length = vb.length := rb.length
  rw [l1, l2] at q
  exact PySem.W.keq_eq (knd := mixKind X.prog X.w) ya yb da db (by omega) (fun _ => hits_dk I (A := X.A.in1) (by have : X.A.in1.units = X.A.units + 1 := rfl; omega) rb dq cq ra dp cp hd) ⟨.bl _, H, I, rfl, q⟩
theorem op_neDD (hu : X.A.units + 200 < cLine) : OpR X (compareOp .NotEq) (rEqDk X.K true) := by
  intro pins s σ H x y v u Q I rx ry h
  obtain ⟨a, b, ks, ls, ps, qs, rfl, rfl, ea, eb, dp, dq, cp, cq, hd, q⟩ := h
  obtain rfl : v = Value.ref a := rx
  obtain rfl : u = Value.ref b := ry
  obtain ⟨_, ya, va, ra, da⟩ := dk_rd I.hok ea
  obtain ⟨_, yb, vb, rb, db⟩ := dk_rd I.hok eb
  rw [Bool.bne_true] at q
  have l1 : ks.length = va.length := ra.length
  have l2 : ls.length = vb.length := rb.length
  rw [l1, l2] at q
  exact PySem.W.keq_ne (knd := mixKind X.prog X.w) ya yb da db (by omega) (fun _ => hits_dk I (A := X.A.in1) (by have : X.A.in1.units = X.A.units + 1 := rfl; omega) rb dq cq ra dp cp hd) ⟨.bl _, H, I, rfl, q⟩
def wEqD (neg : Bool) : D → D → Option T := fun x y => match x, y with
  | .dk ks l, .dk ks' l' => match pys l, pys l' with
    | some ps, some qs => if (PyData.canLayAll0 ps && PyData.canLayAll0 qs && decide (PyData.depthAll ps ≤ 190)) = true then some (.sh (.bl ((ks.length == ks'.length && dkEq ks ps ks' qs) != neg))) else none
    | _, _ => none
  | _, _ => none
theorem op2_eqD {neg : Bool} : Op2 X.K X.mg (rEqDk X.K neg) (wEqD neg) := by
  intro M H Q x y a b t hl ra rb hm hp
  unfold wEqD at hm
  split at hm
  · rename_i ks l ks' l'
    split at hm
    · rename_i ps qs e1 e2
      split at hm
      · rename_i ok
        cases hm
        simp only [Bool.and_eq_true, decide_eq_true_eq] at ok
        obtain ⟨p, kvs, rfl, hr, rfl, rs⟩ := rep1_dk hl ra
        obtain ⟨p', kvs', rfl, hr', rfl, rs'⟩ := rep1_dk hl rb
        have d1 := Reps.dp (rs.le hl) e1
        have d2 := Reps.dp (rs'.le hl) e2
        have q := hp.here hl (.bl _)
        rw [List.length_map, List.length_map] at q
        exact ⟨p, p', kvs, kvs', ps, qs, rfl, rfl, hr, hr', d1, d2, ok.1.1, ok.1.2, ok.2, q⟩
      · cases hm
    · cases hm
  · cases hm
end
end V

set_option Elab.async false
set_option linter.all false
set_option maxRecDepth 100000
/-! V19: walks over dicts: the dict is locked while they go on. -/
namespace V
open PySem PySem.Spec PyProof.Rows L2
section
variable {K : PySem.W.Frag} {mg : Str → Option Value} {M H M2 H2 : Hp} {dd : Addr} {kvs : List (Key × L2.V)}
def DkAt (H : Hp) (dd : Addr) (kvs : List (Key × L2.V)) : Prop := H dd = some (.dK kvs) ∨ ∃ ob, H dd = some (.frz ob (.dK kvs))
theorem DkAt.at (h : DkAt H dd kvs) : At H dd (.dK kvs) := h.elim .inl fun ⟨ob, h⟩ => .inr ⟨rfl, ob, h⟩
/-- alike but for a dict's lock -/
structure Tr (M M2 : Hp) (dd : Addr) (kvs : List (Key × L2.V)) : Prop where
  o : ∀ a, a ≠ dd → M2 a = M a
  a : DkAt M dd kvs
  b : DkAt M2 dd kvs
theorem Tr.ex (t : Tr M M2 dd kvs) {x : Addr} {u : HO} (h : M x = some u) (h1 : u ≠ .dK kvs) (h2 : ∀ ob, u ≠ .frz ob (.dK kvs)) : M2 x = some u := by
  by_cases z : x = dd
  · subst z
    rcases t.a with q | ⟨ob, q⟩
    · rw [h] at q; exact absurd (Option.some.inj q) h1
    · rw [h] at q; exact absurd (Option.some.inj q) (h2 ob)
  · rw [t.o x z, h]
theorem Tr.at (t : Tr M M2 dd kvs) {x : Addr} {u : HO} (h : At M x u) (h2 : ∀ ob w, u ≠ .frz ob w) : At M2 x u := by
  by_cases z : x = dd
  · subst z
    have e : u = .dK kvs := by
      rcases t.a with q | ⟨ob, q⟩
      · rcases h with h | ⟨_, ob, h⟩
        · rw [h] at q; exact Option.some.inj q
        · rw [h] at q; cases q
      · rcases h with h | ⟨_, ob', h⟩
        · rw [h] at q; exact absurd (Option.some.inj q) (h2 ob _)
        · rw [h] at q; injection q with q; injection q
    subst e
    exact t.b.at
  · exact h.stay fun o e => by rw [t.o x z]; exact e
mutual
theorem Rep.tr (t : Tr M M2 dd kvs) : ∀ {v : L2.V} {d : D}, Rep K mg M v d → Rep K mg M2 v d
  | _, _, .non => .non
  | _, _, .bl b => .bl b
  | _, _, .int i => .int i
  | _, _, .str s => .str s
  | _, _, .tup h r => .tup (t.ex h (by simp) (by simp)) (Reps.tr t r)
  | _, _, .lst h r => .lst (t.ex h (by simp) (by simp)) (Reps.tr t r)
  | _, _, .scr (.inl ⟨o, h⟩) r => .scr (.inl ⟨o, t.ex h (by simp) (by simp)⟩) (Reps.tr t r)
  | _, _, .scr (.inr h) r => .scr (.inr h) (Reps.tr t r)
  | _, _, .exc c h => .exc c (t.ex h (by simp [ExQ]) (by simp [ExQ]))
  | _, _, .dk h q r => .dk (t.at h (by simp)) q (Reps.tr t r)
  | _, _, .dt h q r => .dt (t.at h (by simp)) q (Reps.tr t r)
  | _, _, .obj c h q r => .obj c (t.ex h (by simp) (by simp)) q (Reps.tr t r)
theorem Reps.tr (t : Tr M M2 dd kvs) : ∀ {vs : List L2.V} {ds : List D}, Reps K mg M vs ds → Reps K mg M2 vs ds
  | _, _, .nil => .nil
  | _, _, .cons a b => .cons (Rep.tr t a) (Reps.tr t b)
end
theorem Cel.tr (t : Tr M M2 dd kvs) {o : HO} {d : D} : Cel K mg M o d → Cel K mg M2 o d
  | .lst r => .lst (r.tr t)
  | .dk q r => .dk q (r.tr t)
  | .dt q r => .dt q (r.tr t)
theorem Cel.nf {o : HO} {d : D} (c : Cel K mg M o d) : ∀ ob w, o ≠ .frz ob w := by
  cases c <;> simp
theorem Tr.none (t : Tr M M2 dd kvs) {a : Addr} (h : M a = none) : M2 a = none ∧ a ≠ dd := by
  have z : a ≠ dd := fun z => by
    subst z
    rcases t.a with q | ⟨ob, q⟩ <;> rw [h] at q <;> cases q
  exact ⟨by rw [t.o a z, h], z⟩
theorem Flds.tr (t : Tr M M2 dd kvs) (u : Tr H H2 dd kvs) {fvs : List (Str × L2.V)} {fs : List (Str × FT)} {k e : List Addr} (f : Flds K mg M H fvs fs k e) : Flds K mg M2 H2 fvs fs k e := by
  induction f with
  | nil => exact .nil
  | sh r _ ih => exact .sh (r.tr t) ih
  | ow h c n _ ih => exact .ow (by rw [u.o _ (t.none n).2]; exact h) (c.tr t) (t.none n).1 ih
  | lo h c _ ih => exact .lo (u.at h c.nf) (c.tr t) ih
theorem Rok.tr (t : Tr M M2 dd kvs) (u : Tr H H2 dd kvs) {r : Rt} (f : Rok K mg M H r) : Rok K mg M2 H2 r := by
  cases f with
  | no o => exact .no o
  | sh r => exact .sh (r.tr t)
  | ow h c n => exact .ow (by rw [u.o _ (t.none n).2]; exact h) (c.tr t) (t.none n).1
  | lo h c => exact .lo (u.at h c.nf) (c.tr t)
  | ob h0 h n fl nd ne => exact .ob h0 (by rw [u.o _ (t.none n).2]; exact h) (t.none n).1 (fl.tr t u) nd ne
  | lb h0 h fl => exact .lb h0 (u.ex h (by simp) (by simp)) (fl.tr t u)
theorem S.tr (t : Tr M M2 dd kvs) (u : Tr H H2 dd kvs) {L : List Rt} (s : S K mg M H L) (le : Le M2 H2) : S K mg M2 H2 L := ⟨le, fun r hr => (s.ok r hr).tr t u, s.sp⟩
/-- back again -/
theorem up_back {M' H' : Hp} {L G : List Rt} {m0 h0 : HO} (t : Tr M M2 dd kvs) (u : Tr H H2 dd kvs) (hm : M dd = some m0) (hh : H dd = some h0) (p : Up M2 H2 L M' H' G) : Up M H L (upd M' dd m0) (upd H' dd h0) G where
  mm := fun a o h => by
    by_cases z : a = dd
    · subst z; rw [upd_same, ← hm]; exact h
    · rw [upd_ne z]; exact p.mm a o (by rw [t.o a z]; exact h)
  hm := fun a o h n => by
    by_cases z : a = dd
    · subst z; rw [upd_same, ← hh]; exact h
    · rw [upd_ne z]; exact p.hm a o (by rw [u.o a z]; exact h) n
  hd := fun a h => by
    by_cases z : a = dd
    · subst z; rw [upd_same] at h; cases h
    · rw [upd_ne z] at h; rw [← u.o a z]; exact p.hd a h
  xs := fun a h => (p.xs a h).imp id fun e => by
    by_cases z : a = dd
    · subst z
      rcases u.b with q | ⟨ob, q⟩ <;> rw [e] at q <;> cases q
    · rw [← u.o a z]; exact e
  ys := p.ys
  ms := fun a o h => by
    by_cases z : a = dd
    · subst z; rw [upd_same, ← hm] at h; exact .inl h
    · rw [upd_ne z] at h
      rcases p.ms a o h with q | q | q
      · exact .inl (by rw [← t.o a z]; exact q)
      · exact .inr (.inl q)
      · exact .inr (.inr (by rw [← u.o a z]; exact q))
end
def keyX : Key → V.D
  | .inl i => .int i
  | .inr s => .str s
def keysP : V.D → Option (List V.D)
  | .dk ks _ => some (ks.map keyX)
  | _ => none
def dLcK (vs : List Nat) (i : Nat) (g : DG) (c : P Bool) (m : DE) : DE := nox (dLc vs (iOf keysP (dVar i)) g c m)
section
variable {X : Cx} {Wx : WX}
theorem keyX_ok {M : Hp} (k : Key) : Rep X.K X.mg M (kV k) (keyX k) := by
  cases k with
  | inl i => exact .int i
  | inr s => exact .str s
theorem itOk_keys {M : Hp} {dd : Addr} {od : Obj} {kvs : List (Key × L2.V)} (h : M dd = some (.frz od (.dK kvs))) : ItOk X.K X.mg M (Itk dd od kvs) ((kvs.map (·.1)).map keyX) := by
  intro M1 H1 hm hl
  have hd : H1 dd = some (.frz od (.dK kvs)) := hl.ex (hm _ _ h) rfl
  refine ⟨⟨hd, by rw [List.length_map, List.length_map]; exact Nat.le_refl _⟩, fun i d he => ?_⟩
  rw [List.getElem?_map, List.getElem?_map] at he
  cases e : kvs[i]? with
  | none => rw [e] at he; cases he
  | some p =>
    rw [e] at he
    cases he
    refine ⟨⟨hd, (List.getElem?_eq_some_iff.mp e).1⟩, fun x H2 hy => ?_⟩
    obtain ⟨rfl, k, v, h1, rfl⟩ := hy
    rw [e] at h1
    cases h1
    exact ⟨M1, .refl, hl, keyX_ok _⟩
theorem lck_ok {vs : List Nat} {i : Nat} {g : TG} {gd : DG} {c : P Bool} {m : DE} (hg : TgOk X.K X.mg vs g gd) {σ : L2.St} {H : Hp} {Q : VK} (h : TEd X.K X.mg Wx (dLcK vs i gd c m) σ H Q) :
    tLockE (tLc (iKeys (TEd X.K X.mg Wx (dVar i))) g (TTd X.K X.mg W0 c) (TEd X.K X.mg W0 m) vs) σ H Q ∨ tLc (iKeys (TEd X.K X.mg Wx (dVar i))) g (TTd X.K X.mg W0 c) (TEd X.K X.mg W0 m) vs σ H Q := by
  obtain ⟨M, L, ρ, s, l, p⟩ := h
  have n := p.ne
  generalize hr : dLcK vs i gd c m ρ = r at p n
  obtain ⟨z, ρ', e1, rfl⟩ := nox_inv hr n
  -- the dict
  obtain ⟨ks, lv, hρ, hdv, hb⟩ : ∃ ks lv, ρ[i]? = some (.sh (.dk ks lv)) ∧ dVar i ρ = .ok (.al i) ρ ∧ bnd (fun ρ => compT gd c m vs (ks.map keyX) [] (wipeE ρ vs)) (fun l => ret (Z.v (T.ow (.lst l)))) ρ = .ok z ρ' := by
    unfold dLc at e1
    unfold bnd at e1
    unfold iOf at e1
    unfold bnd at e1
    cases hρ : ρ[i]? with
    | none => simp only [dVar, hρ] at e1; cases e1
    | some t =>
      cases t with
      | sh d =>
        have hv : dVar i ρ = .ok (.al i) ρ := by simp only [dVar, hρ]
        have hgt : gt ρ (.al i) = some (.sh d) := by simp only [gt, hρ]
        simp only [hv, hgt] at e1
        cases d with
        | dk ks lv => exact ⟨ks, lv, rfl, hv, e1⟩
        | _ => cases e1
      | no => simp only [dVar, hρ] at e1; cases e1
      | ow d => simp only [dVar, gt, hρ] at e1; cases e1
      | lo d => simp only [dVar, gt, hρ] at e1; cases e1
      | ob C fs => simp only [dVar, gt, hρ] at e1; cases e1
      | lb C fs => simp only [dVar, gt, hρ] at e1; cases e1
  obtain ⟨r0, hr0, hr1⟩ : ∃ r0, L[i]? = some r0 ∧ r0.t = .sh (.dk ks lv) := by
    have := l.t
    rw [← this, List.getElem?_map] at hρ
    obtain ⟨r0, h1, h2⟩ := Option.map_eq_some_iff.mp hρ
    exact ⟨r0, h1, h2⟩
  have hok := s.ok r0 (List.mem_of_getElem? hr0)
  obtain ⟨dd, kvs, hv0, hat, hks⟩ : ∃ dd kvs, r0.v = some (.ref dd) ∧ At M dd (.dK kvs) ∧ kvs.map (·.1) = ks := by
    cases hok with
    | sh r =>
      cases hr1
      cases r with
      | dk h q _ => exact ⟨_, _, rfl, h, q⟩
    | _ => cases hr1
  have hσ : σ[i]? = some (some (.ref dd)) := by
    rw [← l.v, List.getElem?_map, hr0, ← hv0]
    rfl
  subst hks
  have hM : DkAt M dd kvs := hat.elim .inl fun ⟨_, ob, h⟩ => .inr ⟨ob, h⟩
  -- from the lock on
  have core : ∀ (od : Obj) (m0 h0 : HO), M dd = some m0 → H dd = some h0 → (m0 = .dK kvs ∨ ∃ ob, m0 = .frz ob (.dK kvs)) → (h0 = .dK kvs ∨ ∃ ob, h0 = .frz ob (.dK kvs)) → (∀ M3 H3, Le M3 H3 → Le (upd M3 dd m0) (upd H3 dd h0)) → ∀ (H2 : Hp), H2 dd = some (.frz od (.dK kvs)) → (∀ a, a ≠ dd → H2 a = H a) → ∀ Q2 : VK,
      (∀ v H', H' dd = some (.frz od (.dK kvs)) → Q v (upd H' dd h0) → Q2 v H') → tLc (iKeys (TEd X.K X.mg Wx (dVar i))) g (TTd X.K X.mg W0 c) (TEd X.K X.mg W0 m) vs σ H2 Q2 := by
    intro od m0 h0 hm0 hh0 cm ch hle H2 hH2 hH2o Q2 hQ2
    have tM : Tr M (upd M dd (.frz od (.dK kvs))) dd kvs := ⟨fun a z => upd_ne z, hM, .inr ⟨od, upd_same⟩⟩
    have tH : Tr H H2 dd kvs := ⟨hH2o, by rcases ch with e | ⟨ob, e⟩ <;> rw [e] at hh0; exact .inl hh0; exact .inr ⟨ob, hh0⟩, .inr ⟨od, hH2⟩⟩
    have le2 : Le (upd M dd (.frz od (.dK kvs))) H2 := fun a o e => by
      by_cases z : a = dd
      · subst z; rw [upd_same] at e; cases e; exact .inl hH2
      · rw [upd_ne z] at e
        exact (s.le a o e).stay fun o e => by rw [hH2o a z]; exact e
    have s2 : S X.K X.mg (upd M dd (.frz od (.dK kvs))) H2 L := s.tr tM tH le2
    refine ⟨upd M dd (.frz od (.dK kvs)), L, ρ, s2, l, ?_⟩
    rw [hdv]
    intro M' H' hs L' b up s' l' q al
    have nx : ¬ Xs L dd := fun z => by
      have := (s2.xm z).2
      rw [upd_same] at this
      cases this
    have hM' : M' dd = some (.frz od (.dK kvs)) := up.mm _ _ upd_same
    have hH' : H' dd = some (.frz od (.dK kvs)) := up.hm _ _ hH2 nx
    have eb : b = .ref dd := by
      have h1 : (L'.map (·.v))[i]? = some (some b) := al
      rw [l'.v, hσ] at h1
      exact (Option.some.inj (Option.some.inj h1)).symm
    refine ⟨dd, od, eb, .inl ⟨kvs, hH', ?_⟩⟩
    have sr := s'.right
    refine lc_mid (Wx := Wx) (H := H2) (J := Itk dd od kvs) hg sr l' (itOk_keys hM') ?_
    rw [hb]
    intro M3 H3 hs3 L3 b3 up3 s3 l3 q3 al3
    have nx3 : ¬ Xs L' dd := fun z => by
      have := (sr.xm z).2
      rw [hM'] at this
      cases this
    have hM3 : M3 dd = some (.frz od (.dK kvs)) := up3.mm _ _ hM'
    have hH3 : H3 dd = some (.frz od (.dK kvs)) := up3.hm _ _ hH' nx3
    have uu : Up (upd M dd (.frz od (.dK kvs))) H2 L M3 H3 (hs3 ++ L3) := (up.sub (fun r hr => List.mem_append_right _ hr)).trans up3
    have tM3 : Tr M3 (upd M3 dd m0) dd kvs := ⟨fun a z => upd_ne z, .inr ⟨od, hM3⟩, by
      rcases cm with e | ⟨ob, e⟩
      · exact .inl (by rw [upd_same, e])
      · exact .inr ⟨ob, by rw [upd_same, e]⟩⟩
    have tH3 : Tr H3 (upd H3 dd h0) dd kvs := ⟨fun a z => upd_ne z, .inr ⟨od, hH3⟩, by
      rcases ch with e | ⟨ob, e⟩
      · exact .inl (by rw [upd_same, e])
      · exact .inr ⟨ob, by rw [upd_same, e]⟩⟩
    exact hQ2 b3 H3 hH3 (p (upd M3 dd m0) (upd H3 dd h0) hs3 L3 b3 (up_back tM tH hm0 hh0 uu) (s3.tr tM3 tH3 (hle M3 H3 s3.le)) l3 q3 al3)
  have leg : ∀ {m0 h0 : HO}, (∀ H3 : Hp, At (upd H3 dd h0) dd m0) → ∀ M3 H3, Le M3 H3 → Le (upd M3 dd m0) (upd H3 dd h0) := fun hA M3 H3 hl a o e => by
    by_cases z : a = dd
    · subst z
      rw [upd_same] at e
      cases e
      exact hA H3
    · rw [upd_ne z] at e
      exact (hl a o e).stay fun o e => by rw [upd_ne z]; exact e
  rcases hM with hM | ⟨ob, hM⟩
  · rcases s.le dd _ hM with hH | ⟨_, ob, hH⟩
    · refine .inl ⟨dd, .dK kvs, hH, True.intro, fun od => ?_⟩
      exact core od (.dK kvs) (.dK kvs) hM hH (.inl rfl) (.inl rfl) (leg fun H3 => .inl upd_same) _ upd_same (fun a z => upd_ne z) _ fun v H' h1 h2 => ⟨h1, h2⟩
    · refine .inr (core ob (.dK kvs) (.frz ob (.dK kvs)) hM hH (.inl rfl) (.inr ⟨ob, rfl⟩) (leg fun H3 => .inr ⟨rfl, ob, upd_same⟩) H hH (fun a _ => rfl) Q fun v H' h1 h2 => ?_)
      have e : upd H' dd (.frz ob (.dK kvs)) = H' := by
        funext a
        by_cases z : a = dd
        · subst z; rw [upd_same, h1]
        · rw [upd_ne z]
      rw [e] at h2
      exact h2
  · have hH : H dd = some (.frz ob (.dK kvs)) := s.le.ex hM rfl
    refine .inr (core ob (.frz ob (.dK kvs)) (.frz ob (.dK kvs)) hM hH (.inr ⟨ob, rfl⟩) (.inr ⟨ob, rfl⟩) (leg fun H3 => .inl upd_same) H hH (fun a _ => rfl) Q fun v H' h1 h2 => ?_)
    have e : upd H' dd (.frz ob (.dK kvs)) = H' := by
      funext a
      by_cases z : a = dd
      · subst z; rw [upd_same, h1]
      · rw [upd_ne z]
    rw [e] at h2
    exact h2
theorem pe_or {e : Expr} {t u : TE} (h : PE X e t) (g : PE X e u) : PE X e (fun σ H Q => t σ H Q ∨ u σ H Q) := ⟨fun pins s σ H Q I hw => hw.elim (h.run pins s σ H Q I) (g.run pins s σ H Q I)⟩
variable {ms : List Bool} {elt tg iter c : Expr} {scope : Scope} {own : List (Str × Nat)} {pos : Pos} {g : TG} {gd : DG} {m : DE} {mc : P Bool} {i : Nat}
theorem q_lcK (hc : X.calm = true) (hN : X.N.Nodup) (hi : QE X Wx iter (dVar i)) (ok : BlkOk X.N X.env.scope scope own) (hk : TgOk X.K X.mg (own.map (·.2)) g gd)
    (hg : ∀ (s : Shared) (H : Hp) (C : Addr) (cl : List (Str × Addr)) (fp : List Addr), PG (X.blk s H scope (compEnvC scope cl C X.env) fp) tg g)
    (he : ∀ (s : Shared) (H : Hp) (C : Addr) (cl : List (Str × Addr)) (fp : List Addr), QE (X.blk s H scope (compEnvC scope cl C X.env) fp) W0 elt m)
    (hs : ∀ x, foldedSetIterable iter X.env x = pure x := by intro _; rfl) : QE X Wx (.ListComp elt [⟨tg, iter, [], 0⟩] scope pos) (dLcK (own.map (·.2)) i gd cYes m) := by
  have b : PE X (.ListComp elt [⟨tg, iter, [], 0⟩] scope pos) (tLc (iKeys (TEd X.K X.mg Wx (dVar i))) g (TTd X.K X.mg W0 cYes) (TEd X.K X.mg W0 m) (own.map (·.2))) := pe_lc hc hN (pi_keys hi) ok hg (fun _ _ _ _ _ => pts_yes) he hs
  exact pe_imp (pe_or (pe_lock b) b) fun σ H Q h => lck_ok hk h
theorem q_lcKIf (hc : X.calm = true) (hN : X.N.Nodup) (hi : QE X Wx iter (dVar i)) (ok : BlkOk X.N X.env.scope scope own) (hk : TgOk X.K X.mg (own.map (·.2)) g gd)
    (hg : ∀ (s : Shared) (H : Hp) (C : Addr) (cl : List (Str × Addr)) (fp : List Addr), PG (X.blk s H scope (compEnvC scope cl C X.env) fp) tg g)
    (ht : ∀ (s : Shared) (H : Hp) (C : Addr) (cl : List (Str × Addr)) (fp : List Addr), QT (X.blk s H scope (compEnvC scope cl C X.env) fp) W0 c mc)
    (he : ∀ (s : Shared) (H : Hp) (C : Addr) (cl : List (Str × Addr)) (fp : List Addr), QE (X.blk s H scope (compEnvC scope cl C X.env) fp) W0 elt m)
    (hs : ∀ x, foldedSetIterable iter X.env x = pure x := by intro _; rfl) : QE X Wx (.ListComp elt [⟨tg, iter, [c], 0⟩] scope pos) (dLcK (own.map (·.2)) i gd mc m) := by
  have b : PE X (.ListComp elt [⟨tg, iter, [c], 0⟩] scope pos) (tLc (iKeys (TEd X.K X.mg Wx (dVar i))) g (TTd X.K X.mg W0 mc) (TEd X.K X.mg W0 m) (own.map (·.2))) := pe_lc hc hN (pi_keys hi) ok hg (fun s H C cl fp => pts_one (ht s H C cl fp)) he hs
  exact pe_imp (pe_or (pe_lock b) b) fun σ H Q h => lck_ok hk h
end
/-! list(d.values()) -/
section
variable {X : Cx} {Wx : WX} {e : Expr} {te : TE} {me : DE} {p apos cpos pos : Pos}
def rVals : L2.V → Hp → VK → Prop := fun x H Q => ∃ (d : Addr) (kvs : List (Key × L2.V)), x = .ref d ∧ Rd H d (.dK kvs) ∧ ∀ q, H q = none → Q (.ref q) (upd H q (.lst (kvs.map (·.2))))
theorem vals_of {kvs : List (Key × L2.V)} {vs : List (Key × Value)} (r : KV kvs vs) : Vals (kvs.map (·.2)) (vs.map (·.2)) := by
  unfold KV at r
  induction r with
  | nil => exact .nil
  | cons h t ih => exact .cons h.2 ih
theorem pe_lstVals (hc : X.calm = true) (he : PE X e te) (hg : Gl X "list") (hm : X.mg "list" = none) (hbase : attributeBase e "values" X.env (eval e X.env) = eval e X.env := by rfl) (hline : (apos.endLine == cpos.line) = true := by rfl)
    (hs : starEach [.Call (.Attribute e "values" apos) [] [] cpos] X.env = (false, eval (.Call (.Attribute e "values" apos) [] [] cpos) X.env) :: starEach [] X.env := by rfl) :
    PE X (.Call (.Name "list" p) [.Call (.Attribute e "values" apos) [] [] cpos] [] pos) (fun σ H Q => te σ H fun x H1 => rVals x H1 Q) := by
  refine ⟨fun pins s σ H Q I hq => ?_⟩
  refine wpAny_Call_Name_kw (ld_blt I hg hm boot_list ?_)
  refine PyProof.Rows.callWith_type1 ?_ hs rfl
  rw [hs]
  show wpAny _ _ (spliced ((false, eval (.Call (.Attribute e "values" apos) [] [] cpos) X.env) :: backTo pos (starEach [] X.env))) _ _ s
  refine Calls.spliced_cons ?_
  refine wpAny_Call_method (T := "dict") (id := "dict.values") hbase rfl hline F.plainAttrs_dict F.slot_dict_values F.type_dict_values (thn (he.run pins s σ H _ I hq) fun u s1 ⟨x, H1, I1, rx, d, kvs, ex, hd, q⟩ => ?_)
  subst ex
  obtain rfl : u = Value.ref d := rx
  obtain ⟨hz, hs0, vs, kv, hdo⟩ := dk_rd I1.hok hd
  have lk : kvs.length = vs.length := Paired.length kv
  have I2 : L2.Inv X pins σ H1 { s1 with heap := s1.heap.push { cls := .type "dict_values", data := .fields #[.ref d] } } := I1.kept (t' := s1.toks) fun b ob q => Heap.get?_push_of_some _ q
  refine ⟨hdo.typeIs, hdo.mapOf.noDict, ?_⟩
  show wpAny _ _ (callWith cpos (.builtin "dict.values") [.ref d] [] []) _ X.xe s1
  refine method_meetsIn F.slot_dict_values F.entry_dict_values rfl (PySem.evalArgs_none ⟨rfl, hdo.typeIs, F.args_dict_values_1 _, _, meets_dict_values (mixKind X.prog X.w) d hs0, ⟨vs, hdo⟩, ?_⟩)
  refine Calls.spliced_nil ?_
  obtain ⟨es, ep, hraw, hsz, hent⟩ := hdo.raw
  refine PySem.W.kdl_call (prog := X.prog) (w := X.w) (T := "dict_values") (r := s1.heap.objs.size) (d := d) (n := es.size) (PySem.KdlSrc.rawValues (ep := ep)) (I1.ok.hd hc) ⟨⟨_, Heap.get?_push_size _ rfl, rfl, rfl⟩, hraw.push _⟩ (by omega) fun h' tk acc c hk hS hacc => ?_
  have hv : acc.toList = vs.map (·.2) := by
    apply List.ext_getElem?
    intro j
    rw [List.getElem?_map]
    by_cases hj : j < es.size
    · have e1 : acc[j]? = some (acc[j]'(by rw [hacc.1]; exact hj)) := Array.getElem?_eq_getElem _
      obtain ⟨hi, h2⟩ := hacc.2 j _ e1
      have e2 : vs[j]? = some (vs[j]'(by omega)) := List.getElem?_eq_getElem _
      have h3 := (hent j hj (vs[j]'(by omega)).1 (vs[j]'(by omega)).2 (by rw [e2])).2
      rw [Array.getElem?_toList, e1, e2, h2, h3]
      rfl
    · rw [Array.getElem?_toList, Array.getElem?_eq_none (by rw [hacc.1]; omega), List.getElem?_eq_none (by omega)]
      rfl
  refine ⟨.ref _, upd H1 _ (.lst (kvs.map (·.2))), I2.laid (t' := tk) hk (Nat.le_refl _) (show ObjOk X.prog X.w _ _ _ (.lst (kvs.map (·.2))) from ⟨by rw [List.length_map]; exact hz, acc.toList, c, by rw [hv]; exact vals_of kv, by rw [Array.toArray_toList]; exact hS⟩), rfl, q _ (I2.hok.fresh (Nat.le_refl _))⟩
def wVals : V.D → Option T
  | .dk _ l => some (.ow (.lst l))
  | _ => none
theorem op1_vals : Op1 X.K X.mg rVals wVals := by
  intro M H Q x a t hl ra hm hp
  unfold wVals at hm
  split at hm
  · cases hm
    obtain ⟨d, kvs, rfl, hr, rfl, rs⟩ := rep1_dk hl ra
    exact ⟨d, kvs, rfl, hr, fun q nq => hp.own hl nq (.lst rs)⟩
  · cases hm
theorem q_lstVals (_hu : X.A.units + 200 < cLine) (_hx : X.ex = []) (hc : X.calm = true) (hg : Gl X "list") (hm : X.mg "list" = none) (he : QE X Wx e me) (hbase : attributeBase e "values" X.env (eval e X.env) = eval e X.env := by rfl) (hline : (apos.endLine == cpos.line) = true := by rfl)
    (hs : starEach [.Call (.Attribute e "values" apos) [] [] cpos] X.env = (false, eval (.Call (.Attribute e "values" apos) [] [] cpos) X.env) :: starEach [] X.env := by rfl) :
    QE X Wx (.Call (.Name "list" p) [.Call (.Attribute e "values" apos) [] [] cpos] [] pos) (d1 wVals me) := pe_imp (pe_lstVals hc he hg hm hbase hline hs) fun σ H Q h => run1 op1_vals h
end
end V

set_option Elab.async false
set_option linter.all false
set_option maxRecDepth 100000
/-! V20: working meanings out: from the first step on, over an env that is written out. -/
namespace V
open PySem L2
section
variable {α β : Type}
/-- m ends well from ρ, with Q; or raises, with E -/
def Wp (m : P α) (ρ : Env) (Q : α → Env → Prop) (E : Str → Env → Prop) : Prop := match m ρ with
  | .stk => False
  | .ok a ρ' => Q a ρ'
  | .ex n ρ' => E n ρ'
theorem Wp_congr {m : P α} {ρ ρ' : Env} {Q : α → Env → Prop} {E : Str → Env → Prop} (h : ρ = ρ') : Wp m ρ Q E = Wp m ρ' Q E := by rw [h]
def GetK (ρ : Env) (i : Nat) (K : T → Prop) : Prop := match ρ[i]? with
  | some t => K t
  | none => False
def SetK (ρ : Env) (i : Nat) (t : T) (K : Env → Prop) : Prop := K (ρ.set i t)
def AnK (o : Option T) (K : T → Prop) : Prop := match o with
  | some t => K t
  | none => False
theorem AnK_congr {o o' : Option T} {K : T → Prop} (h : o = o') : AnK o K = AnK o' K := by rw [h]
def OpK {γ : Type} (o : Option γ) (K : γ → Prop) : Prop := match o with
  | some t => K t
  | none => False
theorem OpK_congr {γ : Type} {o o' : Option γ} {K : γ → Prop} (h : o = o') : OpK o K = OpK o' K := by rw [h]
def TdK (t : T) (K : D → Prop) : Prop := OpK (td t) K
def RdK (ρ : Env) (z : Z) (K : D → Prop) : Prop := OpK (zd ρ z) K
def RdsK (ρ : Env) (zs : List Z) (K : List D → Prop) : Prop := OpK (zds ρ zs) K
def ShsK (ρ : Env) (zs : List Z) (K : List D → Prop) : Prop := OpK (shs ρ zs) K
def GtK (ρ : Env) (z : Z) (K : T → Prop) : Prop := OpK (gt ρ z) K
/-- where the condition holds -/
def IfK (b : Bool) (p q : Prop) : Prop := (b = true → p) ∧ (b = false → q)
variable {ρ : Env} {Q : β → Env → Prop} {E : Str → Env → Prop} {K : T → Prop} {t u : T} {i : Nat} {d : D} {KD : D → Prop} {KL : List D → Prop} {z : Z} {zs : List Z}
theorem k_some {γ : Type} {a : γ} {K : γ → Prop} : OpK (some a) K = K a := rfl
theorem an_some {a : T} : AnK (some a) K = K a := rfl
theorem g_0 : GetK (t :: ρ) 0 K = K t := rfl
theorem g_s : GetK (t :: ρ) (i + 1) K = GetK ρ i K := rfl
theorem s_0 {K : Env → Prop} : SetK (u :: ρ) 0 t K = K (t :: ρ) := rfl
theorem s_s {K : Env → Prop} : SetK (u :: ρ) (i + 1) t K = SetK ρ i t fun ρ' => K (u :: ρ') := rfl
theorem td_sh : TdK (.sh d) KD = KD d := rfl
theorem td_ow : TdK (.ow d) KD = KD d := rfl
theorem td_lo : TdK (.lo d) KD = KD d := rfl
theorem rd_v : RdK ρ (.v t) KD = TdK t KD := rfl
theorem rd_al : RdK ρ (.al i) KD = GetK ρ i fun t => TdK t KD := by
  simp only [RdK, GetK, zd]
  cases ρ[i]? <;> rfl
theorem rds_nil : RdsK ρ [] KL = KL [] := rfl
theorem rds_cons : RdsK ρ (z :: zs) KL = RdK ρ z fun d => RdsK ρ zs fun ds => KL (d :: ds) := by
  simp only [RdsK, RdK, zds]
  cases zd ρ z <;> cases zds ρ zs <;> rfl
theorem shs_nil : ShsK ρ [] KL = KL [] := rfl
theorem shs_v : ShsK ρ (.v (.sh d) :: zs) KL = ShsK ρ zs fun ds => KL (d :: ds) := by
  unfold ShsK
  rw [shs]
  cases shs ρ zs <;> rfl
theorem sh_only (P Q : Prop) : P = Q ↔ (P ↔ Q) := eq_iff_iff
def ShK (t : T) (KD : D → Prop) : Prop := match t with
  | .sh d => KD d
  | _ => False
theorem shk : ShK (.sh d) KD = KD d := rfl
theorem shs_al : ShsK ρ (.al i :: zs) KL = GetK ρ i fun t => ShK t fun d => ShsK ρ zs fun ds => KL (d :: ds) := by
  unfold ShsK GetK
  rw [shs]
  cases ρ[i]? with
  | none => rfl
  | some t =>
    cases t with
    | sh d => dsimp only [ShK]; cases shs ρ zs <;> rfl
    | _ => rfl
theorem gt_v : GtK ρ (.v t) K = K t := rfl
theorem gt_al : GtK ρ (.al i) K = GetK ρ i K := by
  simp only [GtK, gt, GetK]
  cases ρ[i]? <;> rfl
theorem if_tt {p q : Prop} : IfK true p q = p := by simp [IfK]
theorem if_ff {p q : Prop} : IfK false p q = q := by simp [IfK]
/-! steps -/
theorem w_ret {a : β} : Wp (ret a) ρ Q E = Q a ρ := rfl
theorem w_stk : Wp (stk : P β) ρ Q E = False := rfl
theorem w_rse {n : Str} : Wp (rse n : P β) ρ Q E = E n ρ := rfl
theorem w_bnd {m : P α} {f : α → P β} : Wp (bnd m f) ρ Q E = Wp m ρ (fun a ρ' => Wp (f a) ρ' Q E) E := by
  unfold Wp bnd
  cases m ρ <;> rfl
end
section
variable {ρ : Env} {QE : Z → Env → Prop} {QB : Bool → Env → Prop} {QO : O → Env → Prop} {QA : List Z → Env → Prop} {QI : Option Int → Env → Prop} {QU : Unit → Env → Prop} {QL : List D → Env → Prop} {E : Str → Env → Prop} {i : Nat} {d : D} {m ma mb : DE} {f : D → D → Option T} {mas : P (List Z)} {a b : DS} {c : P Bool} {z : Z} {zs : List Z} {t : T}
def NzK (t : T) (p : Prop) : Prop := match t with
  | .no => False
  | _ => p
theorem nz_sh {p : Prop} : NzK (.sh d) p = p := rfl
theorem nz_ow {p : Prop} : NzK (.ow d) p = p := rfl
theorem nz_lo {p : Prop} : NzK (.lo d) p = p := rfl
theorem nz_ob {p : Prop} {C : Str} {fs : List (Str × FT)} : NzK (.ob C fs) p = p := rfl
theorem nz_lb {p : Prop} {C : Str} {fs : List (Str × FT)} : NzK (.lb C fs) p = p := rfl
theorem w_var : Wp (dVar i) ρ QE E = GetK ρ i fun t => NzK t (QE (.al i) ρ) := by
  simp only [Wp, dVar, GetK]
  cases ρ[i]? with
  | none => rfl
  | some t => cases t <;> rfl
theorem w_c : Wp (dC d) ρ QE E = QE (.v (.sh d)) ρ := rfl
theorem w_ans {o : Option T} : Wp (ans o) ρ QE E = AnK o fun t => QE (.v t) ρ := by cases o <;> rfl
theorem w_rd {k : D → DE} : Wp (rd z k) ρ QE E = RdK ρ z fun d => Wp (k d) ρ QE E := by
  simp only [Wp, rd, RdK]
  cases zd ρ z <;> rfl
theorem w_rds {k : List D → DE} : Wp (rds zs k) ρ QE E = RdsK ρ zs fun d => Wp (k d) ρ QE E := by
  simp only [Wp, rds, RdsK]
  cases zds ρ zs <;> rfl
theorem w_d2 : Wp (d2 f ma mb) ρ QE E = Wp ma ρ (fun x ρ => Wp mb ρ (fun y ρ => RdK ρ x fun d => RdK ρ y fun e => AnK (f d e) fun t => QE (.v t) ρ) E) E := by
  simp only [d2, w_bnd, w_rd, w_ans]
theorem w_d1 {f : D → Option T} : Wp (d1 f ma) ρ QE E = Wp ma ρ (fun x ρ => RdK ρ x fun d => AnK (f d) fun t => QE (.v t) ρ) E := by
  simp only [d1, w_bnd, w_rd, w_ans]
theorem w_dN {f : List D → Option T} : Wp (dN f mas) ρ QE E = Wp mas ρ (fun x ρ => RdsK ρ x fun d => AnK (f d) fun t => QE (.v t) ρ) E := by
  simp only [dN, w_bnd, w_rds, w_ans]
theorem w_dS {f : List D → Option T} : Wp (dS f mas) ρ QE E = Wp mas ρ (fun x ρ => ShsK ρ x fun d => AnK (f d) fun t => QE (.v t) ρ) E := by
  unfold dS
  rw [w_bnd]
  congr 1
  funext zs ρ
  simp only [Wp, ShsK]
  cases shs ρ zs with
  | none => rfl
  | some ds => exact w_ans
theorem w_nil : Wp aNil ρ QA E = QA [] ρ := rfl
theorem w_cons : Wp (aCons m mas) ρ QA E = Wp m ρ (fun x ρ => Wp mas ρ (fun xs ρ => QA (x :: xs) ρ) E) E := by
  simp only [aCons, w_bnd, w_ret]
/-! giving up -/
def GvK (t : T) (KD : D → Prop) : Prop := OpK (gv t) KD
theorem gv_sh {KD : D → Prop} : GvK (.sh d) KD = KD d := rfl
theorem gv_ow {KD : D → Prop} : GvK (.ow d) KD = KD d := rfl
theorem gv_ob {KD : D → Prop} {C : Str} {fs : List (Str × FT)} : GvK (.ob C fs) KD = OpK (fgive fs) fun q => KD (.obj C q.1 q.2) := by
  simp only [GvK, gv]
  cases fgive fs <;> rfl
theorem fg_nil : fgive [] = some ([], []) := rfl
theorem fg_sh {x : Str} {fs : List (Str × FT)} {q : List Str × List D} (h : fgive fs = some q) : fgive ((x, .sh d) :: fs) = some (x :: q.1, d :: q.2) := by simp [fgive, h]
theorem fg_ow {x : Str} {fs : List (Str × FT)} {q : List Str × List D} (h : fgive fs = some q) : fgive ((x, .ow d) :: fs) = some (x :: q.1, d :: q.2) := by simp [fgive, h]
def GivK (ρ : Env) (z : Z) (K : D → Env → Prop) : Prop := match z with
  | .v t => GvK t fun d => K d ρ
  | .al i => GetK ρ i fun t => GvK t fun d => SetK ρ i (.sh d) fun ρ' => K d ρ'
theorem gi_v {K : D → Env → Prop} : GivK ρ (.v t) K = GvK t fun d => K d ρ := rfl
theorem gi_al {K : D → Env → Prop} : GivK ρ (.al i) K = GetK ρ i fun t => GvK t fun d => SetK ρ i (.sh d) fun ρ' => K d ρ' := rfl
theorem w_giv : Wp (dGiv m) ρ QE E = Wp m ρ (fun z ρ => GivK ρ z fun d ρ' => QE (.v (.sh d)) ρ') E := by
  unfold dGiv
  rw [w_bnd]
  congr 1
  funext z ρ
  cases z with
  | v t =>
    simp only [Wp, giv, GivK, GvK]
    cases gv t <;> rfl
  | al i =>
    simp only [Wp, giv, GivK, GetK]
    cases ρ[i]? with
    | none => rfl
    | some t =>
      simp only [GvK]
      cases gv t <;> rfl
/-! tests -/
theorem w_rdO {α : Type} {k : D → P α} {Q : α → Env → Prop} : Wp (rdO z k) ρ Q E = RdK ρ z fun d => Wp (k d) ρ Q E := by
  simp only [Wp, rdO, RdK]
  cases zd ρ z <;> rfl
theorem w_opT {o : Option Bool} : Wp (opT o) ρ QB E = OpK o fun b => QB b ρ := by cases o <;> rfl
theorem w_tru : Wp (cTru m) ρ QB E = Wp m ρ (fun z ρ => RdK ρ z fun d => OpK (tru d) fun b => QB b ρ) E := by
  simp only [cTru, w_bnd, w_rdO, w_opT]
def blD : D → Option Bool
  | .bl b => some b
  | _ => none
theorem w_bl : Wp (cBl m) ρ QB E = Wp m ρ (fun z ρ => RdK ρ z fun d => OpK (blD d) fun b => QB b ρ) E := by
  simp only [cBl, w_bnd, w_rdO]
  congr 1
  funext z ρ
  congr 1
  funext d
  rw [w_opT]
  congr 1
theorem bl_d {b : Bool} {K : Bool → Prop} : OpK (blD (.bl b)) K = K b := rfl
theorem w_not : Wp (cNot c) ρ QB E = Wp c ρ (fun b ρ => QB (!b) ρ) E := by simp only [cNot, w_bnd, w_ret]
theorem ifk {b : Bool} {p q : Prop} : (if b = true then p else q) = IfK b p q := by cases b <;> simp [IfK]
theorem w_if {α : Type} {b : Bool} {x y : P α} {Q : α → Env → Prop} : Wp (if b = true then x else y) ρ Q E = IfK b (Wp x ρ Q E) (Wp y ρ Q E) := by cases b <;> simp [IfK]
theorem w_and {c' : P Bool} : Wp (cAnd c c') ρ QB E = Wp c ρ (fun b ρ => IfK b (Wp c' ρ QB E) (QB false ρ)) E := by simp only [cAnd, w_bnd, w_if, w_ret]
theorem w_or {c' : P Bool} : Wp (cOr c c') ρ QB E = Wp c ρ (fun b ρ => IfK b (QB true ρ) (Wp c' ρ QB E)) E := by simp only [cOr, w_bnd, w_if, w_ret]
def TriK (o : Option Bool) (p q : Prop) : Prop := OpK o fun b => IfK b p q
theorem w_dNot : Wp (dNot m) ρ QE E = Wp m ρ (fun z ρ => RdK ρ z fun d => OpK (tru d) fun b => QE (.v (.sh (.bl (!b)))) ρ) E := by
  simp only [dNot, w_d1]
  congr 1
  funext z ρ
  congr 1
  funext d
  cases tru d <;> rfl
theorem w_dAnd : Wp (dAnd ma mb) ρ QE E = Wp ma ρ (fun z ρ => RdK ρ z fun d => OpK (tru d) fun b => IfK b (Wp mb ρ QE E) (QE z ρ)) E := by
  simp only [dAnd, w_bnd, w_rd]
  congr 1
  funext z ρ
  congr 1
  funext d
  cases tru d with
  | none => rfl
  | some b => cases b <;> simp [k_some, if_tt, if_ff, w_ret]
theorem w_dOr : Wp (dOr ma mb) ρ QE E = Wp ma ρ (fun z ρ => RdK ρ z fun d => OpK (tru d) fun b => IfK b (QE z ρ) (Wp mb ρ QE E)) E := by
  simp only [dOr, w_bnd, w_rd]
  congr 1
  funext z ρ
  congr 1
  funext d
  cases tru d with
  | none => rfl
  | some b => cases b <;> simp [k_some, if_tt, if_ff, w_ret]
/-! slices -/
theorem w_oNone : Wp oNone ρ QI E = QI none ρ := rfl
theorem w_oSome : Wp (oSome m) ρ QI E = Wp m ρ (fun z ρ => RdK ρ z fun d => OpK (oInt d) fun i => QI (some i) ρ) E := by
  simp only [oSome, w_bnd, w_rdO]
  congr 1
  funext z ρ
  congr 1
  funext d
  cases oInt d <;> rfl
theorem o_int {j : Int} {K : Int → Prop} : OpK (oInt (.int j)) K = K j := rfl
theorem w_sl {lo hi : P (Option Int)} : Wp (dSl m lo hi) ρ QE E = Wp m ρ (fun x ρ => Wp lo ρ (fun l ρ => Wp hi ρ (fun h ρ => RdK ρ x fun d => AnK (wSl l h d) fun t => QE (.v t) ρ) E) E) E := by
  simp only [dSl, w_bnd, w_rd, w_ans]
/-! statements -/
def SqK (o : O) (p : Prop) (k : O → Prop) : Prop := match o with
  | .nx => p
  | o => k o
theorem sq_nx {p : Prop} {k : O → Prop} : SqK .nx p k = p := rfl
theorem sq_rt {p : Prop} {k : O → Prop} : SqK (.rt z) p k = k (.rt z) := rfl
theorem sq_bk {p : Prop} {k : O → Prop} : SqK .bk p k = k .bk := rfl
theorem sq_ct {p : Prop} {k : O → Prop} : SqK .ct p k = k .ct := rfl
theorem w_seq : Wp (dSeq a b) ρ QO E = Wp a ρ (fun o ρ => SqK o (Wp b ρ QO E) fun o => QO o ρ) E := by
  simp only [dSeq, w_bnd]
  congr 1
  funext o ρ
  cases o <;> rfl
theorem w_skip : Wp dSkip ρ QO E = QO .nx ρ := rfl
theorem w_dret : Wp (dRet m) ρ QO E = Wp m ρ (fun z ρ => QO (.rt z) ρ) E := by simp only [dRet, w_bnd, w_ret]
theorem w_retN : Wp dRetN ρ QO E = QO (.rt (.v (.sh .non))) ρ := rfl
theorem w_expr : Wp (dExpr m) ρ QO E = Wp m ρ (fun _ ρ => QO .nx ρ) E := by simp only [dExpr, w_bnd, w_ret]
theorem w_dif : Wp (dIf c a b) ρ QO E = Wp c ρ (fun k ρ => IfK k (Wp a ρ QO E) (Wp b ρ QO E)) E := by simp only [dIf, w_bnd, w_if]
theorem w_brk : Wp dBrk ρ QO E = QO .bk ρ := rfl
theorem w_raise {n : Str} : Wp (dRse n) ρ QO E = E n ρ := rfl
theorem w_dasg {g : DG} : Wp (dAsg m g) ρ QO E = Wp m ρ (fun z ρ => Wp (g z) ρ (fun _ ρ => QO .nx ρ) E) E := by simp only [dAsg, w_bnd, w_ret]
theorem w_dset : Wp (dSet i m) ρ QO E = Wp m ρ (fun z ρ => Wp (asg i z) ρ (fun _ ρ => QO .nx ρ) E) E := by simp only [dSet, w_dasg]
def AlK (t : T) (K : T → Prop) : Prop := match t with
  | .sh d => K (.sh d)
  | .lo d => K (.lo d)
  | .lb C fs => K (.lb C fs)
  | _ => False
theorem al_sh {K : T → Prop} : AlK (.sh d) K = K (.sh d) := rfl
theorem al_lo {K : T → Prop} : AlK (.lo d) K = K (.lo d) := rfl
theorem al_lb {K : T → Prop} {C : Str} {fs : List (Str × FT)} : AlK (.lb C fs) K = K (.lb C fs) := rfl
theorem w_asg_v : Wp (asg i (.v t)) ρ QU E = SetK ρ i t fun ρ' => QU () ρ' := rfl
theorem w_asg_al {j : Nat} : Wp (asg i (.al j)) ρ QU E = GetK ρ j fun t => AlK t fun t => SetK ρ i t fun ρ' => QU () ρ' := by
  simp only [Wp, asg, GetK]
  cases ρ[j]? with
  | none => rfl
  | some t => cases t <;> rfl
theorem w_gsNil : Wp (gsNil []) ρ QU E = QU () ρ := rfl
theorem w_gsCons {g : DG} {gs : DGs} {ds : List D} : Wp (gsCons g gs (d :: ds)) ρ QU E = Wp (g (.v (.sh d))) ρ (fun _ ρ => Wp (gs ds) ρ QU E) E := by simp only [gsCons, w_bnd]
def TpK (n : Nat) (t : T) (KL : List D → Prop) : Prop := match t with
  | .sh (.tup ds) => ds.length = n ∧ KL ds
  | _ => False
theorem tp_k {n : Nat} {ds : List D} {KL : List D → Prop} : TpK n (.sh (.tup ds)) KL = (ds.length = n ∧ KL ds) := rfl
theorem w_gTp {n : Nat} {gs : DGs} : Wp (gTp n gs z) ρ QU E = GtK ρ z fun t => TpK n t fun ds => Wp (gs ds) ρ QU E := by
  simp only [Wp, gTp, GtK]
  cases gt ρ z with
  | none => rfl
  | some t =>
    cases t with
    | sh d =>
      cases d with
      | tup ds =>
        simp only [k_some, tp_k]
        by_cases h : ds.length = n
        · simp only [h, if_true, true_and]
        · simp only [h, if_false, false_and]
      | _ => rfl
    | _ => rfl
theorem w_for {mi : DI} {g : DG} {body : DS} : Wp (dFor mi g body) ρ QO E = Wp mi ρ (fun ds ρ => Wp (loopD g body ds) ρ QO E) E := by simp only [dFor, w_bnd]
theorem w_loop_nil {g : DG} {body : DS} : Wp (loopD g body []) ρ QO E = QO .nx ρ := rfl
/-- what a turn of a loop comes to -/
def TnK (o : O) (p q : Prop) (k : Z → Prop) : Prop := match o with
  | .nx => p
  | .ct => p
  | .bk => q
  | .rt z => k z
theorem tn_nx {p q : Prop} {k : Z → Prop} : TnK .nx p q k = p := rfl
theorem tn_ct {p q : Prop} {k : Z → Prop} : TnK .ct p q k = p := rfl
theorem tn_bk {p q : Prop} {k : Z → Prop} : TnK .bk p q k = q := rfl
theorem tn_rt {p q : Prop} {k : Z → Prop} : TnK (.rt z) p q k = k z := rfl
theorem w_loop_cons {g : DG} {body : DS} {ds : List D} : Wp (loopD g body (d :: ds)) ρ QO E = Wp (g (.v (.sh d))) ρ (fun _ ρ => Wp body ρ (fun o ρ => TnK o (Wp (loopD g body ds) ρ QO E) (QO .nx ρ) fun z => QO (.rt z) ρ) E) E := by
  rw [loopD, w_bnd]
  congr 1
  funext _ ρ
  rw [w_bnd]
  congr 1
  funext o ρ
  cases o <;> rfl
/-- a loop by an invariant over what is left -/
theorem wp_loop {γ : Type} {g : DG} {body : DS} (h : γ → D) (I : List γ → Env → Prop) {xs : List γ} (h0 : I xs ρ)
    (hs : ∀ x xs ρ, I (x :: xs) ρ → Wp (g (.v (.sh (h x)))) ρ (fun _ ρ => Wp body ρ (fun o ρ => TnK o (I xs ρ) (QO .nx ρ) fun z => QO (.rt z) ρ) E) E) (he : ∀ ρ, I [] ρ → QO .nx ρ) : Wp (loopD g body (xs.map h)) ρ QO E := by
  induction xs generalizing ρ with
  | nil => exact he ρ h0
  | cons x xs ih =>
    rw [List.map_cons, w_loop_cons]
    have h1 := hs x xs ρ h0
    revert h1
    unfold Wp
    cases g (.v (.sh (h x))) ρ with
    | stk => exact id
    | ex n ρ' => exact id
    | ok a ρ1 =>
      dsimp only
      cases body ρ1 with
      | stk => exact id
      | ex n ρ' => exact id
      | ok o ρ2 =>
        dsimp only
        cases o with
        | nx => exact fun h => ih h
        | ct => exact fun h => ih h
        | bk => exact id
        | rt z => exact id
theorem Wp.mono {α : Type} {m : P α} {Q Q' : α → Env → Prop} {E' : Str → Env → Prop} (h : Wp m ρ Q E) (hq : ∀ a ρ, Q a ρ → Q' a ρ) (he : ∀ n ρ, E n ρ → E' n ρ) : Wp m ρ Q' E' := by
  revert h
  unfold Wp
  cases m ρ with
  | stk => exact id
  | ok a ρ' => exact hq a ρ'
  | ex n ρ' => exact he n ρ'
/-- while: so many turns are enough -/
theorem w_while {n : Nat} : Wp (whileD c a (n + 1)) ρ QO E = Wp c ρ (fun k ρ => IfK k (Wp a ρ (fun o ρ => TnK o (Wp (whileD c a n) ρ QO E) (QO .nx ρ) fun z => QO (.rt z) ρ) E) (QO .nx ρ)) E := by
  rw [whileD, w_bnd]
  congr 1
  funext k ρ
  rw [w_if, w_ret, w_bnd]
  congr 2
  funext o ρ
  cases o <;> rfl
theorem wp_while (I : Nat → Env → Prop) (hs : ∀ n ρ, I n ρ → Wp c ρ (fun k ρ => IfK k (Wp a ρ (fun o ρ => TnK o (∃ n', n' < n ∧ I n' ρ) (QO .nx ρ) fun z => QO (.rt z) ρ) E) (QO .nx ρ)) E) : ∀ {n N : Nat} {ρ : Env}, I n ρ → n < N → Wp (whileD c a N) ρ QO E
  | n, 0, ρ, h0, hn => absurd hn (Nat.not_lt_zero _)
  | n, N + 1, ρ, h0, hn => by
    rw [w_while]
    refine (hs n ρ h0).mono (fun k ρ h => ?_) fun _ _ h => h
    refine ⟨fun e => (h.1 e).mono (fun o ρ h => ?_) fun _ _ h => h, h.2⟩
    have hrc : (∃ n', n' < n ∧ I n' ρ) → Wp (whileD c a N) ρ QO E := fun ⟨n', h1, h2⟩ => wp_while I hs h2 (by omega)
    cases o with
    | nx => exact hrc h
    | ct => exact hrc h
    | bk => exact h
    | rt z => exact h
/-! what is walked over -/
theorem w_iOf {f : D → Option (List D)} : Wp (iOf f m) ρ QL E = Wp m ρ (fun z ρ => GtK ρ z fun t => ShK t fun d => OpK (f d) fun ds => QL ds ρ) E := by
  unfold iOf
  rw [w_bnd]
  congr 1
  funext z ρ
  simp only [Wp, GtK]
  cases gt ρ z with
  | none => rfl
  | some t =>
    cases t with
    | sh d => simp only [k_some, shk]; cases f d <;> rfl
    | _ => rfl
theorem w_iOfN {f : List D → Option (List D)} : Wp (iOfN f mas) ρ QL E = Wp mas ρ (fun z ρ => ShsK ρ z fun ds => OpK (f ds) fun ds => QL ds ρ) E := by
  unfold iOfN
  rw [w_bnd]
  congr 1
  funext zs ρ
  simp only [Wp, ShsK]
  cases shs ρ zs with
  | none => rfl
  | some ds => simp only [k_some]; cases f ds <;> rfl
theorem seq_tup {l : List D} {K : List D → Prop} : OpK (seqD (.tup l)) K = K l := rfl
theorem seq_lst {l : List D} {K : List D → Prop} : OpK (seqD (.lst l)) K = K l := rfl
theorem seq_scr {l : List D} {K : List D → Prop} : OpK (seqD (.scr l)) K = K l := rfl
/-! comprehensions -/
theorem w_lc {vs : List Nat} {mi : DI} {g : DG} : Wp (dLc vs mi g c m) ρ QE E = Wp mi ρ (fun ds ρ => Wp (compT g c m vs ds []) (wipeE ρ vs) (fun l ρ => QE (.v (.ow (.lst l))) ρ) E) E := by
  unfold dLc
  rw [w_bnd]
  congr 1
  funext ds ρ
  rw [w_bnd]
  rfl
theorem wipe_nil : wipeE ρ [] = ρ := rfl
def NoE : Str → Env → Prop := fun _ _ => False
def ItK (z : Z) (K : D → Prop) : Prop := match z with
  | .v (.sh y) => K y
  | _ => False
theorem it_k {K : D → Prop} : ItK (.v (.sh d)) K = K d := rfl
theorem wp_nox {α : Type} {m : P α} {Q : α → Env → Prop} (h : Wp m ρ Q NoE) : Wp (nox m) ρ Q E := by
  revert h
  unfold Wp nox
  cases m ρ <;> exact id
/-- a comprehension: each item's value; the env comes to be the same behind each -/
theorem wp_comp {γ : Type} {vs : List Nat} {g : DG} (h : γ → D) (p : γ → Bool) (v : γ → D) : ∀ {xs : List γ} {acc : List D}, acc.length + xs.length ≤ sizeLine →
    (∀ x ∈ xs, Wp (g (.v (.sh (h x)))) ρ (fun _ ρ1 => Wp c ρ1 (fun b ρ1 => b = p x ∧ IfK (p x) (Wp m ρ1 (fun z ρ1 => ItK z fun d => d = v x ∧ wipeE ρ1 vs = ρ) NoE) (wipeE ρ1 vs = ρ)) NoE) NoE) →
    QL (acc ++ (xs.filter p).map v) ρ → Wp (compT g c m vs (xs.map h) acc) ρ QL E
  | [], acc, _, _, hq => by
    rw [List.map_nil, compT]
    simpa [w_ret] using hq
  | x :: xs, acc, hl, hx, hq => by
    rw [List.map_cons, compT, w_bnd]
    refine wp_nox ((hx x (List.mem_cons_self ..)).mono (fun _ ρ1 h1 => ?_) fun _ _ h => h)
    rw [w_bnd]
    refine wp_nox (h1.mono (fun b ρ1 h1 => ?_) fun _ _ h => h)
    obtain ⟨rfl, h1⟩ := h1
    rw [w_if]
    have hr : ∀ y ∈ xs, _ := fun y hy => hx y (List.mem_cons_of_mem _ hy)
    rw [List.length_cons] at hl
    cases hp : p x with
    | true =>
      rw [if_tt]
      rw [hp, if_tt] at h1
      rw [w_bnd]
      refine wp_nox (h1.mono (fun z ρ1 h1 => ?_) fun _ _ h => h)
      cases z with
      | al j => exact h1.elim
      | v t =>
        cases t with
        | sh d =>
          obtain ⟨rfl, h2⟩ := h1
          have hlt : ltOk acc.length = true := by unfold ltOk; rw [decide_eq_true_iff]; omega
          show Wp (itm (.v (.sh (v x))) _) ρ1 QL E
          unfold itm
          dsimp only
          rw [if_pos hlt]
          show Wp (compT g c m vs (xs.map h) (acc ++ [v x])) (wipeE ρ1 vs) QL E
          rw [h2]
          refine wp_comp h p v (acc := acc ++ [v x]) (by rw [List.length_append, List.length_singleton]; omega) hr ?_
          rw [List.filter_cons_of_pos hp, List.map_cons] at hq
          simpa using hq
        | _ => exact h1.elim
    | false =>
      rw [if_ff]
      rw [hp, if_ff] at h1
      show Wp (compT g c m vs (xs.map h) acc) (wipeE ρ1 vs) QL E
      rw [h1]
      refine wp_comp h p v (acc := acc) (by omega) hr ?_
      rw [List.filter_cons_of_neg (by simp [hp])] at hq
      exact hq
theorem wp_all {γ : Type} {vs : List Nat} {g : DG} (h v : γ → D) {xs : List γ} (hl : xs.length ≤ 16777216)
    (hx : ∀ x ∈ xs, Wp (g (.v (.sh (h x)))) ρ (fun _ ρ1 => Wp m ρ1 (fun z ρ1 => ItK z fun d => d = v x ∧ wipeE ρ1 vs = ρ) NoE) NoE) (hq : QL (xs.map v) ρ) : Wp (compT g cYes m vs (xs.map h) []) ρ QL E := by
  have e : sizeLine = 16777216 := by decide
  refine wp_comp h (fun _ => true) v (by simpa [e] using hl) (fun x hm => (hx x hm).mono (fun _ ρ1 h1 => ?_) fun _ _ h => h) ?_
  · show Wp (ret true) ρ1 _ _
    exact ⟨rfl, by rw [if_tt]; exact h1⟩
  · rw [List.filter_eq_self.mpr fun _ _ => rfl]
    exact hq
theorem w_yes : Wp cYes ρ QB E = QB true ρ := rfl
end
end V

set_option Elab.async false
set_option linter.all false
set_option maxRecDepth 100000
/-! V21: the calculus: calls, methods, objects, operators. -/
namespace V
open PySem L2
section
variable {ρ : Env} {QE : Z → Env → Prop} {QB : Bool → Env → Prop} {QO : O → Env → Prop} {QA : List Z → Env → Prop} {QU : Unit → Env → Prop} {QL : List D → Env → Prop} {E : Str → Env → Prop} {i j : Nat} {d e : D} {m ma mb mc mo me mx mi : DE} {mas : P (List Z)} {a b : DS} {c : P Bool} {x y z : Z} {zs : List Z} {t : T} {ms : List Bool} {F : PF} {fin : List T} {Cn fl : Str} {KT : T → Prop} {KD : D → Prop} {l : List D}
/-! what a def comes to -/
def FrK (r : FR) (Q : T → List T → Prop) (E : Str → List T → Prop) : Prop := match r with
  | .stk => False
  | .ok t fin => Q t fin
  | .ex n fin => E n fin
theorem FrK_congr {r r' : FR} {Q : T → List T → Prop} {E : Str → List T → Prop} (h : r = r') : FrK r Q E = FrK r' Q E := by rw [h]
theorem fr_ok {Q : T → List T → Prop} {E : Str → List T → Prop} : FrK (.ok t fin) Q E = Q t fin := rfl
theorem fr_ex {n : Str} {Q : T → List T → Prop} {E : Str → List T → Prop} : FrK (.ex n fin) Q E = E n fin := rfl
def NoF : Str → List T → Prop := fun _ _ => False
theorem FrK.eq {r : FR} {t : T} {fin : List T} (h : FrK r (fun u f => u = t ∧ f = fin) NoF) : r = .ok t fin := by
  cases r with
  | stk => exact h.elim
  | ok u f => obtain ⟨rfl, rfl⟩ := h; rfl
  | ex n f => exact h.elim
theorem FrK.ex {r : FR} {n : Str} {fin : List T} (h : FrK r (fun _ _ => False) (fun u f => u = n ∧ f = fin)) : r = .ex n fin := by
  cases r with
  | stk => exact h.elim
  | ok u f => exact h.elim
  | ex n f => obtain ⟨rfl, rfl⟩ := h; rfl
theorem FrK.mono {r : FR} {Q Q' : T → List T → Prop} {E E' : Str → List T → Prop} (h : FrK r Q E) (hq : ∀ t f, Q t f → Q' t f) (he : ∀ n f, E n f → E' n f) : FrK r Q' E' := by
  cases r with
  | stk => exact h
  | ok t f => exact hq t f h
  | ex n f => exact he n f h
def MsK (b : Option Bool) (t : T) (p : T → Prop) : Prop := if b = some true then ShK t fun d => p (.sh d) else p t
theorem ms_t {p : T → Prop} : MsK (some true) t p = ShK t fun d => p (.sh d) := by simp [MsK]
theorem ms_f {p : T → Prop} : MsK (some false) t p = p t := by simp [MsK]
theorem ms_n {p : T → Prop} : MsK none t p = p t := by simp [MsK]
def OutK (ms : List Bool) (o : O) (ρ : Env) (Q : T → List T → Prop) : Prop := match o with
  | .nx => Q (.sh .non) (muts ms ρ)
  | .rt (.v t) => Q t (muts ms ρ)
  | .rt (.al i) => GetK ρ i fun t => MsK ms[i]? t fun t => Q t (muts ms ρ)
  | _ => False
theorem out_nx {Q : T → List T → Prop} : OutK ms .nx ρ Q = Q (.sh .non) (muts ms ρ) := rfl
theorem out_v {Q : T → List T → Prop} : OutK ms (.rt (.v t)) ρ Q = Q t (muts ms ρ) := rfl
theorem out_al {Q : T → List T → Prop} : OutK ms (.rt (.al i)) ρ Q = GetK ρ i fun t => MsK ms[i]? t fun t => Q t (muts ms ρ) := rfl
theorem mu_nil {l : List T} : muts [] l = [] := rfl
theorem mu_t {l : List T} : muts (true :: ms) (t :: l) = t :: muts ms l := rfl
theorem mu_f {l : List T} : muts (false :: ms) (t :: l) = muts ms l := rfl
theorem fr_run {N : Nat} {ts : List T} {Q : T → List T → Prop} {E : Str → List T → Prop} : FrK (runF ms N a ts) Q E = Wp a (startE N ts) (fun o ρ => OutK ms o ρ Q) fun n ρ => E n (muts ms ρ) := by
  simp only [runF, Wp]
  cases a (startE N ts) with
  | stk => rfl
  | ex n ρ => rfl
  | ok o ρ =>
    cases o with
    | nx => rfl
    | bk => rfl
    | ct => rfl
    | rt z =>
      cases z with
      | v t => rfl
      | al i =>
        simp only [outF, OutK, GetK, MsK]
        cases ρ[i]? with
        | none => rfl
        | some t =>
          dsimp only
          split
          · cases t <;> rfl
          · rfl
theorem st_e {N : Nat} {ts : List T} : startE N ts = ts ++ List.replicate (N - ts.length) .no := rfl
/-! calls -/
def LtK (t : T) (K : T → Prop) : Prop := OpK (lendT t) K
theorem lt_sh : LtK (.sh d) KT = KT (.sh d) := rfl
theorem lt_ow : LtK (.ow d) KT = KT (.lo d) := rfl
theorem lt_lo : LtK (.lo d) KT = KT (.lo d) := rfl
theorem lt_ob {fs : List (Str × FT)} : LtK (.ob Cn fs) KT = KT (.lb Cn fs) := rfl
theorem lt_lb {fs : List (Str × FT)} : LtK (.lb Cn fs) KT = KT (.lb Cn fs) := rfl
def OtK (t : T) (K : T → Prop) : Prop := OpK (ownT t) K
theorem ot_ow : OtK (.ow d) KT = KT (.ow d) := rfl
theorem ot_ob {fs : List (Str × FT)} : OtK (.ob Cn fs) KT = KT (.ob Cn fs) := rfl
def LendK (ρ : Env) (ms : List Bool) (zs : List Z) (K : List T → Prop) : Prop := OpK (lends ρ ms zs) K
theorem le_nil {K : List T → Prop} : LendK ρ [] [] K = K [] := rfl
theorem le_f {K : List T → Prop} : LendK ρ (false :: ms) (z :: zs) K = GtK ρ z fun t => LtK t fun t' => LendK ρ ms zs fun ts => K (t' :: ts) := by
  simp only [LendK, lends, lend1, GtK, LtK, Bool.false_eq_true, if_false]
  cases gt ρ z with
  | none => rfl
  | some t =>
    simp only [Option.bind_some, k_some]
    cases lendT t <;> cases lends ρ ms zs <;> rfl
theorem le_t {K : List T → Prop} : LendK ρ (true :: ms) (z :: zs) K = GtK ρ z fun t => OtK t fun t' => LendK ρ ms zs fun ts => K (t' :: ts) := by
  simp only [LendK, lends, lend1, GtK, OtK, if_true]
  cases gt ρ z with
  | none => rfl
  | some t =>
    simp only [Option.bind_some, k_some]
    cases ownT t <;> cases lends ρ ms zs <;> rfl
def alF (m : Bool) (i : Nat) (ms : List Bool) (zs : List Z) : Bool := (ms.zip zs).all fun q => !((m || q.1) && isAl i q.2)
theorem alf_nil {m : Bool} : alF m i [] zs = true := rfl
theorem alf_nil2 {m : Bool} : alF m i ms [] = true := by simp [alF]
theorem alf_v {m m' : Bool} : alF m i (m' :: ms) (.v t :: zs) = alF m i ms zs := by simp [alF, isAl]
theorem alf_ff : alF false i (false :: ms) (z :: zs) = alF false i ms zs := by simp [alF]
theorem alf_al {m m' : Bool} : alF m i (m' :: ms) (.al j :: zs) = (!((m || m') && decide (i = j)) && alF m i ms zs) := by simp [alF, isAl]
theorem oa_nil : okAl [] zs = true := rfl
theorem oa_v {m : Bool} : okAl (m :: ms) (.v t :: zs) = okAl ms zs := by simp [okAl]
theorem oa_al {m : Bool} : okAl (m :: ms) (.al i :: zs) = (alF m i ms zs && okAl ms zs) := rfl
def OkR (ρ : Env) (ms : List Bool) (zs : List Z) (t : T) (fin : List T) : Prop := (noLos t fin || noOwn ρ ms zs) = true
theorem okr_nl (h : noLos t fin = true) : OkR ρ ms zs t fin = True := by simp [OkR, h]
theorem okr_sh : OkR ρ ms zs (.sh d) [] = True := okr_nl rfl
theorem okr_no : OkR ρ ms zs .no [] = True := okr_nl rfl
theorem okr_ow : OkR ρ ms zs (.ow d) [] = True := okr_nl rfl
theorem okr_sh1 : OkR ρ ms zs (.sh d) [.ow e] = True := okr_nl rfl
theorem okr_no1 : OkR ρ ms zs .no [.ow e] = True := okr_nl rfl
theorem okr_ow1 {e' : D} : OkR ρ ms zs (.ow e') [.ow e] = True := okr_nl rfl
theorem okr_sh2 {e' : D} : OkR ρ ms zs (.sh d) [.ow e, .ow e'] = True := okr_nl rfl
def PutK (ms : List Bool) (zs : List Z) (fin : List T) (ρ : Env) (K : Env → Prop) : Prop := K (V.putF ms zs fin ρ)
theorem pu_nil {K : Env → Prop} : PutK [] zs fin ρ K = K ρ := by cases zs <;> cases fin <;> rfl
theorem pu_f {K : Env → Prop} : PutK (false :: ms) (z :: zs) fin ρ K = PutK ms zs fin ρ K := by cases z <;> rfl
theorem pu_al {K : Env → Prop} : PutK (true :: ms) (.al i :: zs) (t :: fin) ρ K = SetK ρ i t fun ρ' => PutK ms zs fin ρ' K := rfl
theorem pu_v {K : Env → Prop} {u : T} : PutK (true :: ms) (.v u :: zs) (t :: fin) ρ K = PutK ms zs fin ρ K := rfl
theorem w_call : Wp (V.call ms F zs) ρ QE E = LendK ρ ms zs fun ts => okAl ms zs = true ∧ FrK (F ts) (fun t fin => OkR ρ ms zs t fin ∧ PutK ms zs fin ρ fun ρ' => QE (.v t) ρ') fun n fin => OkR ρ ms zs .no fin ∧ PutK ms zs fin ρ fun ρ' => E n ρ' := by
  simp only [Wp, V.call, LendK]
  cases lends ρ ms zs with
  | none => rfl
  | some ts =>
    simp only [k_some]
    cases okAl ms zs with
    | false => simp
    | true =>
      simp only [if_true, true_and]
      cases F ts with
      | stk => rfl
      | ok t fin =>
        simp only [FrK, OkR, PutK]
        cases (noLos t fin || noOwn ρ ms zs) <;> simp
      | ex n fin =>
        simp only [FrK, OkR, PutK]
        cases (noLos .no fin || noOwn ρ ms zs) <;> simp
theorem w_dcall : Wp (dCall ms F mas) ρ QE E = Wp mas ρ (fun zs ρ => Wp (V.call ms F zs) ρ QE E) E := by simp only [dCall, w_bnd]
def RecK (Cn fl : Str) (ρ : Env) (z : Z) (p : Prop) : Prop := recvOk Cn fl ((gt ρ z).bind insT) = true ∧ p
theorem rec_k {p : Prop} : RecK Cn fl ρ z p = GtK ρ z fun t => recvOk Cn fl (insT t) = true ∧ p := by
  simp only [RecK, GtK]
  cases gt ρ z with
  | none => simp [recvOk, OpK]
  | some t => rfl
theorem w_dmeth : Wp (dMeth Cn fl ms F mo mas) ρ QE E = Wp mo ρ (fun z ρ => GtK ρ z fun t => recvOk Cn fl (insT t) = true ∧ Wp mas ρ (fun zs ρ => Wp (V.call ms F (z :: zs)) ρ QE E) E) E := by
  simp only [dMeth, w_bnd]
  congr 1
  funext z ρ
  rw [← rec_k, ← w_bnd]
  simp only [Wp, recv, RecK]
  cases recvOk Cn fl ((gt ρ z).bind insT) <;> simp
def MkK (t : T) (fin : List T) (K : T → List T → Prop) : Prop := match t, fin with
  | .sh .non, f :: fin => K f fin
  | _, _ => False
theorem mk_k {K : T → List T → Prop} : MkK (.sh .non) (t :: fin) K = K t fin := rfl
def MkX (fin : List T) (K : List T → Prop) : Prop := match fin with
  | _ :: fin => K fin
  | _ => False
theorem mk_x {K : List T → Prop} : MkX (t :: fin) K = K fin := rfl
theorem w_make : Wp (make Cn ms F zs) ρ QE E = LendK ρ ms zs fun ts => okAl ms zs = true ∧ FrK (F (.ob Cn [] :: ts)) (fun t fin => MkK t fin fun f fin => OkR ρ ms zs f fin ∧ PutK ms zs fin ρ fun ρ' => QE (.v f) ρ') fun n fin => MkX fin fun fin => noLos .no fin = true ∧ PutK ms zs fin ρ fun ρ' => E n ρ' := by
  simp only [Wp, make, LendK]
  cases lends ρ ms zs with
  | none => rfl
  | some ts =>
    simp only [k_some]
    cases okAl ms zs with
    | false => simp
    | true =>
      simp only [if_true, true_and]
      cases F (.ob Cn [] :: ts) with
      | stk => rfl
      | ok t fin =>
        simp only [FrK, MkK, OkR, PutK]
        cases t with
        | sh d =>
          cases d with
          | non =>
            cases fin with
            | nil => rfl
            | cons f fin => dsimp only; cases (noLos f fin || noOwn ρ ms zs) <;> simp
          | _ => rfl
        | _ => rfl
      | ex n fin =>
        simp only [FrK, MkX, PutK]
        cases fin with
        | nil => rfl
        | cons f fin => dsimp only; cases noLos .no fin <;> simp
theorem w_dmake : Wp (dMake Cn ms F mas) ρ QE E = Wp mas ρ (fun zs ρ => Wp (make Cn ms F zs) ρ QE E) E := by simp only [dMake, w_bnd]
/-! methods of lists and dicts -/
theorem w_chk {ok : Option T → Bool} {k : DE} : Wp (chk ok z k) ρ QE E = (ok (gt ρ z) = true ∧ Wp k ρ QE E) := by
  simp only [Wp, chk]
  cases ok (gt ρ z) <;> simp
theorem w_chk_al {ok : Option T → Bool} {k : DE} (h : ok none = false) : Wp (chk ok (.al i) k) ρ QE E = GetK ρ i fun t => ok (some t) = true ∧ Wp k ρ QE E := by
  rw [w_chk]
  simp only [gt, GetK]
  cases ρ[i]? with
  | none => simp [h]
  | some t => rfl
theorem w_chk_v {ok : Option T → Bool} {k : DE} : Wp (chk ok (.v t) k) ρ QE E = (ok (some t) = true ∧ Wp k ρ QE E) := w_chk
theorem w_dBM {ok : Option T → Bool} {g : Z → List Z → DE} : Wp (dBM ok g mo mas) ρ QE E = Wp mo ρ (fun z ρ => Wp (chk ok z (bnd mas fun zs => g z zs)) ρ QE E) E := by simp only [dBM, w_bnd]
theorem w_dBM0 {ok : Option T → Bool} {g : Z → List Z → DE} : Wp (dBM0 ok g mo) ρ QE E = Wp mo ρ (fun z ρ => Wp (chk ok z (g z [])) ρ QE E) E := by simp only [dBM0, w_bnd]
theorem isl_n : isL none = false := rfl
theorem isk_n : isK none = false := rfl
theorem isl_1 : isL (some (.ow (.lst l))) = true := rfl
theorem isl_2 : isL (some (.lo (.lst l))) = true := rfl
theorem isl_3 : isL (some (.sh (.lst l))) = true := rfl
theorem isl_4 : isL (some (.sh (.scr l))) = true := rfl
theorem isk_1 {ks : List Key} : isK (some (.ow (.dk ks l))) = true := rfl
theorem isk_2 {ks : List Key} : isK (some (.lo (.dk ks l))) = true := rfl
theorem isk_3 {ks : List Key} : isK (some (.sh (.dk ks l))) = true := rfl
theorem isk_4 {ks : List (List Key)} : isK (some (.ow (.dt ks l))) = true := rfl
theorem isk_5 {ks : List (List Key)} : isK (some (.lo (.dt ks l))) = true := rfl
theorem isk_6 {ks : List (List Key)} : isK (some (.sh (.dt ks l))) = true := rfl
def OwK (t : T) (KD : D → Prop) : Prop := match t with
  | .ow d => KD d
  | _ => False
theorem ow_k : OwK (.ow d) KD = KD d := rfl
theorem w_mutS {f : D → List D → Option (D × D)} : Wp (mutz shs f (.al i) zs) ρ QE E = GetK ρ i fun t => OwK t fun l => ShsK ρ zs fun ds => OpK (f l ds) fun q => SetK ρ i (.ow q.2) fun ρ' => QE (.v (.sh q.1)) ρ' := by
  simp only [Wp, mutz, GetK, SetK, ShsK]
  cases ρ[i]? with
  | none => rfl
  | some t =>
    cases t with
    | ow l =>
      simp only [ow_k]
      cases shs ρ zs with
      | none => rfl
      | some ds => simp only [k_some]; cases f l ds <;> rfl
    | _ => rfl
theorem w_mutR {f : D → List D → Option (D × D)} : Wp (mutz zds f (.al i) zs) ρ QE E = GetK ρ i fun t => OwK t fun l => RdsK ρ zs fun ds => OpK (f l ds) fun q => SetK ρ i (.ow q.2) fun ρ' => QE (.v (.sh q.1)) ρ' := by
  simp only [Wp, mutz, GetK, SetK, RdsK]
  cases ρ[i]? with
  | none => rfl
  | some t =>
    cases t with
    | ow l =>
      simp only [ow_k]
      cases zds ρ zs with
      | none => rfl
      | some ds => simp only [k_some]; cases f l ds <;> rfl
    | _ => rfl
theorem f_app {K : D × D → Prop} : OpK (fAppend (.lst l) [d]) K = (ltOk l.length = true ∧ K (.non, .lst (l ++ [d]))) := by
  simp only [fAppend]
  cases ltOk l.length <;> simp [OpK]
theorem f_pop {K : D × D → Prop} : OpK (fPop (.lst (l ++ [d])) []) K = K (d, .lst l) := by simp [fPop, OpK]
theorem f_ext {l' : List D} {K : D × D → Prop} : OpK (fExtend (.lst l) [.lst l']) K = (szOk (l.length + l'.length) = true ∧ K (.non, .lst (l ++ l'))) := by
  simp only [fExtend]
  cases szOk (l.length + l'.length) <;> simp [OpK]
theorem f_extT {l' : List D} {K : D × D → Prop} : OpK (fExtendT (.lst l) [.tup l']) K = (szOk (l.length + l'.length) = true ∧ K (.non, .lst (l ++ l'))) := by
  simp only [fExtendT]
  cases szOk (l.length + l'.length) <;> simp [OpK]
theorem w_rdm {f : D → List D → Option T} : Wp (rdm f z zs) ρ QE E = RdK ρ z fun d => RdsK ρ zs fun ds => AnK (f d ds) fun t => QE (.v t) ρ := by simp only [rdm, w_rd, w_rds, w_ans]
def StrK (d : D) (p : Prop) : Prop := match d with
  | .str _ => p
  | _ => False
theorem str_k {s : Str} {p : Prop} : StrK (.str s) p = p := rfl
theorem w_isStr {k : DE} : Wp (isStr z k) ρ QE E = RdK ρ z fun d => StrK d (Wp k ρ QE E) := by
  simp only [Wp, isStr, RdK]
  cases zd ρ z with
  | none => rfl
  | some d => cases d <;> rfl
theorem w_strM {g : D → D → Option T} : Wp (dStrM g mo me) ρ QE E = Wp mo ρ (fun x ρ => RdK ρ x fun d => StrK d (Wp me ρ (fun y ρ => RdK ρ x fun d => RdK ρ y fun e => AnK (g d e) fun t => QE (.v t) ρ) E)) E := by
  simp only [dStrM, w_bnd, w_isStr, w_rd, w_ans]
/-! fields -/
theorem w_fld : Wp (dFld Cn fl mo) ρ QE E = Wp mo ρ (fun z ρ => GtK ρ z fun t => OpK (fldT Cn fl t) fun t => QE (.v t) ρ) E := by
  simp only [dFld, w_bnd]
  congr 1
  funext z ρ
  simp only [Wp, GtK]
  cases gt ρ z with
  | none => rfl
  | some t => simp only [Option.bind_some, k_some]; cases fldT Cn fl t <;> rfl
def FtK (ρ : Env) (z : Z) (K : FT → Prop) : Prop := OpK (ftOf ρ z) K
theorem ft_sh {K : FT → Prop} : FtK ρ (.v (.sh d)) K = K (.sh d) := rfl
theorem ft_ow {K : FT → Prop} : FtK ρ (.v (.ow d)) K = K (.ow d) := rfl
theorem ft_lo {K : FT → Prop} : FtK ρ (.v (.lo d)) K = K (.lo d) := rfl
def FaK (t : T) (K : FT → Prop) : Prop := match t with
  | .sh d => K (.sh d)
  | .lo d => K (.lo d)
  | _ => False
theorem fa_sh {K : FT → Prop} : FaK (.sh d) K = K (.sh d) := rfl
theorem fa_lo {K : FT → Prop} : FaK (.lo d) K = K (.lo d) := rfl
theorem ft_al {K : FT → Prop} : FtK ρ (.al i) K = GetK ρ i fun t => FaK t K := by
  simp only [FtK, ftOf, GetK]
  cases ρ[i]? with
  | none => rfl
  | some t => cases t <;> rfl
def ObK (t : T) (K : Str → List (Str × FT) → Prop) : Prop := match t with
  | .ob C fs => K C fs
  | _ => False
theorem ob_k {C : Str} {fs : List (Str × FT)} {K : Str → List (Str × FT) → Prop} : ObK (.ob C fs) K = K C fs := rfl
theorem w_setFld : Wp (setFld Cn fl z (.al i)) ρ QO E = GetK ρ i fun t => ObK t fun C fs => FtK ρ z fun ft => (decide (C = Cn) && fsOk fs.length) = true ∧ SetK ρ i (.ob C (putFT fs fl ft)) fun ρ' => QO .nx ρ' := by
  simp only [Wp, setFld, GetK, FtK, SetK]
  cases ρ[i]? with
  | none => cases ftOf ρ z <;> rfl
  | some t =>
    cases t with
    | ob C fs =>
      simp only [ob_k]
      cases ftOf ρ z with
      | none => rfl
      | some ft =>
        simp only [k_some]
        cases (decide (C = Cn) && fsOk fs.length) <;> simp
    | _ => cases ftOf ρ z <;> rfl
theorem w_fldSet : Wp (dFldSet Cn fl ma mo) ρ QO E = Wp ma ρ (fun z ρ => Wp mo ρ (fun o ρ => Wp (setFld Cn fl z o) ρ QO E) E) E := by simp only [dFldSet, w_bnd]
theorem w_setZ : Wp (setZ (.al j) x z) ρ QU E = GetK ρ j fun t => OwK t fun l => RdK ρ x fun k => GtK ρ z fun t => ShK t fun d => OpK (fSet l k d) fun l' => SetK ρ j (.ow l') fun ρ' => QU () ρ' := by
  simp only [Wp, setZ, GetK, RdK, GtK, SetK]
  cases ρ[j]? with
  | none => rfl
  | some t =>
    cases t with
    | ow l =>
      simp only [ow_k]
      cases zd ρ x with
      | none => rfl
      | some k =>
        cases gt ρ z with
        | none => rfl
        | some t =>
          cases t with
          | sh d => simp only [k_some, shk]; cases fSet l k d <;> rfl
          | _ => rfl
    | _ => rfl
theorem w_gSub : Wp (V.gSub mo mi z) ρ QU E = Wp mo ρ (fun o ρ => Wp mi ρ (fun i ρ => Wp (setZ o i z) ρ QU E) E) E := by simp only [V.gSub, w_bnd]
def FowK (o : Option FT) (KD : D → Prop) : Prop := match o with
  | some (.ow d) => KD d
  | _ => False
theorem fow_k : FowK (some (.ow d)) KD = KD d := rfl
theorem w_gFSub : Wp (gFSub i Cn fl j z) ρ QU E = GetK ρ i fun t => ObK t fun C fs => FowK (getFT fs fl) fun l => GetK ρ j fun u => TdK u fun k => GtK ρ z fun t => ShK t fun d => C = Cn ∧ OpK (fSet l k d) fun l' => SetK ρ i (.ob C (putFT fs fl (.ow l'))) fun ρ' => QU () ρ' := by
  simp only [Wp, gFSub, GetK, GtK, SetK]
  cases ρ[i]? with
  | none => rfl
  | some t =>
    cases t with
    | ob C fs =>
      simp only [ob_k]
      cases getFT fs fl with
      | none => rfl
      | some ft =>
        cases ft with
        | ow l =>
          simp only [fow_k]
          cases ρ[j]? with
          | none => rfl
          | some u =>
            simp only [Option.bind_some, TdK]
            cases td u with
            | none => rfl
            | some k =>
              simp only [k_some]
              cases gt ρ z with
              | none => rfl
              | some t =>
                cases t with
                | sh d =>
                  simp only [k_some, shk]
                  by_cases h : C = Cn
                  · simp only [h, if_true, true_and]
                    cases fSet l k d <;> rfl
                  · simp only [h, if_false, false_and]
                | _ => rfl
        | _ => rfl
    | _ => rfl
def IntK (t : T) (K : Int → Prop) : Prop := match t with
  | .sh (.int i) => K i
  | _ => False
theorem int_k {n : Int} {K : Int → Prop} : IntK (.sh (.int n)) K = K n := rfl
theorem w_aug {g : Int → Int → Int} : Wp (dAug i g m) ρ QO E = GetK ρ i fun t => IntK t fun x => Wp m ρ (fun z ρ => RdK ρ z fun d => OpK (oInt d) fun y => SetK ρ i (.sh (.int (g x y))) fun ρ' => QO .nx ρ') E := by
  unfold dAug GetK
  simp only [Wp]
  cases ρ[i]? with
  | none => rfl
  | some t =>
    cases t with
    | sh d =>
      cases d with
      | int x =>
        simp only [int_k]
        show Wp (bnd m _) ρ QO E = Wp m ρ _ E
        rw [w_bnd]
        congr 1
        funext z ρ
        simp only [Wp, RdK, SetK]
        cases zd ρ z with
        | none => rfl
        | some d => cases d <;> rfl
      | _ => rfl
    | _ => rfl
def ChK (o : Option Bool) (p q : Prop) : Prop := match o with
  | some true => p
  | some false => q
  | none => False
theorem ch_t {p q : Prop} : ChK (some true) p q = p := rfl
theorem ch_f {p q : Prop} : ChK (some false) p q = q := rfl
theorem w_catch {ls : List (Str × Bool)} {h : Str → DS} : Wp (catch_ ls h a) ρ QO E = Wp a ρ QO fun n ρ' => ChK (ls.lookup n) (Wp (h n) ρ' QO E) (E n ρ') := by
  simp only [Wp, catch_]
  cases a ρ with
  | stk => rfl
  | ok o ρ' => rfl
  | ex n ρ' =>
    dsimp only
    cases List.lookup n ls with
    | none => rfl
    | some b => cases b <;> rfl
theorem w_try {ls : List (Str × Bool)} : Wp (dTry ls a b) ρ QO E = Wp a ρ QO fun n ρ' => ChK (ls.lookup n) (Wp b ρ' QO E) (E n ρ') := w_catch
theorem w_tryKeep {ls : List (Str × Bool)} : Wp (dTryKeep i j ls a) ρ QO E = Wp a ρ QO fun n ρ' => ChK (ls.lookup n) (SetK ρ' j (.sh (.exc n)) fun ρ' => SetK ρ' i .no fun ρ' => QO .nx ρ') (E n ρ') := w_catch
theorem w_give : Wp (dGive i) ρ QO E = GetK ρ i fun t => GvK t fun d => SetK ρ i (.sh d) fun ρ' => QO .nx ρ' := by
  simp only [Wp, dGive, GetK, GvK, SetK]
  cases ρ[i]? with
  | none => rfl
  | some t => dsimp only; cases gv t <;> rfl
theorem w_no : Wp (dNo i) ρ QO E = SetK ρ i .no fun ρ' => QO .nx ρ' := rfl
theorem w_dict : Wp dDict ρ QE E = QE (.v (.ow (.dk [] []))) ρ := rfl
theorem w_dictT : Wp dDictT ρ QE E = QE (.v (.ow (.dt [] []))) ρ := rfl
theorem w_chain {f g : D → D → Option T} : Wp (dChain f g ma mb mc) ρ QE E = Wp ma ρ (fun x ρ => Wp mb ρ (fun y ρ => RdK ρ x fun d => RdK ρ y fun e => OpK (isB (f d e)) fun b => IfK b (Wp mc ρ (fun z ρ => RdK ρ y fun e => RdK ρ z fun u => AnK (g e u) fun t => QE (.v t) ρ) E) (QE (.v (.sh (.bl false))) ρ)) E) E := by
  simp only [dChain, w_bnd, w_rd]
  congr 1
  funext x ρ
  congr 1
  funext y ρ
  congr 1
  funext d
  congr 1
  funext e
  cases isB (f d e) with
  | none => rfl
  | some b => cases b <;> simp only [k_some, if_tt, if_ff, w_ret, w_bnd, w_rd, w_ans]
theorem is_b {b : Bool} : isB (some (.sh (.bl b))) = some b := rfl
theorem w_get2 : Wp (dGet2 mo me mx) ρ QE E = Wp mo ρ (fun x ρ => Wp (chk isK x (bnd me fun y => bnd mx fun z => dGetZ x y z)) ρ QE E) E := by simp only [dGet2, w_bnd]
def GzK (o : Option (Option D)) (u : D) (KD : D → Prop) : Prop := match o with
  | some (some w) => KD w
  | some none => KD u
  | none => False
theorem gz_s {u : D} : GzK (some (some d)) u KD = KD d := rfl
theorem gz_n {u : D} : GzK (some none) u KD = KD u := rfl
theorem w_getZ : Wp (dGetZ x y z) ρ QE E = RdK ρ x fun d => RdK ρ y fun k => GtK ρ z fun t => ShK t fun u => GzK (dGet d k) u fun w => QE (.v (.sh w)) ρ := by
  simp only [Wp, dGetZ, RdK, GtK]
  cases zd ρ x with
  | none => rfl
  | some d =>
    cases zd ρ y with
    | none => rfl
    | some k =>
      cases gt ρ z with
      | none => rfl
      | some t =>
        cases t with
        | sh u =>
          simp only [k_some, shk]
          cases dGet d k with
          | none => rfl
          | some o => cases o <;> rfl
        | _ => rfl
end
/-! operators -/
section
variable {K : T → Prop} {i j : Int} {s u : Str} {l l' : List D} {n : Bool}
theorem o_addI : AnK (wAdd (.int i) (.int j)) K = K (.sh (.int (i + j))) := rfl
theorem an_if {b : Bool} {t : T} : AnK (if b = true then some t else none) K = (b = true ∧ K t) := by cases b <;> simp [AnK]
theorem an_ifp {p : Prop} [Decidable p] {t : T} : AnK (if p then some t else none) K = (p ∧ K t) := by by_cases h : p <;> simp [AnK, h]
theorem an_map {α : Type} {o : Option α} {f : α → T} : AnK (o.map f) K = OpK o fun a => K (f a) := by cases o <;> rfl
theorem o_addS : AnK (wAdd (.str s) (.str u)) K = (szOk (s.length + u.length) = true ∧ K (.sh (.str (s ++ u)))) := an_if
theorem o_addT : AnK (wAdd (.tup l) (.tup l')) K = (szOk (l.length + l'.length) = true ∧ K (.sh (.tup (l ++ l')))) := an_if
theorem o_addL : AnK (wAdd (.lst l) (.lst l')) K = (szOk (l.length + l'.length) = true ∧ K (.ow (.lst (l ++ l')))) := an_if
theorem o_sub : AnK (wSub (.int i) (.int j)) K = K (.sh (.int (i - j))) := rfl
theorem o_mulI : AnK (wMul (.int i) (.int j)) K = (mlOk i j = true ∧ K (.sh (.int (i * j)))) := an_if
theorem o_mulS : AnK (wMul (.str s) (.int i)) K = (rpOk s.length i = true ∧ K (.sh (.str (strRep s i.toNat)))) := an_if
theorem o_mulL : AnK (wMul (.lst l) (.int i)) K = (rpOk l.length i = true ∧ K (.ow (.lst (List.replicate i.toNat l).flatten))) := an_if
theorem o_fdv : AnK (wFdv (.int i) (.int j)) K = (dvOk j = true ∧ K (.sh (.int (i / j)))) := by
  simp only [wFdv, wII]
  cases dvOk j <;> simp [AnK]
theorem o_mod : AnK (wMod (.int i) (.int j)) K = (0 < j ∧ K (.sh (.int (i % j)))) := by
  simp only [wMod, wII]
  by_cases h : 0 < j <;> simp [AnK, h]
theorem o_neg : AnK (wNeg (.int i)) K = K (.sh (.int (-i))) := rfl
theorem o_lt : AnK (wLt (.int i) (.int j)) K = K (.sh (.bl (decide (i < j)))) := rfl
theorem o_le : AnK (wLe (.int i) (.int j)) K = K (.sh (.bl (decide (i ≤ j)))) := rfl
theorem o_gt : AnK (wGt (.int i) (.int j)) K = K (.sh (.bl (decide (j < i)))) := rfl
theorem o_ge : AnK (wGe (.int i) (.int j)) K = K (.sh (.bl (decide (j ≤ i)))) := rfl
theorem b_lt : isB (wLt (.int i) (.int j)) = some (decide (i < j)) := rfl
theorem b_le : isB (wLe (.int i) (.int j)) = some (decide (i ≤ j)) := rfl
theorem o_is {d : D} : AnK (wIs n d .non) K = K (.sh (.bl (isN d != n))) := rfl
theorem isn_t : isN .non = true := rfl
theorem isn_1 : isN (.tup l) = false := rfl
theorem isn_2 : isN (.str s) = false := rfl
theorem isn_3 : isN (.int i) = false := rfl
theorem isn_4 : isN (.lst l) = false := rfl
theorem isn_5 {ks : List Key} : isN (.dk ks l) = false := rfl
theorem o_eqI : AnK (wEq n (.int i) (.int j)) K = K (.sh (.bl (decide (i = j) != n))) := by
  have h : eqOk (.int i) (.int j) = true := by simp [eqOk, PyData.canLay0, PyData.depth]
  have g : PyData.eqv (.int i) (.int j) = decide (i = j) := by
    by_cases z : i = j
    · subst z; simp [PyData.eqv]
    · simp [PyData.eqv, z]
  simp only [wEq, py, h, if_true, g, an_some]
theorem o_eqS : AnK (wEq n (.str s) (.str u)) K = (PyData.strOk s = true ∧ PyData.strOk u = true ∧ K (.sh (.bl (decide (s = u) != n)))) := by
  have h : eqOk (.str s) (.str u) = (PyData.strOk s && PyData.strOk u) := by simp [eqOk, PyData.canLay0, PyData.depth]
  have g : PyData.eqv (.str s) (.str u) = decide (s = u) := by
    by_cases z : s = u
    · subst z; simp [PyData.eqv]
    · simp [PyData.eqv, z]
  simp only [wEq, py, h, g]
  cases PyData.strOk s <;> cases PyData.strOk u <;> simp [AnK]
/-- data that the library has -/
theorem o_eqP {x y : D} {a b : PyData} (h1 : py x = some a) (h2 : py y = some b) (h3 : eqOk a b = true) : AnK (wEq n x y) K = K (.sh (.bl (PyData.eqv a b != n))) := by
  simp only [wEq, h1, h2, h3, if_true, an_some]
theorem o_ixT : AnK (wIx (.tup l) (.int i)) K = OpK (atI l i) fun d => K (.sh d) := an_map
theorem o_ixL : AnK (wIx (.lst l) (.int i)) K = OpK (atI l i) fun d => K (.sh d) := an_map
theorem o_ixC : AnK (wIx (.scr l) (.int i)) K = OpK (atI l i) fun d => K (.sh d) := an_map
theorem o_ixS : AnK (wIx (.str s) (.int i)) K = OpK (ixS s i) fun d => K (.sh d) := an_map
theorem o_ixD {ks : List Key} : AnK (wIx (.dk ks l) (.str s)) K = OpK (getK ks l (.inr s)) fun d => K (.sh d) := by
  have e : wIx (.dk ks l) (.str s) = (getK ks l (.inr s)).map .sh := by
    simp only [wIx, seqD, dGet, keyD, Option.map_some]
    cases getK ks l (.inr s) <;> rfl
  rw [e, an_map]
theorem o_slS {lo hi : Option Int} : AnK (wSl lo hi (.str s)) K = (szOk s.length = true ∧ K (.sh (.str (cutS s lo hi)))) := an_if
theorem o_slT {lo hi : Option Int} : AnK (wSl lo hi (.tup l)) K = K (.sh (.tup (cut l lo hi))) := rfl
theorem o_slL {lo hi : Option Int} : AnK (wSl lo hi (.lst l)) K = K (.ow (.lst (cut l lo hi))) := rfl
theorem o_slC {lo hi : Option Int} : AnK (wSl lo hi (.scr l)) K = K (.ow (.lst (cut l lo hi))) := rfl
theorem o_inD {ks : List Key} : AnK (wIn n (.str s) (.dk ks l)) K = K (.sh (.bl ((getK ks l (.inr s)).isSome != n))) := rfl
theorem o_tup : AnK (wTup l) K = (szOk l.length = true ∧ K (.sh (.tup l))) := an_if
theorem o_lst : AnK (wLst l) K = (szOk l.length = true ∧ K (.ow (.lst l))) := an_if
theorem o_lenT : AnK (wLen [.tup l]) K = K (.sh (.int (l.length : Nat))) := rfl
theorem o_lenL : AnK (wLen [.lst l]) K = K (.sh (.int (l.length : Nat))) := rfl
theorem o_lenC : AnK (wLen [.scr l]) K = K (.sh (.int (l.length : Nat))) := rfl
theorem o_lenD {ks : List Key} : AnK (wLen [.dk ks l]) K = K (.sh (.int (l.length : Nat))) := rfl
theorem o_lenS : AnK (wLen [.str s]) K = (szOk s.length = true ∧ K (.sh (.int (s.length : Nat)))) := by
  simp only [wLen, one, lenD]
  cases szOk s.length <;> simp [AnK]
theorem o_min : AnK (wMin [.int i, .int j]) K = K (.sh (.int (if j < i then j else i))) := rfl
theorem o_max : AnK (wMax [.int i, .int j]) K = K (.sh (.int (if j > i then j else i))) := rfl
theorem o_intI : AnK (wInt [.int i]) K = K (.sh (.int i)) := rfl
theorem o_intB {b : Bool} : AnK (wInt [.bl b]) K = K (.sh (.int (if b then 1 else 0))) := rfl
theorem o_listT : AnK (wList [.tup l]) K = K (.ow (.lst l)) := rfl
theorem o_listL : AnK (wList [.lst l]) K = K (.ow (.lst l)) := rfl
theorem o_listC : AnK (wList [.scr l]) K = K (.ow (.lst l)) := rfl
theorem o_tupleT : AnK (wTuple [.tup l]) K = K (.sh (.tup l)) := rfl
theorem o_tupleL : AnK (wTuple [.lst l]) K = K (.sh (.tup l)) := rfl
theorem o_dict {ks : List Key} : AnK (wDict [.dk ks l]) K = K (.ow (.dk ks l)) := rfl
theorem o_rev : AnK (wRev (.lst l)) K = K (.ow (.lst l.reverse)) := rfl
theorem o_revT : AnK (wRevT (.tup l)) K = K (.sh (.tup l.reverse)) := rfl
theorem o_join {zs : List Str} (h : strsD l = some zs) : AnK (wJoin (.str s) (.lst l)) K = (jnOk zs s = true ∧ K (.sh (.str (Str.join s zs)))) := by
  simp only [wJoin, seqD, Option.bind_some, h]
  cases jnOk zs s <;> simp [AnK]
theorem o_isi {d : D} {c : Ty} : AnK (wIsi c d) K = OpK (tyD d) fun t => K (.sh (.bl (t.sub c))) := an_map
theorem ty_1 {K : Ty → Prop} : OpK (tyD (.tup l)) K = K .tup := rfl
theorem ty_2 {K : Ty → Prop} : OpK (tyD (.str s)) K = K .str := rfl
theorem ty_3 {K : Ty → Prop} : OpK (tyD (.int i)) K = K .int := rfl
theorem ty_4 {K : Ty → Prop} : OpK (tyD (.lst l)) K = K .lst := rfl
theorem ty_5 {K : Ty → Prop} {ks : List Key} : OpK (tyD (.dk ks l)) K = K .dk := rfl
theorem ty_6 {K : Ty → Prop} : OpK (tyD .non) K = K .non := rfl
theorem ty_7 {K : Ty → Prop} {b : Bool} : OpK (tyD (.bl b)) K = K .bl := rfl
theorem tr_b {b : Bool} {K : Bool → Prop} : OpK (tru (.bl b)) K = K b := rfl
theorem tr_n {K : Bool → Prop} : OpK (tru .non) K = K false := rfl
theorem tr_i {K : Bool → Prop} : OpK (tru (.int i)) K = K (i != 0) := rfl
theorem tr_t {K : Bool → Prop} : OpK (tru (.tup l)) K = K (!l.isEmpty) := rfl
theorem tr_l {K : Bool → Prop} : OpK (tru (.lst l)) K = K (!l.isEmpty) := rfl
end
end V

set_option Elab.async false
set_option linter.all false
set_option maxRecDepth 100000
/-! V22: plain facts: sizes, places, texts, data that may be compared. -/
namespace V
open PySem L2
/-! sizes of numbers -/
def Bd (b : Nat) (i : Int) : Prop := i.natAbs < 2 ^ b
theorem bits_le {b : Nat} {i : Int} (h : Bd b i) : Builtin.Int.intBits i ≤ b := by
  unfold Builtin.Int.intBits
  split
  · exact Nat.zero_le _
  · rename_i hi
    have h0 : i.natAbs ≠ 0 := fun z => hi (by rw [Int.natAbs_eq_zero.mp z]; rfl)
    exact (Nat.log2_lt h0).mpr h
theorem bd_of {b : Nat} {i : Int} (h : Builtin.Int.intBits i ≤ b) : Bd b i := by
  unfold Builtin.Int.intBits at h
  split at h
  · rename_i hi
    rw [eq_of_beq hi]
    exact Nat.two_pow_pos b
  · rename_i hi
    have h0 : i.natAbs ≠ 0 := fun z => hi (by rw [Int.natAbs_eq_zero.mp z]; rfl)
    exact (Nat.log2_lt h0).mp h
theorem Bd.mono {a b : Nat} {i : Int} (h : Bd a i) (l : a ≤ b) : Bd b i := Nat.lt_of_lt_of_le h (Nat.pow_le_pow_right (by decide) l)
theorem Bd.mul {a b : Nat} {i j : Int} (h : Bd a i) (g : Bd b j) : Bd (a + b) (i * j) := by
  unfold Bd at *
  rw [Int.natAbs_mul, Nat.pow_add]
  exact Nat.mul_lt_mul'' h g
theorem Bd.add {b : Nat} {i j : Int} (h : Bd b i) (g : Bd b j) : Bd (b + 1) (i + j) := by
  unfold Bd at *
  rw [Nat.pow_succ]
  omega
theorem Bd.sub {b : Nat} {i j : Int} (h : Bd b i) (g : Bd b j) : Bd (b + 1) (i - j) := by
  unfold Bd at *
  rw [Nat.pow_succ]
  omega
theorem bd_lit {b : Nat} {n : Nat} (h : n < 2 ^ b) : Bd b (n : Int) := by
  unfold Bd
  rw [Int.natAbs_natCast]
  exact h
theorem Bd.div {b : Nat} {i : Int} {j : Int} (h : Bd b i) : Bd b (i / j) := Nat.lt_of_le_of_lt (Int.natAbs_ediv_le_natAbs i j) h
theorem bd_range {b : Nat} {i n : Int} (h0 : 0 ≤ i) (h1 : i < n) (hn : n ≤ 2 ^ b) : Bd b i := by
  unfold Bd
  have : ((i.natAbs : Nat) : Int) < ((2 ^ b : Nat) : Int) := by
    rw [Int.natAbs_of_nonneg h0]
    have e : ((2 ^ b : Nat) : Int) = (2 : Int) ^ b := by simp
    omega
  exact Int.ofNat_lt.mp this
theorem cmul {a b : Nat} {i j : Int} (h : Bd a i) (g : Bd b j) (l : a + b ≤ 134217728) : CMulX i j := by
  have h1 := bits_le h
  have h2 := bits_le g
  unfold CMulX
  omega
theorem Bd.sum {b : Nat} : ∀ {l : List Int}, (∀ x ∈ l, Bd b x) → Bd (b + l.length) l.sum
  | [], _ => Nat.two_pow_pos _
  | x :: l, h => by
    have h1 := Bd.mono (h x (List.mem_cons_self ..)) (show b ≤ b + l.length by omega)
    have h2 := Bd.sum (l := l) fun y hy => h y (List.mem_cons_of_mem _ hy)
    rw [List.sum_cons, List.length_cons]
    exact h1.add h2
theorem atI_nat {α : Type} (l : List α) (k : Nat) (h : k < l.length) : atI l (k : Int) = some l[k] := by
  unfold atI ixN
  rw [if_pos (by omega), if_pos (by omega)]
  simp [h]
theorem atI_int {α : Type} (l : List α) (k : Int) (h0 : 0 ≤ k) (h : k < l.length) : ∃ a, atI l k = some a ∧ a ∈ l := by
  obtain ⟨n, rfl⟩ := Int.eq_ofNat_of_zero_le h0
  exact ⟨_, atI_nat l n (by omega), List.getElem_mem _⟩
theorem rngN_mem {i j c : Int} (hc : 0 < c) {d : D} (h : d ∈ upto i c (rngN i j c)) : ∃ k : Int, d = .int k ∧ i ≤ k ∧ k < j := by
  unfold upto at h
  obtain ⟨t, ht, rfl⟩ := List.mem_map.mp h
  rw [List.mem_range] at ht
  refine ⟨_, rfl, ?_, ?_⟩
  · have := Int.mul_nonneg (Int.natCast_nonneg t) (Int.le_of_lt hc)
    omega
  · unfold rngN at ht
    split at ht
    · have h1 : (t : Int) ≤ (j - i - 1) / c := by omega
      have h2 := (Int.le_ediv_iff_mul_le hc).mp h1
      omega
    · omega
theorem intsD_map (l : List Int) : intsD (l.map .int) = some l := by
  induction l with
  | nil => rfl
  | cons x l ih => simp [intsD, ih]
/-! plain data -/
def Pd (n : Nat) (d : D) : Prop := ∃ p, py d = some p ∧ p.canLay0 = true ∧ p.depth ≤ n
def Pds (n : Nat) (ds : List D) : Prop := ∃ ps, pys ds = some ps ∧ PyData.canLayAll0 ps = true ∧ PyData.depthAll ps ≤ n
theorem pd_int (i : Int) : Pd 0 (.int i) := ⟨.int i, rfl, rfl, Nat.le_refl _⟩
theorem pd_bl (i : Bool) : Pd 0 (.bl i) := ⟨.bool i, rfl, rfl, Nat.le_refl _⟩
theorem pd_str {s : Str} (h : PyData.strOk s = true) : Pd 0 (.str s) := ⟨.str s, rfl, h, Nat.le_refl _⟩
theorem pds_of {n : Nat} : ∀ {ds : List D}, (∀ d ∈ ds, Pd n d) → Pds n ds
  | [], _ => ⟨[], rfl, rfl, Nat.zero_le _⟩
  | d :: ds, h => by
    obtain ⟨p, e, c, l⟩ := h d (List.mem_cons_self ..)
    obtain ⟨ps, e2, c2, l2⟩ := pds_of (ds := ds) fun x hx => h x (List.mem_cons_of_mem _ hx)
    refine ⟨p :: ps, ?_, ?_, ?_⟩
    · simp only [pys, e, e2]
    · simp only [PyData.canLayAll0, c, c2, Bool.and_self]
    · simp only [PyData.depthAll]
      omega
theorem pd_tup {n : Nat} {ds : List D} (h : ∀ d ∈ ds, Pd n d) : Pd (n + 1) (.tup ds) := by
  obtain ⟨ps, e, c, l⟩ := pds_of h
  refine ⟨.tuple ps, ?_, ?_, ?_⟩
  · simp only [py, e, Option.map_some]
  · simp only [PyData.canLay0, c]
  · simp only [PyData.depth]
    omega
theorem pd_lst {n : Nat} {ds : List D} (h : ∀ d ∈ ds, Pd n d) : Pd (n + 1) (.lst ds) := by
  obtain ⟨ps, e, c, l⟩ := pds_of h
  refine ⟨.list ps, ?_, ?_, ?_⟩
  · simp only [py, e, Option.map_some]
  · simp only [PyData.canLay0, c]
  · simp only [PyData.depth]
    omega
theorem Pd.mono {m n : Nat} {d : D} (h : Pd m d) (l : m ≤ n) : Pd n d := by
  obtain ⟨p, e, c, g⟩ := h
  exact ⟨p, e, c, Nat.le_trans g l⟩
mutual
theorem eqv_refl : ∀ p : PyData, p.canLay0 = true → PyData.eqv p p = true
  | .none, _ => by simp [PyData.eqv]
  | .bool b, _ => by simp [PyData.eqv]
  | .int i, _ => by simp [PyData.eqv]
  | .str s, _ => by simp [PyData.eqv]
  | .list l, h => by
    simp only [PyData.eqv]
    exact eqvAll_refl l (by simpa [PyData.canLay0] using h)
  | .tuple l, h => by
    simp only [PyData.eqv]
    exact eqvAll_refl l (by simpa [PyData.canLay0] using h)
  | .dict _, h => by simp [PyData.canLay0] at h
theorem eqvAll_refl : ∀ l : List PyData, PyData.canLayAll0 l = true → PyData.eqvAll l l = true
  | [], _ => by simp [PyData.eqvAll]
  | p :: l, h => by
    have h' : p.canLay0 = true ∧ PyData.canLayAll0 l = true := by simpa [PyData.canLayAll0] using h
    simp only [PyData.eqvAll, eqv_refl p h'.1, eqvAll_refl l h'.2, Bool.and_self]
end
/-- the same compared -/
theorem p_eq_same {n : Nat} {d : D} {neg : Bool} {K : T → Prop} (h : Pd n d) (hn : n ≤ 200) : AnK (wEq neg d d) K = K (.sh (.bl (true != neg))) := by
  obtain ⟨p, e, c, l⟩ := h
  have ok : eqOk p p = true := by
    unfold eqOk
    simp only [c, Bool.true_and, decide_eq_true_eq, Nat.min_self]
    omega
  rw [o_eqP e e ok, eqv_refl p c]
/-! side conditions -/
theorem ml {a b : Nat} {i j : Int} (h : Bd a i) (g : Bd b j) (l : a + b ≤ 134217728) : mlOk i j = true := decide_eq_true (cmul h g l)
theorem dv {j : Int} (h0 : 0 < j) (h : j < 2 ^ 64) : dvOk j = true := by
  unfold dvOk
  rw [Bool.and_eq_true, decide_eq_true_eq, decide_eq_true_eq]
  refine ⟨h0, ?_⟩
  have : j.natAbs < 2 ^ 64 := by omega
  exact Nat.lt_of_lt_of_le this (Nat.pow_le_pow_right (n := 2) (by decide) (by decide))
theorem szl : sizeLine = 16777216 := by decide
theorem sz {n : Nat} (h : n ≤ 16777216) : szOk n = true := by rw [szOk_iff, szl]; exact h
theorem lt_ok {n : Nat} (h : n < 16777216) : ltOk n = true := by unfold ltOk; rw [decide_eq_true_eq, szl]; exact h
theorem rp {n : Nat} {k : Int} (h0 : 0 ≤ k) (h1 : k ≤ 1000) (h2 : n ≤ 1000) : rpOk n k = true := by
  unfold rpOk
  rw [Bool.and_eq_true, Bool.and_eq_true, decide_eq_true_eq, decide_eq_true_eq, decide_eq_true_eq]
  refine ⟨⟨h0, by omega⟩, ?_⟩
  calc n * k.toNat ≤ 1000 * 1000 := Nat.mul_le_mul h2 (by omega)
    _ ≤ 1000000 := by omega
theorem rng1_ok {n : Nat} (h : n < 1000000) : rng1 [.int (n : Int)] = some (upto 0 1 n) := by
  unfold rng1
  have : sm (n : Int) = true := by
    unfold sm
    rw [Bool.and_eq_true, decide_eq_true_eq, decide_eq_true_eq]
    omega
  simp only [this, if_true, Int.toNat_natCast]
/-- a range as its numbers -/
theorem upto_eq (n : Nat) : upto 0 1 n = (List.range n).map fun i : Nat => D.int (i : Int) := by
  unfold upto
  refine List.map_congr_left fun i _ => ?_
  simp
/-! loops -/
section
variable {ρ : Env} {QO : O → Env → Prop} {QL : List D → Env → Prop} {E : Str → Env → Prop} {m : DE} {c : P Bool}
/-- by what is done -/
theorem wp_loopA {γ : Type} {g : DG} {body : DS} (h : γ → D) (I : List γ → Env → Prop) {xs : List γ} (h0 : I [] ρ)
    (hs : ∀ pre x post ρ, xs = pre ++ x :: post → I pre ρ → Wp (g (.v (.sh (h x)))) ρ (fun _ ρ => Wp body ρ (fun o ρ => TnK o (I (pre ++ [x]) ρ) (QO .nx ρ) fun z => QO (.rt z) ρ) E) E) (he : ∀ ρ, I xs ρ → QO .nx ρ) : Wp (loopD g body (xs.map h)) ρ QO E := by
  refine wp_loop h (fun rest ρ => ∃ pre, xs = pre ++ rest ∧ I pre ρ) ⟨[], rfl, h0⟩ (fun x rest ρ ⟨pre, e, hi⟩ => ?_) fun ρ ⟨pre, e, hi⟩ => ?_
  · refine (hs pre x rest ρ e hi).mono (fun _ ρ h1 => h1.mono (fun o ρ h2 => ?_) fun _ _ h => h) fun _ _ h => h
    have key : I (pre ++ [x]) ρ → ∃ pre, xs = pre ++ rest ∧ I pre ρ := fun h => ⟨pre ++ [x], by rw [e, List.append_assoc]; rfl, h⟩
    cases o with
    | nx => exact key h2
    | ct => exact key h2
    | bk => exact h2
    | rt z => exact h2
  · rw [List.append_nil] at e
    exact he ρ (by rw [e]; exact hi)
theorem wp_range {n : Nat} {g : DG} {body : DS} (I : Nat → Env → Prop) (h0 : I 0 ρ)
    (hs : ∀ (k : Nat) (ρ : Env), k < n → I k ρ → Wp (g (.v (.sh (.int (k : Int))))) ρ (fun _ ρ => Wp body ρ (fun o ρ => TnK o (I (k + 1) ρ) (QO .nx ρ) fun z => QO (.rt z) ρ) E) E) (he : ∀ ρ, I n ρ → QO .nx ρ) : Wp (loopD g body (upto 0 1 n)) ρ QO E := by
  rw [upto_eq]
  refine wp_loopA (fun i : Nat => D.int (i : Int)) (fun pre ρ => I pre.length ρ) h0 (fun pre x post ρ e hi => ?_) fun ρ hi => ?_
  · have hl := congrArg List.length e
    rw [List.length_range, List.length_append, List.length_cons] at hl
    have hx : x = pre.length := by
      have h1 : (List.range n)[pre.length]? = some x := by rw [e, List.getElem?_append_right (Nat.le_refl _), Nat.sub_self]; rfl
      rw [List.getElem?_range (by omega)] at h1
      exact (Option.some.inj h1).symm
    subst hx
    have := hs pre.length ρ (by omega) hi
    rw [List.length_append]
    exact this
  · rw [List.length_range] at hi
    exact he ρ hi
theorem wp_allR {n : Nat} {vs : List Nat} {g : DG} (v : Nat → D) (hl : n ≤ 16777216)
    (hx : ∀ k : Nat, k < n → Wp (g (.v (.sh (.int (k : Int))))) ρ (fun _ ρ1 => Wp m ρ1 (fun z ρ1 => ItK z fun d => d = v k ∧ wipeE ρ1 vs = ρ) NoE) NoE) (hq : QL ((List.range n).map v) ρ) : Wp (compT g cYes m vs (upto 0 1 n) []) ρ QL E := by
  rw [upto_eq]
  exact wp_all (fun i : Nat => D.int (i : Int)) v (by rw [List.length_range]; exact hl) (fun k hk => hx k (List.mem_range.mp hk)) hq
end
/-- a comprehension whose items change what the names hold -/
theorem wp_compS {ρ : Env} {QL : List D → Env → Prop} {E : Str → Env → Prop} {m : DE} {γ : Type} {vs : List Nat} {g : DG} (h : γ → D) (I : List γ → List D → Env → Prop) {xs : List γ} (hl : xs.length ≤ 16777216) (h0 : I [] [] ρ)
    (hx : ∀ pre x post acc ρ, xs = pre ++ x :: post → I pre acc ρ → Wp (g (.v (.sh (h x)))) ρ (fun _ ρ1 => Wp m ρ1 (fun z ρ1 => ItK z fun d => I (pre ++ [x]) (acc ++ [d]) (wipeE ρ1 vs)) NoE) NoE) (hq : ∀ acc ρ, I xs acc ρ → QL acc ρ) : Wp (compT g cYes m vs (xs.map h) []) ρ QL E := by
  have key : ∀ (rest pre : List γ) (acc : List D) (ρ : Env), xs = pre ++ rest → acc.length = pre.length → I pre acc ρ → Wp (compT g cYes m vs (rest.map h) acc) ρ QL E := by
    intro rest
    induction rest with
    | nil =>
      intro pre acc ρ e ha hi
      rw [List.append_nil] at e
      rw [List.map_nil, compT]
      exact hq acc ρ (by rw [e]; exact hi)
    | cons x rest ih =>
      intro pre acc ρ e ha hi
      rw [List.map_cons, compT, w_bnd]
      refine wp_nox ((hx pre x rest acc ρ e hi).mono (fun _ ρ1 h1 => ?_) fun _ _ h => h)
      rw [w_bnd]
      refine wp_nox (show Wp cYes ρ1 _ NoE from ?_)
      show Wp (if true = true then _ else _) ρ1 QL E
      rw [if_pos rfl, w_bnd]
      refine wp_nox (h1.mono (fun z ρ2 h2 => ?_) fun _ _ h => h)
      cases z with
      | al j => exact h2.elim
      | v t =>
        cases t with
        | sh d =>
          have hlt : ltOk acc.length = true := by
            have := congrArg List.length e
            rw [List.length_append, List.length_cons] at this
            exact lt_ok (by omega)
          show Wp (itm (.v (.sh d)) _) ρ2 QL E
          unfold itm
          dsimp only
          rw [if_pos hlt]
          exact ih (pre ++ [x]) (acc ++ [d]) _ (by rw [e, List.append_assoc]; rfl) (by rw [List.length_append, List.length_append, ha]; rfl) h2
        | _ => exact h2.elim
  exact key xs [] [] ρ rfl rfl h0
/-! texts -/
def mkS (l : List Nat) : Str := ⟨l.toArray⟩
theorem mkS_len (l : List Nat) : (mkS l).length = l.length := by simp [mkS, Str.length]
theorem mkS_cps (l : List Nat) : (mkS l).cps.toList = l := by simp [mkS]
theorem mkS_inj {l m : List Nat} (h : mkS l = mkS m) : l = m := by rw [← mkS_cps l, h, mkS_cps]
theorem mkS_of (s : Str) : s = mkS s.cps.toList := by simp [mkS]
theorem mkS_app (l m : List Nat) : mkS l ++ mkS m = mkS (l ++ m) := by
  show Str.mk (l.toArray ++ m.toArray) = _
  simp [mkS]
theorem mkS_nil : mkS [] = ("" : Str) := by decide +kernel
theorem app_cps (s u : Str) : (s ++ u).cps.toList = s.cps.toList ++ u.cps.toList := by
  show (s.cps ++ u.cps).toList = _
  simp
theorem len_cps (s : Str) : s.length = s.cps.toList.length := by simp [Str.length]
theorem join_one (cs : List Nat) : Str.join "" (cs.map fun c => mkS [c]) = mkS cs := by
  induction cs with
  | nil => rfl
  | cons c cs ih =>
    cases cs with
    | nil => rfl
    | cons d cs =>
      have e : Str.join "" ((c :: d :: cs).map fun c => mkS [c]) = mkS [c] ++ "" ++ Str.join "" ((d :: cs).map fun c => mkS [c]) := rfl
      rw [e, ih, ← mkS_nil, mkS_app, mkS_app]
      rfl
theorem strRep_one (c k : Nat) : strRep (mkS [c]) k = mkS (List.replicate k c) := by
  unfold strRep
  rw [mkS_cps]
  unfold mkS
  congr 1
  induction k with
  | zero => rfl
  | succ k ih => simp [List.replicate_succ, ih]
theorem strs_map (l : List Str) : strsD (l.map .str) = some l := by
  induction l with
  | nil => rfl
  | cons x l ih => simp [strsD, ih]
abbrev letters : Str := "abcdefghijklmnopqrstuvwxyz"
theorem letters_eq : letters.cps.toList = (List.range 26).map (· + 97) := by decide +kernel
theorem letters_sz : szOk letters.length = true := by decide +kernel
/-- a small letter -/
def Lt (c : Nat) : Prop := 97 ≤ c ∧ c < 123
theorem lt_mem {c : Nat} : c ∈ letters.cps.toList ↔ Lt c := by
  rw [letters_eq, List.mem_map]
  constructor
  · rintro ⟨a, ha, rfl⟩
    rw [List.mem_range] at ha
    unfold Lt
    omega
  · rintro ⟨h1, h2⟩
    exact ⟨c - 97, by rw [List.mem_range]; omega, by omega⟩
/-- the letter of a number -/
theorem ix_letter {i : Int} (h0 : 0 ≤ i) (h1 : i < 26) : ixS letters i = some (.str (mkS [97 + i.toNat])) := by
  obtain ⟨n, rfl⟩ := Int.eq_ofNat_of_zero_le h0
  unfold ixS
  rw [if_pos letters_sz, atI_nat letters.cps.toList n (by rw [letters_eq, List.length_map, List.length_range]; omega)]
  have : letters.cps.toList[n]'(by rw [letters_eq, List.length_map, List.length_range]; omega) = n + 97 := by
    simp only [letters_eq, List.getElem_map, List.getElem_range]
  rw [this]
  simp only [Option.map_some, Int.toNat_natCast]
  rw [Nat.add_comm]
  rfl
/-- a name: one to twelve small letters -/
structure Nm (s : Str) : Prop where
  pos : 0 < s.length
  len : s.length ≤ 12
  lt : ∀ c ∈ s.cps.toList, Lt c
theorem Nm.ok {s : Str} (h : Nm s) : PyData.strOk s = true := by
  unfold PyData.strOk
  rw [Array.all_eq_true_iff_forall_mem]
  intro c hc
  have := h.lt c (Array.mem_toList_iff.mpr hc)
  unfold Lt at this
  simp only [decide_eq_true_eq]
  omega
theorem cut_take {α : Type} {l : List α} {k : Nat} : cut l none (some (k : Int)) = l.take k := by
  unfold cut
  rw [HT.sIx_none, HT.sIx_nat, List.drop_zero, Nat.sub_zero]
  rcases Nat.le_total k l.length with h | h
  · rw [Nat.min_eq_left h]
  · rw [Nat.min_eq_right h, List.take_of_length_le (Nat.le_refl _), List.take_of_length_le h]
theorem cut_drop {α : Type} {l : List α} {k : Nat} : cut l (some (k : Int)) none = l.drop k := by
  unfold cut
  rw [HT.sIx_none, HT.sIx_nat]
  rcases Nat.le_total k l.length with h | h
  · rw [Nat.min_eq_left h, List.take_of_length_le (by rw [List.length_drop]; omega)]
  · rw [Nat.min_eq_right h, List.drop_eq_nil_of_le (Nat.le_refl _), List.drop_eq_nil_of_le h, List.take_nil]
theorem cut_drop1 {α : Type} {l : List α} {k : Nat} : cut l (some ((k : Int) + 1)) none = l.drop (k + 1) := cut_drop (k := k + 1)
theorem jn_ok {cs : List Nat} (h : cs.length ≤ 1000) : jnOk (cs.map fun c => mkS [c]) "" = true := by
  unfold jnOk
  rw [decide_eq_true_eq, List.map_map, List.length_map]
  have e0 : ("" : Str).length = 0 := by decide +kernel
  have e1 : ∀ l : List Nat, (l.map ((fun s : Str => s.length) ∘ fun c => mkS [c])).sum = l.length := fun l => by
    induction l with
    | nil => rfl
    | cons c l ih =>
      rw [List.map_cons, List.sum_cons, ih, List.length_cons]
      show 1 + l.length = _
      omega
  rw [e1, e0]
  omega
theorem o_join1 {cs : List Nat} {K : T → Prop} (h : cs.length ≤ 1000) : AnK (wJoin (.str "") (.lst ((cs.map fun c => mkS [c]).map .str))) K = K (.sh (.str (mkS cs))) := by
  rw [o_join (strs_map _), jn_ok h, join_one]
  exact propext ⟨fun h => h.2, fun h => ⟨rfl, h⟩⟩
theorem map_take {α β : Type} (f : α → β) (l : List α) (k : Nat) : (l.map f).take k = (l.take k).map f := by rw [List.map_take]
theorem map_drop {α β : Type} (f : α → β) (l : List α) (k : Nat) : (l.map f).drop k = (l.drop k).map f := by rw [List.map_drop]
theorem range_snoc {α : Type} (f : Nat → α) (k : Nat) : (List.range (k + 1)).map f = (List.range k).map f ++ [f k] := by rw [List.range_succ, List.map_append]; rfl
end V

set_option Elab.async false
set_option linter.all false
set_option maxRecDepth 100000
/-! V23: numbered walks, membership, dicts by texts. -/
namespace V
open PySem L2
section
variable {ρ : Env} {QO : O → Env → Prop} {QL : List D → Env → Prop} {E : Str → Env → Prop} {m : DE} {c : P Bool} {KT : T → Prop}
theorem numbered_eq {γ : Type} (f : γ → D) : ∀ (l : List γ) (n : Nat), numbered n (l.map f) = (l.zipIdx n).map fun p => .tup [.int (p.2 : Int), f p.1]
  | [], n => rfl
  | x :: l, n => by
    rw [List.map_cons, numbered, numbered_eq f l (n + 1), List.zipIdx_cons, List.map_cons]
theorem wp_enum {γ : Type} {g : DG} {body : DS} (f : γ → D) (I : List γ → Env → Prop) {xs : List γ} (h0 : I [] ρ)
    (hs : ∀ pre x post ρ, xs = pre ++ x :: post → I pre ρ → Wp (g (.v (.sh (.tup [.int (pre.length : Int), f x])))) ρ (fun _ ρ => Wp body ρ (fun o ρ => TnK o (I (pre ++ [x]) ρ) (QO .nx ρ) fun z => QO (.rt z) ρ) E) E) (he : ∀ ρ, I xs ρ → QO .nx ρ) : Wp (loopD g body (numbered 0 (xs.map f))) ρ QO E := by
  rw [numbered_eq]
  refine wp_loopA (fun p : γ × Nat => D.tup [.int (p.2 : Int), f p.1]) (fun pre ρ => I (pre.map (·.1)) ρ) h0 (fun pre x post ρ e hi => ?_) fun ρ hi => ?_
  · have e1 : xs = pre.map (·.1) ++ x.1 :: post.map (·.1) := by
      have := congrArg (List.map (·.1)) e
      rw [List.map_append, List.map_cons] at this
      rw [← this]
      simp
    have e2 : x.2 = pre.length := by
      have h1 : (xs.zipIdx)[pre.length]? = some x := by rw [e, List.getElem?_append_right (Nat.le_refl _), Nat.sub_self]; rfl
      rw [List.getElem?_zipIdx] at h1
      cases h2 : xs[pre.length]? with
      | none => rw [h2] at h1; cases h1
      | some y => rw [h2] at h1; simp at h1; rw [← h1]
    have := hs (pre.map (·.1)) x.1 (post.map (·.1)) ρ e1 hi
    rw [List.length_map] at this
    rw [e2, List.map_append]
    exact this
  · have : xs.zipIdx.map (·.1) = xs := by simp
    rw [this] at hi
    exact he ρ hi
theorem en_l {l : List D} {K : List D → Prop} : OpK (enumP [.lst l]) K = K (numbered 0 l) := rfl
theorem en_s {l : List D} {K : List D → Prop} : OpK (enumP [.scr l]) K = K (numbered 0 l) := rfl
/-! membership -/
theorem sign_1 (a : Nat) : sign1 (.str (mkS [a])) = some a := rfl
theorem o_inSg {a : Nat} {z : Str} {n : Bool} : AnK (wIn n (.str (mkS [a])) (.str z)) KT = KT (.sh (.bl (decide (a ∈ z.cps.toList) != n))) := rfl
theorem pys_str (l : List Str) : pys (l.map .str) = some (l.map .str) := by
  induction l with
  | nil => rfl
  | cons s l ih => simp only [List.map_cons, pys, py, ih]
theorem can_str {l : List Str} (h : ∀ s ∈ l, PyData.strOk s = true) : PyData.canLayAll0 (l.map .str) = true := by
  induction l with
  | nil => rfl
  | cons s l ih =>
    simp only [List.map_cons, PyData.canLayAll0, PyData.canLay0]
    rw [h s (List.mem_cons_self ..), ih fun x hx => h x (List.mem_cons_of_mem _ hx)]
    rfl
theorem any_str {l : List Str} {s : Str} : ((l.map PyData.str).any fun z => PyData.eqv z (.str s)) = decide (s ∈ l) := by
  induction l with
  | nil => simp
  | cons x l ih =>
    rw [List.map_cons, List.any_cons, ih]
    have : PyData.eqv (.str x) (.str s) = decide (x = s) := by
      by_cases z : x = s
      · subst z; simp [PyData.eqv]
      · simp [PyData.eqv, z]
    rw [this]
    by_cases h : x = s
    · subst h; simp
    · have : ¬ s = x := fun z => h z.symm
      simp [h, this]
theorem in_strs {l : List Str} {s : Str} {n : Bool} {y : D} (hy : y = .lst (l.map .str) ∨ y = .tup (l.map .str) ∨ y = .scr (l.map .str)) (hs : PyData.strOk s = true) (h : ∀ s ∈ l, PyData.strOk s = true) : AnK (wIn n (.str s) y) KT = KT (.sh (.bl (decide (s ∈ l) != n))) := by
  have ok : inOk (.str s) (l.map .str) = true := by
    unfold inOk
    rw [can_str h]
    simp [PyData.canLay0, hs, PyData.depth]
  have e : wIn n (.str s) y = if inOk (.str s) (l.map .str) = true then some (.sh (.bl (((l.map PyData.str).any fun z => PyData.eqv z (.str s)) != n))) else none := by
    rcases hy with rfl | rfl | rfl <;> simp only [wIn, dGet, seqD, Option.bind_some, pys_str, py]
  rw [e, if_pos ok, any_str, an_some]
theorem o_inL {l : List Str} {s : Str} {n : Bool} (hs : PyData.strOk s = true) (h : ∀ s ∈ l, PyData.strOk s = true) : AnK (wIn n (.str s) (.lst (l.map .str))) KT = KT (.sh (.bl (decide (s ∈ l) != n))) := in_strs (.inl rfl) hs h
theorem o_inT {l : List Str} {s : Str} {n : Bool} (hs : PyData.strOk s = true) (h : ∀ s ∈ l, PyData.strOk s = true) : AnK (wIn n (.str s) (.tup (l.map .str))) KT = KT (.sh (.bl (decide (s ∈ l) != n))) := in_strs (.inr (.inl rfl)) hs h
/-! dicts by texts -/
def skey {γ : Type} (f : γ → Str) (x : γ) : Key := .inr (f x)
theorem putKs_new {κ : Type} [DecidableEq κ] {k : κ} {d : D} : ∀ {ks : List κ} {l : List D}, ks.length = l.length → k ∉ ks → putKs ks l k d = (ks ++ [k], l ++ [d])
  | [], [], _, _ => rfl
  | j :: ks, e :: l, hl, hk => by
    rw [putKs, if_neg (fun z => hk (by rw [z]; exact List.mem_cons_self ..)), putKs_new (by simpa using hl) fun z => hk (List.mem_cons_of_mem _ z)]
    rfl
  | [], _ :: _, h, _ => by simp at h
  | _ :: _, [], h, _ => by simp at h
theorem f_setD {ks : List Key} {l : List D} {s : Str} {d : D} {K : D → Prop} (hn : ks.Nodup) (hl : ks.length = l.length) (hz : l.length < 16777216) (hk : (.inr s : Key) ∉ ks) : OpK (fSet (.dk ks l) (.str s) d) K = K (.dk (ks ++ [.inr s]) (l ++ [d])) := by
  have h : ndOk ks l.length = true := by
    unfold ndOk
    rw [Bool.and_eq_true, decide_eq_true_eq, decide_eq_true_eq, szl]
    exact ⟨hn, hz⟩
  simp only [fSet, keyD, Option.bind_some, h, if_true, putKs_new hl hk, k_some]
theorem getK_in {γ κ : Type} [DecidableEq κ] (f : γ → κ) (v : γ → D) : ∀ {xs : List γ} {x : γ}, (xs.map f).Nodup → x ∈ xs → getK (xs.map f) (xs.map v) (f x) = some (v x)
  | y :: xs, x, hn, hx => by
    rw [List.map_cons, List.map_cons, getK]
    rw [List.map_cons, List.nodup_cons] at hn
    rcases List.mem_cons.mp hx with rfl | hx
    · rw [if_pos rfl]
    · rw [if_neg fun z => hn.1 (by rw [z]; exact List.mem_map_of_mem hx)]
      exact getK_in f v hn.2 hx
  | [], x, _, hx => absurd hx List.not_mem_nil
theorem getK_out {γ κ : Type} [DecidableEq κ] (f : γ → κ) (v : γ → D) {k : κ} : ∀ {xs : List γ}, k ∉ xs.map f → getK (xs.map f) (xs.map v) k = none
  | [], _ => rfl
  | y :: xs, hk => by
    rw [List.map_cons] at hk
    rw [List.map_cons, List.map_cons, getK, if_neg fun z => hk (by rw [z]; exact List.mem_cons_self ..)]
    exact getK_out f v fun z => hk (List.mem_cons_of_mem _ z)
end
end V

set_option Elab.async false
set_option linter.all false
set_option maxRecDepth 100000
/-! V24: what is caught. -/
namespace V
open PySem L2
theorem ch_hd {n : Str} {b : Bool} {ls : List (Str × Bool)} {p q : Prop} : ChK (List.lookup n ((n, b) :: ls)) p q = ChK (some b) p q := by
  rw [List.lookup_cons_self]
theorem ch_is {n : Str} {b : Bool} {ls : List (Str × Bool)} {p q : Prop} (h : List.lookup n ls = some b) : ChK (List.lookup n ls) p q = ChK (some b) p q := by rw [h]
end V

set_option Elab.async false
set_option linter.all false
set_option maxRecDepth 100000
/-! V25: sorted of tuples of ints of any length, the first of them empty. -/
namespace V
open PySem PySem.Spec PyProof.Rows L2
section
def IsIT (h : Heap) (v : Value) (ns : List Int) : Prop := ∃ (a : Addr) (its : Array Value), v = .ref a ∧ IsTup h a its ∧ IntsAre its.toList ns
theorem IsIT.keeps {h h' : Heap} {v : Value} {ns : List Int} (x : IsIT h v ns) (k : ∀ b o, v = .ref b → h.get? b = some o → h'.get? b = some o) : IsIT h' v ns := by
  obtain ⟨a, its, e, ⟨o, ho, hc, n, hd⟩, i⟩ := x
  exact ⟨a, its, e, ⟨o, k _ _ e ho, hc, n, hd⟩, i⟩
theorem IsIT.type {M : Model} {h : Heap} {v : Value} {ns : List Int} (x : IsIT h v ns) : PySem.W.Looks M h (typeOf v) (.type "tuple") := by
  obtain ⟨a, its, rfl, ⟨o, ho, hc, n, hd⟩, i⟩ := x
  rw [← hc]
  exact (PySem.W.Looks.ld ho).andThen .now
end
section
variable {prog : Program} {w : World} {A : Around} {E : Value → Shared → Prop} {s : Shared}
theorem first_it {v : Value} {ns : List Int} {Q : Option Value → Shared → Prop} {M : Model} (x : IsIT s.heap v ns) (h : ∀ f, (ns = [] → f = none) → Q f s) : wpAny M A (firstOfTuple' v) Q E s := by
  obtain ⟨a, its, rfl, ⟨o, ho, hc, n, hd⟩, i⟩ := x
  rw [PySem.W.kas_first_eq]
  refine wpAny_bind (PySem.W.Looks.here (show PySem.W.Looks M s.heap (typeOf (.ref a)) o.cls from (PySem.W.Looks.ld ho).andThen .now) ?_)
  rw [hc, if_neg (by first | decide | simp)]
  refine wpAny_bind (listItems_at ho hd (wpAny_pure ?_))
  refine h _ fun e => ?_
  subst e
  cases his : its with
  | mk l =>
    rw [his] at i
    cases i
    rfl
theorem firsts_it {M : Model} : ∀ (vs : List Value) {Q : List (Option Value) → Shared → Prop}, (∀ v ∈ vs, ∃ ns, IsIT s.heap v ns) → (∀ fs, Q fs s) → wpAny M A (vs.mapM firstOfTuple') Q E s
  | [], _, _, h => by rw [List.mapM_nil]; exact wpAny_pure (h [])
  | v :: vs, Q, t, h => by
    obtain ⟨ns, x⟩ := t v (List.mem_cons_self ..)
    rw [List.mapM_cons]
    refine wpAny_bind (first_it x fun f _ => ?_)
    exact wpAny_bind (firsts_it vs (Q := fun bs s' => wpAny M A (pure (f :: bs)) Q E s') (fun u hu => t u (List.mem_cons_of_mem _ hu)) fun fs => wpAny_pure (h _))
theorem kind_it {M : Model} {v : Value} {vs : List Value} {Q : SortKind → Shared → Prop} (h0 : IsIT s.heap v []) (t : ∀ u ∈ vs, ∃ ns, IsIT s.heap u ns) (h : Q oneType' s) : wpAny M A (keyKind' (v :: vs).toArray) Q E s := by
  rw [kat_kind_eq, List.mapM_toArray, map_eq_pure_bind, List.mapM_cons]
  refine wpAny_bind (wpAny_bind (wpAny_bind (first_it h0 fun f hf => ?_)))
  obtain rfl := hf rfl
  refine wpAny_bind (firsts_it vs t fun fs => wpAny_pure (wpAny_pure ?_))
  rw [if_neg (by simp), if_neg (by simp)]
  rw [oneTypeOnly'_eq, List.mapM_toArray, map_eq_pure_bind]
  refine wpAny_bind (wpAny_bind (wpAny_bind (PySem.W.kas_mapM (r := .type "tuple") _ (fun u hu Q' hq => ?_) (wpAny_pure ?_))))
  · rcases List.mem_cons.mp hu with rfl | hu
    · exact h0.type.here hq
    · obtain ⟨ns, x⟩ := t u hu
      exact x.type.here hq
  · have hall2 : ((List.map (fun _ => Value.type "tuple") (v :: vs)).toArray.all fun x => x == Value.type "tuple") = true := by
      simp only [List.all_toArray, List.all_map, List.all_eq_true]
      intro _ _
      rfl
    have h1 : (List.map (fun _ => Value.type "tuple") (v :: vs)).toArray[0]? = some (Value.type "tuple") := by simp
    rw [h1]
    simp only [hall2, if_true]
    exact wpAny_pure (wpAny_pure h)
theorem lt_it {v u : Value} {ns ms : List Int} {Q : Bool → Shared → Prop} (hu : A.units < cLine) (hv : IsIT s.heap v ns) (hw : IsIT s.heap u ms) (h : Q (HT.lexLt ns ms) s) : wpAny (model prog w) A (keyLt' oneType' v u) Q E s := by
  obtain ⟨a, its, rfl, ⟨⟨cls, dd, data, sl⟩, ho, hc, n, hd⟩, ia⟩ := hv
  obtain ⟨b, its2, rfl, ⟨⟨cls2, dd2, data2, sl2⟩, ho2, hc2, n2, hd2⟩, ib⟩ := hw
  simp only at hc hd hc2 hd2
  subst hc hd hc2 hd2
  rw [keyLt'_oneType, oneLt'_eq]
  simp only [if_true]
  refine wpAny_bind (wpAny_cRoomFor hu ?_)
  refine wpAny_bind (wpAny_callSpecialIfBound?_slot (T := "tuple") ⟨_, ho, rfl⟩ PySem.F.slot_tuple_lt ?_)
  refine call_meets PySem.F.slot_tuple_lt ⟨_, ho, rfl⟩ PySem.F.entry_tuple_lt (PySem.F.args_tuple_lt_2 _ _) (HT.tuple_lt_ints a b its its2 n n2 dd dd2 sl sl2 ns ms ia ib) ⟨ho, ho2, ?_⟩
  exact wpAny_truthy_bool h
theorem it_sortable {a : Addr} {vs : List Value} {k : Value → List Int} {v : Value} {r : List Value} (e : vs = v :: r) (h0 : k v = []) (hu : A.units < cLine) (hv : ∀ v ∈ vs, IsIT s.heap v (k v)) (ha : ∀ v ∈ vs, v ≠ .ref a) :
    SrtO.SortableO prog w A s a vs fun v u => HT.lexLt (k v) (k u) := by
  intro h' keep
  have hv' : ∀ v ∈ vs, IsIT h' v (k v) := fun v hm => (hv v hm).keeps fun b o e g => keep b o (fun z => ha v hm (by rw [e, z])) g
  refine ⟨oneType', fun Q E hq => ?_, fun p q hp hq => ?_⟩
  · subst e
    exact kind_it (s := { s with heap := h' }) (by rw [← h0]; exact hv' v (List.mem_cons_self ..)) (fun u hu => ⟨_, hv' u (List.mem_cons_of_mem _ hu)⟩) hq
  · exact lt_it (s := { s with heap := h' }) (Q := fun r s' => s' = { s with heap := h' } ∧ r = HT.lexLt (k p.1) (k q.1)) (E := fun _ _ => False) hu (hv' p.1 hp) (hv' q.1 hq) ⟨rfl, rfl⟩
end

/-- the numbers of a tuple -/
def numsD : List V.D → Option (List Int)
  | [] => some []
  | .int i :: l => (numsD l).map (i :: ·)
  | _ :: _ => none
def tupInts : V.D → Option (List Int)
  | .tup l => numsD l
  | _ => none
def tupsInts : List V.D → Option (List (List Int))
  | [] => some []
  | d :: l => match tupInts d, tupsInts l with
    | some x, some r => some (x :: r)
    | _, _ => none
/-- each not above all behind it -/
def risesI : List (List Int) → Bool
  | [] => true
  | x :: r => r.all (fun y => !HT.lexLt y x) && risesI r
/-- sorted of a list of tuples of ints that is sorted already, the empty one ahead -/
def wSortTI : List V.D → Option T := one fun d => match d with
  | .lst l => (match tupsInts l with
    | some ([] :: r) => if risesI ([] :: r) = true then some (.ow (.lst l)) else none
    | _ => none)
  | _ => none
theorem risesI_pw : ∀ {l : List (List Int)}, risesI l = true → l.Pairwise fun x y => HT.lexLt y x = false
  | [], _ => .nil
  | x :: r, h => by
    rw [risesI, Bool.and_eq_true, List.all_eq_true] at h
    exact .cons (fun y hy => by simpa using h.1 y hy) (risesI_pw h.2)
def numV : L2.V → Option Int
  | .int i => some i
  | _ => none
def kV (H : Hp) : L2.V → List Int
  | .ref t => (match H t with
    | some (.tup vs) => vs.filterMap numV
    | _ => [])
  | _ => []
section
variable {K : PySem.W.Frag} {mg : Str → Option Value} {M H : Hp} {X : Cx}
theorem numsD_rep : ∀ {l : List V.D} {vs : List L2.V} {ns : List Int}, Reps K mg M vs l → numsD l = some ns → vs = ns.map L2.V.int
  | [], vs, ns, r, h => by cases r; cases h; rfl
  | d :: l, vs, ns, r, h => by
    cases r with
    | cons r rs =>
      cases d with
      | int i =>
        rw [numsD] at h
        obtain ⟨m, h2, rfl⟩ := Option.map_eq_some_iff.mp h
        rw [List.map_cons, ← numsD_rep rs h2, rep_int r]
      | _ => simp [numsD] at h
def TupAt (H : Hp) (x : L2.V) : Prop := ∃ t, x = .ref t ∧ H t = some (.tup ((kV H x).map L2.V.int))
theorem nums_map : ∀ ns : List Int, (ns.map L2.V.int).filterMap numV = ns
  | [] => rfl
  | n :: ns => by
    rw [List.map_cons, List.filterMap_cons_some (f := numV) (b := n) rfl, nums_map ns]
theorem tupInts_rep (hl : Le M H) {v : L2.V} {d : V.D} {ns : List Int} (r : Rep K mg M v d) (h : tupInts d = some ns) : kV H v = ns ∧ TupAt H v := by
  cases d with
  | tup l =>
    cases r with
    | @tup a _ _ h1 r1 =>
      have e := hl.ex h1 rfl
      rw [numsD_rep r1 h] at e
      have e2 : kV H (.ref a) = ns := by
        simp only [kV, e, nums_map]
      exact ⟨e2, a, rfl, by rw [e2]; exact e⟩
  | _ => cases h
theorem tupsInts_rep (hl : Le M H) : ∀ {l : List V.D} {vs : List L2.V} {kss : List (List Int)}, Reps K mg M vs l → tupsInts l = some kss → vs.map (kV H) = kss ∧ ∀ x ∈ vs, TupAt H x
  | [], vs, kss, r, h => by cases r; cases h; exact ⟨rfl, fun _ h => absurd h List.not_mem_nil⟩
  | d :: l, vs, kss, r, h => by
    rw [tupsInts] at h
    cases e1 : tupInts d with
    | none => rw [e1] at h; cases h
    | some x =>
      rw [e1] at h
      cases e2 : tupsInts l with
      | none => rw [e2] at h; cases h
      | some y =>
        rw [e2] at h
        cases h
        cases r with
        | cons r rs =>
          obtain ⟨h1, h2⟩ := tupInts_rep hl r e1
          obtain ⟨h3, h4⟩ := tupsInts_rep hl rs e2
          exact ⟨by rw [List.map_cons, h1, h3], fun z hz => (List.mem_cons.mp hz).elim (fun q => by rw [q]; exact h2) (h4 z)⟩
/-- sorted(xs), xs a list of tuples of ints, the empty one ahead, sorted already -/
def rSortedTI (K : PySem.W.Frag) : List L2.V → Hp → VK → Prop := fun vs H Q => ∃ (a : Addr) (xs : List L2.V) (x0 : L2.V) (r : List L2.V), vs = [L2.V.ref a] ∧ SqL K H a xs ∧ xs = x0 :: r ∧ kV H x0 = [] ∧ (∀ x ∈ xs, TupAt H x) ∧ xs.Pairwise (fun x y => HT.lexLt (kV H y) (kV H x) = false) ∧
  ∀ p, H p = none → Q (.ref p) (upd H p (.lst xs))
theorem ints_of : ∀ {ns : List Int} {us : List Value}, Vals (ns.map L2.V.int) us → IntsAre us ns
  | [], us, r => by rw [List.map_nil] at r; cases r; exact .nil
  | i :: ns, us, r => by
    rw [List.map_cons] at r
    cases r with
    | cons h q =>
      obtain ⟨t, rfl⟩ := h
      exact .cons i t (ints_of q)
theorem cr_sortedTI (hu : X.A.units + 64 < cLine) : CallR X (.builtin "sorted") (rSortedTI X.K) := by
  intro pins s σ H vs us Q I r h
  obtain ⟨a, xs, x0, xr, rfl, hs, hx0, hk0, ht, hp, q⟩ := h
  obtain ⟨its, rv, hl, hz⟩ := I.list hs
  obtain ⟨u, rfl, ru⟩ := vals1 r
  obtain rfl : u = Value.ref a := ru
  have hzs : its.length ≤ sizeLine := by rw [← rv.length]; exact hz
  obtain ⟨e1, e2⟩ := refs_back rv fun x m => by
    obtain ⟨t, e, _⟩ := ht x m
    exact ⟨t, e⟩
  have hv : ∀ v ∈ its, IsIT s.heap v (kV H (backV v)) := fun v hv => by
    obtain ⟨t, rfl⟩ := e2 v hv
    have hm : L2.V.ref t ∈ xs := by rw [e1]; exact List.mem_map.mpr ⟨_, hv, rfl⟩
    obtain ⟨t', e, ht⟩ := ht _ hm
    cases e
    obtain ⟨_, its2, r2, p⟩ := I.hok _ _ ht
    refine ⟨_, _, rfl, p, ?_⟩
    rw [show its2.toArray.toList = its2 by simp]
    exact ints_of r2
  obtain ⟨i0, ir, hi⟩ : ∃ i0 ir, its = i0 :: ir := by
    cases its with
    | nil => rw [List.map_nil] at e1; rw [e1] at hx0; cases hx0
    | cons i0 ir => exact ⟨_, _, rfl⟩
  have hi0 : kV H (backV i0) = [] := by
    rw [hi, hx0, List.map_cons] at e1
    rw [← (List.cons.inj e1).1]
    exact hk0
  refine SrtO.sorted_ord (NtL.swo_lexL fun v => kV H (backV v)) hl.isList hzs (fun h2 h₁ b hb kk => ?_) fun out h1 h2 => ?_
  · refine it_sortable (s := { s with heap := h₁ }) hi hi0 (by show X.A.units + _ + _ < cLine; omega) (fun v hm => (hv v hm).keeps fun c o _ e => (kk c o e).2) fun v hm z => ?_
    obtain ⟨t, its2, e, ⟨o, ho, hc, n, hd⟩, _⟩ := hv v hm
    rw [e] at z
    cases z
    exact (kk _ _ ho).1 rfl
  · have e3 : out = its := SrtO.stb_uniq (NtL.swo_lexL fun v => kV H (backV v)) h1 (by
      have := hp
      rw [e1, List.pairwise_map] at this
      exact this) h2
    subst e3
    obtain ⟨ep, he'⟩ := PyProof.Rows.sortedAll_at s.heap out out.toArray
    exact ⟨.ref _, upd H (s.heap.objs.size + 1) (.lst xs), I.laid (t' := s.toks) (fun _ _ => PyProof.Rows.sortedAll_old) (Nat.le_succ _) ⟨hz, out, ep, rv, he'⟩, rfl, q _ (I.hok.fresh (Nat.le_succ _))⟩
theorem hu64 {n : Nat} (h : n + 200 < cLine) : n + 64 < cLine := by omega
theorem opN_sortTI : OpN X.K X.mg (rSortedTI X.K) wSortTI := opN_one (X := X) fun {M H Q v d t} hl ra hm hp => by
  cases d with
  | lst l =>
    dsimp only at hm
    cases e : tupsInts l with
    | none => rw [e] at hm; cases hm
    | some kss =>
      rw [e] at hm
      cases kss with
      | nil => cases hm
      | cons k0 kr =>
        cases k0 with
        | cons _ _ => cases hm
        | nil =>
          dsimp only at hm
          split at hm
          · rename_i hr
            cases hm
            obtain ⟨a, vs, rfl, hq, rs⟩ := rep1_lst hl ra
            obtain ⟨h1, h2⟩ := tupsInts_rep hl rs e
            obtain ⟨x0, xr, rfl⟩ : ∃ x0 xr, vs = x0 :: xr := by
              cases vs with
              | nil => cases h1
              | cons x0 xr => exact ⟨_, _, rfl⟩
            have hpw := risesI_pw hr
            rw [← h1, List.pairwise_map] at hpw
            exact ⟨a, _, x0, xr, rfl, .of hq, rfl, (List.cons.inj h1).1, h2, hpw, fun p np => hp.own hl np (.lst rs)⟩
          · cases hm
  | _ => cases hm
end
end V

set_option Elab.async false
set_option linter.all false
set_option maxRecDepth 100000
/-! V26: for over the names of a dict: the dict is locked while the walk goes on. -/
namespace V
open PySem PySem.Spec PyProof.Rows L2
section
variable {X : Cx} {Wx : WX} {ms : List Bool} {pos : Pos}
/-- the turns of a for, from where the walk stands -/
theorem for_mid {g : DG} {tb : DS} {D : Ends} {σ : L2.St} {H1 M1 : Hp} {J : It} {L1 : List Rt} {ρ1 : Env} {ds : List V.D} (s1 : S X.K X.mg M1 H1 L1) (l1 : SL L1 σ ρ1) (it : ItOk X.K X.mg M1 J ds)
    (hp1 : PostS X.K X.mg ms Wx M1 H1 L1 σ D (loopD g tb ds ρ1)) (H : Hp) :
    tFor (fun _ _ R => R J H1) (TGd X.K X.mg ms Wx g) (TSd X.K X.mg ms Wx tb) D σ H := by
  refine ⟨fun i m σ' H' => i ≤ ds.length ∧ m = ds.length - i ∧ ∃ M L ρ, Up M1 H1 L1 M H' L ∧ S X.K X.mg M H' L ∧ SL L σ' ρ ∧ Kept ms σ σ' ∧ PostS X.K X.mg ms Wx M H' L σ' D (loopD g tb (ds.drop i) ρ), ⟨ds.length, Nat.zero_le _, rfl, M1, L1, ρ1, .refl, s1, l1, .refl, by rw [List.drop_zero]; exact hp1⟩, ?_⟩
  rintro i m σ' H' ⟨hi, rfl, M, L, ρ, u, s, l, k, hp⟩
  obtain ⟨st, go⟩ := it M H' u.mm s.le
  by_cases hd : i < ds.length
  · have hdr : ds.drop i = ds[i] :: ds.drop (i + 1) := List.drop_eq_getElem_cons hd
    rw [hdr] at hp
    obtain ⟨g1, y1⟩ := go i ds[i] (List.getElem?_eq_getElem hd)
    refine .inr ⟨g1, fun σ2 H2 => ∃ M2 L2 ρ2, Up M H' L M2 H2 L2 ∧ S X.K X.mg M2 H2 L2 ∧ SL L2 σ2 ρ2 ∧ Kept ms σ' σ2 ∧ PostS X.K X.mg ms Wx M2 H2 L2 σ2 D (loopD g tb (ds.drop (i + 1)) ρ2), fun σ2 H2 ⟨M2, L2, ρ2, u2, s2, l2, k2, hp2⟩ => ?_, fun x H2 hy => ?_⟩
    · exact ⟨ds.length - (i + 1), by omega, by omega, rfl, M2, L2, ρ2, u.trans u2, s2, l2, k.trans k2, hp2⟩
    · obtain ⟨M2, gr, le2, rx⟩ := y1 x H2 hy
      have s2 := s.grow gr le2
      have u2 : Up M H' L M2 H2 L := gr.up
      have n := hp.ne
      unfold loopD at hp n
      generalize hr : (bnd (g (.v (.sh ds[i]))) fun _ => bnd tb fun o => match o with
        | .nx => loopD g tb (ds.drop (i + 1))
        | .ct => loopD g tb (ds.drop (i + 1))
        | .bk => ret .nx
        | .rt z => ret (.rt z)) ρ = r at hp n
      have u0 : Up M2 H2 L M2 H2 ([⟨some x, .sh ds[i], [], []⟩] ++ L) := Up.refl.drop (fun a h => (Xs.cons.mp h).elim (fun z => absurd z List.not_mem_nil) id) fun a h => (Ys.cons.mp h).elim (fun z => absurd z List.not_mem_nil) id
      refine ⟨M2, [⟨some x, .sh ds[i], [], []⟩], L, ρ, .v (.sh ds[i]), s2.sh rx, l, rfl, trivial, ?_⟩
      rcases bnd_some hr n with ⟨a, ρ3, e1, e2⟩ | ⟨xx, ρ3, e1, e2⟩
      · rw [e1]
        intro M3 H3 L3 σ3 u3 s3 l3 k3
        refine ⟨M3, L3, ρ3, s3, l3, ?_⟩
        have uu := (u2.trans u0).trans u3
        rcases bnd_some e2 n with ⟨o, ρ4, e4, e5⟩ | ⟨xx, ρ4, e4, e5⟩
        · rw [e4]
          cases o with
          | nx => intro M4 H4 L4 σ4 u4 s4 l4 k4; exact ⟨M4, L4, ρ4, uu.trans u4, s4, l4, k3.trans k4, by rw [show loopD g tb (ds.drop (i + 1)) ρ4 = r from e5]; exact hp.pull (uu.trans u4) (k3.trans k4)⟩
          | ct => intro M4 H4 L4 σ4 u4 s4 l4 k4; exact ⟨M4, L4, ρ4, uu.trans u4, s4, l4, k3.trans k4, by rw [show loopD g tb (ds.drop (i + 1)) ρ4 = r from e5]; exact hp.pull (uu.trans u4) (k3.trans k4)⟩
          | bk => subst e5; intro M4 H4 L4 σ4 u4 s4 l4 k4; exact hp M4 H4 L4 σ4 (uu.trans u4) s4 l4 (k3.trans k4)
          | rt z => subst e5; intro M4 H4 kk ee L4 σ4 v4 u4 s4 l4 k4 al4; exact hp M4 H4 kk ee L4 σ4 v4 (uu.trans u4) s4 l4 (k3.trans k4) al4
        · rw [e4]; subst e5; intro M4 H4 L4 σ4 c u4 s4 l4 k4 hc; exact hp M4 H4 L4 σ4 c (uu.trans u4) s4 l4 (k3.trans k4) hc
      · rw [e1]
        subst e2
        intro M3 H3 L3 σ3 c u3 s3 l3 k3 hc
        exact hp M3 H3 L3 σ3 c ((u2.trans u0).trans u3) s3 l3 k3 hc
  · have hd0 : i = ds.length := by omega
    subst hd0
    rw [List.drop_length] at hp
    exact .inl ⟨st, hp M H' L σ' .refl s l .refl⟩
/-- the ends of a statement under a lock -/
structure LkE (dd : Addr) (od : Obj) (kvs : List (Key × L2.V)) (h0 : HO) (D D2 : Ends) : Prop where
  nx : ∀ σ' H', H' dd = some (.frz od (.dK kvs)) → D.nx σ' (upd H' dd h0) → D2.nx σ' H'
  rt : ∀ v H', H' dd = some (.frz od (.dK kvs)) → D.rt v (upd H' dd h0) → D2.rt v H'
  bk : ∀ σ' H', H' dd = some (.frz od (.dK kvs)) → D.bk σ' (upd H' dd h0) → D2.bk σ' H'
  ct : ∀ σ' H', H' dd = some (.frz od (.dK kvs)) → D.ct σ' (upd H' dd h0) → D2.ct σ' H'
theorem LkE.same {dd : Addr} {ob : Obj} {kvs : List (Key × L2.V)} {D : Ends} : LkE dd ob kvs (.frz ob (.dK kvs)) D D := by
  have e : ∀ (H' : Hp), H' dd = some (.frz ob (.dK kvs)) → upd H' dd (.frz ob (.dK kvs)) = H' := fun H' h1 => by
    funext a
    by_cases z : a = dd
    · subst z; rw [upd_same, h1]
    · rw [upd_ne z]
  exact ⟨fun σ' H' h h2 => by rw [e H' h] at h2; exact h2, fun σ' H' h h2 => by rw [e H' h] at h2; exact h2, fun σ' H' h h2 => by rw [e H' h] at h2; exact h2, fun σ' H' h h2 => by rw [e H' h] at h2; exact h2⟩
def exR : PR O → Prop
  | .ex _ _ => True
  | _ => False
theorem postS_lk {M H M2 H2 : Hp} {dd : Addr} {kvs : List (Key × L2.V)} {od : Obj} {m0 h0 : HO} {L : List Rt} {σ : L2.St} {D D2 : Ends} (hD : LkE dd od kvs h0 D D2) (t : Tr M M2 dd kvs) (u : Tr H H2 dd kvs) (hm : M dd = some m0) (hh : H dd = some h0) (em : M2 dd = some (.frz od (.dK kvs))) (eh : H2 dd = some (.frz od (.dK kvs)))
    (cm : m0 = .dK kvs ∨ ∃ ob, m0 = .frz ob (.dK kvs)) (ch : h0 = .dK kvs ∨ ∃ ob, h0 = .frz ob (.dK kvs)) (hle : ∀ M3 H3, Le M3 H3 → Le (upd M3 dd m0) (upd H3 dd h0)) (s : S X.K X.mg M2 H2 L) : ∀ {r : PR O}, ¬ exR r → PostS X.K X.mg ms Wx M H L σ D r → PostS X.K X.mg ms Wx M2 H2 L σ D2 r := by
  have nx : ¬ Xs L dd := fun z => by
    have := (s.xm z).2
    rw [em] at this
    cases this
  have back : ∀ {M' H' : Hp} {L' : List Rt}, Up M2 H2 L M' H' L' → S X.K X.mg M' H' L' → H' dd = some (.frz od (.dK kvs)) ∧ Up M H L (upd M' dd m0) (upd H' dd h0) L' ∧ S X.K X.mg (upd M' dd m0) (upd H' dd h0) L' := fun {M' H' L'} up s' => by
    have hM3 : M' dd = some (.frz od (.dK kvs)) := up.mm _ _ em
    have hH3 : H' dd = some (.frz od (.dK kvs)) := up.hm _ _ eh nx
    have tM3 : Tr M' (upd M' dd m0) dd kvs := ⟨fun a z => upd_ne z, .inr ⟨od, hM3⟩, by
      rcases cm with e | ⟨ob, e⟩
      · exact .inl (by rw [upd_same, e])
      · exact .inr ⟨ob, by rw [upd_same, e]⟩⟩
    have tH3 : Tr H' (upd H' dd h0) dd kvs := ⟨fun a z => upd_ne z, .inr ⟨od, hH3⟩, by
      rcases ch with e | ⟨ob, e⟩
      · exact .inl (by rw [upd_same, e])
      · exact .inr ⟨ob, by rw [upd_same, e]⟩⟩
    exact ⟨hH3, up_back t u hm hh up, s'.tr tM3 tH3 (hle _ _ s'.le)⟩
  intro r ne hp
  cases r with
  | stk => exact hp
  | ex n ρ => exact absurd trivial ne
  | ok o ρ =>
    cases o with
    | nx => intro M' H' L' σ' up s' l' k; obtain ⟨h1, h2, h3⟩ := back up s'; exact hD.nx _ _ h1 (hp _ _ L' σ' h2 h3 l' k)
    | bk => intro M' H' L' σ' up s' l' k; obtain ⟨h1, h2, h3⟩ := back up s'; exact hD.bk _ _ h1 (hp _ _ L' σ' h2 h3 l' k)
    | ct => intro M' H' L' σ' up s' l' k; obtain ⟨h1, h2, h3⟩ := back up s'; exact hD.ct _ _ h1 (hp _ _ L' σ' h2 h3 l' k)
    | rt z => intro M' H' kk ee L' σ' v up s' l' k al; obtain ⟨h1, h2, h3⟩ := back up s'; exact hD.rt _ _ h1 (hp _ _ kk ee L' σ' v h2 h3 l' k al)
/-- for over the names of the dict in slot i, without exceptions -/
def dForK (i : Nat) (g : DG) (body : DS) : DS := nox (dFor (iOf keysP (dVar i)) g body)
theorem forK_ok {i : Nat} {g : DG} {tb : DS} {D : Ends} {σ : L2.St} {H : Hp} (h : TSd X.K X.mg ms Wx (dForK i g tb) D σ H) :
    tLock (tFor (iKeys (TEd X.K X.mg Wx (dVar i))) (TGd X.K X.mg ms Wx g) (TSd X.K X.mg ms Wx tb)) D σ H ∨ tFor (iKeys (TEd X.K X.mg Wx (dVar i))) (TGd X.K X.mg ms Wx g) (TSd X.K X.mg ms Wx tb) D σ H := by
  obtain ⟨M, L, ρ, s, l, p⟩ := h
  have n := p.ne
  generalize hr : dForK i g tb ρ = r at p n
  obtain ⟨o, ρ', e1, rfl⟩ := nox_inv hr n
  -- the dict
  obtain ⟨ks, lv, hρ, hdv, hb⟩ : ∃ ks lv, ρ[i]? = some (.sh (.dk ks lv)) ∧ dVar i ρ = .ok (.al i) ρ ∧ loopD g tb (ks.map keyX) ρ = .ok o ρ' := by
    unfold dFor at e1
    unfold bnd at e1
    unfold iOf at e1
    unfold bnd at e1
    cases hρ : ρ[i]? with
    | none => simp only [dVar, hρ] at e1; cases e1
    | some t =>
      cases t with
      | sh d =>
        have hv : dVar i ρ = .ok (.al i) ρ := by simp only [dVar, hρ]
        have hgt : gt ρ (.al i) = some (.sh d) := by simp only [gt, hρ]
        simp only [hv, hgt] at e1
        cases d with
        | dk ks lv => exact ⟨ks, lv, rfl, hv, e1⟩
        | _ => cases e1
      | no => simp only [dVar, hρ] at e1; cases e1
      | ow d => simp only [dVar, gt, hρ] at e1; cases e1
      | lo d => simp only [dVar, gt, hρ] at e1; cases e1
      | ob C fs => simp only [dVar, gt, hρ] at e1; cases e1
      | lb C fs => simp only [dVar, gt, hρ] at e1; cases e1
  obtain ⟨r0, hr0, hr1⟩ : ∃ r0, L[i]? = some r0 ∧ r0.t = .sh (.dk ks lv) := by
    have := l.t
    rw [← this, List.getElem?_map] at hρ
    obtain ⟨r0, h1, h2⟩ := Option.map_eq_some_iff.mp hρ
    exact ⟨r0, h1, h2⟩
  have hok := s.ok r0 (List.mem_of_getElem? hr0)
  obtain ⟨dd, kvs, hv0, hat, hks⟩ : ∃ dd kvs, r0.v = some (.ref dd) ∧ At M dd (.dK kvs) ∧ kvs.map (·.1) = ks := by
    cases hok with
    | sh r =>
      cases hr1
      cases r with
      | dk h q _ => exact ⟨_, _, rfl, h, q⟩
    | _ => cases hr1
  have hσ : σ[i]? = some (some (.ref dd)) := by
    rw [← l.v, List.getElem?_map, hr0, ← hv0]
    rfl
  subst hks
  have hM : DkAt M dd kvs := hat.elim .inl fun ⟨_, ob, h⟩ => .inr ⟨ob, h⟩
  -- from the lock on
  have core : ∀ (od : Obj) (m0 h0 : HO), M dd = some m0 → H dd = some h0 → (m0 = .dK kvs ∨ ∃ ob, m0 = .frz ob (.dK kvs)) → (h0 = .dK kvs ∨ ∃ ob, h0 = .frz ob (.dK kvs)) → (∀ M3 H3, Le M3 H3 → Le (upd M3 dd m0) (upd H3 dd h0)) → ∀ (H2 : Hp), H2 dd = some (.frz od (.dK kvs)) → (∀ a, a ≠ dd → H2 a = H a) → ∀ D2 : Ends, LkE dd od kvs h0 D D2 →
      tFor (iKeys (TEd X.K X.mg Wx (dVar i))) (TGd X.K X.mg ms Wx g) (TSd X.K X.mg ms Wx tb) D2 σ H2 := by
    intro od m0 h0 hm0 hh0 cm ch hle H2 hH2 hH2o D2 hD
    have tM : Tr M (upd M dd (.frz od (.dK kvs))) dd kvs := ⟨fun a z => upd_ne z, hM, .inr ⟨od, upd_same⟩⟩
    have tH : Tr H H2 dd kvs := ⟨hH2o, by rcases ch with e | ⟨ob, e⟩ <;> rw [e] at hh0; exact .inl hh0; exact .inr ⟨ob, hh0⟩, .inr ⟨od, hH2⟩⟩
    have le2 : Le (upd M dd (.frz od (.dK kvs))) H2 := fun a o e => by
      by_cases z : a = dd
      · subst z; rw [upd_same] at e; cases e; exact .inl hH2
      · rw [upd_ne z] at e
        exact (s.le a o e).stay fun o e => by rw [hH2o a z]; exact e
    have s2 : S X.K X.mg (upd M dd (.frz od (.dK kvs))) H2 L := s.tr tM tH le2
    have p2 : PostS X.K X.mg ms Wx (upd M dd (.frz od (.dK kvs))) H2 L σ D2 (.ok o ρ') := postS_lk hD tM tH hm0 hh0 upd_same hH2 cm ch hle s2 (fun z => z) p
    refine ⟨upd M dd (.frz od (.dK kvs)), L, ρ, s2, l, ?_⟩
    rw [hdv]
    intro M' H' hs L' b up s' l' q al
    have nx : ¬ Xs L dd := fun z => by
      have := (s2.xm z).2
      rw [upd_same] at this
      cases this
    have hM' : M' dd = some (.frz od (.dK kvs)) := up.mm _ _ upd_same
    have hH' : H' dd = some (.frz od (.dK kvs)) := up.hm _ _ hH2 nx
    have eb : b = .ref dd := by
      have h1 : (L'.map (·.v))[i]? = some (some b) := al
      rw [l'.v, hσ] at h1
      exact (Option.some.inj (Option.some.inj h1)).symm
    refine ⟨dd, od, eb, .inl ⟨kvs, hH', ?_⟩⟩
    exact for_mid (Wx := Wx) (J := Itk dd od kvs) s'.right l' (itOk_keys hM') (by rw [hb]; exact p2.pull (up.sub fun r hr => List.mem_append_right _ hr) .refl) H2
  have leg : ∀ {m0 h0 : HO}, (∀ H3 : Hp, At (upd H3 dd h0) dd m0) → ∀ M3 H3, Le M3 H3 → Le (upd M3 dd m0) (upd H3 dd h0) := fun hA M3 H3 hl a o e => by
    by_cases z : a = dd
    · subst z
      rw [upd_same] at e
      cases e
      exact hA H3
    · rw [upd_ne z] at e
      exact (hl a o e).stay fun o e => by rw [upd_ne z]; exact e
  rcases hM with hM | ⟨ob, hM⟩
  · rcases s.le dd _ hM with hH | ⟨_, ob, hH⟩
    · refine .inl ⟨dd, .dK kvs, hH, True.intro, fun od => ?_⟩
      exact core od (.dK kvs) (.dK kvs) hM hH (.inl rfl) (.inl rfl) (leg fun H3 => .inl upd_same) _ upd_same (fun a z => upd_ne z) _ ⟨fun _ _ h1 h2 => ⟨h1, h2⟩, fun _ _ h1 h2 => ⟨h1, h2⟩, fun _ _ h1 h2 => ⟨h1, h2⟩, fun _ _ h1 h2 => ⟨h1, h2⟩⟩
    · exact .inr (core ob (.dK kvs) (.frz ob (.dK kvs)) hM hH (.inl rfl) (.inr ⟨ob, rfl⟩) (leg fun H3 => .inr ⟨rfl, ob, upd_same⟩) H hH (fun a _ => rfl) D .same)
  · have hH : H dd = some (.frz ob (.dK kvs)) := s.le.ex hM rfl
    exact .inr (core ob (.frz ob (.dK kvs)) (.frz ob (.dK kvs)) hM hH (.inr ⟨ob, rfl⟩) (.inr ⟨ob, rfl⟩) (leg fun H3 => .inl upd_same) H hH (fun a _ => rfl) D .same)
theorem ps_or {st : Stmt} {t u : TS} (h : PS X st t) (g : PS X st u) : PS X st (fun D σ H => t D σ H ∨ u D σ H) := ⟨fun pins s σ H D I hw => hw.elim (h.run pins s σ H D I) (g.run pins s σ H D I)⟩
theorem qs_forK {tg iter : Expr} {body : List Stmt} {i : Nat} {g : DG} {mb : DS} (hp : PassesOwn (model X.prog X.w) X.A X.env X.xe) (hc : X.calm = true) (hi : QE X Wx iter (dVar i)) (hg : QG X ms Wx tg g) (hb : QSs X ms Wx body mb)
    (hs : ∀ x, foldedSetIterable iter X.env x = pure x := by intro _; rfl) : QS X ms Wx (.For tg iter body [] pos) (dForK i g mb) := by
  have b : PS X (.For tg iter body [] pos) (tFor (iKeys (TEd X.K X.mg Wx (dVar i))) (TGd X.K X.mg ms Wx g) (TSd X.K X.mg ms Wx mb)) := ps_for hp hc (pi_keys hi) hg hb hs
  exact ps_imp (ps_or (ps_lock b) b) fun D σ H h => forK_ok h
end
end V

set_option Elab.async false
set_option linter.all false
set_option maxRecDepth 100000
set_option maxHeartbeats 4000000
namespace Lk32
open PySem PySem.Spec PyProof.Rows L2 V
def top (i : Nat) : Stmt := PySem.Challenge.pw_stairsay_k32_put_ins.main.body.getD i (.Pass ⟨0, 0, 0, 0⟩)
def subOf : Stmt → Nat → Stmt
  | .ClassDef _ _ _ body .., j => body.getD j (.Pass ⟨0, 0, 0, 0⟩)
  | s, _ => s
abbrev s__law_names : Stmt := top 9
theorem sc__law_names : FnScope ["_law_cell", "_law_count", "_law_letters", "_law_mixed", "_law_wide", "_law_at", "_law_base", "_law_step", "_law_got", "_law_k", "_law_turned_on"] ["_law_cell", "_law_count"] (defScope s__law_names) := ⟨rfl, rfl, rfl, by decide +kernel, rfl, by decide +kernel, by decide +kernel⟩
def b1__law_names : DS :=
    (dSeq (dSet 10 (d2 wIx (dVar 2) (d2 wMod (d2 wAdd (d2 wFdv (dVar 3) (dC (.int 864))) (d2 wMul (dVar 9) (dVar 7))) (dC (.int 26)))))
    (dIf (cBl (d2 (wEq false) (d2 wMod (d2 wFdv (dVar 3) (dC (.int 900))) (dC (.int 3))) (dC (.int 1))))
    (dExpr (dBM isL (mutz shs fAppend) (dVar 8) (aCons (d2 wMul (d2 wIx (dVar 6) (dC (.int 0))) (d2 wAdd (d2 wMod (d2 wAdd (dVar 9) (d2 wFdv (dVar 3) (dC (.int 7)))) (dC (.int 12))) (dC (.int 1)))) aNil)))
    (dExpr (dBM isL (mutz shs fAppend) (dVar 8) (aCons (d2 wAdd (d2 wAdd (dStrM wJoin (dC (.str "")) (dSl (dVar 6) oNone (oSome (dVar 5)))) (dVar 10)) (dStrM wJoin (dC (.str "")) (dSl (dVar 6) (oSome (d2 wAdd (dVar 5) (dC (.int 1)))) oNone))) aNil)))))
def d__law_names : DS :=
    (dSeq (dSet 2 (dC (.str "abcdefghijklmnopqrstuvwxyz")))
    (dSeq (dSet 3 (dGiv (d2 wMul (d2 wAdd (d2 wAdd (d2 wMul (dVar 0) (dVar 0)) (dVar 0)) (dC (.int 1))) (dC (.int 982451653)))))
    (dSeq (dSet 4 (d2 wAdd (dC (.int 1)) (d2 wMod (dVar 3) (dC (.int 12)))))
    (dSeq (dSet 5 (d2 wMod (d2 wFdv (dVar 3) (dC (.int 12))) (dVar 4)))
    (dSeq (dSet 6 (dGiv (dLc [9] (iOfN rng1 (aCons (dVar 4) aNil)) (asg 9) cYes (dGiv (d2 wIx (dVar 2) (d2 wMod (d2 wAdd (d2 wFdv (dVar 3) (d2 wAdd (dVar 9) (dC (.int 5)))) (d2 wMul (dVar 9) (dVar 9))) (dC (.int 26))))))))
    (dSeq (dSet 7 (d2 wIx (dS wLst (aCons (dC (.int 1)) (aCons (dC (.int 3)) (aCons (dC (.int 5)) (aCons (dC (.int 7)) (aCons (dC (.int 9)) (aCons (dC (.int 11)) aNil))))))) (d2 wMod (d2 wFdv (dVar 3) (dC (.int 144))) (dC (.int 6)))))
    (dSeq (dSet 8 (dS wLst aNil))
    (dSeq (dFor (iOfN rng1 (aCons (dVar 1) aNil)) (asg 9)
    b1__law_names)
    (dRet (dVar 8))))))))))
def F__law_names : PF := runF [false, false] 11 (d__law_names)
abbrev s__law_wild : Stmt := top 10
theorem sc__law_wild : FnScope ["_law_names_here", "_law_purse", "_law_down", "_law_digit", "_law_parts", "_law_k"] ["_law_names_here", "_law_purse", "_law_down"] (defScope s__law_wild) := ⟨rfl, rfl, rfl, by decide +kernel, rfl, by decide +kernel, by decide +kernel⟩
def b1__law_wild (R : PF) : DS :=
    (dExpr (dBM isL (mutz shs fAppend) (dVar 4) (aCons (dGiv (dCall [false, true, false] R (aCons (dVar 0) (aCons (dVar 1) (aCons (d2 wSub (dVar 2) (dC (.int 1))) aNil))))) aNil)))
def d__law_wild (R : PF) : DS :=
    (dSeq (dSet 3 (dBM0 isL (mutz shs fPop) (dVar 1)))
    (dSeq (dIf (cOr (cBl (d2 (wEq false) (dVar 2) (dC (.int 0)))) (cBl (d2 (wEq false) (d2 wMod (dVar 3) (dC (.int 5))) (dC (.int 0)))))
    (dRet (dS wTup (aCons (dC (.str "name")) (aCons (d2 wIx (dVar 0) (d2 wMod (d2 wFdv (dVar 3) (dC (.int 5))) (dN wLen (aCons (dVar 0) aNil)))) aNil))))
    dSkip)
    (dSeq (dSet 4 (dS wLst aNil))
    (dSeq (dFor (iOfN rng1 (aCons (d2 wIx (dS wLst (aCons (dC (.int 0)) (aCons (dC (.int 1)) (aCons (dC (.int 2)) (aCons (dC (.int 3)) (aCons (dC (.int 1)) (aCons (dC (.int 2)) aNil))))))) (d2 wMod (d2 wFdv (dVar 3) (dC (.int 5))) (dC (.int 6)))) aNil)) (asg 5)
    (b1__law_wild R))
    (dRet (dS wTup (aCons (d2 wIx (dS wLst (aCons (dC (.str "make")) (aCons (dC (.str "call")) aNil))) (d2 wMod (d2 wFdv (dVar 3) (dC (.int 30))) (dC (.int 2)))) (aCons (d2 wIx (dVar 0) (d2 wMod (d2 wFdv (dVar 3) (dC (.int 60))) (dN wLen (aCons (dVar 0) aNil)))) (aCons (dN wTuple (aCons (dVar 4) aNil)) aNil)))))))))
def F__law_wild : Nat → PF
  | 0 => fun _ => .stk
  | k + 1 => runF [false, true, false] 6 (d__law_wild (F__law_wild k))
abbrev s__law_spots : Stmt := top 11
theorem sc__law_spots : FnScope ["_law_expression", "_law_got", "_law_k", "_law_one"] ["_law_expression"] (defScope s__law_spots) := ⟨rfl, rfl, rfl, by decide +kernel, rfl, by decide +kernel, by decide +kernel⟩
def b1__law_spots (R : PF) : DS :=
    (dSet 1 (dGiv (d2 wAdd (dVar 1) (dLc [3] (iOf seqD (dGiv (dCall [false] R (aCons (d2 wIx (d2 wIx (dVar 0) (dC (.int 2))) (dVar 2)) aNil)))) (asg 3) cYes (dGiv (d2 wAdd (dS wTup (aCons (dVar 2) aNil)) (dVar 3)))))))
def d__law_spots (R : PF) : DS :=
    (dSeq (dSet 1 (dGiv (dS wLst (aCons (dS wTup aNil) aNil))))
    (dSeq (dIf (cBl (d2 (wEq true) (d2 wIx (dVar 0) (dC (.int 0))) (dC (.str "name"))))
    (dFor (iOfN rng1 (aCons (dN wLen (aCons (d2 wIx (dVar 0) (dC (.int 2))) aNil)) aNil)) (asg 2)
    (b1__law_spots R))
    dSkip)
    (dRet (dVar 1))))
def F__law_spots : Nat → PF
  | 0 => fun _ => .stk
  | k + 1 => runF [false] 4 (d__law_spots (F__law_spots k))
abbrev s__law_standing : Stmt := top 14
theorem sc__law_standing : FnScope ["_law_expression", "_law_got", "_law_place", "_law_one", "_law_at"] ["_law_expression"] (defScope s__law_standing) := ⟨rfl, rfl, rfl, by decide +kernel, rfl, by decide +kernel, by decide +kernel⟩
def b1__law_standing (f__law_spots : PF) : DS :=
    (dSet 3 (d2 wIx (d2 wIx (dVar 3) (dC (.int 2))) (dVar 4)))
def b2__law_standing (f__law_spots : PF) : DS :=
    (dSeq (dSet 3 (dVar 0))
    (dSeq (dFor (iOf seqD (dVar 2)) (asg 4)
    (b1__law_standing f__law_spots))
    (dIf (cAnd (cBl (d2 (wEq false) (d2 wIx (dVar 3) (dC (.int 0))) (dC (.str "name")))) (cBl (d2 (wIn true) (d2 wIx (dVar 3) (dC (.int 1))) (dVar 1))))
    (dExpr (dBM isL (mutz shs fAppend) (dVar 1) (aCons (d2 wIx (dVar 3) (dC (.int 1))) aNil)))
    dSkip)))
def d__law_standing (f__law_spots : PF) : DS :=
    (dSeq (dSet 1 (dS wLst aNil))
    (dSeq (dFor (iOf seqD (dGiv (dN wSortTI (aCons (dCall [false] f__law_spots (aCons (dVar 0) aNil)) aNil)))) (asg 2)
    (b2__law_standing f__law_spots))
    (dRet (dVar 1))))
def F__law_standing : PF := runF [false] 5 (d__law_standing (F__law_spots 12))
abbrev s_arguments_of : Stmt := top 1
theorem sc_arguments_of : FnScope ["expression"] ["expression"] (defScope s_arguments_of) := ⟨rfl, rfl, rfl, by decide +kernel, rfl, by decide +kernel, by decide +kernel⟩
def d_arguments_of : DS :=
    (dSeq (dIf (cBl (d2 (wEq false) (d2 wIx (dVar 0) (dC (.int 0))) (dC (.str "name"))))
    (dRet (dS wTup aNil))
    dSkip)
    (dRet (d2 wIx (dVar 0) (dC (.int 2)))))
def F_arguments_of : PF := runF [false] 1 (d_arguments_of)
abbrev s_gather : Stmt := top 3
theorem sc_gather : FnScope ["expression", "names", "one"] ["expression", "names"] (defScope s_gather) := ⟨rfl, rfl, rfl, by decide +kernel, rfl, by decide +kernel, by decide +kernel⟩
def b1_gather (f_arguments_of R : PF) : DS :=
    (dExpr (dCall [false, true] R (aCons (dVar 2) (aCons (dVar 1) aNil))))
def d_gather (f_arguments_of R : PF) : DS :=
    (dSeq (dIf (cAnd (cBl (d2 (wEq false) (d2 wIx (dVar 0) (dC (.int 0))) (dC (.str "name")))) (cBl (d2 (wIn true) (d2 wIx (dVar 0) (dC (.int 1))) (dVar 1))))
    (dExpr (dBM isL (mutz shs fAppend) (dVar 1) (aCons (d2 wIx (dVar 0) (dC (.int 1))) aNil)))
    dSkip)
    (dFor (iOf seqD (dGiv (dCall [false] f_arguments_of (aCons (dVar 0) aNil)))) (asg 2)
    (b1_gather f_arguments_of R)))
def F_gather : Nat → PF
  | 0 => fun _ => .stk
  | k + 1 => runF [false, true] 3 (d_gather F_arguments_of (F_gather k))
abbrev s_names_in : Stmt := top 4
theorem sc_names_in : FnScope ["expression", "names"] ["expression"] (defScope s_names_in) := ⟨rfl, rfl, rfl, by decide +kernel, rfl, by decide +kernel, by decide +kernel⟩
def d_names_in (f_gather : PF) : DS :=
    (dSeq (dSet 1 (dS wLst aNil))
    (dSeq (dExpr (dCall [false, true] f_gather (aCons (dVar 0) (aCons (dVar 1) aNil))))
    (dRet (dVar 1))))
def F_names_in : PF := runF [false] 2 (d_names_in (F_gather 12))
abbrev s_filled : Stmt := top 2
theorem sc_filled : FnScope ["expression", "put_ins", "word", "name", "arguments", "one"] ["expression", "put_ins"] (defScope s_filled) := ⟨rfl, rfl, rfl, by decide +kernel, rfl, by decide +kernel, by decide +kernel⟩
def d_filled (R : PF) : DS :=
    (dSeq (dIf (cBl (d2 (wEq false) (d2 wIx (dVar 0) (dC (.int 0))) (dC (.str "name"))))
    (dRet (dGet2 (dVar 1) (d2 wIx (dVar 0) (dC (.int 1))) (dVar 0)))
    dSkip)
    (dSeq (dAsg (dVar 0) (gTp 3 (gsCons (asg 2) (gsCons (asg 3) (gsCons (asg 4) gsNil)))))
    (dRet (dS wTup (aCons (dVar 2) (aCons (dVar 3) (aCons (dN wTuple (aCons (dLc [5] (iOf seqD (dVar 4)) (asg 5) cYes (dGiv (dCall [false, false] R (aCons (dVar 5) (aCons (dVar 1) aNil))))) aNil)) aNil)))))))
def F_filled : Nat → PF
  | 0 => fun _ => .stk
  | k + 1 => runF [false, false] 6 (d_filled (F_filled k))
abbrev s__law_cell_at : Stmt := top 6
theorem sc__law_cell_at : FnScope ["_law_script", "_law_k"] ["_law_script", "_law_k"] (defScope s__law_cell_at) := ⟨rfl, rfl, rfl, by decide +kernel, rfl, by decide +kernel, by decide +kernel⟩
def d__law_cell_at : DS :=
    (dSeq (dIf (cBl (d2 wLt (dVar 1) (dN wLen (aCons (dVar 0) aNil))))
    (dRet (d2 wIx (dVar 0) (dVar 1)))
    dSkip)
    (dRet (dC (.int 0))))
def F__law_cell_at : PF := runF [false, false] 2 (d__law_cell_at)
abbrev s__law_digits : Stmt := top 8
theorem sc__law_digits : FnScope ["_law_script", "_law_at", "_law_parts", "_law_drawn", "_law_got", "_law_first", "_law_rest", "_law_k"] ["_law_script", "_law_at", "_law_parts"] (defScope s__law_digits) := ⟨rfl, rfl, rfl, by decide +kernel, rfl, by decide +kernel, by decide +kernel⟩
def b1__law_digits : DS :=
    (dSeq (dSet 5 (d2 wMod (d2 wAdd (d2 wAdd (d2 wMul (dVar 5) (dVar 5)) (dVar 3)) (dVar 7)) (dC (.int 2147483629))))
    (dSeq (dExpr (dBM isL (mutz shs fAppend) (dVar 4) (aCons (d2 wMod (d2 wIx (dS wLst (aCons (dVar 6) (aCons (d2 wMod (d2 wMul (dVar 5) (dVar 5)) (dC (.int 2147483587))) aNil))) (d2 wMod (dVar 3) (dC (.int 2)))) (dC (.int 1000003))) aNil)))
    (dSet 6 (d2 wFdv (dVar 6) (dC (.int 1000003))))))
def d__law_digits : DS :=
    (dSeq (dSet 3 (dN wSum (aCons (dLc [7] (iOfN rng3 (aCons (dVar 1) (aCons (dN wMin (aCons (dN wLen (aCons (dVar 0) aNil)) (aCons (dC (.int 63)) aNil))) (aCons (dVar 2) aNil)))) (asg 7) cYes (dGiv (d2 wIx (dVar 0) (dVar 7)))) aNil)))
    (dSeq (dSet 4 (dS wLst aNil))
    (dSeq (dSet 5 (d2 wMod (dVar 3) (dC (.int 2147483629))))
    (dSeq (dSet 6 (d2 wFdv (dVar 3) (dC (.int 2))))
    (dSeq (dFor (iOfN rng1 (aCons (dC (.int 150)) aNil)) (asg 7)
    b1__law_digits)
    (dRet (d1 wRev (dVar 4))))))))
def F__law_digits : PF := runF [false, false, false] 8 (d__law_digits)
abbrev s__law_shape : Stmt := top 12
theorem sc__law_shape : FnScope ["_law_got", "_law_one"] ["_law_got"] (defScope s__law_shape) := ⟨rfl, rfl, rfl, by decide +kernel, rfl, by decide +kernel, by decide +kernel⟩
def d__law_shape (R : PF) : DS :=
    (dSeq (dIf (cOr (cNot (cTru (d1 (wIsi .tup) (dVar 0)))) (cOr (cBl (d2 wLt (dN wLen (aCons (dVar 0) aNil)) (dC (.int 2)))) (cBl (d2 (wEq true) (dLc [1] (iOf seqD (dGiv (dSl (dVar 0) oNone (oSome (dC (.int 2)))))) (asg 1) (cNot (cTru (d1 (wIsi .str) (dVar 1)))) (dGiv (dVar 1))) (dS wLst aNil)))))
    (dRet (dC (.bl false)))
    dSkip)
    (dSeq (dIf (cBl (d2 (wEq false) (d2 wIx (dVar 0) (dC (.int 0))) (dC (.str "name"))))
    (dRet (d2 (wEq false) (dN wLen (aCons (dVar 0) aNil)) (dC (.int 2))))
    dSkip)
    (dSeq (dIf (cOr (cBl (d2 (wEq true) (dN wLen (aCons (dVar 0) aNil)) (dC (.int 3)))) (cNot (cTru (d1 (wIsi .tup) (d2 wIx (dVar 0) (dC (.int 2)))))))
    (dRet (dC (.bl false)))
    dSkip)
    (dRet (d2 (wEq false) (dLc [1] (iOf seqD (d2 wIx (dVar 0) (dC (.int 2)))) (asg 1) (cNot (cTru (dCall [false] R (aCons (dVar 1) aNil)))) (dGiv (dVar 1))) (dS wLst aNil))))))
def F__law_shape : Nat → PF
  | 0 => fun _ => .stk
  | k + 1 => runF [false] 2 (d__law_shape (F__law_shape k))
abbrev s__law_filled : Stmt := top 13
theorem sc__law_filled : FnScope ["_law_expression", "_law_puts", "_law_name", "_law_one"] ["_law_expression", "_law_puts"] (defScope s__law_filled) := ⟨rfl, rfl, rfl, by decide +kernel, rfl, by decide +kernel, by decide +kernel⟩
def b1__law_filled (R : PF) : DS :=
    (dIf (cBl (d2 (wEq false) (dVar 2) (d2 wIx (dVar 0) (dC (.int 1)))))
    (dRet (d2 wIx (dVar 1) (dVar 2)))
    dSkip)
def d__law_filled (R : PF) : DS :=
    (dSeq (dIf (cBl (d2 (wEq false) (d2 wIx (dVar 0) (dC (.int 0))) (dC (.str "name"))))
    (dSeq (dForK 1 (asg 2)
    (b1__law_filled R))
    (dRet (dVar 0)))
    dSkip)
    (dRet (dS wTup (aCons (d2 wIx (dVar 0) (dC (.int 0))) (aCons (d2 wIx (dVar 0) (dC (.int 1))) (aCons (dN wTuple (aCons (dLc [3] (iOf seqD (d2 wIx (dVar 0) (dC (.int 2)))) (asg 3) cYes (dGiv (dCall [false, false] R (aCons (dVar 3) (aCons (dVar 1) aNil))))) aNil)) aNil))))))
def F__law_filled : Nat → PF
  | 0 => fun _ => .stk
  | k + 1 => runF [false, false] 4 (d__law_filled (F__law_filled k))
abbrev s_law : Stmt := top 15
theorem sc_law : FnScope ["_law_script", "_law_names_here", "_law_flat", "_law_expression", "_law_puts", "_law_k", "_law_due", "_law_handed", "_law_told", "_law_made", "_law_own", "_law_name", "_law_purse"] ["_law_script"] (defScope s_law) := ⟨rfl, rfl, rfl, by decide +kernel, rfl, by decide +kernel, by decide +kernel⟩
def b1_law (f__law_names f__law_wild f__law_standing f_names_in f_filled f__law_cell_at f__law_digits f__law_shape f__law_filled : PF) : DS :=
    (dSeq (dSet 12 (dCall [false, false, false] f__law_digits (aCons (dVar 0) (aCons (dVar 5) (aCons (dC (.int 7)) aNil)))))
    (dIf (cBl (d2 wGt (d2 wMod (dBM0 isL (mutz shs fPop) (dVar 12)) (dC (.int 3))) (dC (.int 0))))
    (dAsg (dGiv (dCall [false, true, false] f__law_wild (aCons (dVar 1) (aCons (dVar 12) (aCons (d2 wAdd (dC (.int 1)) (dVar 2)) aNil))))) (gSub (dVar 4) (d2 wIx (dVar 1) (d2 wMod (d2 wAdd (dVar 5) (dC (.int 2))) (dC (.int 6))))))
    dSkip))
def b2_law (f__law_names f__law_wild f__law_standing f_names_in f_filled f__law_cell_at f__law_digits f__law_shape f__law_filled : PF) : DS :=
    (dAsg (dS wTup (aCons (dC (.str "name")) (aCons (dVar 11) aNil))) (gSub (dVar 10) (dVar 11)))
def d_law (f__law_names f__law_wild f__law_standing f_names_in f_filled f__law_cell_at f__law_digits f__law_shape f__law_filled : PF) : DS :=
    (dSeq (dSet 1 (dGiv (dCall [false, false] f__law_names (aCons (dGiv (dCall [false, false] f__law_cell_at (aCons (dVar 0) (aCons (dC (.int 0)) aNil)))) (aCons (dC (.int 6)) aNil)))))
    (dSeq (dSet 2 (d2 wMod (dCall [false, false] f__law_cell_at (aCons (dVar 0) (aCons (dC (.int 2)) aNil))) (dC (.int 2))))
    (dSeq (dSet 3 (dGiv (dCall [false, true, false] f__law_wild (aCons (dGiv (dSl (dVar 1) oNone (oSome (dC (.int 5))))) (aCons (dCall [false, false, false] f__law_digits (aCons (dVar 0) (aCons (dC (.int 1)) (aCons (dC (.int 3)) aNil)))) (aCons (d2 wSub (dC (.int 3)) (dVar 2)) aNil))))))
    (dSeq (dSet 4 dDict)
    (dSeq (dFor (iOfN rng1 (aCons (dC (.int 6)) aNil)) (asg 5)
    (b1_law f__law_names f__law_wild f__law_standing f_names_in f_filled f__law_cell_at f__law_digits f__law_shape f__law_filled))
    (dSeq (dSet 6 (dGiv (dCall [false] f__law_standing (aCons (dVar 3) aNil))))
    (dSeq (dSet 7 (dGiv (dN wDict (aCons (dVar 4) aNil))))
    (dSeq (dSet 8 (dCall [false] f_names_in (aCons (dVar 3) aNil)))
    (dSeq (dIf (cOr (cNot (cTru (d1 (wIsi .lst) (dVar 8)))) (cBl (d2 (wEq true) (dVar 8) (dVar 6))))
    (dRet (dC (.bl false)))
    dSkip)
    (dSeq (dExpr (dBM isL (mutz shs fAppend) (dVar 8) (aCons (dC (.str "z")) aNil)))
    (dSeq (dSet 9 (dGiv (dCall [false, false] f_filled (aCons (dVar 3) (aCons (dVar 7) aNil)))))
    (dSeq (dIf (cOr (cNot (cTru (dCall [false] f__law_shape (aCons (dVar 9) aNil)))) (cOr (cBl (d2 (wEq true) (dVar 9) (dCall [false, false] f__law_filled (aCons (dVar 3) (aCons (dGiv (dVar 4)) aNil))))) (cBl (d2 (wEqD true) (dVar 7) (dVar 4)))))
    (dRet (dC (.bl false)))
    dSkip)
    (dSeq (dSet 10 dDict)
    (dSeq (dFor (iOf seqD (dVar 1)) (asg 11)
    (b2_law f__law_names f__law_wild f__law_standing f_names_in f_filled f__law_cell_at f__law_digits f__law_shape f__law_filled))
    (dSeq (dIf (cOr (cBl (d2 (wEq true) (dCall [false, false] f_filled (aCons (dVar 3) (aCons (dGiv dDict) aNil))) (dVar 3))) (cBl (d2 (wEq true) (dCall [false, false] f_filled (aCons (dVar 3) (aCons (dGiv (dVar 10)) aNil))) (dVar 3))))
    (dRet (dC (.bl false)))
    dSkip)
    (dRet (d2 (wEq false) (dCall [false] f_names_in (aCons (dVar 3) aNil)) (dVar 6))))))))))))))))))
def F_law : PF := runF [false] 13 (d_law F__law_names (F__law_wild 12) F__law_standing F_names_in (F_filled 12) F__law_cell_at F__law_digits (F__law_shape 12) (F__law_filled 12))
end Lk32

set_option Elab.async false
set_option linter.all false
set_option maxRecDepth 100000
set_option maxHeartbeats 4000000
namespace Lk32
open PySem L2 V
/-! names -/
def nmM (c : Int) : Int := (c * c + c + 1) * 982451653
def nmW (m : Int) : Nat := (1 + m % 12).toNat
def nmT (m : Int) : Nat := (m / 12 % (nmW m : Int)).toNat
def nmC (m : Int) : List Nat := (List.range (nmW m)).map fun k : Nat => 97 + ((m / ((k : Int) + 5) + (k : Int) * k) % 26).toNat
def nmP (m : Int) : Int := match m / 144 % 6 with
  | 0 => 1
  | 1 => 3
  | 2 => 5
  | 3 => 7
  | 4 => 9
  | _ => 11
def nmL (m : Int) (k : Nat) : Nat := 97 + ((m / 864 + (k : Int) * nmP m) % 26).toNat
def nmS (m : Int) (k : Nat) : Str :=
  if m / 900 % 3 = 1 then mkS (List.replicate (((k : Int) + m / 7) % 12 + 1).toNat ((nmC m).headD 0))
  else mkS ((nmC m).take (nmT m) ++ [nmL m k] ++ (nmC m).drop (nmT m + 1))
theorem nmW_b (m : Int) : 1 ≤ nmW m ∧ nmW m ≤ 12 ∧ (nmW m : Int) = 1 + m % 12 := by unfold nmW; omega
theorem nmT_b (m : Int) : nmT m < nmW m ∧ (nmT m : Int) = m / 12 % (nmW m : Int) := by
  have h := nmW_b m
  unfold nmT
  have h1 : 0 ≤ m / 12 % (nmW m : Int) := Int.emod_nonneg _ (by omega)
  have h2 : m / 12 % (nmW m : Int) < nmW m := Int.emod_lt_of_pos _ (by omega)
  omega
theorem nmC_len (m : Int) : (nmC m).length = nmW m := by simp [nmC]
theorem nmC_lt (m : Int) : ∀ c ∈ nmC m, Lt c := by
  intro c hc
  obtain ⟨k, _, rfl⟩ := List.mem_map.mp hc
  unfold Lt
  omega
theorem nmL_lt (m : Int) (k : Nat) : Lt (nmL m k) := by unfold nmL Lt; omega
theorem nmS_nm (m : Int) (k : Nat) : Nm (nmS m k) := by
  have hw := nmW_b m
  have ht := nmT_b m
  have hl := nmC_len m
  unfold nmS
  split
  · have h0 : (nmC m).headD 0 ∈ nmC m := by
      cases h : nmC m with
      | nil => rw [h] at hl; simp at hl; omega
      | cons a l => simp
    refine ⟨by rw [mkS_len, List.length_replicate]; omega, by rw [mkS_len, List.length_replicate]; omega, fun c hc => ?_⟩
    rw [mkS_cps] at hc
    rw [List.eq_of_mem_replicate hc]
    exact nmC_lt m _ h0
  · have hlen : ((nmC m).take (nmT m) ++ [nmL m k] ++ (nmC m).drop (nmT m + 1)).length = nmW m := by
      simp only [List.length_append, List.length_take, List.length_drop, List.length_cons, List.length_nil, hl]
      omega
    refine ⟨by rw [mkS_len, hlen]; omega, by rw [mkS_len, hlen]; omega, fun c hc => ?_⟩
    rw [mkS_cps] at hc
    rcases List.mem_append.mp hc with hc | hc
    · rcases List.mem_append.mp hc with hc | hc
      · exact nmC_lt m _ (List.mem_of_mem_take hc)
      · rw [List.mem_singleton.mp hc]; exact nmL_lt m k
    · exact nmC_lt m _ (List.mem_of_mem_drop hc)
theorem nmP_mem (m : Int) : nmP m = 1 ∨ nmP m = 3 ∨ nmP m = 5 ∨ nmP m = 7 ∨ nmP m = 9 ∨ nmP m = 11 := by
  unfold nmP
  split <;> simp
theorem nmS_inj (m : Int) {j k : Nat} (hj : j < 12) (hk : k < 12) (h : nmS m j = nmS m k) : j = k := by
  have hl := nmC_len m
  have ht := nmT_b m
  unfold nmS at h
  split at h
  · have h1 := congrArg List.length (mkS_inj h)
    rw [List.length_replicate, List.length_replicate] at h1
    omega
  · have h1 := mkS_inj h
    rw [List.append_assoc, List.append_assoc] at h1
    have h2 := List.append_cancel_left h1
    have h3 : nmL m j = nmL m k := (List.cons.inj h2).1
    unfold nmL at h3
    rcases nmP_mem m with e | e | e | e | e | e <;> rw [e] at h3 <;> omega
def nms (c : Int) (n : Nat) : List Str := (List.range n).map (nmS (nmM c))
theorem nms_len (c : Int) (n : Nat) : (nms c n).length = n := by simp [nms]
theorem nms_nm (c : Int) (n : Nat) : ∀ s ∈ nms c n, Nm s := by
  intro s hs
  obtain ⟨k, _, rfl⟩ := List.mem_map.mp hs
  exact nmS_nm _ _
theorem nms_nodup (c : Int) {n : Nat} (hn : n ≤ 12) : (nms c n).Nodup := by
  unfold nms
  rw [List.nodup_iff_pairwise_ne, List.pairwise_map]
  refine (List.pairwise_lt_range (n := n)).imp_of_mem fun {a b} ha hb hab h => ?_
  rw [List.mem_range] at ha hb
  have := nmS_inj _ (by omega) (by omega) h
  omega
theorem pds_str (l : List Nat) : (l.map fun c => D.str (mkS [c])) = (l.map fun c => mkS [c]).map .str := by rw [List.map_map]; rfl
theorem e_names {c : Int} {n : Nat} (hc : Bd 1048576 c) (hn : n ≤ 12) : F__law_names [.sh (.int c), .sh (.int n)] = .ok (.ow (.lst ((nms c n).map .str))) [] := by
  have bc := hc.mul hc
  have x1 : Bd 2097153 (c * c + c) := Bd.add (b := 2097152) (bc.mono (by omega)) (hc.mono (by omega))
  have x2 : Bd 2097154 (c * c + c + 1) := Bd.add (b := 2097153) x1 (Bd.mono (bd_lit (b := 1) (n := 1) (by omega)) (by omega))
  have b0 : Bd 30 (982451653 : Int) := bd_lit (b := 30) (n := 982451653) (by omega)
  refine FrK.eq ?_
  unfold F__law_names d__law_names
  simp -implicitDefEqProofs only [↓k_some, ↓an_some, ↓g_0, ↓g_s, ↓s_0, ↓s_s, ↓td_sh, ↓td_ow, ↓td_lo, ↓rd_v, ↓rd_al, ↓rds_nil, ↓rds_cons, ↓shs_nil, ↓shs_v, ↓shk, ↓shs_al, ↓gt_v, ↓gt_al, ↓if_tt, ↓if_ff, ↓w_ret, ↓w_stk, ↓w_rse, ↓w_bnd, ↓nz_sh, ↓nz_ow, ↓nz_lo, ↓nz_ob, ↓nz_lb, ↓w_var, ↓w_c, ↓w_ans, ↓w_rd, ↓w_rds, ↓w_d2, ↓w_d1, ↓w_dN, ↓w_dS, ↓w_nil, ↓w_cons, ↓gv_sh, ↓gv_ow, ↓gv_ob, ↓fg_nil, ↓gi_v, ↓gi_al, ↓w_giv, ↓w_rdO, ↓w_opT, ↓w_tru, ↓w_bl, ↓bl_d, ↓w_not, ↓w_if, ↓w_and, ↓w_or, ↓w_dNot, ↓w_dAnd, ↓w_dOr, ↓w_oNone, ↓w_oSome, ↓o_int, ↓w_sl, ↓sq_nx, ↓sq_rt, ↓sq_bk, ↓sq_ct, ↓w_seq, ↓w_skip, ↓w_dret, ↓w_retN, ↓w_expr, ↓w_dif, ↓w_brk, ↓w_raise, ↓w_dasg, ↓w_dset, ↓al_sh, ↓al_lo, ↓al_lb, ↓w_asg_v, ↓w_asg_al, ↓w_gsNil, ↓w_gsCons, ↓tp_k, ↓w_gTp, ↓w_for, ↓w_loop_nil, ↓tn_nx, ↓tn_ct, ↓tn_bk, ↓tn_rt, ↓w_iOf, ↓w_iOfN, ↓seq_tup, ↓seq_lst, ↓seq_scr, ↓w_lc, ↓wipe_nil, ↓it_k, ↓w_yes, ↓fr_ok, ↓fr_ex, ↓ms_t, ↓ms_f, ↓ms_n, ↓out_nx, ↓out_v, ↓out_al, ↓mu_nil, ↓mu_t, ↓mu_f, ↓fr_run, ↓st_e, ↓lt_sh, ↓lt_ow, ↓lt_lo, ↓lt_ob, ↓lt_lb, ↓ot_ow, ↓ot_ob, ↓le_nil, ↓le_f, ↓le_t, ↓alf_nil, ↓alf_nil2, ↓alf_v, ↓alf_ff, ↓alf_al, ↓oa_nil, ↓oa_v, ↓oa_al, ↓okr_sh, ↓okr_no, ↓okr_ow, ↓okr_sh1, ↓okr_no1, ↓okr_ow1, ↓okr_sh2, ↓pu_nil, ↓pu_f, ↓pu_al, ↓pu_v, ↓w_call, ↓w_dcall, ↓w_dmeth, ↓mk_k, ↓mk_x, ↓w_make, ↓w_dmake, ↓w_chk_v, ↓w_dBM, ↓w_dBM0, ↓isl_n, ↓isk_n, ↓isl_1, ↓isl_2, ↓isl_3, ↓isl_4, ↓isk_1, ↓isk_2, ↓isk_3, ↓isk_4, ↓isk_5, ↓isk_6, ↓ow_k, ↓w_mutS, ↓w_mutR, ↓f_app, ↓f_pop, ↓f_ext, ↓f_extT, ↓w_rdm, ↓str_k, ↓w_isStr, ↓w_strM, ↓w_fld, ↓ft_sh, ↓ft_ow, ↓ft_lo, ↓fa_sh, ↓fa_lo, ↓ft_al, ↓ob_k, ↓w_setFld, ↓w_fldSet, ↓w_setZ, ↓w_gSub, ↓fow_k, ↓w_gFSub, ↓int_k, ↓w_aug, ↓ch_t, ↓ch_f, ↓w_catch, ↓w_try, ↓w_tryKeep, ↓w_give, ↓w_no, ↓w_dict, ↓w_dictT, ↓w_chain, ↓is_b, ↓w_get2, ↓gz_s, ↓gz_n, ↓w_getZ, ↓o_addI, ↓o_addS, ↓o_addT, ↓o_addL, ↓o_sub, ↓o_mulI, ↓o_mulS, ↓o_mulL, ↓o_fdv, ↓o_mod, ↓o_neg, ↓o_lt, ↓o_le, ↓o_gt, ↓o_ge, ↓b_lt, ↓b_le, ↓o_is, ↓isn_t, ↓isn_1, ↓isn_2, ↓isn_3, ↓isn_4, ↓isn_5, ↓o_eqI, ↓o_eqS, ↓o_ixT, ↓o_ixL, ↓o_ixC, ↓o_ixS, ↓o_ixD, ↓o_slS, ↓o_slT, ↓o_slL, ↓o_slC, ↓o_inD, ↓o_tup, ↓o_lst, ↓o_lenT, ↓o_lenL, ↓o_lenC, ↓o_lenD, ↓o_lenS, ↓o_min, ↓o_max, ↓o_intI, ↓o_intB, ↓o_listT, ↓o_listL, ↓o_listC, ↓o_tupleT, ↓o_tupleL, ↓o_dict, ↓o_rev, ↓o_revT, ↓o_isi, ↓ty_1, ↓ty_2, ↓ty_3, ↓ty_4, ↓ty_5, ↓ty_6, ↓ty_7, ↓tr_b, ↓tr_n, ↓tr_i, ↓tr_t, ↓tr_l, w_chk_al isl_n, w_chk_al isk_n, Bool.false_eq_true, if_true, if_false, true_and, and_true, Bool.bne_false, Bool.bne_true, Bool.not_true, Bool.not_false, decide_true, decide_false, Bool.and_true, Bool.true_and, Bool.or_false, Bool.false_or, Bool.or_true, Bool.true_or, Bool.and_false, Bool.false_and, Bool.or_self, Bool.and_self, List.getElem?_cons_zero, List.getElem?_cons_succ, List.getElem?_nil, List.length_cons, List.length_nil, List.cons_append, List.nil_append, Nat.reduceAdd, Nat.reduceSub, List.replicate_succ, List.replicate_zero, Nat.reduceEqDiff, Int.reduceEq, Int.reduceLT, Int.reduceLE, Nat.reduceLT, Nat.reduceLeDiff, reduceCtorEq, Nat.zero_add]
  have em : (c * c + c + 1) * 982451653 = nmM c := rfl
  simp only [em]
  generalize hm : nmM c = m
  have hw := nmW_b m
  have ht := nmT_b m
  rw [← hw.2.2, ← ht.2]
  refine ⟨ml hc hc (by omega), ml x2 b0 (by omega), dv (by omega) (by omega), by omega, ?_⟩
  rw [rng1_ok (by omega), k_some]
  refine wp_allR (fun k => D.str (mkS [97 + ((m / ((k : Int) + 5) + (k : Int) * k) % 26).toNat])) (by omega) ?_ ?_
  · intro k hk
    have bk : Bd 10 (k : Int) := bd_lit (b := 10) (n := k) (by omega)
    have h1 : mlOk (k : Int) k = true := ml bk bk (by omega)
    have h2 : dvOk ((k : Int) + 5) = true := dv (by omega) (by omega)
    have h3 := ix_letter (i := (m / ((k : Int) + 5) + (k : Int) * k) % 26) (Int.emod_nonneg _ (by omega)) (Int.emod_lt_of_pos _ (by omega))
    simp -implicitDefEqProofs only [wipeE, List.set_cons_succ, List.set_cons_zero, ↓k_some, ↓an_some, ↓g_0, ↓g_s, ↓s_0, ↓s_s, ↓td_sh, ↓td_ow, ↓td_lo, ↓rd_v, ↓rd_al, ↓rds_nil, ↓rds_cons, ↓shs_nil, ↓shs_v, ↓shk, ↓shs_al, ↓gt_v, ↓gt_al, ↓if_tt, ↓if_ff, ↓w_ret, ↓w_stk, ↓w_rse, ↓w_bnd, ↓nz_sh, ↓nz_ow, ↓nz_lo, ↓nz_ob, ↓nz_lb, ↓w_var, ↓w_c, ↓w_ans, ↓w_rd, ↓w_rds, ↓w_d2, ↓w_d1, ↓w_dN, ↓w_dS, ↓w_nil, ↓w_cons, ↓gv_sh, ↓gv_ow, ↓gv_ob, ↓fg_nil, ↓gi_v, ↓gi_al, ↓w_giv, ↓w_rdO, ↓w_opT, ↓w_tru, ↓w_bl, ↓bl_d, ↓w_not, ↓w_if, ↓w_and, ↓w_or, ↓w_dNot, ↓w_dAnd, ↓w_dOr, ↓w_oNone, ↓w_oSome, ↓o_int, ↓w_sl, ↓sq_nx, ↓sq_rt, ↓sq_bk, ↓sq_ct, ↓w_seq, ↓w_skip, ↓w_dret, ↓w_retN, ↓w_expr, ↓w_dif, ↓w_brk, ↓w_raise, ↓w_dasg, ↓w_dset, ↓al_sh, ↓al_lo, ↓al_lb, ↓w_asg_v, ↓w_asg_al, ↓w_gsNil, ↓w_gsCons, ↓tp_k, ↓w_gTp, ↓w_for, ↓w_loop_nil, ↓tn_nx, ↓tn_ct, ↓tn_bk, ↓tn_rt, ↓w_iOf, ↓w_iOfN, ↓seq_tup, ↓seq_lst, ↓seq_scr, ↓w_lc, ↓wipe_nil, ↓it_k, ↓w_yes, ↓fr_ok, ↓fr_ex, ↓ms_t, ↓ms_f, ↓ms_n, ↓out_nx, ↓out_v, ↓out_al, ↓mu_nil, ↓mu_t, ↓mu_f, ↓fr_run, ↓st_e, ↓lt_sh, ↓lt_ow, ↓lt_lo, ↓lt_ob, ↓lt_lb, ↓ot_ow, ↓ot_ob, ↓le_nil, ↓le_f, ↓le_t, ↓alf_nil, ↓alf_nil2, ↓alf_v, ↓alf_ff, ↓alf_al, ↓oa_nil, ↓oa_v, ↓oa_al, ↓okr_sh, ↓okr_no, ↓okr_ow, ↓okr_sh1, ↓okr_no1, ↓okr_ow1, ↓okr_sh2, ↓pu_nil, ↓pu_f, ↓pu_al, ↓pu_v, ↓w_call, ↓w_dcall, ↓w_dmeth, ↓mk_k, ↓mk_x, ↓w_make, ↓w_dmake, ↓w_chk_v, ↓w_dBM, ↓w_dBM0, ↓isl_n, ↓isk_n, ↓isl_1, ↓isl_2, ↓isl_3, ↓isl_4, ↓isk_1, ↓isk_2, ↓isk_3, ↓isk_4, ↓isk_5, ↓isk_6, ↓ow_k, ↓w_mutS, ↓w_mutR, ↓f_app, ↓f_pop, ↓f_ext, ↓f_extT, ↓w_rdm, ↓str_k, ↓w_isStr, ↓w_strM, ↓w_fld, ↓ft_sh, ↓ft_ow, ↓ft_lo, ↓fa_sh, ↓fa_lo, ↓ft_al, ↓ob_k, ↓w_setFld, ↓w_fldSet, ↓w_setZ, ↓w_gSub, ↓fow_k, ↓w_gFSub, ↓int_k, ↓w_aug, ↓ch_t, ↓ch_f, ↓w_catch, ↓w_try, ↓w_tryKeep, ↓w_give, ↓w_no, ↓w_dict, ↓w_dictT, ↓w_chain, ↓is_b, ↓w_get2, ↓gz_s, ↓gz_n, ↓w_getZ, ↓o_addI, ↓o_addS, ↓o_addT, ↓o_addL, ↓o_sub, ↓o_mulI, ↓o_mulS, ↓o_mulL, ↓o_fdv, ↓o_mod, ↓o_neg, ↓o_lt, ↓o_le, ↓o_gt, ↓o_ge, ↓b_lt, ↓b_le, ↓o_is, ↓isn_t, ↓isn_1, ↓isn_2, ↓isn_3, ↓isn_4, ↓isn_5, ↓o_eqI, ↓o_eqS, ↓o_ixT, ↓o_ixL, ↓o_ixC, ↓o_ixS, ↓o_ixD, ↓o_slS, ↓o_slT, ↓o_slL, ↓o_slC, ↓o_inD, ↓o_tup, ↓o_lst, ↓o_lenT, ↓o_lenL, ↓o_lenC, ↓o_lenD, ↓o_lenS, ↓o_min, ↓o_max, ↓o_intI, ↓o_intB, ↓o_listT, ↓o_listL, ↓o_listC, ↓o_tupleT, ↓o_tupleL, ↓o_dict, ↓o_rev, ↓o_revT, ↓o_isi, ↓ty_1, ↓ty_2, ↓ty_3, ↓ty_4, ↓ty_5, ↓ty_6, ↓ty_7, ↓tr_b, ↓tr_n, ↓tr_i, ↓tr_t, ↓tr_l, w_chk_al isl_n, w_chk_al isk_n, Bool.false_eq_true, if_true, if_false, true_and, and_true, Bool.bne_false, Bool.bne_true, Bool.not_true, Bool.not_false, decide_true, decide_false, Bool.and_true, Bool.true_and, Bool.or_false, Bool.false_or, Bool.or_true, Bool.true_or, Bool.and_false, Bool.false_and, Bool.or_self, Bool.and_self, List.getElem?_cons_zero, List.getElem?_cons_succ, List.getElem?_nil, List.length_cons, List.length_nil, List.cons_append, List.nil_append, Nat.reduceAdd, Nat.reduceSub, List.replicate_succ, List.replicate_zero, Nat.reduceEqDiff, Int.reduceEq, Int.reduceLT, Int.reduceLE, Nat.reduceLT, Nat.reduceLeDiff, reduceCtorEq, Nat.zero_add, h1, h2, h3]
  · have e1 : (List.range (nmW m)).map (fun k : Nat => D.str (mkS [97 + ((m / ((k : Int) + 5) + (k : Int) * k) % 26).toNat])) = ((nmC m).map fun c => mkS [c]).map .str := by
      rw [List.map_map, nmC, List.map_map]
      rfl
    have e2 : atI [D.int 1, .int 3, .int 5, .int 7, .int 9, .int 11] (m / 144 % 6) = some (.int (nmP m)) := by
      have : m / 144 % 6 = 0 ∨ m / 144 % 6 = 1 ∨ m / 144 % 6 = 2 ∨ m / 144 % 6 = 3 ∨ m / 144 % 6 = 4 ∨ m / 144 % 6 = 5 := by omega
      unfold nmP
      rcases this with h | h | h | h | h | h <;> rw [h] <;> rfl
    have e3 := rng1_ok (n := n) (by omega)
    have d1 : dvOk 144 = true := dv (by omega) (by omega)
    have d2 : dvOk 864 = true := dv (by omega) (by omega)
    have d3 : dvOk 900 = true := dv (by omega) (by omega)
    have d4 : dvOk 7 = true := dv (by omega) (by omega)
    rw [e1]
    generalize hb : (nmC m).map (fun c => mkS [c]) = bs
    simp -implicitDefEqProofs only [wipeE, List.set_cons_succ, List.set_cons_zero, ↓k_some, ↓an_some, ↓g_0, ↓g_s, ↓s_0, ↓s_s, ↓td_sh, ↓td_ow, ↓td_lo, ↓rd_v, ↓rd_al, ↓rds_nil, ↓rds_cons, ↓shs_nil, ↓shs_v, ↓shk, ↓shs_al, ↓gt_v, ↓gt_al, ↓if_tt, ↓if_ff, ↓w_ret, ↓w_stk, ↓w_rse, ↓w_bnd, ↓nz_sh, ↓nz_ow, ↓nz_lo, ↓nz_ob, ↓nz_lb, ↓w_var, ↓w_c, ↓w_ans, ↓w_rd, ↓w_rds, ↓w_d2, ↓w_d1, ↓w_dN, ↓w_dS, ↓w_nil, ↓w_cons, ↓gv_sh, ↓gv_ow, ↓gv_ob, ↓fg_nil, ↓gi_v, ↓gi_al, ↓w_giv, ↓w_rdO, ↓w_opT, ↓w_tru, ↓w_bl, ↓bl_d, ↓w_not, ↓w_if, ↓w_and, ↓w_or, ↓w_dNot, ↓w_dAnd, ↓w_dOr, ↓w_oNone, ↓w_oSome, ↓o_int, ↓w_sl, ↓sq_nx, ↓sq_rt, ↓sq_bk, ↓sq_ct, ↓w_seq, ↓w_skip, ↓w_dret, ↓w_retN, ↓w_expr, ↓w_dif, ↓w_brk, ↓w_raise, ↓w_dasg, ↓w_dset, ↓al_sh, ↓al_lo, ↓al_lb, ↓w_asg_v, ↓w_asg_al, ↓w_gsNil, ↓w_gsCons, ↓tp_k, ↓w_gTp, ↓w_for, ↓w_loop_nil, ↓tn_nx, ↓tn_ct, ↓tn_bk, ↓tn_rt, ↓w_iOf, ↓w_iOfN, ↓seq_tup, ↓seq_lst, ↓seq_scr, ↓w_lc, ↓wipe_nil, ↓it_k, ↓w_yes, ↓fr_ok, ↓fr_ex, ↓ms_t, ↓ms_f, ↓ms_n, ↓out_nx, ↓out_v, ↓out_al, ↓mu_nil, ↓mu_t, ↓mu_f, ↓fr_run, ↓st_e, ↓lt_sh, ↓lt_ow, ↓lt_lo, ↓lt_ob, ↓lt_lb, ↓ot_ow, ↓ot_ob, ↓le_nil, ↓le_f, ↓le_t, ↓alf_nil, ↓alf_nil2, ↓alf_v, ↓alf_ff, ↓alf_al, ↓oa_nil, ↓oa_v, ↓oa_al, ↓okr_sh, ↓okr_no, ↓okr_ow, ↓okr_sh1, ↓okr_no1, ↓okr_ow1, ↓okr_sh2, ↓pu_nil, ↓pu_f, ↓pu_al, ↓pu_v, ↓w_call, ↓w_dcall, ↓w_dmeth, ↓mk_k, ↓mk_x, ↓w_make, ↓w_dmake, ↓w_chk_v, ↓w_dBM, ↓w_dBM0, ↓isl_n, ↓isk_n, ↓isl_1, ↓isl_2, ↓isl_3, ↓isl_4, ↓isk_1, ↓isk_2, ↓isk_3, ↓isk_4, ↓isk_5, ↓isk_6, ↓ow_k, ↓w_mutS, ↓w_mutR, ↓f_app, ↓f_pop, ↓f_ext, ↓f_extT, ↓w_rdm, ↓str_k, ↓w_isStr, ↓w_strM, ↓w_fld, ↓ft_sh, ↓ft_ow, ↓ft_lo, ↓fa_sh, ↓fa_lo, ↓ft_al, ↓ob_k, ↓w_setFld, ↓w_fldSet, ↓w_setZ, ↓w_gSub, ↓fow_k, ↓w_gFSub, ↓int_k, ↓w_aug, ↓ch_t, ↓ch_f, ↓w_catch, ↓w_try, ↓w_tryKeep, ↓w_give, ↓w_no, ↓w_dict, ↓w_dictT, ↓w_chain, ↓is_b, ↓w_get2, ↓gz_s, ↓gz_n, ↓w_getZ, ↓o_addI, ↓o_addS, ↓o_addT, ↓o_addL, ↓o_sub, ↓o_mulI, ↓o_mulS, ↓o_mulL, ↓o_fdv, ↓o_mod, ↓o_neg, ↓o_lt, ↓o_le, ↓o_gt, ↓o_ge, ↓b_lt, ↓b_le, ↓o_is, ↓isn_t, ↓isn_1, ↓isn_2, ↓isn_3, ↓isn_4, ↓isn_5, ↓o_eqI, ↓o_eqS, ↓o_ixT, ↓o_ixL, ↓o_ixC, ↓o_ixS, ↓o_ixD, ↓o_slS, ↓o_slT, ↓o_slL, ↓o_slC, ↓o_inD, ↓o_tup, ↓o_lst, ↓o_lenT, ↓o_lenL, ↓o_lenC, ↓o_lenD, ↓o_lenS, ↓o_min, ↓o_max, ↓o_intI, ↓o_intB, ↓o_listT, ↓o_listL, ↓o_listC, ↓o_tupleT, ↓o_tupleL, ↓o_dict, ↓o_rev, ↓o_revT, ↓o_isi, ↓ty_1, ↓ty_2, ↓ty_3, ↓ty_4, ↓ty_5, ↓ty_6, ↓ty_7, ↓tr_b, ↓tr_n, ↓tr_i, ↓tr_t, ↓tr_l, w_chk_al isl_n, w_chk_al isk_n, Bool.false_eq_true, if_true, if_false, true_and, and_true, Bool.bne_false, Bool.bne_true, Bool.not_true, Bool.not_false, decide_true, decide_false, Bool.and_true, Bool.true_and, Bool.or_false, Bool.false_or, Bool.or_true, Bool.true_or, Bool.and_false, Bool.false_and, Bool.or_self, Bool.and_self, List.getElem?_cons_zero, List.getElem?_cons_succ, List.getElem?_nil, List.length_cons, List.length_nil, List.cons_append, List.nil_append, Nat.reduceAdd, Nat.reduceSub, List.replicate_succ, List.replicate_zero, Nat.reduceEqDiff, Int.reduceEq, Int.reduceLT, Int.reduceLE, Nat.reduceLT, Nat.reduceLeDiff, reduceCtorEq, Nat.zero_add, sz, e2, e3, d1]
    refine wp_range (fun k ρ => ∃ t u, ρ = [.sh (.int c), .sh (.int n), .sh (.str letters), .sh (.int m), .sh (.int (nmW m)), .sh (.int (nmT m)), .sh (.lst (bs.map .str)), .sh (.int (nmP m)), .ow (.lst (((List.range k).map (nmS m)).map .str)), t, u]) ⟨_, _, rfl⟩ ?_ ?_
    · rintro k ρ hk ⟨t, u, rfl⟩
      have bk : Bd 10 (k : Int) := bd_lit (b := 10) (n := k) (by omega)
      have bp : Bd 10 (nmP m) := by
        have := nmP_mem m
        exact bd_range (n := 12) (by omega) (by omega) (by omega)
      have h1 : mlOk (k : Int) (nmP m) = true := ml bk bp (by omega)
      have h3 := ix_letter (i := (m / 864 + (k : Int) * nmP m) % 26) (Int.emod_nonneg _ (by omega)) (Int.emod_lt_of_pos _ (by omega))
      simp -implicitDefEqProofs only [b1__law_names, ↓k_some, ↓an_some, ↓g_0, ↓g_s, ↓s_0, ↓s_s, ↓td_sh, ↓td_ow, ↓td_lo, ↓rd_v, ↓rd_al, ↓rds_nil, ↓rds_cons, ↓shs_nil, ↓shs_v, ↓shk, ↓shs_al, ↓gt_v, ↓gt_al, ↓if_tt, ↓if_ff, ↓w_ret, ↓w_stk, ↓w_rse, ↓w_bnd, ↓nz_sh, ↓nz_ow, ↓nz_lo, ↓nz_ob, ↓nz_lb, ↓w_var, ↓w_c, ↓w_ans, ↓w_rd, ↓w_rds, ↓w_d2, ↓w_d1, ↓w_dN, ↓w_dS, ↓w_nil, ↓w_cons, ↓gv_sh, ↓gv_ow, ↓gv_ob, ↓fg_nil, ↓gi_v, ↓gi_al, ↓w_giv, ↓w_rdO, ↓w_opT, ↓w_tru, ↓w_bl, ↓bl_d, ↓w_not, ↓w_if, ↓w_and, ↓w_or, ↓w_dNot, ↓w_dAnd, ↓w_dOr, ↓w_oNone, ↓w_oSome, ↓o_int, ↓w_sl, ↓sq_nx, ↓sq_rt, ↓sq_bk, ↓sq_ct, ↓w_seq, ↓w_skip, ↓w_dret, ↓w_retN, ↓w_expr, ↓w_dif, ↓w_brk, ↓w_raise, ↓w_dasg, ↓w_dset, ↓al_sh, ↓al_lo, ↓al_lb, ↓w_asg_v, ↓w_asg_al, ↓w_gsNil, ↓w_gsCons, ↓tp_k, ↓w_gTp, ↓w_for, ↓w_loop_nil, ↓tn_nx, ↓tn_ct, ↓tn_bk, ↓tn_rt, ↓w_iOf, ↓w_iOfN, ↓seq_tup, ↓seq_lst, ↓seq_scr, ↓w_lc, ↓wipe_nil, ↓it_k, ↓w_yes, ↓fr_ok, ↓fr_ex, ↓ms_t, ↓ms_f, ↓ms_n, ↓out_nx, ↓out_v, ↓out_al, ↓mu_nil, ↓mu_t, ↓mu_f, ↓fr_run, ↓st_e, ↓lt_sh, ↓lt_ow, ↓lt_lo, ↓lt_ob, ↓lt_lb, ↓ot_ow, ↓ot_ob, ↓le_nil, ↓le_f, ↓le_t, ↓alf_nil, ↓alf_nil2, ↓alf_v, ↓alf_ff, ↓alf_al, ↓oa_nil, ↓oa_v, ↓oa_al, ↓okr_sh, ↓okr_no, ↓okr_ow, ↓okr_sh1, ↓okr_no1, ↓okr_ow1, ↓okr_sh2, ↓pu_nil, ↓pu_f, ↓pu_al, ↓pu_v, ↓w_call, ↓w_dcall, ↓w_dmeth, ↓mk_k, ↓mk_x, ↓w_make, ↓w_dmake, ↓w_chk_v, ↓w_dBM, ↓w_dBM0, ↓isl_n, ↓isk_n, ↓isl_1, ↓isl_2, ↓isl_3, ↓isl_4, ↓isk_1, ↓isk_2, ↓isk_3, ↓isk_4, ↓isk_5, ↓isk_6, ↓ow_k, ↓w_mutS, ↓w_mutR, ↓f_app, ↓f_pop, ↓f_ext, ↓f_extT, ↓w_rdm, ↓str_k, ↓w_isStr, ↓w_strM, ↓w_fld, ↓ft_sh, ↓ft_ow, ↓ft_lo, ↓fa_sh, ↓fa_lo, ↓ft_al, ↓ob_k, ↓w_setFld, ↓w_fldSet, ↓w_setZ, ↓w_gSub, ↓fow_k, ↓w_gFSub, ↓int_k, ↓w_aug, ↓ch_t, ↓ch_f, ↓w_catch, ↓w_try, ↓w_tryKeep, ↓w_give, ↓w_no, ↓w_dict, ↓w_dictT, ↓w_chain, ↓is_b, ↓w_get2, ↓gz_s, ↓gz_n, ↓w_getZ, ↓o_addI, ↓o_addS, ↓o_addT, ↓o_addL, ↓o_sub, ↓o_mulI, ↓o_mulS, ↓o_mulL, ↓o_fdv, ↓o_mod, ↓o_neg, ↓o_lt, ↓o_le, ↓o_gt, ↓o_ge, ↓b_lt, ↓b_le, ↓o_is, ↓isn_t, ↓isn_1, ↓isn_2, ↓isn_3, ↓isn_4, ↓isn_5, ↓o_eqI, ↓o_eqS, ↓o_ixT, ↓o_ixL, ↓o_ixC, ↓o_ixS, ↓o_ixD, ↓o_slS, ↓o_slT, ↓o_slL, ↓o_slC, ↓o_inD, ↓o_tup, ↓o_lst, ↓o_lenT, ↓o_lenL, ↓o_lenC, ↓o_lenD, ↓o_lenS, ↓o_min, ↓o_max, ↓o_intI, ↓o_intB, ↓o_listT, ↓o_listL, ↓o_listC, ↓o_tupleT, ↓o_tupleL, ↓o_dict, ↓o_rev, ↓o_revT, ↓o_isi, ↓ty_1, ↓ty_2, ↓ty_3, ↓ty_4, ↓ty_5, ↓ty_6, ↓ty_7, ↓tr_b, ↓tr_n, ↓tr_i, ↓tr_t, ↓tr_l, w_chk_al isl_n, w_chk_al isk_n, Bool.false_eq_true, if_true, if_false, true_and, and_true, Bool.bne_false, Bool.bne_true, Bool.not_true, Bool.not_false, decide_true, decide_false, Bool.and_true, Bool.true_and, Bool.or_false, Bool.false_or, Bool.or_true, Bool.true_or, Bool.and_false, Bool.false_and, Bool.or_self, Bool.and_self, List.getElem?_cons_zero, List.getElem?_cons_succ, List.getElem?_nil, List.length_cons, List.length_nil, List.cons_append, List.nil_append, Nat.reduceAdd, Nat.reduceSub, List.replicate_succ, List.replicate_zero, Nat.reduceEqDiff, Int.reduceEq, Int.reduceLT, Int.reduceLE, Nat.reduceLT, Nat.reduceLeDiff, reduceCtorEq, Nat.zero_add, h1, h3, d2, d3, d4, sz]
      have fin : ∀ s : Str, s = nmS m k → ((List.range k).map (nmS m)).map D.str ++ [.str s] = ((List.range (k + 1)).map (nmS m)).map .str := fun s e => by
        rw [range_snoc, List.map_append, e]
        rfl
      have hl : ltOk (((List.range k).map (nmS m)).map D.str).length = true := lt_ok (by rw [List.length_map, List.length_map, List.length_range]; omega)
      refine ⟨fun h => ?_, fun h => ?_⟩
      · have hh := of_decide_eq_true h
        have a0 : atI (bs.map D.str) 0 = some (.str (mkS [(nmC m).headD 0])) := by
          rw [← hb]
          have hl := nmC_len m
          cases hc : nmC m with
          | nil => rw [hc] at hl; simp at hl; omega
          | cons a l => exact atI_nat (D.str (mkS [a]) :: _) 0 (by simp)
        have h4 : rpOk (mkS [(nmC m).headD 0]).length (((k : Int) + m / 7) % 12 + 1) = true := rp (by omega) (by omega) (by rw [mkS_len]; simp)
        simp -implicitDefEqProofs only [a0, ↓k_some, ↓an_some, ↓g_0, ↓g_s, ↓s_0, ↓s_s, ↓td_sh, ↓td_ow, ↓td_lo, ↓rd_v, ↓rd_al, ↓rds_nil, ↓rds_cons, ↓shs_nil, ↓shs_v, ↓shk, ↓shs_al, ↓gt_v, ↓gt_al, ↓if_tt, ↓if_ff, ↓w_ret, ↓w_stk, ↓w_rse, ↓w_bnd, ↓nz_sh, ↓nz_ow, ↓nz_lo, ↓nz_ob, ↓nz_lb, ↓w_var, ↓w_c, ↓w_ans, ↓w_rd, ↓w_rds, ↓w_d2, ↓w_d1, ↓w_dN, ↓w_dS, ↓w_nil, ↓w_cons, ↓gv_sh, ↓gv_ow, ↓gv_ob, ↓fg_nil, ↓gi_v, ↓gi_al, ↓w_giv, ↓w_rdO, ↓w_opT, ↓w_tru, ↓w_bl, ↓bl_d, ↓w_not, ↓w_if, ↓w_and, ↓w_or, ↓w_dNot, ↓w_dAnd, ↓w_dOr, ↓w_oNone, ↓w_oSome, ↓o_int, ↓w_sl, ↓sq_nx, ↓sq_rt, ↓sq_bk, ↓sq_ct, ↓w_seq, ↓w_skip, ↓w_dret, ↓w_retN, ↓w_expr, ↓w_dif, ↓w_brk, ↓w_raise, ↓w_dasg, ↓w_dset, ↓al_sh, ↓al_lo, ↓al_lb, ↓w_asg_v, ↓w_asg_al, ↓w_gsNil, ↓w_gsCons, ↓tp_k, ↓w_gTp, ↓w_for, ↓w_loop_nil, ↓tn_nx, ↓tn_ct, ↓tn_bk, ↓tn_rt, ↓w_iOf, ↓w_iOfN, ↓seq_tup, ↓seq_lst, ↓seq_scr, ↓w_lc, ↓wipe_nil, ↓it_k, ↓w_yes, ↓fr_ok, ↓fr_ex, ↓ms_t, ↓ms_f, ↓ms_n, ↓out_nx, ↓out_v, ↓out_al, ↓mu_nil, ↓mu_t, ↓mu_f, ↓fr_run, ↓st_e, ↓lt_sh, ↓lt_ow, ↓lt_lo, ↓lt_ob, ↓lt_lb, ↓ot_ow, ↓ot_ob, ↓le_nil, ↓le_f, ↓le_t, ↓alf_nil, ↓alf_nil2, ↓alf_v, ↓alf_ff, ↓alf_al, ↓oa_nil, ↓oa_v, ↓oa_al, ↓okr_sh, ↓okr_no, ↓okr_ow, ↓okr_sh1, ↓okr_no1, ↓okr_ow1, ↓okr_sh2, ↓pu_nil, ↓pu_f, ↓pu_al, ↓pu_v, ↓w_call, ↓w_dcall, ↓w_dmeth, ↓mk_k, ↓mk_x, ↓w_make, ↓w_dmake, ↓w_chk_v, ↓w_dBM, ↓w_dBM0, ↓isl_n, ↓isk_n, ↓isl_1, ↓isl_2, ↓isl_3, ↓isl_4, ↓isk_1, ↓isk_2, ↓isk_3, ↓isk_4, ↓isk_5, ↓isk_6, ↓ow_k, ↓w_mutS, ↓w_mutR, ↓f_app, ↓f_pop, ↓f_ext, ↓f_extT, ↓w_rdm, ↓str_k, ↓w_isStr, ↓w_strM, ↓w_fld, ↓ft_sh, ↓ft_ow, ↓ft_lo, ↓fa_sh, ↓fa_lo, ↓ft_al, ↓ob_k, ↓w_setFld, ↓w_fldSet, ↓w_setZ, ↓w_gSub, ↓fow_k, ↓w_gFSub, ↓int_k, ↓w_aug, ↓ch_t, ↓ch_f, ↓w_catch, ↓w_try, ↓w_tryKeep, ↓w_give, ↓w_no, ↓w_dict, ↓w_dictT, ↓w_chain, ↓is_b, ↓w_get2, ↓gz_s, ↓gz_n, ↓w_getZ, ↓o_addI, ↓o_addS, ↓o_addT, ↓o_addL, ↓o_sub, ↓o_mulI, ↓o_mulS, ↓o_mulL, ↓o_fdv, ↓o_mod, ↓o_neg, ↓o_lt, ↓o_le, ↓o_gt, ↓o_ge, ↓b_lt, ↓b_le, ↓o_is, ↓isn_t, ↓isn_1, ↓isn_2, ↓isn_3, ↓isn_4, ↓isn_5, ↓o_eqI, ↓o_eqS, ↓o_ixT, ↓o_ixL, ↓o_ixC, ↓o_ixS, ↓o_ixD, ↓o_slS, ↓o_slT, ↓o_slL, ↓o_slC, ↓o_inD, ↓o_tup, ↓o_lst, ↓o_lenT, ↓o_lenL, ↓o_lenC, ↓o_lenD, ↓o_lenS, ↓o_min, ↓o_max, ↓o_intI, ↓o_intB, ↓o_listT, ↓o_listL, ↓o_listC, ↓o_tupleT, ↓o_tupleL, ↓o_dict, ↓o_rev, ↓o_revT, ↓o_isi, ↓ty_1, ↓ty_2, ↓ty_3, ↓ty_4, ↓ty_5, ↓ty_6, ↓ty_7, ↓tr_b, ↓tr_n, ↓tr_i, ↓tr_t, ↓tr_l, w_chk_al isl_n, w_chk_al isk_n, Bool.false_eq_true, if_true, if_false, true_and, and_true, Bool.bne_false, Bool.bne_true, Bool.not_true, Bool.not_false, decide_true, decide_false, Bool.and_true, Bool.true_and, Bool.or_false, Bool.false_or, Bool.or_true, Bool.true_or, Bool.and_false, Bool.false_and, Bool.or_self, Bool.and_self, List.getElem?_cons_zero, List.getElem?_cons_succ, List.getElem?_nil, List.length_cons, List.length_nil, List.cons_append, List.nil_append, Nat.reduceAdd, Nat.reduceSub, List.replicate_succ, List.replicate_zero, Nat.reduceEqDiff, Int.reduceEq, Int.reduceLT, Int.reduceLE, Nat.reduceLT, Nat.reduceLeDiff, reduceCtorEq, Nat.zero_add, h4, hl]
        have e6 : nmS m k = mkS (List.replicate (((k : Int) + m / 7) % 12 + 1).toNat ((nmC m).headD 0)) := by unfold nmS; rw [if_pos hh]
        rw [strRep_one, fin _ e6.symm]
        exact ⟨_, _, rfl⟩
      · have hh := of_decide_eq_false h
        have hc := nmC_len m
        have c1 : ((nmC m).take (nmT m)).length ≤ 1000 := by rw [List.length_take]; omega
        have c2 : ((nmC m).drop (nmT m + 1)).length ≤ 1000 := by rw [List.length_drop]; omega
        have l1 : szOk (((nmC m).take (nmT m)).length + 1) = true := sz (by omega)
        have l2 : szOk (((nmC m).take (nmT m) ++ [nmL m k]).length + ((nmC m).drop (nmT m + 1)).length) = true := sz (by simp only [List.length_append, List.length_singleton]; omega)
        have e5 : 97 + ((m / 864 + (k : Int) * nmP m) % 26).toNat = nmL m k := rfl
        rw [← hb] at *
        simp -implicitDefEqProofs only [e5, cut_take, cut_drop1, map_take, map_drop, o_join1 c1, o_join1 c2, ↓k_some, ↓an_some, ↓g_0, ↓g_s, ↓s_0, ↓s_s, ↓td_sh, ↓td_ow, ↓td_lo, ↓rd_v, ↓rd_al, ↓rds_nil, ↓rds_cons, ↓shs_nil, ↓shs_v, ↓shk, ↓shs_al, ↓gt_v, ↓gt_al, ↓if_tt, ↓if_ff, ↓w_ret, ↓w_stk, ↓w_rse, ↓w_bnd, ↓nz_sh, ↓nz_ow, ↓nz_lo, ↓nz_ob, ↓nz_lb, ↓w_var, ↓w_c, ↓w_ans, ↓w_rd, ↓w_rds, ↓w_d2, ↓w_d1, ↓w_dN, ↓w_dS, ↓w_nil, ↓w_cons, ↓gv_sh, ↓gv_ow, ↓gv_ob, ↓fg_nil, ↓gi_v, ↓gi_al, ↓w_giv, ↓w_rdO, ↓w_opT, ↓w_tru, ↓w_bl, ↓bl_d, ↓w_not, ↓w_if, ↓w_and, ↓w_or, ↓w_dNot, ↓w_dAnd, ↓w_dOr, ↓w_oNone, ↓w_oSome, ↓o_int, ↓w_sl, ↓sq_nx, ↓sq_rt, ↓sq_bk, ↓sq_ct, ↓w_seq, ↓w_skip, ↓w_dret, ↓w_retN, ↓w_expr, ↓w_dif, ↓w_brk, ↓w_raise, ↓w_dasg, ↓w_dset, ↓al_sh, ↓al_lo, ↓al_lb, ↓w_asg_v, ↓w_asg_al, ↓w_gsNil, ↓w_gsCons, ↓tp_k, ↓w_gTp, ↓w_for, ↓w_loop_nil, ↓tn_nx, ↓tn_ct, ↓tn_bk, ↓tn_rt, ↓w_iOf, ↓w_iOfN, ↓seq_tup, ↓seq_lst, ↓seq_scr, ↓w_lc, ↓wipe_nil, ↓it_k, ↓w_yes, ↓fr_ok, ↓fr_ex, ↓ms_t, ↓ms_f, ↓ms_n, ↓out_nx, ↓out_v, ↓out_al, ↓mu_nil, ↓mu_t, ↓mu_f, ↓fr_run, ↓st_e, ↓lt_sh, ↓lt_ow, ↓lt_lo, ↓lt_ob, ↓lt_lb, ↓ot_ow, ↓ot_ob, ↓le_nil, ↓le_f, ↓le_t, ↓alf_nil, ↓alf_nil2, ↓alf_v, ↓alf_ff, ↓alf_al, ↓oa_nil, ↓oa_v, ↓oa_al, ↓okr_sh, ↓okr_no, ↓okr_ow, ↓okr_sh1, ↓okr_no1, ↓okr_ow1, ↓okr_sh2, ↓pu_nil, ↓pu_f, ↓pu_al, ↓pu_v, ↓w_call, ↓w_dcall, ↓w_dmeth, ↓mk_k, ↓mk_x, ↓w_make, ↓w_dmake, ↓w_chk_v, ↓w_dBM, ↓w_dBM0, ↓isl_n, ↓isk_n, ↓isl_1, ↓isl_2, ↓isl_3, ↓isl_4, ↓isk_1, ↓isk_2, ↓isk_3, ↓isk_4, ↓isk_5, ↓isk_6, ↓ow_k, ↓w_mutS, ↓w_mutR, ↓f_app, ↓f_pop, ↓f_ext, ↓f_extT, ↓w_rdm, ↓str_k, ↓w_isStr, ↓w_strM, ↓w_fld, ↓ft_sh, ↓ft_ow, ↓ft_lo, ↓fa_sh, ↓fa_lo, ↓ft_al, ↓ob_k, ↓w_setFld, ↓w_fldSet, ↓w_setZ, ↓w_gSub, ↓fow_k, ↓w_gFSub, ↓int_k, ↓w_aug, ↓ch_t, ↓ch_f, ↓w_catch, ↓w_try, ↓w_tryKeep, ↓w_give, ↓w_no, ↓w_dict, ↓w_dictT, ↓w_chain, ↓is_b, ↓w_get2, ↓gz_s, ↓gz_n, ↓w_getZ, ↓o_addI, ↓o_addS, ↓o_addT, ↓o_addL, ↓o_sub, ↓o_mulI, ↓o_mulS, ↓o_mulL, ↓o_fdv, ↓o_mod, ↓o_neg, ↓o_lt, ↓o_le, ↓o_gt, ↓o_ge, ↓b_lt, ↓b_le, ↓o_is, ↓isn_t, ↓isn_1, ↓isn_2, ↓isn_3, ↓isn_4, ↓isn_5, ↓o_eqI, ↓o_eqS, ↓o_ixT, ↓o_ixL, ↓o_ixC, ↓o_ixS, ↓o_ixD, ↓o_slS, ↓o_slT, ↓o_slL, ↓o_slC, ↓o_inD, ↓o_tup, ↓o_lst, ↓o_lenT, ↓o_lenL, ↓o_lenC, ↓o_lenD, ↓o_lenS, ↓o_min, ↓o_max, ↓o_intI, ↓o_intB, ↓o_listT, ↓o_listL, ↓o_listC, ↓o_tupleT, ↓o_tupleL, ↓o_dict, ↓o_rev, ↓o_revT, ↓o_isi, ↓ty_1, ↓ty_2, ↓ty_3, ↓ty_4, ↓ty_5, ↓ty_6, ↓ty_7, ↓tr_b, ↓tr_n, ↓tr_i, ↓tr_t, ↓tr_l, w_chk_al isl_n, w_chk_al isk_n, Bool.false_eq_true, if_true, if_false, true_and, and_true, Bool.bne_false, Bool.bne_true, Bool.not_true, Bool.not_false, decide_true, decide_false, Bool.and_true, Bool.true_and, Bool.or_false, Bool.false_or, Bool.or_true, Bool.true_or, Bool.and_false, Bool.false_and, Bool.or_self, Bool.and_self, List.getElem?_cons_zero, List.getElem?_cons_succ, List.getElem?_nil, List.length_cons, List.length_nil, List.cons_append, List.nil_append, Nat.reduceAdd, Nat.reduceSub, List.replicate_succ, List.replicate_zero, Nat.reduceEqDiff, Int.reduceEq, Int.reduceLT, Int.reduceLE, Nat.reduceLT, Nat.reduceLeDiff, reduceCtorEq, Nat.zero_add, mkS_app, mkS_len, l1, l2, hl]
        have e6 : nmS m k = mkS ((nmC m).take (nmT m) ++ [nmL m k] ++ (nmC m).drop (nmT m + 1)) := by unfold nmS; rw [if_neg hh]
        rw [fin _ e6.symm]
        exact ⟨_, _, rfl⟩
    · rintro ρ ⟨t, u, rfl⟩
      simp -implicitDefEqProofs only [↓k_some, ↓an_some, ↓g_0, ↓g_s, ↓s_0, ↓s_s, ↓td_sh, ↓td_ow, ↓td_lo, ↓rd_v, ↓rd_al, ↓rds_nil, ↓rds_cons, ↓shs_nil, ↓shs_v, ↓shk, ↓shs_al, ↓gt_v, ↓gt_al, ↓if_tt, ↓if_ff, ↓w_ret, ↓w_stk, ↓w_rse, ↓w_bnd, ↓nz_sh, ↓nz_ow, ↓nz_lo, ↓nz_ob, ↓nz_lb, ↓w_var, ↓w_c, ↓w_ans, ↓w_rd, ↓w_rds, ↓w_d2, ↓w_d1, ↓w_dN, ↓w_dS, ↓w_nil, ↓w_cons, ↓gv_sh, ↓gv_ow, ↓gv_ob, ↓fg_nil, ↓gi_v, ↓gi_al, ↓w_giv, ↓w_rdO, ↓w_opT, ↓w_tru, ↓w_bl, ↓bl_d, ↓w_not, ↓w_if, ↓w_and, ↓w_or, ↓w_dNot, ↓w_dAnd, ↓w_dOr, ↓w_oNone, ↓w_oSome, ↓o_int, ↓w_sl, ↓sq_nx, ↓sq_rt, ↓sq_bk, ↓sq_ct, ↓w_seq, ↓w_skip, ↓w_dret, ↓w_retN, ↓w_expr, ↓w_dif, ↓w_brk, ↓w_raise, ↓w_dasg, ↓w_dset, ↓al_sh, ↓al_lo, ↓al_lb, ↓w_asg_v, ↓w_asg_al, ↓w_gsNil, ↓w_gsCons, ↓tp_k, ↓w_gTp, ↓w_for, ↓w_loop_nil, ↓tn_nx, ↓tn_ct, ↓tn_bk, ↓tn_rt, ↓w_iOf, ↓w_iOfN, ↓seq_tup, ↓seq_lst, ↓seq_scr, ↓w_lc, ↓wipe_nil, ↓it_k, ↓w_yes, ↓fr_ok, ↓fr_ex, ↓ms_t, ↓ms_f, ↓ms_n, ↓out_nx, ↓out_v, ↓out_al, ↓mu_nil, ↓mu_t, ↓mu_f, ↓fr_run, ↓st_e, ↓lt_sh, ↓lt_ow, ↓lt_lo, ↓lt_ob, ↓lt_lb, ↓ot_ow, ↓ot_ob, ↓le_nil, ↓le_f, ↓le_t, ↓alf_nil, ↓alf_nil2, ↓alf_v, ↓alf_ff, ↓alf_al, ↓oa_nil, ↓oa_v, ↓oa_al, ↓okr_sh, ↓okr_no, ↓okr_ow, ↓okr_sh1, ↓okr_no1, ↓okr_ow1, ↓okr_sh2, ↓pu_nil, ↓pu_f, ↓pu_al, ↓pu_v, ↓w_call, ↓w_dcall, ↓w_dmeth, ↓mk_k, ↓mk_x, ↓w_make, ↓w_dmake, ↓w_chk_v, ↓w_dBM, ↓w_dBM0, ↓isl_n, ↓isk_n, ↓isl_1, ↓isl_2, ↓isl_3, ↓isl_4, ↓isk_1, ↓isk_2, ↓isk_3, ↓isk_4, ↓isk_5, ↓isk_6, ↓ow_k, ↓w_mutS, ↓w_mutR, ↓f_app, ↓f_pop, ↓f_ext, ↓f_extT, ↓w_rdm, ↓str_k, ↓w_isStr, ↓w_strM, ↓w_fld, ↓ft_sh, ↓ft_ow, ↓ft_lo, ↓fa_sh, ↓fa_lo, ↓ft_al, ↓ob_k, ↓w_setFld, ↓w_fldSet, ↓w_setZ, ↓w_gSub, ↓fow_k, ↓w_gFSub, ↓int_k, ↓w_aug, ↓ch_t, ↓ch_f, ↓w_catch, ↓w_try, ↓w_tryKeep, ↓w_give, ↓w_no, ↓w_dict, ↓w_dictT, ↓w_chain, ↓is_b, ↓w_get2, ↓gz_s, ↓gz_n, ↓w_getZ, ↓o_addI, ↓o_addS, ↓o_addT, ↓o_addL, ↓o_sub, ↓o_mulI, ↓o_mulS, ↓o_mulL, ↓o_fdv, ↓o_mod, ↓o_neg, ↓o_lt, ↓o_le, ↓o_gt, ↓o_ge, ↓b_lt, ↓b_le, ↓o_is, ↓isn_t, ↓isn_1, ↓isn_2, ↓isn_3, ↓isn_4, ↓isn_5, ↓o_eqI, ↓o_eqS, ↓o_ixT, ↓o_ixL, ↓o_ixC, ↓o_ixS, ↓o_ixD, ↓o_slS, ↓o_slT, ↓o_slL, ↓o_slC, ↓o_inD, ↓o_tup, ↓o_lst, ↓o_lenT, ↓o_lenL, ↓o_lenC, ↓o_lenD, ↓o_lenS, ↓o_min, ↓o_max, ↓o_intI, ↓o_intB, ↓o_listT, ↓o_listL, ↓o_listC, ↓o_tupleT, ↓o_tupleL, ↓o_dict, ↓o_rev, ↓o_revT, ↓o_isi, ↓ty_1, ↓ty_2, ↓ty_3, ↓ty_4, ↓ty_5, ↓ty_6, ↓ty_7, ↓tr_b, ↓tr_n, ↓tr_i, ↓tr_t, ↓tr_l, w_chk_al isl_n, w_chk_al isk_n, Bool.false_eq_true, if_true, if_false, true_and, and_true, Bool.bne_false, Bool.bne_true, Bool.not_true, Bool.not_false, decide_true, decide_false, Bool.and_true, Bool.true_and, Bool.or_false, Bool.false_or, Bool.or_true, Bool.true_or, Bool.and_false, Bool.false_and, Bool.or_self, Bool.and_self, List.getElem?_cons_zero, List.getElem?_cons_succ, List.getElem?_nil, List.length_cons, List.length_nil, List.cons_append, List.nil_append, Nat.reduceAdd, Nat.reduceSub, List.replicate_succ, List.replicate_zero, Nat.reduceEqDiff, Int.reduceEq, Int.reduceLT, Int.reduceLE, Nat.reduceLT, Nat.reduceLeDiff, reduceCtorEq, Nat.zero_add]
      rw [← hm]
      rfl
end Lk32

set_option Elab.async false
set_option linter.all false
set_option maxRecDepth 100000
set_option maxHeartbeats 4000000
namespace Lk32
open PySem L2 V
/-! what is drawn -/
theorem o_sum {l : List D} {ns : List Int} {K : T → Prop} (h : intsD l = some ns) : AnK (wSum [.lst l]) K = K (.sh (.int ns.sum)) := by
  simp only [wSum, one, lstD, Option.bind_some, h, Option.map_some, an_some]
theorem e_cell (ns : List Int) (k : Nat) : F__law_cell_at [.sh (.scr (ns.map .int)), .sh (.int k)] = .ok (.sh (.int (ns.getD k 0))) [] := by
  refine FrK.eq ?_
  unfold F__law_cell_at d__law_cell_at
  simp -implicitDefEqProofs only [↓k_some, ↓an_some, ↓g_0, ↓g_s, ↓s_0, ↓s_s, ↓td_sh, ↓td_ow, ↓td_lo, ↓rd_v, ↓rd_al, ↓rds_nil, ↓rds_cons, ↓shs_nil, ↓shs_v, ↓shk, ↓shs_al, ↓gt_v, ↓gt_al, ↓if_tt, ↓if_ff, ↓w_ret, ↓w_stk, ↓w_rse, ↓w_bnd, ↓nz_sh, ↓nz_ow, ↓nz_lo, ↓nz_ob, ↓nz_lb, ↓w_var, ↓w_c, ↓w_ans, ↓w_rd, ↓w_rds, ↓w_d2, ↓w_d1, ↓w_dN, ↓w_dS, ↓w_nil, ↓w_cons, ↓gv_sh, ↓gv_ow, ↓gv_ob, ↓fg_nil, ↓gi_v, ↓gi_al, ↓w_giv, ↓w_rdO, ↓w_opT, ↓w_tru, ↓w_bl, ↓bl_d, ↓w_not, ↓w_if, ↓w_and, ↓w_or, ↓w_dNot, ↓w_dAnd, ↓w_dOr, ↓w_oNone, ↓w_oSome, ↓o_int, ↓w_sl, ↓sq_nx, ↓sq_rt, ↓sq_bk, ↓sq_ct, ↓w_seq, ↓w_skip, ↓w_dret, ↓w_retN, ↓w_expr, ↓w_dif, ↓w_brk, ↓w_raise, ↓w_dasg, ↓w_dset, ↓al_sh, ↓al_lo, ↓al_lb, ↓w_asg_v, ↓w_asg_al, ↓w_gsNil, ↓w_gsCons, ↓tp_k, ↓w_gTp, ↓w_for, ↓w_loop_nil, ↓tn_nx, ↓tn_ct, ↓tn_bk, ↓tn_rt, ↓w_iOf, ↓w_iOfN, ↓seq_tup, ↓seq_lst, ↓seq_scr, ↓w_lc, ↓wipe_nil, ↓it_k, ↓w_yes, ↓fr_ok, ↓fr_ex, ↓ms_t, ↓ms_f, ↓ms_n, ↓out_nx, ↓out_v, ↓out_al, ↓mu_nil, ↓mu_t, ↓mu_f, ↓fr_run, ↓st_e, ↓lt_sh, ↓lt_ow, ↓lt_lo, ↓lt_ob, ↓lt_lb, ↓ot_ow, ↓ot_ob, ↓le_nil, ↓le_f, ↓le_t, ↓alf_nil, ↓alf_nil2, ↓alf_v, ↓alf_ff, ↓alf_al, ↓oa_nil, ↓oa_v, ↓oa_al, ↓okr_sh, ↓okr_no, ↓okr_ow, ↓okr_sh1, ↓okr_no1, ↓okr_ow1, ↓okr_sh2, ↓pu_nil, ↓pu_f, ↓pu_al, ↓pu_v, ↓w_call, ↓w_dcall, ↓w_dmeth, ↓mk_k, ↓mk_x, ↓w_make, ↓w_dmake, ↓w_chk_v, ↓w_dBM, ↓w_dBM0, ↓isl_n, ↓isk_n, ↓isl_1, ↓isl_2, ↓isl_3, ↓isl_4, ↓isk_1, ↓isk_2, ↓isk_3, ↓isk_4, ↓isk_5, ↓isk_6, ↓ow_k, ↓w_mutS, ↓w_mutR, ↓f_app, ↓f_pop, ↓f_ext, ↓f_extT, ↓w_rdm, ↓str_k, ↓w_isStr, ↓w_strM, ↓w_fld, ↓ft_sh, ↓ft_ow, ↓ft_lo, ↓fa_sh, ↓fa_lo, ↓ft_al, ↓ob_k, ↓w_setFld, ↓w_fldSet, ↓w_setZ, ↓w_gSub, ↓fow_k, ↓w_gFSub, ↓int_k, ↓w_aug, ↓ch_t, ↓ch_f, ↓w_catch, ↓w_try, ↓w_tryKeep, ↓w_give, ↓w_no, ↓w_dict, ↓w_dictT, ↓w_chain, ↓is_b, ↓w_get2, ↓gz_s, ↓gz_n, ↓w_getZ, ↓o_addI, ↓o_addS, ↓o_addT, ↓o_addL, ↓o_sub, ↓o_mulI, ↓o_mulS, ↓o_mulL, ↓o_fdv, ↓o_mod, ↓o_neg, ↓o_lt, ↓o_le, ↓o_gt, ↓o_ge, ↓b_lt, ↓b_le, ↓o_is, ↓isn_t, ↓isn_1, ↓isn_2, ↓isn_3, ↓isn_4, ↓isn_5, ↓o_eqI, ↓o_eqS, ↓o_ixT, ↓o_ixL, ↓o_ixC, ↓o_ixS, ↓o_ixD, ↓o_slS, ↓o_slT, ↓o_slL, ↓o_slC, ↓o_inD, ↓o_tup, ↓o_lst, ↓o_lenT, ↓o_lenL, ↓o_lenC, ↓o_lenD, ↓o_lenS, ↓o_min, ↓o_max, ↓o_intI, ↓o_intB, ↓o_listT, ↓o_listL, ↓o_listC, ↓o_tupleT, ↓o_tupleL, ↓o_dict, ↓o_rev, ↓o_revT, ↓o_isi, ↓ty_1, ↓ty_2, ↓ty_3, ↓ty_4, ↓ty_5, ↓ty_6, ↓ty_7, ↓tr_b, ↓tr_n, ↓tr_i, ↓tr_t, ↓tr_l, w_chk_al isl_n, w_chk_al isk_n, Bool.false_eq_true, if_true, if_false, true_and, and_true, Bool.bne_false, Bool.bne_true, Bool.not_true, Bool.not_false, decide_true, decide_false, Bool.and_true, Bool.true_and, Bool.or_false, Bool.false_or, Bool.or_true, Bool.true_or, Bool.and_false, Bool.false_and, Bool.or_self, Bool.and_self, List.getElem?_cons_zero, List.getElem?_cons_succ, List.getElem?_nil, List.length_cons, List.length_nil, List.cons_append, List.nil_append, Nat.reduceAdd, Nat.reduceSub, List.replicate_succ, List.replicate_zero, Nat.reduceEqDiff, Int.reduceEq, Int.reduceLT, Int.reduceLE, Nat.reduceLT, Nat.reduceLeDiff, reduceCtorEq, Nat.zero_add, List.length_map]
  refine ⟨fun h => ?_, fun h => ?_⟩
  · have hh := of_decide_eq_true h
    have hk : k < ns.length := by omega
    have h1 := atI_nat (ns.map D.int) k (by rw [List.length_map]; exact hk)
    simp -implicitDefEqProofs only [h1, ↓k_some, ↓an_some, ↓g_0, ↓g_s, ↓s_0, ↓s_s, ↓td_sh, ↓td_ow, ↓td_lo, ↓rd_v, ↓rd_al, ↓rds_nil, ↓rds_cons, ↓shs_nil, ↓shs_v, ↓shk, ↓shs_al, ↓gt_v, ↓gt_al, ↓if_tt, ↓if_ff, ↓w_ret, ↓w_stk, ↓w_rse, ↓w_bnd, ↓nz_sh, ↓nz_ow, ↓nz_lo, ↓nz_ob, ↓nz_lb, ↓w_var, ↓w_c, ↓w_ans, ↓w_rd, ↓w_rds, ↓w_d2, ↓w_d1, ↓w_dN, ↓w_dS, ↓w_nil, ↓w_cons, ↓gv_sh, ↓gv_ow, ↓gv_ob, ↓fg_nil, ↓gi_v, ↓gi_al, ↓w_giv, ↓w_rdO, ↓w_opT, ↓w_tru, ↓w_bl, ↓bl_d, ↓w_not, ↓w_if, ↓w_and, ↓w_or, ↓w_dNot, ↓w_dAnd, ↓w_dOr, ↓w_oNone, ↓w_oSome, ↓o_int, ↓w_sl, ↓sq_nx, ↓sq_rt, ↓sq_bk, ↓sq_ct, ↓w_seq, ↓w_skip, ↓w_dret, ↓w_retN, ↓w_expr, ↓w_dif, ↓w_brk, ↓w_raise, ↓w_dasg, ↓w_dset, ↓al_sh, ↓al_lo, ↓al_lb, ↓w_asg_v, ↓w_asg_al, ↓w_gsNil, ↓w_gsCons, ↓tp_k, ↓w_gTp, ↓w_for, ↓w_loop_nil, ↓tn_nx, ↓tn_ct, ↓tn_bk, ↓tn_rt, ↓w_iOf, ↓w_iOfN, ↓seq_tup, ↓seq_lst, ↓seq_scr, ↓w_lc, ↓wipe_nil, ↓it_k, ↓w_yes, ↓fr_ok, ↓fr_ex, ↓ms_t, ↓ms_f, ↓ms_n, ↓out_nx, ↓out_v, ↓out_al, ↓mu_nil, ↓mu_t, ↓mu_f, ↓fr_run, ↓st_e, ↓lt_sh, ↓lt_ow, ↓lt_lo, ↓lt_ob, ↓lt_lb, ↓ot_ow, ↓ot_ob, ↓le_nil, ↓le_f, ↓le_t, ↓alf_nil, ↓alf_nil2, ↓alf_v, ↓alf_ff, ↓alf_al, ↓oa_nil, ↓oa_v, ↓oa_al, ↓okr_sh, ↓okr_no, ↓okr_ow, ↓okr_sh1, ↓okr_no1, ↓okr_ow1, ↓okr_sh2, ↓pu_nil, ↓pu_f, ↓pu_al, ↓pu_v, ↓w_call, ↓w_dcall, ↓w_dmeth, ↓mk_k, ↓mk_x, ↓w_make, ↓w_dmake, ↓w_chk_v, ↓w_dBM, ↓w_dBM0, ↓isl_n, ↓isk_n, ↓isl_1, ↓isl_2, ↓isl_3, ↓isl_4, ↓isk_1, ↓isk_2, ↓isk_3, ↓isk_4, ↓isk_5, ↓isk_6, ↓ow_k, ↓w_mutS, ↓w_mutR, ↓f_app, ↓f_pop, ↓f_ext, ↓f_extT, ↓w_rdm, ↓str_k, ↓w_isStr, ↓w_strM, ↓w_fld, ↓ft_sh, ↓ft_ow, ↓ft_lo, ↓fa_sh, ↓fa_lo, ↓ft_al, ↓ob_k, ↓w_setFld, ↓w_fldSet, ↓w_setZ, ↓w_gSub, ↓fow_k, ↓w_gFSub, ↓int_k, ↓w_aug, ↓ch_t, ↓ch_f, ↓w_catch, ↓w_try, ↓w_tryKeep, ↓w_give, ↓w_no, ↓w_dict, ↓w_dictT, ↓w_chain, ↓is_b, ↓w_get2, ↓gz_s, ↓gz_n, ↓w_getZ, ↓o_addI, ↓o_addS, ↓o_addT, ↓o_addL, ↓o_sub, ↓o_mulI, ↓o_mulS, ↓o_mulL, ↓o_fdv, ↓o_mod, ↓o_neg, ↓o_lt, ↓o_le, ↓o_gt, ↓o_ge, ↓b_lt, ↓b_le, ↓o_is, ↓isn_t, ↓isn_1, ↓isn_2, ↓isn_3, ↓isn_4, ↓isn_5, ↓o_eqI, ↓o_eqS, ↓o_ixT, ↓o_ixL, ↓o_ixC, ↓o_ixS, ↓o_ixD, ↓o_slS, ↓o_slT, ↓o_slL, ↓o_slC, ↓o_inD, ↓o_tup, ↓o_lst, ↓o_lenT, ↓o_lenL, ↓o_lenC, ↓o_lenD, ↓o_lenS, ↓o_min, ↓o_max, ↓o_intI, ↓o_intB, ↓o_listT, ↓o_listL, ↓o_listC, ↓o_tupleT, ↓o_tupleL, ↓o_dict, ↓o_rev, ↓o_revT, ↓o_isi, ↓ty_1, ↓ty_2, ↓ty_3, ↓ty_4, ↓ty_5, ↓ty_6, ↓ty_7, ↓tr_b, ↓tr_n, ↓tr_i, ↓tr_t, ↓tr_l, w_chk_al isl_n, w_chk_al isk_n, Bool.false_eq_true, if_true, if_false, true_and, and_true, Bool.bne_false, Bool.bne_true, Bool.not_true, Bool.not_false, decide_true, decide_false, Bool.and_true, Bool.true_and, Bool.or_false, Bool.false_or, Bool.or_true, Bool.true_or, Bool.and_false, Bool.false_and, Bool.or_self, Bool.and_self, List.getElem?_cons_zero, List.getElem?_cons_succ, List.getElem?_nil, List.length_cons, List.length_nil, List.cons_append, List.nil_append, Nat.reduceAdd, Nat.reduceSub, List.replicate_succ, List.replicate_zero, Nat.reduceEqDiff, Int.reduceEq, Int.reduceLT, Int.reduceLE, Nat.reduceLT, Nat.reduceLeDiff, reduceCtorEq, Nat.zero_add, List.getElem_map]
    rw [List.getD_eq_getElem?_getD, List.getElem?_eq_getElem hk]
    rfl
  · have hh := of_decide_eq_false h
    rw [List.getD_eq_getElem?_getD, List.getElem?_eq_none (by omega)]
    rfl
/-- a purse: the top is taken first -/
def Pu (xs : List Int) : D := .lst (xs.reverse.map .int)
def Dg (xs : List Int) : Prop := ∀ x ∈ xs, 0 ≤ x ∧ x < 1000003
theorem pu_pop {x : Int} {xs : List Int} {K : D × D → Prop} : OpK (fPop (Pu (x :: xs)) []) K = K (.int x, Pu xs) := by
  unfold Pu
  rw [List.reverse_cons, List.map_append]
  exact f_pop
theorem isl_pu {xs : List Int} : isL (some (.ow (Pu xs))) = true := rfl
theorem e_digits_g {S : D} {ns : List Int} {a m : Nat} (hS1 : ∀ K : T → Prop, AnK (wLen [S]) K = K (.sh (.int (ns.length : Nat)))) (hS2 : ∀ (i : Int) (K : T → Prop), AnK (wIx S (.int i)) K = OpK (atI (ns.map D.int) i) fun d => K (.sh d)) (hns : ns.length ≤ 63) (hb : ∀ z ∈ ns, Bd 1048576 z) (ha : a ≤ 1000) (hm : 0 < m) (hm2 : m < 1000) :
    ∃ xs : List Int, xs.length = 150 ∧ Dg xs ∧ F__law_digits [.sh S, .sh (.int a), .sh (.int m)] = .ok (.ow (Pu xs)) [] := by
  have key : FrK (F__law_digits [.sh S, .sh (.int a), .sh (.int m)]) (fun t f => ∃ xs : List Int, xs.length = 150 ∧ Dg xs ∧ t = .ow (Pu xs) ∧ f = []) NoF := by
    unfold F__law_digits d__law_digits
    have hmin : (if (63 : Int) < ((ns.length : Nat) : Int) then (63 : Int) else ((ns.length : Nat) : Int)) = (ns.length : Int) := by
      rw [if_neg (by omega)]
    have hr : rng3 [.int a, .int (ns.length : Int), .int m] = some (upto a m (rngN a ns.length m)) := by
      have h : r3Ok a ns.length m = true := by
        unfold r3Ok
        simp only [Bool.and_eq_true, decide_eq_true_eq]
        omega
      unfold rng3
      simp only [h, if_true]
    simp -implicitDefEqProofs only [↓k_some, ↓an_some, ↓g_0, ↓g_s, ↓s_0, ↓s_s, ↓td_sh, ↓td_ow, ↓td_lo, ↓rd_v, ↓rd_al, ↓rds_nil, ↓rds_cons, ↓shs_nil, ↓shs_v, ↓shk, ↓shs_al, ↓gt_v, ↓gt_al, ↓if_tt, ↓if_ff, ↓w_ret, ↓w_stk, ↓w_rse, ↓w_bnd, ↓nz_sh, ↓nz_ow, ↓nz_lo, ↓nz_ob, ↓nz_lb, ↓w_var, ↓w_c, ↓w_ans, ↓w_rd, ↓w_rds, ↓w_d2, ↓w_d1, ↓w_dN, ↓w_dS, ↓w_nil, ↓w_cons, ↓gv_sh, ↓gv_ow, ↓gv_ob, ↓fg_nil, ↓gi_v, ↓gi_al, ↓w_giv, ↓w_rdO, ↓w_opT, ↓w_tru, ↓w_bl, ↓bl_d, ↓w_not, ↓w_if, ↓w_and, ↓w_or, ↓w_dNot, ↓w_dAnd, ↓w_dOr, ↓w_oNone, ↓w_oSome, ↓o_int, ↓w_sl, ↓sq_nx, ↓sq_rt, ↓sq_bk, ↓sq_ct, ↓w_seq, ↓w_skip, ↓w_dret, ↓w_retN, ↓w_expr, ↓w_dif, ↓w_brk, ↓w_raise, ↓w_dasg, ↓w_dset, ↓al_sh, ↓al_lo, ↓al_lb, ↓w_asg_v, ↓w_asg_al, ↓w_gsNil, ↓w_gsCons, ↓tp_k, ↓w_gTp, ↓w_for, ↓w_loop_nil, ↓tn_nx, ↓tn_ct, ↓tn_bk, ↓tn_rt, ↓w_iOf, ↓w_iOfN, ↓seq_tup, ↓seq_lst, ↓seq_scr, ↓w_lc, ↓wipe_nil, ↓it_k, ↓w_yes, ↓fr_ok, ↓fr_ex, ↓ms_t, ↓ms_f, ↓ms_n, ↓out_nx, ↓out_v, ↓out_al, ↓mu_nil, ↓mu_t, ↓mu_f, ↓fr_run, ↓st_e, ↓lt_sh, ↓lt_ow, ↓lt_lo, ↓lt_ob, ↓lt_lb, ↓ot_ow, ↓ot_ob, ↓le_nil, ↓le_f, ↓le_t, ↓alf_nil, ↓alf_nil2, ↓alf_v, ↓alf_ff, ↓alf_al, ↓oa_nil, ↓oa_v, ↓oa_al, ↓okr_sh, ↓okr_no, ↓okr_ow, ↓okr_sh1, ↓okr_no1, ↓okr_ow1, ↓okr_sh2, ↓pu_nil, ↓pu_f, ↓pu_al, ↓pu_v, ↓w_call, ↓w_dcall, ↓w_dmeth, ↓mk_k, ↓mk_x, ↓w_make, ↓w_dmake, ↓w_chk_v, ↓w_dBM, ↓w_dBM0, ↓isl_n, ↓isk_n, ↓isl_1, ↓isl_2, ↓isl_3, ↓isl_4, ↓isk_1, ↓isk_2, ↓isk_3, ↓isk_4, ↓isk_5, ↓isk_6, ↓ow_k, ↓w_mutS, ↓w_mutR, ↓f_app, ↓f_pop, ↓f_ext, ↓f_extT, ↓w_rdm, ↓str_k, ↓w_isStr, ↓w_strM, ↓w_fld, ↓ft_sh, ↓ft_ow, ↓ft_lo, ↓fa_sh, ↓fa_lo, ↓ft_al, ↓ob_k, ↓w_setFld, ↓w_fldSet, ↓w_setZ, ↓w_gSub, ↓fow_k, ↓w_gFSub, ↓int_k, ↓w_aug, ↓ch_t, ↓ch_f, ↓w_catch, ↓w_try, ↓w_tryKeep, ↓w_give, ↓w_no, ↓w_dict, ↓w_dictT, ↓w_chain, ↓is_b, ↓w_get2, ↓gz_s, ↓gz_n, ↓w_getZ, ↓o_addI, ↓o_addS, ↓o_addT, ↓o_addL, ↓o_sub, ↓o_mulI, ↓o_mulS, ↓o_mulL, ↓o_fdv, ↓o_mod, ↓o_neg, ↓o_lt, ↓o_le, ↓o_gt, ↓o_ge, ↓b_lt, ↓b_le, ↓o_is, ↓isn_t, ↓isn_1, ↓isn_2, ↓isn_3, ↓isn_4, ↓isn_5, ↓o_eqI, ↓o_eqS, ↓o_ixT, ↓o_ixL, ↓o_ixC, ↓o_ixS, ↓o_ixD, ↓o_slS, ↓o_slT, ↓o_slL, ↓o_slC, ↓o_inD, ↓o_tup, ↓o_lst, ↓o_lenT, ↓o_lenL, ↓o_lenC, ↓o_lenD, ↓o_lenS, ↓o_min, ↓o_max, ↓o_intI, ↓o_intB, ↓o_listT, ↓o_listL, ↓o_listC, ↓o_tupleT, ↓o_tupleL, ↓o_dict, ↓o_rev, ↓o_revT, ↓o_isi, ↓ty_1, ↓ty_2, ↓ty_3, ↓ty_4, ↓ty_5, ↓ty_6, ↓ty_7, ↓tr_b, ↓tr_n, ↓tr_i, ↓tr_t, ↓tr_l, w_chk_al isl_n, w_chk_al isk_n, Bool.false_eq_true, if_true, if_false, true_and, and_true, Bool.bne_false, Bool.bne_true, Bool.not_true, Bool.not_false, decide_true, decide_false, Bool.and_true, Bool.true_and, Bool.or_false, Bool.false_or, Bool.or_true, Bool.true_or, Bool.and_false, Bool.false_and, Bool.or_self, Bool.and_self, List.getElem?_cons_zero, List.getElem?_cons_succ, List.getElem?_nil, List.length_cons, List.length_nil, List.cons_append, List.nil_append, Nat.reduceAdd, Nat.reduceSub, List.replicate_succ, List.replicate_zero, Nat.reduceEqDiff, Int.reduceEq, Int.reduceLT, Int.reduceLE, Nat.reduceLT, Nat.reduceLeDiff, reduceCtorEq, Nat.zero_add, hS1, hmin, hr]
    have hn : rngN a ns.length m ≤ 1000000 := by
      unfold rngN
      split
      · have : ((ns.length : Int) - a - 1) / m ≤ (ns.length : Int) - a - 1 := Int.ediv_le_self _ (by omega)
        omega
      · exact Nat.zero_le _
    generalize hz : (List.range (rngN a ns.length m)).map (fun i => ns.getD (a + i * m) 0) = zs
    have hzb : ∀ z ∈ zs, Bd 1048576 z := by
      intro z h
      rw [← hz] at h
      obtain ⟨i, _, rfl⟩ := List.mem_map.mp h
      rw [List.getD_eq_getElem?_getD]
      cases e : ns[a + i * m]? with
      | none => exact Bd.mono (bd_lit (b := 1) (n := 0) (by omega)) (by omega)
      | some z => exact hb z (List.mem_of_getElem? e)
    have hzl : zs.length ≤ 63 := by
      rw [← hz, List.length_map, List.length_range]
      unfold rngN
      split
      · have : ((ns.length : Int) - a - 1) / m ≤ (ns.length : Int) - a - 1 := Int.ediv_le_self _ (by omega)
        omega
      · exact Nat.zero_le _
    show Wp (compT (asg 7) cYes _ [7] ((List.range (rngN a ns.length m)).map fun i : Nat => D.int ((a : Int) + (i : Nat) * (m : Int))) []) _ _ _
    refine wp_all (fun i : Nat => D.int ((a : Int) + (i : Nat) * (m : Int))) (fun i => D.int (ns.getD (a + i * m) 0)) ?_ ?_ ?_
    · rw [List.length_range]; omega
    · intro i hi
      have hmem : D.int ((a : Int) + (i : Nat) * (m : Int)) ∈ upto a m (rngN a ns.length m) := List.mem_map.mpr ⟨i, hi, rfl⟩
      obtain ⟨k, e, h0, h1⟩ := rngN_mem (by omega) hmem
      have e' := D.int.inj e
      have e2 : ((a : Int) + (i : Nat) * (m : Int)) = ((a + i * m : Nat) : Int) := by simp
      have hk : a + i * m < ns.length := by omega
      have h3 := atI_nat (ns.map D.int) (a + i * m) (by rw [List.length_map]; exact hk)
      rw [e2]
      simp -implicitDefEqProofs only [wipeE, List.set_cons_succ, List.set_cons_zero, ↓k_some, ↓an_some, ↓g_0, ↓g_s, ↓s_0, ↓s_s, ↓td_sh, ↓td_ow, ↓td_lo, ↓rd_v, ↓rd_al, ↓rds_nil, ↓rds_cons, ↓shs_nil, ↓shs_v, ↓shk, ↓shs_al, ↓gt_v, ↓gt_al, ↓if_tt, ↓if_ff, ↓w_ret, ↓w_stk, ↓w_rse, ↓w_bnd, ↓nz_sh, ↓nz_ow, ↓nz_lo, ↓nz_ob, ↓nz_lb, ↓w_var, ↓w_c, ↓w_ans, ↓w_rd, ↓w_rds, ↓w_d2, ↓w_d1, ↓w_dN, ↓w_dS, ↓w_nil, ↓w_cons, ↓gv_sh, ↓gv_ow, ↓gv_ob, ↓fg_nil, ↓gi_v, ↓gi_al, ↓w_giv, ↓w_rdO, ↓w_opT, ↓w_tru, ↓w_bl, ↓bl_d, ↓w_not, ↓w_if, ↓w_and, ↓w_or, ↓w_dNot, ↓w_dAnd, ↓w_dOr, ↓w_oNone, ↓w_oSome, ↓o_int, ↓w_sl, ↓sq_nx, ↓sq_rt, ↓sq_bk, ↓sq_ct, ↓w_seq, ↓w_skip, ↓w_dret, ↓w_retN, ↓w_expr, ↓w_dif, ↓w_brk, ↓w_raise, ↓w_dasg, ↓w_dset, ↓al_sh, ↓al_lo, ↓al_lb, ↓w_asg_v, ↓w_asg_al, ↓w_gsNil, ↓w_gsCons, ↓tp_k, ↓w_gTp, ↓w_for, ↓w_loop_nil, ↓tn_nx, ↓tn_ct, ↓tn_bk, ↓tn_rt, ↓w_iOf, ↓w_iOfN, ↓seq_tup, ↓seq_lst, ↓seq_scr, ↓w_lc, ↓wipe_nil, ↓it_k, ↓w_yes, ↓fr_ok, ↓fr_ex, ↓ms_t, ↓ms_f, ↓ms_n, ↓out_nx, ↓out_v, ↓out_al, ↓mu_nil, ↓mu_t, ↓mu_f, ↓fr_run, ↓st_e, ↓lt_sh, ↓lt_ow, ↓lt_lo, ↓lt_ob, ↓lt_lb, ↓ot_ow, ↓ot_ob, ↓le_nil, ↓le_f, ↓le_t, ↓alf_nil, ↓alf_nil2, ↓alf_v, ↓alf_ff, ↓alf_al, ↓oa_nil, ↓oa_v, ↓oa_al, ↓okr_sh, ↓okr_no, ↓okr_ow, ↓okr_sh1, ↓okr_no1, ↓okr_ow1, ↓okr_sh2, ↓pu_nil, ↓pu_f, ↓pu_al, ↓pu_v, ↓w_call, ↓w_dcall, ↓w_dmeth, ↓mk_k, ↓mk_x, ↓w_make, ↓w_dmake, ↓w_chk_v, ↓w_dBM, ↓w_dBM0, ↓isl_n, ↓isk_n, ↓isl_1, ↓isl_2, ↓isl_3, ↓isl_4, ↓isk_1, ↓isk_2, ↓isk_3, ↓isk_4, ↓isk_5, ↓isk_6, ↓ow_k, ↓w_mutS, ↓w_mutR, ↓f_app, ↓f_pop, ↓f_ext, ↓f_extT, ↓w_rdm, ↓str_k, ↓w_isStr, ↓w_strM, ↓w_fld, ↓ft_sh, ↓ft_ow, ↓ft_lo, ↓fa_sh, ↓fa_lo, ↓ft_al, ↓ob_k, ↓w_setFld, ↓w_fldSet, ↓w_setZ, ↓w_gSub, ↓fow_k, ↓w_gFSub, ↓int_k, ↓w_aug, ↓ch_t, ↓ch_f, ↓w_catch, ↓w_try, ↓w_tryKeep, ↓w_give, ↓w_no, ↓w_dict, ↓w_dictT, ↓w_chain, ↓is_b, ↓w_get2, ↓gz_s, ↓gz_n, ↓w_getZ, ↓o_addI, ↓o_addS, ↓o_addT, ↓o_addL, ↓o_sub, ↓o_mulI, ↓o_mulS, ↓o_mulL, ↓o_fdv, ↓o_mod, ↓o_neg, ↓o_lt, ↓o_le, ↓o_gt, ↓o_ge, ↓b_lt, ↓b_le, ↓o_is, ↓isn_t, ↓isn_1, ↓isn_2, ↓isn_3, ↓isn_4, ↓isn_5, ↓o_eqI, ↓o_eqS, ↓o_ixT, ↓o_ixL, ↓o_ixC, ↓o_ixS, ↓o_ixD, ↓o_slS, ↓o_slT, ↓o_slL, ↓o_slC, ↓o_inD, ↓o_tup, ↓o_lst, ↓o_lenT, ↓o_lenL, ↓o_lenC, ↓o_lenD, ↓o_lenS, ↓o_min, ↓o_max, ↓o_intI, ↓o_intB, ↓o_listT, ↓o_listL, ↓o_listC, ↓o_tupleT, ↓o_tupleL, ↓o_dict, ↓o_rev, ↓o_revT, ↓o_isi, ↓ty_1, ↓ty_2, ↓ty_3, ↓ty_4, ↓ty_5, ↓ty_6, ↓ty_7, ↓tr_b, ↓tr_n, ↓tr_i, ↓tr_t, ↓tr_l, w_chk_al isl_n, w_chk_al isk_n, Bool.false_eq_true, if_true, if_false, true_and, and_true, Bool.bne_false, Bool.bne_true, Bool.not_true, Bool.not_false, decide_true, decide_false, Bool.and_true, Bool.true_and, Bool.or_false, Bool.false_or, Bool.or_true, Bool.true_or, Bool.and_false, Bool.false_and, Bool.or_self, Bool.and_self, List.getElem?_cons_zero, List.getElem?_cons_succ, List.getElem?_nil, List.length_cons, List.length_nil, List.cons_append, List.nil_append, Nat.reduceAdd, Nat.reduceSub, List.replicate_succ, List.replicate_zero, Nat.reduceEqDiff, Int.reduceEq, Int.reduceLT, Int.reduceLE, Nat.reduceLT, Nat.reduceLeDiff, reduceCtorEq, Nat.zero_add, hS2, h3, List.getElem_map]
      rw [List.getD_eq_getElem?_getD, List.getElem?_eq_getElem hk]
      rfl
    · have e1 : (List.range (rngN a ns.length m)).map (fun i => D.int (ns.getD (a + i * m) 0)) = zs.map .int := by
        rw [← hz, List.map_map]
        rfl
      rw [e1]
      have bs : Bd 1048700 zs.sum := (Bd.sum hzb).mono (by omega)
      have d1 : dvOk 2 = true := dv (by omega) (by omega)
      have d2 : dvOk 1000003 = true := dv (by omega) (by omega)
      have r1 := rng1_ok (n := 150) (by omega)
      replace r1 : rng1 [D.int 150] = some (upto 0 1 150) := r1
      simp -implicitDefEqProofs only [wipeE, List.set_cons_succ, List.set_cons_zero, ↓k_some, ↓an_some, ↓g_0, ↓g_s, ↓s_0, ↓s_s, ↓td_sh, ↓td_ow, ↓td_lo, ↓rd_v, ↓rd_al, ↓rds_nil, ↓rds_cons, ↓shs_nil, ↓shs_v, ↓shk, ↓shs_al, ↓gt_v, ↓gt_al, ↓if_tt, ↓if_ff, ↓w_ret, ↓w_stk, ↓w_rse, ↓w_bnd, ↓nz_sh, ↓nz_ow, ↓nz_lo, ↓nz_ob, ↓nz_lb, ↓w_var, ↓w_c, ↓w_ans, ↓w_rd, ↓w_rds, ↓w_d2, ↓w_d1, ↓w_dN, ↓w_dS, ↓w_nil, ↓w_cons, ↓gv_sh, ↓gv_ow, ↓gv_ob, ↓fg_nil, ↓gi_v, ↓gi_al, ↓w_giv, ↓w_rdO, ↓w_opT, ↓w_tru, ↓w_bl, ↓bl_d, ↓w_not, ↓w_if, ↓w_and, ↓w_or, ↓w_dNot, ↓w_dAnd, ↓w_dOr, ↓w_oNone, ↓w_oSome, ↓o_int, ↓w_sl, ↓sq_nx, ↓sq_rt, ↓sq_bk, ↓sq_ct, ↓w_seq, ↓w_skip, ↓w_dret, ↓w_retN, ↓w_expr, ↓w_dif, ↓w_brk, ↓w_raise, ↓w_dasg, ↓w_dset, ↓al_sh, ↓al_lo, ↓al_lb, ↓w_asg_v, ↓w_asg_al, ↓w_gsNil, ↓w_gsCons, ↓tp_k, ↓w_gTp, ↓w_for, ↓w_loop_nil, ↓tn_nx, ↓tn_ct, ↓tn_bk, ↓tn_rt, ↓w_iOf, ↓w_iOfN, ↓seq_tup, ↓seq_lst, ↓seq_scr, ↓w_lc, ↓wipe_nil, ↓it_k, ↓w_yes, ↓fr_ok, ↓fr_ex, ↓ms_t, ↓ms_f, ↓ms_n, ↓out_nx, ↓out_v, ↓out_al, ↓mu_nil, ↓mu_t, ↓mu_f, ↓fr_run, ↓st_e, ↓lt_sh, ↓lt_ow, ↓lt_lo, ↓lt_ob, ↓lt_lb, ↓ot_ow, ↓ot_ob, ↓le_nil, ↓le_f, ↓le_t, ↓alf_nil, ↓alf_nil2, ↓alf_v, ↓alf_ff, ↓alf_al, ↓oa_nil, ↓oa_v, ↓oa_al, ↓okr_sh, ↓okr_no, ↓okr_ow, ↓okr_sh1, ↓okr_no1, ↓okr_ow1, ↓okr_sh2, ↓pu_nil, ↓pu_f, ↓pu_al, ↓pu_v, ↓w_call, ↓w_dcall, ↓w_dmeth, ↓mk_k, ↓mk_x, ↓w_make, ↓w_dmake, ↓w_chk_v, ↓w_dBM, ↓w_dBM0, ↓isl_n, ↓isk_n, ↓isl_1, ↓isl_2, ↓isl_3, ↓isl_4, ↓isk_1, ↓isk_2, ↓isk_3, ↓isk_4, ↓isk_5, ↓isk_6, ↓ow_k, ↓w_mutS, ↓w_mutR, ↓f_app, ↓f_pop, ↓f_ext, ↓f_extT, ↓w_rdm, ↓str_k, ↓w_isStr, ↓w_strM, ↓w_fld, ↓ft_sh, ↓ft_ow, ↓ft_lo, ↓fa_sh, ↓fa_lo, ↓ft_al, ↓ob_k, ↓w_setFld, ↓w_fldSet, ↓w_setZ, ↓w_gSub, ↓fow_k, ↓w_gFSub, ↓int_k, ↓w_aug, ↓ch_t, ↓ch_f, ↓w_catch, ↓w_try, ↓w_tryKeep, ↓w_give, ↓w_no, ↓w_dict, ↓w_dictT, ↓w_chain, ↓is_b, ↓w_get2, ↓gz_s, ↓gz_n, ↓w_getZ, ↓o_addI, ↓o_addS, ↓o_addT, ↓o_addL, ↓o_sub, ↓o_mulI, ↓o_mulS, ↓o_mulL, ↓o_fdv, ↓o_mod, ↓o_neg, ↓o_lt, ↓o_le, ↓o_gt, ↓o_ge, ↓b_lt, ↓b_le, ↓o_is, ↓isn_t, ↓isn_1, ↓isn_2, ↓isn_3, ↓isn_4, ↓isn_5, ↓o_eqI, ↓o_eqS, ↓o_ixT, ↓o_ixL, ↓o_ixC, ↓o_ixS, ↓o_ixD, ↓o_slS, ↓o_slT, ↓o_slL, ↓o_slC, ↓o_inD, ↓o_tup, ↓o_lst, ↓o_lenT, ↓o_lenL, ↓o_lenC, ↓o_lenD, ↓o_lenS, ↓o_min, ↓o_max, ↓o_intI, ↓o_intB, ↓o_listT, ↓o_listL, ↓o_listC, ↓o_tupleT, ↓o_tupleL, ↓o_dict, ↓o_rev, ↓o_revT, ↓o_isi, ↓ty_1, ↓ty_2, ↓ty_3, ↓ty_4, ↓ty_5, ↓ty_6, ↓ty_7, ↓tr_b, ↓tr_n, ↓tr_i, ↓tr_t, ↓tr_l, w_chk_al isl_n, w_chk_al isk_n, Bool.false_eq_true, if_true, if_false, true_and, and_true, Bool.bne_false, Bool.bne_true, Bool.not_true, Bool.not_false, decide_true, decide_false, Bool.and_true, Bool.true_and, Bool.or_false, Bool.false_or, Bool.or_true, Bool.true_or, Bool.and_false, Bool.false_and, Bool.or_self, Bool.and_self, List.getElem?_cons_zero, List.getElem?_cons_succ, List.getElem?_nil, List.length_cons, List.length_nil, List.cons_append, List.nil_append, Nat.reduceAdd, Nat.reduceSub, List.replicate_succ, List.replicate_zero, Nat.reduceEqDiff, Int.reduceEq, Int.reduceLT, Int.reduceLE, Nat.reduceLT, Nat.reduceLeDiff, reduceCtorEq, Nat.zero_add, o_sum (intsD_map zs), d1, r1, sz]
      generalize zs.sum = s at bs
      refine wp_range (fun k ρ => ∃ (f r : Int) (ys : List Int) (t : T), ρ = [.sh S, .sh (.int a), .sh (.int m), .sh (.int s), .ow (.lst (ys.map .int)), .sh (.int f), .sh (.int r), t] ∧ ys.length = k ∧ Dg ys ∧ 0 ≤ f ∧ f < 2147483629 ∧ Bd 1048700 r)
        ⟨_, _, [], _, rfl, rfl, fun x h => absurd h List.not_mem_nil, Int.emod_nonneg _ (by omega), Int.emod_lt_of_pos _ (by omega), bs.div⟩ ?_ ?_
      · rintro k ρ hk ⟨f, r, ys, t, rfl, hy, hd, f0, f1, br⟩
        have bf : Bd 40 f := bd_range f0 f1 (by omega)
        have m1 : mlOk f f = true := ml bf bf (by omega)
        have g0 : 0 ≤ (f * f + s + (k : Int)) % 2147483629 := Int.emod_nonneg _ (by omega)
        have g1 : (f * f + s + (k : Int)) % 2147483629 < 2147483629 := Int.emod_lt_of_pos _ (by omega)
        simp -implicitDefEqProofs only [b1__law_digits, ↓k_some, ↓an_some, ↓g_0, ↓g_s, ↓s_0, ↓s_s, ↓td_sh, ↓td_ow, ↓td_lo, ↓rd_v, ↓rd_al, ↓rds_nil, ↓rds_cons, ↓shs_nil, ↓shs_v, ↓shk, ↓shs_al, ↓gt_v, ↓gt_al, ↓if_tt, ↓if_ff, ↓w_ret, ↓w_stk, ↓w_rse, ↓w_bnd, ↓nz_sh, ↓nz_ow, ↓nz_lo, ↓nz_ob, ↓nz_lb, ↓w_var, ↓w_c, ↓w_ans, ↓w_rd, ↓w_rds, ↓w_d2, ↓w_d1, ↓w_dN, ↓w_dS, ↓w_nil, ↓w_cons, ↓gv_sh, ↓gv_ow, ↓gv_ob, ↓fg_nil, ↓gi_v, ↓gi_al, ↓w_giv, ↓w_rdO, ↓w_opT, ↓w_tru, ↓w_bl, ↓bl_d, ↓w_not, ↓w_if, ↓w_and, ↓w_or, ↓w_dNot, ↓w_dAnd, ↓w_dOr, ↓w_oNone, ↓w_oSome, ↓o_int, ↓w_sl, ↓sq_nx, ↓sq_rt, ↓sq_bk, ↓sq_ct, ↓w_seq, ↓w_skip, ↓w_dret, ↓w_retN, ↓w_expr, ↓w_dif, ↓w_brk, ↓w_raise, ↓w_dasg, ↓w_dset, ↓al_sh, ↓al_lo, ↓al_lb, ↓w_asg_v, ↓w_asg_al, ↓w_gsNil, ↓w_gsCons, ↓tp_k, ↓w_gTp, ↓w_for, ↓w_loop_nil, ↓tn_nx, ↓tn_ct, ↓tn_bk, ↓tn_rt, ↓w_iOf, ↓w_iOfN, ↓seq_tup, ↓seq_lst, ↓seq_scr, ↓w_lc, ↓wipe_nil, ↓it_k, ↓w_yes, ↓fr_ok, ↓fr_ex, ↓ms_t, ↓ms_f, ↓ms_n, ↓out_nx, ↓out_v, ↓out_al, ↓mu_nil, ↓mu_t, ↓mu_f, ↓fr_run, ↓st_e, ↓lt_sh, ↓lt_ow, ↓lt_lo, ↓lt_ob, ↓lt_lb, ↓ot_ow, ↓ot_ob, ↓le_nil, ↓le_f, ↓le_t, ↓alf_nil, ↓alf_nil2, ↓alf_v, ↓alf_ff, ↓alf_al, ↓oa_nil, ↓oa_v, ↓oa_al, ↓okr_sh, ↓okr_no, ↓okr_ow, ↓okr_sh1, ↓okr_no1, ↓okr_ow1, ↓okr_sh2, ↓pu_nil, ↓pu_f, ↓pu_al, ↓pu_v, ↓w_call, ↓w_dcall, ↓w_dmeth, ↓mk_k, ↓mk_x, ↓w_make, ↓w_dmake, ↓w_chk_v, ↓w_dBM, ↓w_dBM0, ↓isl_n, ↓isk_n, ↓isl_1, ↓isl_2, ↓isl_3, ↓isl_4, ↓isk_1, ↓isk_2, ↓isk_3, ↓isk_4, ↓isk_5, ↓isk_6, ↓ow_k, ↓w_mutS, ↓w_mutR, ↓f_app, ↓f_pop, ↓f_ext, ↓f_extT, ↓w_rdm, ↓str_k, ↓w_isStr, ↓w_strM, ↓w_fld, ↓ft_sh, ↓ft_ow, ↓ft_lo, ↓fa_sh, ↓fa_lo, ↓ft_al, ↓ob_k, ↓w_setFld, ↓w_fldSet, ↓w_setZ, ↓w_gSub, ↓fow_k, ↓w_gFSub, ↓int_k, ↓w_aug, ↓ch_t, ↓ch_f, ↓w_catch, ↓w_try, ↓w_tryKeep, ↓w_give, ↓w_no, ↓w_dict, ↓w_dictT, ↓w_chain, ↓is_b, ↓w_get2, ↓gz_s, ↓gz_n, ↓w_getZ, ↓o_addI, ↓o_addS, ↓o_addT, ↓o_addL, ↓o_sub, ↓o_mulI, ↓o_mulS, ↓o_mulL, ↓o_fdv, ↓o_mod, ↓o_neg, ↓o_lt, ↓o_le, ↓o_gt, ↓o_ge, ↓b_lt, ↓b_le, ↓o_is, ↓isn_t, ↓isn_1, ↓isn_2, ↓isn_3, ↓isn_4, ↓isn_5, ↓o_eqI, ↓o_eqS, ↓o_ixT, ↓o_ixL, ↓o_ixC, ↓o_ixS, ↓o_ixD, ↓o_slS, ↓o_slT, ↓o_slL, ↓o_slC, ↓o_inD, ↓o_tup, ↓o_lst, ↓o_lenT, ↓o_lenL, ↓o_lenC, ↓o_lenD, ↓o_lenS, ↓o_min, ↓o_max, ↓o_intI, ↓o_intB, ↓o_listT, ↓o_listL, ↓o_listC, ↓o_tupleT, ↓o_tupleL, ↓o_dict, ↓o_rev, ↓o_revT, ↓o_isi, ↓ty_1, ↓ty_2, ↓ty_3, ↓ty_4, ↓ty_5, ↓ty_6, ↓ty_7, ↓tr_b, ↓tr_n, ↓tr_i, ↓tr_t, ↓tr_l, w_chk_al isl_n, w_chk_al isk_n, Bool.false_eq_true, if_true, if_false, true_and, and_true, Bool.bne_false, Bool.bne_true, Bool.not_true, Bool.not_false, decide_true, decide_false, Bool.and_true, Bool.true_and, Bool.or_false, Bool.false_or, Bool.or_true, Bool.true_or, Bool.and_false, Bool.false_and, Bool.or_self, Bool.and_self, List.getElem?_cons_zero, List.getElem?_cons_succ, List.getElem?_nil, List.length_cons, List.length_nil, List.cons_append, List.nil_append, Nat.reduceAdd, Nat.reduceSub, List.replicate_succ, List.replicate_zero, Nat.reduceEqDiff, Int.reduceEq, Int.reduceLT, Int.reduceLE, Nat.reduceLT, Nat.reduceLeDiff, reduceCtorEq, Nat.zero_add, m1, d2, sz]
        generalize (f * f + s + (k : Int)) % 2147483629 = f' at g0 g1
        have bf' : Bd 40 f' := bd_range g0 g1 (by omega)
        have m2 : mlOk f' f' = true := ml bf' bf' (by omega)
        have hl : ltOk (ys.map D.int).length = true := lt_ok (by rw [List.length_map]; omega)
        have hc : ∃ q : Int, atI [D.int r, .int (f' * f' % 2147483587)] (s % 2) = some (.int q) := by
          have : s % 2 = 0 ∨ s % 2 = 1 := by omega
          rcases this with h | h <;> rw [h]
          · exact ⟨_, atI_nat (D.int r :: _) 0 (by simp)⟩
          · exact ⟨_, atI_nat [D.int r, _] 1 (by simp)⟩
        obtain ⟨q, hc⟩ := hc
        simp -implicitDefEqProofs only [↓k_some, ↓an_some, ↓g_0, ↓g_s, ↓s_0, ↓s_s, ↓td_sh, ↓td_ow, ↓td_lo, ↓rd_v, ↓rd_al, ↓rds_nil, ↓rds_cons, ↓shs_nil, ↓shs_v, ↓shk, ↓shs_al, ↓gt_v, ↓gt_al, ↓if_tt, ↓if_ff, ↓w_ret, ↓w_stk, ↓w_rse, ↓w_bnd, ↓nz_sh, ↓nz_ow, ↓nz_lo, ↓nz_ob, ↓nz_lb, ↓w_var, ↓w_c, ↓w_ans, ↓w_rd, ↓w_rds, ↓w_d2, ↓w_d1, ↓w_dN, ↓w_dS, ↓w_nil, ↓w_cons, ↓gv_sh, ↓gv_ow, ↓gv_ob, ↓fg_nil, ↓gi_v, ↓gi_al, ↓w_giv, ↓w_rdO, ↓w_opT, ↓w_tru, ↓w_bl, ↓bl_d, ↓w_not, ↓w_if, ↓w_and, ↓w_or, ↓w_dNot, ↓w_dAnd, ↓w_dOr, ↓w_oNone, ↓w_oSome, ↓o_int, ↓w_sl, ↓sq_nx, ↓sq_rt, ↓sq_bk, ↓sq_ct, ↓w_seq, ↓w_skip, ↓w_dret, ↓w_retN, ↓w_expr, ↓w_dif, ↓w_brk, ↓w_raise, ↓w_dasg, ↓w_dset, ↓al_sh, ↓al_lo, ↓al_lb, ↓w_asg_v, ↓w_asg_al, ↓w_gsNil, ↓w_gsCons, ↓tp_k, ↓w_gTp, ↓w_for, ↓w_loop_nil, ↓tn_nx, ↓tn_ct, ↓tn_bk, ↓tn_rt, ↓w_iOf, ↓w_iOfN, ↓seq_tup, ↓seq_lst, ↓seq_scr, ↓w_lc, ↓wipe_nil, ↓it_k, ↓w_yes, ↓fr_ok, ↓fr_ex, ↓ms_t, ↓ms_f, ↓ms_n, ↓out_nx, ↓out_v, ↓out_al, ↓mu_nil, ↓mu_t, ↓mu_f, ↓fr_run, ↓st_e, ↓lt_sh, ↓lt_ow, ↓lt_lo, ↓lt_ob, ↓lt_lb, ↓ot_ow, ↓ot_ob, ↓le_nil, ↓le_f, ↓le_t, ↓alf_nil, ↓alf_nil2, ↓alf_v, ↓alf_ff, ↓alf_al, ↓oa_nil, ↓oa_v, ↓oa_al, ↓okr_sh, ↓okr_no, ↓okr_ow, ↓okr_sh1, ↓okr_no1, ↓okr_ow1, ↓okr_sh2, ↓pu_nil, ↓pu_f, ↓pu_al, ↓pu_v, ↓w_call, ↓w_dcall, ↓w_dmeth, ↓mk_k, ↓mk_x, ↓w_make, ↓w_dmake, ↓w_chk_v, ↓w_dBM, ↓w_dBM0, ↓isl_n, ↓isk_n, ↓isl_1, ↓isl_2, ↓isl_3, ↓isl_4, ↓isk_1, ↓isk_2, ↓isk_3, ↓isk_4, ↓isk_5, ↓isk_6, ↓ow_k, ↓w_mutS, ↓w_mutR, ↓f_app, ↓f_pop, ↓f_ext, ↓f_extT, ↓w_rdm, ↓str_k, ↓w_isStr, ↓w_strM, ↓w_fld, ↓ft_sh, ↓ft_ow, ↓ft_lo, ↓fa_sh, ↓fa_lo, ↓ft_al, ↓ob_k, ↓w_setFld, ↓w_fldSet, ↓w_setZ, ↓w_gSub, ↓fow_k, ↓w_gFSub, ↓int_k, ↓w_aug, ↓ch_t, ↓ch_f, ↓w_catch, ↓w_try, ↓w_tryKeep, ↓w_give, ↓w_no, ↓w_dict, ↓w_dictT, ↓w_chain, ↓is_b, ↓w_get2, ↓gz_s, ↓gz_n, ↓w_getZ, ↓o_addI, ↓o_addS, ↓o_addT, ↓o_addL, ↓o_sub, ↓o_mulI, ↓o_mulS, ↓o_mulL, ↓o_fdv, ↓o_mod, ↓o_neg, ↓o_lt, ↓o_le, ↓o_gt, ↓o_ge, ↓b_lt, ↓b_le, ↓o_is, ↓isn_t, ↓isn_1, ↓isn_2, ↓isn_3, ↓isn_4, ↓isn_5, ↓o_eqI, ↓o_eqS, ↓o_ixT, ↓o_ixL, ↓o_ixC, ↓o_ixS, ↓o_ixD, ↓o_slS, ↓o_slT, ↓o_slL, ↓o_slC, ↓o_inD, ↓o_tup, ↓o_lst, ↓o_lenT, ↓o_lenL, ↓o_lenC, ↓o_lenD, ↓o_lenS, ↓o_min, ↓o_max, ↓o_intI, ↓o_intB, ↓o_listT, ↓o_listL, ↓o_listC, ↓o_tupleT, ↓o_tupleL, ↓o_dict, ↓o_rev, ↓o_revT, ↓o_isi, ↓ty_1, ↓ty_2, ↓ty_3, ↓ty_4, ↓ty_5, ↓ty_6, ↓ty_7, ↓tr_b, ↓tr_n, ↓tr_i, ↓tr_t, ↓tr_l, w_chk_al isl_n, w_chk_al isk_n, Bool.false_eq_true, if_true, if_false, true_and, and_true, Bool.bne_false, Bool.bne_true, Bool.not_true, Bool.not_false, decide_true, decide_false, Bool.and_true, Bool.true_and, Bool.or_false, Bool.false_or, Bool.or_true, Bool.true_or, Bool.and_false, Bool.false_and, Bool.or_self, Bool.and_self, List.getElem?_cons_zero, List.getElem?_cons_succ, List.getElem?_nil, List.length_cons, List.length_nil, List.cons_append, List.nil_append, Nat.reduceAdd, Nat.reduceSub, List.replicate_succ, List.replicate_zero, Nat.reduceEqDiff, Int.reduceEq, Int.reduceLT, Int.reduceLE, Nat.reduceLT, Nat.reduceLeDiff, reduceCtorEq, Nat.zero_add, m2, hc, hl]
        refine ⟨_, _, ys ++ [q % 1000003], _, by rw [List.map_append]; rfl, by rw [List.length_append, hy]; rfl, fun x hx => ?_, g0, g1, br.div⟩
        rcases List.mem_append.mp hx with h | h
        · exact hd x h
        · rw [List.mem_singleton.mp h]
          exact ⟨Int.emod_nonneg _ (by omega), Int.emod_lt_of_pos _ (by omega)⟩
      · rintro ρ ⟨f, r, ys, t, rfl, hy, hd, _⟩
        simp -implicitDefEqProofs only [↓k_some, ↓an_some, ↓g_0, ↓g_s, ↓s_0, ↓s_s, ↓td_sh, ↓td_ow, ↓td_lo, ↓rd_v, ↓rd_al, ↓rds_nil, ↓rds_cons, ↓shs_nil, ↓shs_v, ↓shk, ↓shs_al, ↓gt_v, ↓gt_al, ↓if_tt, ↓if_ff, ↓w_ret, ↓w_stk, ↓w_rse, ↓w_bnd, ↓nz_sh, ↓nz_ow, ↓nz_lo, ↓nz_ob, ↓nz_lb, ↓w_var, ↓w_c, ↓w_ans, ↓w_rd, ↓w_rds, ↓w_d2, ↓w_d1, ↓w_dN, ↓w_dS, ↓w_nil, ↓w_cons, ↓gv_sh, ↓gv_ow, ↓gv_ob, ↓fg_nil, ↓gi_v, ↓gi_al, ↓w_giv, ↓w_rdO, ↓w_opT, ↓w_tru, ↓w_bl, ↓bl_d, ↓w_not, ↓w_if, ↓w_and, ↓w_or, ↓w_dNot, ↓w_dAnd, ↓w_dOr, ↓w_oNone, ↓w_oSome, ↓o_int, ↓w_sl, ↓sq_nx, ↓sq_rt, ↓sq_bk, ↓sq_ct, ↓w_seq, ↓w_skip, ↓w_dret, ↓w_retN, ↓w_expr, ↓w_dif, ↓w_brk, ↓w_raise, ↓w_dasg, ↓w_dset, ↓al_sh, ↓al_lo, ↓al_lb, ↓w_asg_v, ↓w_asg_al, ↓w_gsNil, ↓w_gsCons, ↓tp_k, ↓w_gTp, ↓w_for, ↓w_loop_nil, ↓tn_nx, ↓tn_ct, ↓tn_bk, ↓tn_rt, ↓w_iOf, ↓w_iOfN, ↓seq_tup, ↓seq_lst, ↓seq_scr, ↓w_lc, ↓wipe_nil, ↓it_k, ↓w_yes, ↓fr_ok, ↓fr_ex, ↓ms_t, ↓ms_f, ↓ms_n, ↓out_nx, ↓out_v, ↓out_al, ↓mu_nil, ↓mu_t, ↓mu_f, ↓fr_run, ↓st_e, ↓lt_sh, ↓lt_ow, ↓lt_lo, ↓lt_ob, ↓lt_lb, ↓ot_ow, ↓ot_ob, ↓le_nil, ↓le_f, ↓le_t, ↓alf_nil, ↓alf_nil2, ↓alf_v, ↓alf_ff, ↓alf_al, ↓oa_nil, ↓oa_v, ↓oa_al, ↓okr_sh, ↓okr_no, ↓okr_ow, ↓okr_sh1, ↓okr_no1, ↓okr_ow1, ↓okr_sh2, ↓pu_nil, ↓pu_f, ↓pu_al, ↓pu_v, ↓w_call, ↓w_dcall, ↓w_dmeth, ↓mk_k, ↓mk_x, ↓w_make, ↓w_dmake, ↓w_chk_v, ↓w_dBM, ↓w_dBM0, ↓isl_n, ↓isk_n, ↓isl_1, ↓isl_2, ↓isl_3, ↓isl_4, ↓isk_1, ↓isk_2, ↓isk_3, ↓isk_4, ↓isk_5, ↓isk_6, ↓ow_k, ↓w_mutS, ↓w_mutR, ↓f_app, ↓f_pop, ↓f_ext, ↓f_extT, ↓w_rdm, ↓str_k, ↓w_isStr, ↓w_strM, ↓w_fld, ↓ft_sh, ↓ft_ow, ↓ft_lo, ↓fa_sh, ↓fa_lo, ↓ft_al, ↓ob_k, ↓w_setFld, ↓w_fldSet, ↓w_setZ, ↓w_gSub, ↓fow_k, ↓w_gFSub, ↓int_k, ↓w_aug, ↓ch_t, ↓ch_f, ↓w_catch, ↓w_try, ↓w_tryKeep, ↓w_give, ↓w_no, ↓w_dict, ↓w_dictT, ↓w_chain, ↓is_b, ↓w_get2, ↓gz_s, ↓gz_n, ↓w_getZ, ↓o_addI, ↓o_addS, ↓o_addT, ↓o_addL, ↓o_sub, ↓o_mulI, ↓o_mulS, ↓o_mulL, ↓o_fdv, ↓o_mod, ↓o_neg, ↓o_lt, ↓o_le, ↓o_gt, ↓o_ge, ↓b_lt, ↓b_le, ↓o_is, ↓isn_t, ↓isn_1, ↓isn_2, ↓isn_3, ↓isn_4, ↓isn_5, ↓o_eqI, ↓o_eqS, ↓o_ixT, ↓o_ixL, ↓o_ixC, ↓o_ixS, ↓o_ixD, ↓o_slS, ↓o_slT, ↓o_slL, ↓o_slC, ↓o_inD, ↓o_tup, ↓o_lst, ↓o_lenT, ↓o_lenL, ↓o_lenC, ↓o_lenD, ↓o_lenS, ↓o_min, ↓o_max, ↓o_intI, ↓o_intB, ↓o_listT, ↓o_listL, ↓o_listC, ↓o_tupleT, ↓o_tupleL, ↓o_dict, ↓o_rev, ↓o_revT, ↓o_isi, ↓ty_1, ↓ty_2, ↓ty_3, ↓ty_4, ↓ty_5, ↓ty_6, ↓ty_7, ↓tr_b, ↓tr_n, ↓tr_i, ↓tr_t, ↓tr_l, w_chk_al isl_n, w_chk_al isk_n, Bool.false_eq_true, if_true, if_false, true_and, and_true, Bool.bne_false, Bool.bne_true, Bool.not_true, Bool.not_false, decide_true, decide_false, Bool.and_true, Bool.true_and, Bool.or_false, Bool.false_or, Bool.or_true, Bool.true_or, Bool.and_false, Bool.false_and, Bool.or_self, Bool.and_self, List.getElem?_cons_zero, List.getElem?_cons_succ, List.getElem?_nil, List.length_cons, List.length_nil, List.cons_append, List.nil_append, Nat.reduceAdd, Nat.reduceSub, List.replicate_succ, List.replicate_zero, Nat.reduceEqDiff, Int.reduceEq, Int.reduceLT, Int.reduceLE, Nat.reduceLT, Nat.reduceLeDiff, reduceCtorEq, Nat.zero_add]
        exact ⟨ys, hy, hd, by rw [Pu, List.map_reverse]⟩
  cases h : F__law_digits [.sh S, .sh (.int a), .sh (.int m)] with
  | stk => rw [h] at key; exact key.elim
  | ex n f => rw [h] at key; exact key.elim
  | ok t f =>
    rw [h] at key
    obtain ⟨xs, h1, h2, rfl, rfl⟩ := key
    exact ⟨xs, h1, h2, rfl⟩
theorem e_digits {ns : List Int} {a m : Nat} (hns : ns.length ≤ 63) (hb : ∀ z ∈ ns, Bd 1048576 z) (ha : a ≤ 1000) (hm : 0 < m) (hm2 : m < 1000) :
    ∃ xs : List Int, xs.length = 150 ∧ Dg xs ∧ F__law_digits [.sh (.scr (ns.map .int)), .sh (.int a), .sh (.int m)] = .ok (.ow (Pu xs)) [] :=
  e_digits_g (fun K => by rw [o_lenC, List.length_map]) (fun i K => o_ixC) hns hb ha hm hm2
theorem e_digits_l {x : Int} (hb : Bd 1048576 x) : ∃ xs : List Int, xs.length = 150 ∧ Dg xs ∧ F__law_digits [.sh (.lst [.int x]), .sh (.int 0), .sh (.int 1)] = .ok (.ow (Pu xs)) [] :=
  e_digits_g (S := .lst [.int x]) (ns := [x]) (a := 0) (m := 1) (fun K => by rw [o_lenL]; rfl) (fun i K => o_ixL) (by simp) (fun z hz => by rw [List.mem_singleton.mp hz]; exact hb) (by omega) (by omega) (by omega)
end Lk32

set_option Elab.async false
set_option linter.all false
set_option maxRecDepth 100000
set_option maxHeartbeats 4000000
namespace Lk32
open PySem L2 V
inductive Ex where
  | nm (s : Str)
  | ap (b : Bool) (s : Str) (l : List Ex)
def apS (b : Bool) : Str := if b = true then "make" else "call"
mutual
def exD : Ex → D
  | .nm s => .tup [.str "name", .str s]
  | .ap b s l => .tup [.str (apS b), .str s, .tup (exDs l)]
def exDs : List Ex → List D
  | [] => []
  | e :: l => exD e :: exDs l
end
theorem exDs_map : ∀ l : List Ex, exDs l = l.map exD
  | [] => by rw [exDs]; rfl
  | e :: l => by rw [exDs, exDs_map l]; rfl
/-- right names, at most three arguments, at most d deep -/
inductive Ew : Nat → Ex → Prop
  | nm {d : Nat} {s : Str} : Nm s → Ew d (.nm s)
  | ap {d : Nat} {b : Bool} {s : Str} {l : List Ex} : Nm s → l.length ≤ 3 → (∀ e ∈ l, Ew d e) → Ew (d + 1) (.ap b s l)
theorem ok_nm : PyData.strOk "name" = true := by decide +kernel
theorem ok_ap (b : Bool) : PyData.strOk (apS b) = true := by cases b <;> decide +kernel
theorem ap_ne (b : Bool) : decide (apS b = "name") = false := by cases b <;> decide +kernel
theorem nm_eq : decide (("name" : Str) = "name") = true := by decide +kernel
theorem at0 {a : D} {l : List D} : atI (a :: l) 0 = some a := atI_nat (a :: l) 0 (by simp)
theorem at1 {a b : D} {l : List D} : atI (a :: b :: l) 1 = some b := atI_nat (a :: b :: l) 1 (by simp)
theorem at2 {a b c : D} {l : List D} : atI (a :: b :: c :: l) 2 = some c := atI_nat (a :: b :: c :: l) 2 (by simp)
end Lk32

set_option Elab.async false
set_option linter.all false
set_option maxRecDepth 100000
set_option maxHeartbeats 4000000
namespace Lk32
open PySem L2 V
theorem pd_ex {d : Nat} {e : Ex} (h : Ew d e) : Pd (2 * d + 1) (exD e) := by
  induction h with
  | @nm d s hs =>
    rw [exD]
    refine (pd_tup (n := 0) fun x hx => ?_).mono (by omega)
    simp only [List.mem_cons, List.not_mem_nil, or_false] at hx
    rcases hx with rfl | rfl
    · exact pd_str ok_nm
    · exact pd_str hs.ok
  | @ap d b s l hs hl ha ih =>
    rw [exD]
    refine pd_tup fun x hx => ?_
    simp only [List.mem_cons, List.not_mem_nil, or_false] at hx
    rcases hx with rfl | rfl | rfl
    · exact (pd_str (ok_ap b)).mono (by omega)
    · exact (pd_str hs.ok).mono (by omega)
    · rw [exDs_map]
      refine (pd_tup (n := 2 * d + 1) fun y hy => ?_).mono (by omega)
      obtain ⟨z, hz, rfl⟩ := List.mem_map.mp hy
      exact ih z hz
theorem Ew.mono {d d' : Nat} {e : Ex} (h : Ew d e) (hd : d ≤ d') : Ew d' e := by
  induction h generalizing d' with
  | nm hs => exact .nm hs
  | @ap d b s l hs hl ha ih =>
    obtain ⟨d', rfl⟩ : ∃ k, d' = k + 1 := ⟨d' - 1, by omega⟩
    exact .ap hs hl fun e he => ih e he (by omega)
/-! the same compared -/
noncomputable instance : DecidableEq Ex := fun _ _ => Classical.propDecidable _
mutual
def pyE : Ex → PyData
  | .nm s => .tuple [.str "name", .str s]
  | .ap b s l => .tuple [.str (apS b), .str s, .tuple (pyEs l)]
def pyEs : List Ex → List PyData
  | [] => []
  | e :: l => pyE e :: pyEs l
end
mutual
theorem py_ex : ∀ e : Ex, py (exD e) = some (pyE e)
  | .nm s => by rw [exD, pyE, py, pys, py, pys, py, pys]; rfl
  | .ap b s l => by rw [exD, pyE, py, pys, py, pys, py, pys, py, py_exs l, pys]; rfl
theorem py_exs : ∀ l : List Ex, pys (exDs l) = some (pyEs l)
  | [] => by rw [exDs, pyEs, pys]
  | e :: l => by rw [exDs, pyEs, pys, py_ex e, py_exs l]
end
theorem eqv_s (a b : Str) : PyData.eqv (.str a) (.str b) = decide (a = b) := by
  by_cases z : a = b
  · subst z; simp [PyData.eqv]
  · simp [PyData.eqv, z]
theorem beq_s (a b : Str) : (a == b) = decide (a = b) := by
  by_cases z : a = b
  · subst z; simp
  · simp [z]
theorem apS_inj {a b : Bool} (h : apS a = apS b) : a = b := by
  cases a <;> cases b
  · rfl
  · exact absurd h (by decide +kernel)
  · exact absurd h (by decide +kernel)
  · rfl
theorem apS_nm (b : Bool) : apS b ≠ "name" := by cases b <;> decide +kernel
mutual
theorem eqv_ex : ∀ a b : Ex, PyData.eqv (pyE a) (pyE b) = decide (a = b)
  | .nm s, .nm t => by
    rw [pyE, pyE]
    simp only [PyData.eqv, PyData.eqvAll, beq_s, decide_true, Bool.true_and, Bool.and_true]
    by_cases z : s = t
    · subst z; simp
    · rw [decide_eq_false z, decide_eq_false fun h => z (by injection h)]
  | .nm s, .ap b t l => by
    rw [pyE, pyE]
    simp only [PyData.eqv, PyData.eqvAll, beq_s, Bool.and_false]
    rw [decide_eq_false fun h => nomatch h]
  | .ap b t l, .nm s => by
    rw [pyE, pyE]
    simp only [PyData.eqv, PyData.eqvAll, beq_s, Bool.and_false]
    rw [decide_eq_false fun h => nomatch h]
  | .ap b s l, .ap b' s' l' => by
    have ih := eqv_exs l l'
    rw [pyE, pyE]
    simp only [PyData.eqv, PyData.eqvAll, beq_s, Bool.and_true, ih]
    rw [Bool.eq_iff_iff]
    simp only [Bool.and_eq_true, decide_eq_true_eq, Ex.ap.injEq]
    exact ⟨fun h => ⟨apS_inj h.1, h.2⟩, fun h => ⟨congrArg apS h.1, h.2⟩⟩
theorem eqv_exs : ∀ l l' : List Ex, PyData.eqvAll (pyEs l) (pyEs l') = decide (l = l')
  | [], [] => by rw [pyEs]; simp [PyData.eqvAll]
  | [], _ :: _ => by rw [pyEs, pyEs]; simp [PyData.eqvAll]
  | _ :: _, [] => by rw [pyEs, pyEs]; simp [PyData.eqvAll]
  | a :: l, b :: l' => by
    rw [pyEs, pyEs]
    simp only [PyData.eqvAll, eqv_ex a b, eqv_exs l l']
    by_cases z1 : a = b
    · subst z1
      by_cases z2 : l = l'
      · subst z2; simp
      · rw [decide_eq_false z2, decide_eq_false fun h => z2 (List.cons.inj h).2]
        simp
    · rw [decide_eq_false z1, decide_eq_false fun h => z1 (List.cons.inj h).1]
      simp
end
theorem pd_py {n : Nat} {e : Ex} (h : Pd n (exD e)) : (pyE e).canLay0 = true ∧ (pyE e).depth ≤ n := by
  obtain ⟨p, e1, c, l⟩ := h
  rw [py_ex] at e1
  cases e1
  exact ⟨c, l⟩
theorem o_eqEx {d d' : Nat} {a b : Ex} {n : Bool} {K : V.T → Prop} (ha : Ew d a) (hb : Ew d' b) (h : d ≤ 50) : AnK (wEq n (exD a) (exD b)) K = K (.sh (.bl (decide (a = b) != n))) := by
  have h1 := pd_py (pd_ex ha)
  have h2 := pd_py (pd_ex hb)
  have ok : eqOk (pyE a) (pyE b) = true := by
    unfold eqOk
    rw [h1.1, h2.1]
    simp only [Bool.true_and, decide_eq_true_eq]
    omega
  rw [o_eqP (py_ex a) (py_ex b) ok, eqv_ex]
end Lk32

set_option Elab.async false
set_option linter.all false
set_option maxRecDepth 100000
set_option maxHeartbeats 4000000
namespace Lk32
open PySem L2 V
/-! expressions drawn -/
theorem atI_map_mem {α β : Type} (f : α → β) (l : List α) (i : Int) (h0 : 0 ≤ i) (h1 : i < l.length) : ∃ a, atI (l.map f) i = some (f a) ∧ a ∈ l := by
  obtain ⟨b, e, hb⟩ := atI_int (l.map f) i h0 (by rw [List.length_map]; exact h1)
  obtain ⟨a, ha, rfl⟩ := List.mem_map.mp hb
  exact ⟨a, e, ha⟩
def cost : Nat → Nat
  | 0 => 1
  | d + 1 => 1 + 3 * cost d
theorem e_wild {names : List Str} (hn : ∀ s ∈ names, Nm s) (h1 : 1 ≤ names.length) (h5 : names.length ≤ 20) : ∀ (k d : Nat) (xs : List Int), d < k → cost d ≤ xs.length → Dg xs →
    ∃ (e : Ex) (ys : List Int), Ew d e ∧ xs.length ≤ ys.length + cost d ∧ Dg ys ∧ F__law_wild k [.sh (.lst (names.map .str)), .ow (Pu xs), .sh (.int d)] = .ok (.sh (exD e)) [.ow (Pu ys)]
  | k + 1, d, xs, hd, hx, hg => by
    obtain ⟨x, xs, rfl⟩ : ∃ y ys, xs = y :: ys := by
      match xs, hx with
      | y :: ys, _ => exact ⟨y, ys, rfl⟩
      | [], h => cases d <;> simp [cost] at h
    have key : FrK (F__law_wild (k + 1) [.sh (.lst (names.map .str)), .ow (Pu (x :: xs)), .sh (.int d)]) (fun t f => ∃ (e : Ex) (ys : List Int), (Ew d e ∧ xs.length + 1 ≤ ys.length + cost d ∧ Dg ys) ∧ t = .sh (exD e) ∧ f = [.ow (Pu ys)]) NoF := by
      have hg2 : Dg xs := fun y hy => hg y (List.mem_cons_of_mem _ hy)
      have bpos : 0 < (((names.map D.str).length : Nat) : Int) := by rw [List.length_map]; omega
      have pick : ∀ i : Int, ∃ s, atI (names.map D.str) (i % (((names.map D.str).length : Nat) : Int)) = some (.str s) ∧ s ∈ names := fun i =>
        atI_map_mem D.str names _ (Int.emod_nonneg _ (by omega)) (by have := Int.emod_lt_of_pos i bpos; rw [List.length_map] at this ⊢; exact this)
      obtain ⟨s1, p1, q1⟩ := pick (x / 5)
      obtain ⟨s2, p2, q2⟩ := pick (x / 60)
      have hcnt : ∃ n : Nat, n ≤ 3 ∧ atI [D.int 0, .int 1, .int 2, .int 3, .int 1, .int 2] (x / 5 % 6) = some (.int (n : Int)) := by
        have : x / 5 % 6 = 0 ∨ x / 5 % 6 = 1 ∨ x / 5 % 6 = 2 ∨ x / 5 % 6 = 3 ∨ x / 5 % 6 = 4 ∨ x / 5 % 6 = 5 := by omega
        rcases this with h | h | h | h | h | h <;> rw [h]
        · exact ⟨0, by omega, rfl⟩
        · exact ⟨1, by omega, rfl⟩
        · exact ⟨2, by omega, rfl⟩
        · exact ⟨3, by omega, rfl⟩
        · exact ⟨1, by omega, rfl⟩
        · exact ⟨2, by omega, rfl⟩
      obtain ⟨cnt, hc3, hcnt⟩ := hcnt
      obtain ⟨b, hb⟩ : ∃ b : Bool, atI [D.str "make", .str "call"] (x / 30 % 2) = some (.str (apS b)) := by
        have : x / 30 % 2 = 0 ∨ x / 30 % 2 = 1 := by omega
        rcases this with h | h <;> rw [h]
        · exact ⟨true, at0⟩
        · exact ⟨false, at1⟩
      have r1 := rng1_ok (n := cnt) (by omega)
      have d5 : dvOk 5 = true := dv (by omega) (by omega)
      have d30 : dvOk 30 = true := dv (by omega) (by omega)
      have d60 : dvOk 60 = true := dv (by omega) (by omega)
      have nmE : ∀ s, s ∈ names → ∃ (e : Ex) (ys : List Int), (Ew d e ∧ xs.length + 1 ≤ ys.length + cost d ∧ Dg ys) ∧ D.tup [.str "name", .str s] = exD e ∧ ys = xs := fun s hs =>
        ⟨.nm s, xs, ⟨.nm (hn s hs), by cases d <;> simp only [cost] <;> omega, hg2⟩, by rw [exD], rfl⟩
      unfold F__law_wild d__law_wild
      simp -implicitDefEqProofs only [↓k_some, ↓an_some, ↓g_0, ↓g_s, ↓s_0, ↓s_s, ↓td_sh, ↓td_ow, ↓td_lo, ↓rd_v, ↓rd_al, ↓rds_nil, ↓rds_cons, ↓shs_nil, ↓shs_v, ↓shk, ↓shs_al, ↓gt_v, ↓gt_al, ↓if_tt, ↓if_ff, ↓w_ret, ↓w_stk, ↓w_rse, ↓w_bnd, ↓nz_sh, ↓nz_ow, ↓nz_lo, ↓nz_ob, ↓nz_lb, ↓w_var, ↓w_c, ↓w_ans, ↓w_rd, ↓w_rds, ↓w_d2, ↓w_d1, ↓w_dN, ↓w_dS, ↓w_nil, ↓w_cons, ↓gv_sh, ↓gv_ow, ↓gv_ob, ↓fg_nil, ↓gi_v, ↓gi_al, ↓w_giv, ↓w_rdO, ↓w_opT, ↓w_tru, ↓w_bl, ↓bl_d, ↓w_not, ↓w_if, ↓w_and, ↓w_or, ↓w_dNot, ↓w_dAnd, ↓w_dOr, ↓w_oNone, ↓w_oSome, ↓o_int, ↓w_sl, ↓sq_nx, ↓sq_rt, ↓sq_bk, ↓sq_ct, ↓w_seq, ↓w_skip, ↓w_dret, ↓w_retN, ↓w_expr, ↓w_dif, ↓w_brk, ↓w_raise, ↓w_dasg, ↓w_dset, ↓al_sh, ↓al_lo, ↓al_lb, ↓w_asg_v, ↓w_asg_al, ↓w_gsNil, ↓w_gsCons, ↓tp_k, ↓w_gTp, ↓w_for, ↓w_loop_nil, ↓tn_nx, ↓tn_ct, ↓tn_bk, ↓tn_rt, ↓w_iOf, ↓w_iOfN, ↓seq_tup, ↓seq_lst, ↓seq_scr, ↓w_lc, ↓wipe_nil, ↓it_k, ↓w_yes, ↓fr_ok, ↓fr_ex, ↓ms_t, ↓ms_f, ↓ms_n, ↓out_nx, ↓out_v, ↓out_al, ↓mu_nil, ↓mu_t, ↓mu_f, ↓fr_run, ↓st_e, ↓lt_sh, ↓lt_ow, ↓lt_lo, ↓lt_ob, ↓lt_lb, ↓ot_ow, ↓ot_ob, ↓le_nil, ↓le_f, ↓le_t, ↓alf_nil, ↓alf_nil2, ↓alf_v, ↓alf_ff, ↓alf_al, ↓oa_nil, ↓oa_v, ↓oa_al, ↓okr_sh, ↓okr_no, ↓okr_ow, ↓okr_sh1, ↓okr_no1, ↓okr_ow1, ↓okr_sh2, ↓pu_nil, ↓pu_f, ↓pu_al, ↓pu_v, ↓w_call, ↓w_dcall, ↓w_dmeth, ↓mk_k, ↓mk_x, ↓w_make, ↓w_dmake, ↓w_chk_v, ↓w_dBM, ↓w_dBM0, ↓isl_n, ↓isk_n, ↓isl_1, ↓isl_2, ↓isl_3, ↓isl_4, ↓isk_1, ↓isk_2, ↓isk_3, ↓isk_4, ↓isk_5, ↓isk_6, ↓ow_k, ↓w_mutS, ↓w_mutR, ↓f_app, ↓f_pop, ↓f_ext, ↓f_extT, ↓w_rdm, ↓str_k, ↓w_isStr, ↓w_strM, ↓w_fld, ↓ft_sh, ↓ft_ow, ↓ft_lo, ↓fa_sh, ↓fa_lo, ↓ft_al, ↓ob_k, ↓w_setFld, ↓w_fldSet, ↓w_setZ, ↓w_gSub, ↓fow_k, ↓w_gFSub, ↓int_k, ↓w_aug, ↓ch_t, ↓ch_f, ↓w_catch, ↓w_try, ↓w_tryKeep, ↓w_give, ↓w_no, ↓w_dict, ↓w_dictT, ↓w_chain, ↓is_b, ↓w_get2, ↓gz_s, ↓gz_n, ↓w_getZ, ↓o_addI, ↓o_addS, ↓o_addT, ↓o_addL, ↓o_sub, ↓o_mulI, ↓o_mulS, ↓o_mulL, ↓o_fdv, ↓o_mod, ↓o_neg, ↓o_lt, ↓o_le, ↓o_gt, ↓o_ge, ↓b_lt, ↓b_le, ↓o_is, ↓isn_t, ↓isn_1, ↓isn_2, ↓isn_3, ↓isn_4, ↓isn_5, ↓o_eqI, ↓o_eqS, ↓o_ixT, ↓o_ixL, ↓o_ixC, ↓o_ixS, ↓o_ixD, ↓o_slS, ↓o_slT, ↓o_slL, ↓o_slC, ↓o_inD, ↓o_tup, ↓o_lst, ↓o_lenT, ↓o_lenL, ↓o_lenC, ↓o_lenD, ↓o_lenS, ↓o_min, ↓o_max, ↓o_intI, ↓o_intB, ↓o_listT, ↓o_listL, ↓o_listC, ↓o_tupleT, ↓o_tupleL, ↓o_dict, ↓o_rev, ↓o_revT, ↓o_isi, ↓ty_1, ↓ty_2, ↓ty_3, ↓ty_4, ↓ty_5, ↓ty_6, ↓ty_7, ↓tr_b, ↓tr_n, ↓tr_i, ↓tr_t, ↓tr_l, w_chk_al isl_n, w_chk_al isk_n, Bool.false_eq_true, if_true, if_false, true_and, and_true, Bool.bne_false, Bool.bne_true, Bool.not_true, Bool.not_false, decide_true, decide_false, Bool.and_true, Bool.true_and, Bool.or_false, Bool.false_or, Bool.or_true, Bool.true_or, Bool.and_false, Bool.false_and, Bool.or_self, Bool.and_self, List.getElem?_cons_zero, List.getElem?_cons_succ, List.getElem?_nil, List.length_cons, List.length_nil, List.cons_append, List.nil_append, Nat.reduceAdd, Nat.reduceSub, List.replicate_succ, List.replicate_zero, Nat.reduceEqDiff, Int.reduceEq, Int.reduceLT, Int.reduceLE, Nat.reduceLT, Nat.reduceLeDiff, reduceCtorEq, Nat.zero_add, pu_pop, isl_pu, d5, p1, bpos, sz]
      refine ⟨fun hz => ?_, fun hz => ?_⟩
      · obtain ⟨e, ys, h1, h2, rfl⟩ := nmE s1 q1
        exact ⟨e, ys, h1, by rw [h2]; exact ⟨rfl, rfl⟩⟩
      refine ⟨fun hz2 => ?_, fun hz2 => ?_⟩
      · obtain ⟨e, ys, h1, h2, rfl⟩ := nmE s1 q1
        exact ⟨e, ys, h1, by rw [h2]; exact ⟨rfl, rfl⟩⟩
      have hd0 := of_decide_eq_false hz
      obtain ⟨d, rfl⟩ : ∃ d', d = d' + 1 := ⟨d - 1, by omega⟩
      simp only [cost, List.length_cons] at hx
      simp -implicitDefEqProofs only [↓k_some, ↓an_some, ↓g_0, ↓g_s, ↓s_0, ↓s_s, ↓td_sh, ↓td_ow, ↓td_lo, ↓rd_v, ↓rd_al, ↓rds_nil, ↓rds_cons, ↓shs_nil, ↓shs_v, ↓shk, ↓shs_al, ↓gt_v, ↓gt_al, ↓if_tt, ↓if_ff, ↓w_ret, ↓w_stk, ↓w_rse, ↓w_bnd, ↓nz_sh, ↓nz_ow, ↓nz_lo, ↓nz_ob, ↓nz_lb, ↓w_var, ↓w_c, ↓w_ans, ↓w_rd, ↓w_rds, ↓w_d2, ↓w_d1, ↓w_dN, ↓w_dS, ↓w_nil, ↓w_cons, ↓gv_sh, ↓gv_ow, ↓gv_ob, ↓fg_nil, ↓gi_v, ↓gi_al, ↓w_giv, ↓w_rdO, ↓w_opT, ↓w_tru, ↓w_bl, ↓bl_d, ↓w_not, ↓w_if, ↓w_and, ↓w_or, ↓w_dNot, ↓w_dAnd, ↓w_dOr, ↓w_oNone, ↓w_oSome, ↓o_int, ↓w_sl, ↓sq_nx, ↓sq_rt, ↓sq_bk, ↓sq_ct, ↓w_seq, ↓w_skip, ↓w_dret, ↓w_retN, ↓w_expr, ↓w_dif, ↓w_brk, ↓w_raise, ↓w_dasg, ↓w_dset, ↓al_sh, ↓al_lo, ↓al_lb, ↓w_asg_v, ↓w_asg_al, ↓w_gsNil, ↓w_gsCons, ↓tp_k, ↓w_gTp, ↓w_for, ↓w_loop_nil, ↓tn_nx, ↓tn_ct, ↓tn_bk, ↓tn_rt, ↓w_iOf, ↓w_iOfN, ↓seq_tup, ↓seq_lst, ↓seq_scr, ↓w_lc, ↓wipe_nil, ↓it_k, ↓w_yes, ↓fr_ok, ↓fr_ex, ↓ms_t, ↓ms_f, ↓ms_n, ↓out_nx, ↓out_v, ↓out_al, ↓mu_nil, ↓mu_t, ↓mu_f, ↓fr_run, ↓st_e, ↓lt_sh, ↓lt_ow, ↓lt_lo, ↓lt_ob, ↓lt_lb, ↓ot_ow, ↓ot_ob, ↓le_nil, ↓le_f, ↓le_t, ↓alf_nil, ↓alf_nil2, ↓alf_v, ↓alf_ff, ↓alf_al, ↓oa_nil, ↓oa_v, ↓oa_al, ↓okr_sh, ↓okr_no, ↓okr_ow, ↓okr_sh1, ↓okr_no1, ↓okr_ow1, ↓okr_sh2, ↓pu_nil, ↓pu_f, ↓pu_al, ↓pu_v, ↓w_call, ↓w_dcall, ↓w_dmeth, ↓mk_k, ↓mk_x, ↓w_make, ↓w_dmake, ↓w_chk_v, ↓w_dBM, ↓w_dBM0, ↓isl_n, ↓isk_n, ↓isl_1, ↓isl_2, ↓isl_3, ↓isl_4, ↓isk_1, ↓isk_2, ↓isk_3, ↓isk_4, ↓isk_5, ↓isk_6, ↓ow_k, ↓w_mutS, ↓w_mutR, ↓f_app, ↓f_pop, ↓f_ext, ↓f_extT, ↓w_rdm, ↓str_k, ↓w_isStr, ↓w_strM, ↓w_fld, ↓ft_sh, ↓ft_ow, ↓ft_lo, ↓fa_sh, ↓fa_lo, ↓ft_al, ↓ob_k, ↓w_setFld, ↓w_fldSet, ↓w_setZ, ↓w_gSub, ↓fow_k, ↓w_gFSub, ↓int_k, ↓w_aug, ↓ch_t, ↓ch_f, ↓w_catch, ↓w_try, ↓w_tryKeep, ↓w_give, ↓w_no, ↓w_dict, ↓w_dictT, ↓w_chain, ↓is_b, ↓w_get2, ↓gz_s, ↓gz_n, ↓w_getZ, ↓o_addI, ↓o_addS, ↓o_addT, ↓o_addL, ↓o_sub, ↓o_mulI, ↓o_mulS, ↓o_mulL, ↓o_fdv, ↓o_mod, ↓o_neg, ↓o_lt, ↓o_le, ↓o_gt, ↓o_ge, ↓b_lt, ↓b_le, ↓o_is, ↓isn_t, ↓isn_1, ↓isn_2, ↓isn_3, ↓isn_4, ↓isn_5, ↓o_eqI, ↓o_eqS, ↓o_ixT, ↓o_ixL, ↓o_ixC, ↓o_ixS, ↓o_ixD, ↓o_slS, ↓o_slT, ↓o_slL, ↓o_slC, ↓o_inD, ↓o_tup, ↓o_lst, ↓o_lenT, ↓o_lenL, ↓o_lenC, ↓o_lenD, ↓o_lenS, ↓o_min, ↓o_max, ↓o_intI, ↓o_intB, ↓o_listT, ↓o_listL, ↓o_listC, ↓o_tupleT, ↓o_tupleL, ↓o_dict, ↓o_rev, ↓o_revT, ↓o_isi, ↓ty_1, ↓ty_2, ↓ty_3, ↓ty_4, ↓ty_5, ↓ty_6, ↓ty_7, ↓tr_b, ↓tr_n, ↓tr_i, ↓tr_t, ↓tr_l, w_chk_al isl_n, w_chk_al isk_n, Bool.false_eq_true, if_true, if_false, true_and, and_true, Bool.bne_false, Bool.bne_true, Bool.not_true, Bool.not_false, decide_true, decide_false, Bool.and_true, Bool.true_and, Bool.or_false, Bool.false_or, Bool.or_true, Bool.true_or, Bool.and_false, Bool.false_and, Bool.or_self, Bool.and_self, List.getElem?_cons_zero, List.getElem?_cons_succ, List.getElem?_nil, List.length_cons, List.length_nil, List.cons_append, List.nil_append, Nat.reduceAdd, Nat.reduceSub, List.replicate_succ, List.replicate_zero, Nat.reduceEqDiff, Int.reduceEq, Int.reduceLT, Int.reduceLE, Nat.reduceLT, Nat.reduceLeDiff, reduceCtorEq, Nat.zero_add, hcnt, r1]
      refine wp_range (fun j ρ => ∃ (l : List Ex) (ys : List Int) (t5 : V.T), l.length = j ∧ (∀ e ∈ l, Ew d e) ∧ xs.length ≤ ys.length + j * cost d ∧ Dg ys ∧
        ρ = [.sh (.lst (names.map .str)), .ow (Pu ys), .sh (.int ((d + 1 : Nat) : Int)), .sh (.int x), .ow (.lst (l.map exD)), t5]) ⟨[], xs, _, rfl, fun e h => absurd h List.not_mem_nil, by omega, hg2, rfl⟩ ?_ ?_
      · rintro j ρ hj ⟨l, ys, t5, hl, hle, hys, hgy, rfl⟩
        have hjc : j * cost d ≤ 2 * cost d := Nat.mul_le_mul_right _ (by omega)
        obtain ⟨e, zs, w1, w3, w4, w5⟩ := e_wild hn h1 h5 k d ys (by omega) (by omega) hgy
        have ed : ((d + 1 : Nat) : Int) - 1 = (d : Int) := by omega
        have hl2 : ltOk (l.map exD).length = true := lt_ok (by rw [List.length_map]; omega)
        simp -implicitDefEqProofs only [b1__law_wild, ↓k_some, ↓an_some, ↓g_0, ↓g_s, ↓s_0, ↓s_s, ↓td_sh, ↓td_ow, ↓td_lo, ↓rd_v, ↓rd_al, ↓rds_nil, ↓rds_cons, ↓shs_nil, ↓shs_v, ↓shk, ↓shs_al, ↓gt_v, ↓gt_al, ↓if_tt, ↓if_ff, ↓w_ret, ↓w_stk, ↓w_rse, ↓w_bnd, ↓nz_sh, ↓nz_ow, ↓nz_lo, ↓nz_ob, ↓nz_lb, ↓w_var, ↓w_c, ↓w_ans, ↓w_rd, ↓w_rds, ↓w_d2, ↓w_d1, ↓w_dN, ↓w_dS, ↓w_nil, ↓w_cons, ↓gv_sh, ↓gv_ow, ↓gv_ob, ↓fg_nil, ↓gi_v, ↓gi_al, ↓w_giv, ↓w_rdO, ↓w_opT, ↓w_tru, ↓w_bl, ↓bl_d, ↓w_not, ↓w_if, ↓w_and, ↓w_or, ↓w_dNot, ↓w_dAnd, ↓w_dOr, ↓w_oNone, ↓w_oSome, ↓o_int, ↓w_sl, ↓sq_nx, ↓sq_rt, ↓sq_bk, ↓sq_ct, ↓w_seq, ↓w_skip, ↓w_dret, ↓w_retN, ↓w_expr, ↓w_dif, ↓w_brk, ↓w_raise, ↓w_dasg, ↓w_dset, ↓al_sh, ↓al_lo, ↓al_lb, ↓w_asg_v, ↓w_asg_al, ↓w_gsNil, ↓w_gsCons, ↓tp_k, ↓w_gTp, ↓w_for, ↓w_loop_nil, ↓tn_nx, ↓tn_ct, ↓tn_bk, ↓tn_rt, ↓w_iOf, ↓w_iOfN, ↓seq_tup, ↓seq_lst, ↓seq_scr, ↓w_lc, ↓wipe_nil, ↓it_k, ↓w_yes, ↓fr_ok, ↓fr_ex, ↓ms_t, ↓ms_f, ↓ms_n, ↓out_nx, ↓out_v, ↓out_al, ↓mu_nil, ↓mu_t, ↓mu_f, ↓fr_run, ↓st_e, ↓lt_sh, ↓lt_ow, ↓lt_lo, ↓lt_ob, ↓lt_lb, ↓ot_ow, ↓ot_ob, ↓le_nil, ↓le_f, ↓le_t, ↓alf_nil, ↓alf_nil2, ↓alf_v, ↓alf_ff, ↓alf_al, ↓oa_nil, ↓oa_v, ↓oa_al, ↓okr_sh, ↓okr_no, ↓okr_ow, ↓okr_sh1, ↓okr_no1, ↓okr_ow1, ↓okr_sh2, ↓pu_nil, ↓pu_f, ↓pu_al, ↓pu_v, ↓w_call, ↓w_dcall, ↓w_dmeth, ↓mk_k, ↓mk_x, ↓w_make, ↓w_dmake, ↓w_chk_v, ↓w_dBM, ↓w_dBM0, ↓isl_n, ↓isk_n, ↓isl_1, ↓isl_2, ↓isl_3, ↓isl_4, ↓isk_1, ↓isk_2, ↓isk_3, ↓isk_4, ↓isk_5, ↓isk_6, ↓ow_k, ↓w_mutS, ↓w_mutR, ↓f_app, ↓f_pop, ↓f_ext, ↓f_extT, ↓w_rdm, ↓str_k, ↓w_isStr, ↓w_strM, ↓w_fld, ↓ft_sh, ↓ft_ow, ↓ft_lo, ↓fa_sh, ↓fa_lo, ↓ft_al, ↓ob_k, ↓w_setFld, ↓w_fldSet, ↓w_setZ, ↓w_gSub, ↓fow_k, ↓w_gFSub, ↓int_k, ↓w_aug, ↓ch_t, ↓ch_f, ↓w_catch, ↓w_try, ↓w_tryKeep, ↓w_give, ↓w_no, ↓w_dict, ↓w_dictT, ↓w_chain, ↓is_b, ↓w_get2, ↓gz_s, ↓gz_n, ↓w_getZ, ↓o_addI, ↓o_addS, ↓o_addT, ↓o_addL, ↓o_sub, ↓o_mulI, ↓o_mulS, ↓o_mulL, ↓o_fdv, ↓o_mod, ↓o_neg, ↓o_lt, ↓o_le, ↓o_gt, ↓o_ge, ↓b_lt, ↓b_le, ↓o_is, ↓isn_t, ↓isn_1, ↓isn_2, ↓isn_3, ↓isn_4, ↓isn_5, ↓o_eqI, ↓o_eqS, ↓o_ixT, ↓o_ixL, ↓o_ixC, ↓o_ixS, ↓o_ixD, ↓o_slS, ↓o_slT, ↓o_slL, ↓o_slC, ↓o_inD, ↓o_tup, ↓o_lst, ↓o_lenT, ↓o_lenL, ↓o_lenC, ↓o_lenD, ↓o_lenS, ↓o_min, ↓o_max, ↓o_intI, ↓o_intB, ↓o_listT, ↓o_listL, ↓o_listC, ↓o_tupleT, ↓o_tupleL, ↓o_dict, ↓o_rev, ↓o_revT, ↓o_isi, ↓ty_1, ↓ty_2, ↓ty_3, ↓ty_4, ↓ty_5, ↓ty_6, ↓ty_7, ↓tr_b, ↓tr_n, ↓tr_i, ↓tr_t, ↓tr_l, w_chk_al isl_n, w_chk_al isk_n, Bool.false_eq_true, if_true, if_false, true_and, and_true, Bool.bne_false, Bool.bne_true, Bool.not_true, Bool.not_false, decide_true, decide_false, Bool.and_true, Bool.true_and, Bool.or_false, Bool.false_or, Bool.or_true, Bool.true_or, Bool.and_false, Bool.false_and, Bool.or_self, Bool.and_self, List.getElem?_cons_zero, List.getElem?_cons_succ, List.getElem?_nil, List.length_cons, List.length_nil, List.cons_append, List.nil_append, Nat.reduceAdd, Nat.reduceSub, List.replicate_succ, List.replicate_zero, Nat.reduceEqDiff, Int.reduceEq, Int.reduceLT, Int.reduceLE, Nat.reduceLT, Nat.reduceLeDiff, reduceCtorEq, Nat.zero_add, ed, w5, hl2]
        refine ⟨l ++ [e], zs, _, by rw [List.length_append, hl]; rfl, fun x hx => ?_, ?_, w4, by rw [List.map_append]; rfl⟩
        · rcases List.mem_append.mp hx with h | h
          · exact hle x h
          · rw [List.mem_singleton.mp h]; exact w1
        · rw [Nat.add_mul, Nat.one_mul]
          omega
      · rintro ρ ⟨l, ys, t5, hl, hle, hys, hgy, rfl⟩
        have hjc : cnt * cost d ≤ 3 * cost d := Nat.mul_le_mul_right _ hc3
        have ee : exD (.ap b s2 l) = .tup [.str (apS b), .str s2, .tup (l.map exD)] := by rw [exD, exDs_map]
        simp -implicitDefEqProofs only [↓k_some, ↓an_some, ↓g_0, ↓g_s, ↓s_0, ↓s_s, ↓td_sh, ↓td_ow, ↓td_lo, ↓rd_v, ↓rd_al, ↓rds_nil, ↓rds_cons, ↓shs_nil, ↓shs_v, ↓shk, ↓shs_al, ↓gt_v, ↓gt_al, ↓if_tt, ↓if_ff, ↓w_ret, ↓w_stk, ↓w_rse, ↓w_bnd, ↓nz_sh, ↓nz_ow, ↓nz_lo, ↓nz_ob, ↓nz_lb, ↓w_var, ↓w_c, ↓w_ans, ↓w_rd, ↓w_rds, ↓w_d2, ↓w_d1, ↓w_dN, ↓w_dS, ↓w_nil, ↓w_cons, ↓gv_sh, ↓gv_ow, ↓gv_ob, ↓fg_nil, ↓gi_v, ↓gi_al, ↓w_giv, ↓w_rdO, ↓w_opT, ↓w_tru, ↓w_bl, ↓bl_d, ↓w_not, ↓w_if, ↓w_and, ↓w_or, ↓w_dNot, ↓w_dAnd, ↓w_dOr, ↓w_oNone, ↓w_oSome, ↓o_int, ↓w_sl, ↓sq_nx, ↓sq_rt, ↓sq_bk, ↓sq_ct, ↓w_seq, ↓w_skip, ↓w_dret, ↓w_retN, ↓w_expr, ↓w_dif, ↓w_brk, ↓w_raise, ↓w_dasg, ↓w_dset, ↓al_sh, ↓al_lo, ↓al_lb, ↓w_asg_v, ↓w_asg_al, ↓w_gsNil, ↓w_gsCons, ↓tp_k, ↓w_gTp, ↓w_for, ↓w_loop_nil, ↓tn_nx, ↓tn_ct, ↓tn_bk, ↓tn_rt, ↓w_iOf, ↓w_iOfN, ↓seq_tup, ↓seq_lst, ↓seq_scr, ↓w_lc, ↓wipe_nil, ↓it_k, ↓w_yes, ↓fr_ok, ↓fr_ex, ↓ms_t, ↓ms_f, ↓ms_n, ↓out_nx, ↓out_v, ↓out_al, ↓mu_nil, ↓mu_t, ↓mu_f, ↓fr_run, ↓st_e, ↓lt_sh, ↓lt_ow, ↓lt_lo, ↓lt_ob, ↓lt_lb, ↓ot_ow, ↓ot_ob, ↓le_nil, ↓le_f, ↓le_t, ↓alf_nil, ↓alf_nil2, ↓alf_v, ↓alf_ff, ↓alf_al, ↓oa_nil, ↓oa_v, ↓oa_al, ↓okr_sh, ↓okr_no, ↓okr_ow, ↓okr_sh1, ↓okr_no1, ↓okr_ow1, ↓okr_sh2, ↓pu_nil, ↓pu_f, ↓pu_al, ↓pu_v, ↓w_call, ↓w_dcall, ↓w_dmeth, ↓mk_k, ↓mk_x, ↓w_make, ↓w_dmake, ↓w_chk_v, ↓w_dBM, ↓w_dBM0, ↓isl_n, ↓isk_n, ↓isl_1, ↓isl_2, ↓isl_3, ↓isl_4, ↓isk_1, ↓isk_2, ↓isk_3, ↓isk_4, ↓isk_5, ↓isk_6, ↓ow_k, ↓w_mutS, ↓w_mutR, ↓f_app, ↓f_pop, ↓f_ext, ↓f_extT, ↓w_rdm, ↓str_k, ↓w_isStr, ↓w_strM, ↓w_fld, ↓ft_sh, ↓ft_ow, ↓ft_lo, ↓fa_sh, ↓fa_lo, ↓ft_al, ↓ob_k, ↓w_setFld, ↓w_fldSet, ↓w_setZ, ↓w_gSub, ↓fow_k, ↓w_gFSub, ↓int_k, ↓w_aug, ↓ch_t, ↓ch_f, ↓w_catch, ↓w_try, ↓w_tryKeep, ↓w_give, ↓w_no, ↓w_dict, ↓w_dictT, ↓w_chain, ↓is_b, ↓w_get2, ↓gz_s, ↓gz_n, ↓w_getZ, ↓o_addI, ↓o_addS, ↓o_addT, ↓o_addL, ↓o_sub, ↓o_mulI, ↓o_mulS, ↓o_mulL, ↓o_fdv, ↓o_mod, ↓o_neg, ↓o_lt, ↓o_le, ↓o_gt, ↓o_ge, ↓b_lt, ↓b_le, ↓o_is, ↓isn_t, ↓isn_1, ↓isn_2, ↓isn_3, ↓isn_4, ↓isn_5, ↓o_eqI, ↓o_eqS, ↓o_ixT, ↓o_ixL, ↓o_ixC, ↓o_ixS, ↓o_ixD, ↓o_slS, ↓o_slT, ↓o_slL, ↓o_slC, ↓o_inD, ↓o_tup, ↓o_lst, ↓o_lenT, ↓o_lenL, ↓o_lenC, ↓o_lenD, ↓o_lenS, ↓o_min, ↓o_max, ↓o_intI, ↓o_intB, ↓o_listT, ↓o_listL, ↓o_listC, ↓o_tupleT, ↓o_tupleL, ↓o_dict, ↓o_rev, ↓o_revT, ↓o_isi, ↓ty_1, ↓ty_2, ↓ty_3, ↓ty_4, ↓ty_5, ↓ty_6, ↓ty_7, ↓tr_b, ↓tr_n, ↓tr_i, ↓tr_t, ↓tr_l, w_chk_al isl_n, w_chk_al isk_n, Bool.false_eq_true, if_true, if_false, true_and, and_true, Bool.bne_false, Bool.bne_true, Bool.not_true, Bool.not_false, decide_true, decide_false, Bool.and_true, Bool.true_and, Bool.or_false, Bool.false_or, Bool.or_true, Bool.true_or, Bool.and_false, Bool.false_and, Bool.or_self, Bool.and_self, List.getElem?_cons_zero, List.getElem?_cons_succ, List.getElem?_nil, List.length_cons, List.length_nil, List.cons_append, List.nil_append, Nat.reduceAdd, Nat.reduceSub, List.replicate_succ, List.replicate_zero, Nat.reduceEqDiff, Int.reduceEq, Int.reduceLT, Int.reduceLE, Nat.reduceLT, Nat.reduceLeDiff, reduceCtorEq, Nat.zero_add, d30, d60, hb, p2, bpos, sz]
        exact ⟨.ap b s2 l, ys, ⟨.ap (hn s2 q2) (by omega) hle, by simp only [cost]; omega, hgy⟩, by rw [ee]; exact ⟨rfl, rfl⟩⟩
    cases h : F__law_wild (k + 1) [.sh (.lst (names.map .str)), .ow (Pu (x :: xs)), .sh (.int d)] with
    | stk => rw [h] at key; exact key.elim
    | ex n f => rw [h] at key; exact key.elim
    | ok t f =>
      rw [h] at key
      obtain ⟨e, ys, ⟨h1, h3, h4⟩, rfl, rfl⟩ := key
      exact ⟨e, ys, h1, by rw [List.length_cons]; exact h3, h4, rfl⟩
theorem eq_nil {n : Bool} {K : V.T → Prop} : AnK (wEq n (.lst []) (.lst [])) K = K (.sh (.bl (true != n))) := by
  rw [o_eqP (a := .list []) (b := .list []) rfl rfl rfl]
  rfl
theorem filt0 {α : Type} (l : List α) : l.filter (fun _ => false) = [] := by induction l <;> simp_all
theorem sub_ts : Ty.sub .tup .tup = true := rfl
theorem sub_ss : Ty.sub .str .str = true := rfl
theorem e_shape : ∀ {k d : Nat} {e : Ex}, Ew d e → d < k → F__law_shape k [.sh (exD e)] = .ok (.sh (.bl true)) []
  | k + 1, d, _, .nm (s := s) hs, _ => by
    refine FrK.eq ?_
    unfold F__law_shape d__law_shape
    have c2 : cut [D.str "name", .str s] none (some 2) = [D.str "name", .str s].map id := cut_take (k := 2)
    have l1 : decide (((2 : Nat) : Int) < 2) = false := by decide
    have l2 : decide (((2 : Nat) : Int) = 2) = true := by decide
    simp -implicitDefEqProofs only [exD, ↓k_some, ↓an_some, ↓g_0, ↓g_s, ↓s_0, ↓s_s, ↓td_sh, ↓td_ow, ↓td_lo, ↓rd_v, ↓rd_al, ↓rds_nil, ↓rds_cons, ↓shs_nil, ↓shs_v, ↓shk, ↓shs_al, ↓gt_v, ↓gt_al, ↓if_tt, ↓if_ff, ↓w_ret, ↓w_stk, ↓w_rse, ↓w_bnd, ↓nz_sh, ↓nz_ow, ↓nz_lo, ↓nz_ob, ↓nz_lb, ↓w_var, ↓w_c, ↓w_ans, ↓w_rd, ↓w_rds, ↓w_d2, ↓w_d1, ↓w_dN, ↓w_dS, ↓w_nil, ↓w_cons, ↓gv_sh, ↓gv_ow, ↓gv_ob, ↓fg_nil, ↓gi_v, ↓gi_al, ↓w_giv, ↓w_rdO, ↓w_opT, ↓w_tru, ↓w_bl, ↓bl_d, ↓w_not, ↓w_if, ↓w_and, ↓w_or, ↓w_dNot, ↓w_dAnd, ↓w_dOr, ↓w_oNone, ↓w_oSome, ↓o_int, ↓w_sl, ↓sq_nx, ↓sq_rt, ↓sq_bk, ↓sq_ct, ↓w_seq, ↓w_skip, ↓w_dret, ↓w_retN, ↓w_expr, ↓w_dif, ↓w_brk, ↓w_raise, ↓w_dasg, ↓w_dset, ↓al_sh, ↓al_lo, ↓al_lb, ↓w_asg_v, ↓w_asg_al, ↓w_gsNil, ↓w_gsCons, ↓tp_k, ↓w_gTp, ↓w_for, ↓w_loop_nil, ↓tn_nx, ↓tn_ct, ↓tn_bk, ↓tn_rt, ↓w_iOf, ↓w_iOfN, ↓seq_tup, ↓seq_lst, ↓seq_scr, ↓w_lc, ↓wipe_nil, ↓it_k, ↓w_yes, ↓fr_ok, ↓fr_ex, ↓ms_t, ↓ms_f, ↓ms_n, ↓out_nx, ↓out_v, ↓out_al, ↓mu_nil, ↓mu_t, ↓mu_f, ↓fr_run, ↓st_e, ↓lt_sh, ↓lt_ow, ↓lt_lo, ↓lt_ob, ↓lt_lb, ↓ot_ow, ↓ot_ob, ↓le_nil, ↓le_f, ↓le_t, ↓alf_nil, ↓alf_nil2, ↓alf_v, ↓alf_ff, ↓alf_al, ↓oa_nil, ↓oa_v, ↓oa_al, ↓okr_sh, ↓okr_no, ↓okr_ow, ↓okr_sh1, ↓okr_no1, ↓okr_ow1, ↓okr_sh2, ↓pu_nil, ↓pu_f, ↓pu_al, ↓pu_v, ↓w_call, ↓w_dcall, ↓w_dmeth, ↓mk_k, ↓mk_x, ↓w_make, ↓w_dmake, ↓w_chk_v, ↓w_dBM, ↓w_dBM0, ↓isl_n, ↓isk_n, ↓isl_1, ↓isl_2, ↓isl_3, ↓isl_4, ↓isk_1, ↓isk_2, ↓isk_3, ↓isk_4, ↓isk_5, ↓isk_6, ↓ow_k, ↓w_mutS, ↓w_mutR, ↓f_app, ↓f_pop, ↓f_ext, ↓f_extT, ↓w_rdm, ↓str_k, ↓w_isStr, ↓w_strM, ↓w_fld, ↓ft_sh, ↓ft_ow, ↓ft_lo, ↓fa_sh, ↓fa_lo, ↓ft_al, ↓ob_k, ↓w_setFld, ↓w_fldSet, ↓w_setZ, ↓w_gSub, ↓fow_k, ↓w_gFSub, ↓int_k, ↓w_aug, ↓ch_t, ↓ch_f, ↓w_catch, ↓w_try, ↓w_tryKeep, ↓w_give, ↓w_no, ↓w_dict, ↓w_dictT, ↓w_chain, ↓is_b, ↓w_get2, ↓gz_s, ↓gz_n, ↓w_getZ, ↓o_addI, ↓o_addS, ↓o_addT, ↓o_addL, ↓o_sub, ↓o_mulI, ↓o_mulS, ↓o_mulL, ↓o_fdv, ↓o_mod, ↓o_neg, ↓o_lt, ↓o_le, ↓o_gt, ↓o_ge, ↓b_lt, ↓b_le, ↓o_is, ↓isn_t, ↓isn_1, ↓isn_2, ↓isn_3, ↓isn_4, ↓isn_5, ↓o_eqI, ↓o_eqS, ↓o_ixT, ↓o_ixL, ↓o_ixC, ↓o_ixS, ↓o_ixD, ↓o_slS, ↓o_slT, ↓o_slL, ↓o_slC, ↓o_inD, ↓o_tup, ↓o_lst, ↓o_lenT, ↓o_lenL, ↓o_lenC, ↓o_lenD, ↓o_lenS, ↓o_min, ↓o_max, ↓o_intI, ↓o_intB, ↓o_listT, ↓o_listL, ↓o_listC, ↓o_tupleT, ↓o_tupleL, ↓o_dict, ↓o_rev, ↓o_revT, ↓o_isi, ↓ty_1, ↓ty_2, ↓ty_3, ↓ty_4, ↓ty_5, ↓ty_6, ↓ty_7, ↓tr_b, ↓tr_n, ↓tr_i, ↓tr_t, ↓tr_l, w_chk_al isl_n, w_chk_al isk_n, Bool.false_eq_true, if_true, if_false, true_and, and_true, Bool.bne_false, Bool.bne_true, Bool.not_true, Bool.not_false, decide_true, decide_false, Bool.and_true, Bool.true_and, Bool.or_false, Bool.false_or, Bool.or_true, Bool.true_or, Bool.and_false, Bool.false_and, Bool.or_self, Bool.and_self, List.getElem?_cons_zero, List.getElem?_cons_succ, List.getElem?_nil, List.length_cons, List.length_nil, List.cons_append, List.nil_append, Nat.reduceAdd, Nat.reduceSub, List.replicate_succ, List.replicate_zero, Nat.reduceEqDiff, Int.reduceEq, Int.reduceLT, Int.reduceLE, Nat.reduceLT, Nat.reduceLeDiff, reduceCtorEq, Nat.zero_add, sub_ts, c2, l1]
    refine wp_comp id (fun _ => false) id (by simp [szl]) ?_ ?_
    · intro x hx
      have : x = .str "name" ∨ x = .str s := by simpa using hx
      rcases this with rfl | rfl <;> simp -implicitDefEqProofs only [id, wipeE, List.set_cons_succ, List.set_cons_zero, ↓k_some, ↓an_some, ↓g_0, ↓g_s, ↓s_0, ↓s_s, ↓td_sh, ↓td_ow, ↓td_lo, ↓rd_v, ↓rd_al, ↓rds_nil, ↓rds_cons, ↓shs_nil, ↓shs_v, ↓shk, ↓shs_al, ↓gt_v, ↓gt_al, ↓if_tt, ↓if_ff, ↓w_ret, ↓w_stk, ↓w_rse, ↓w_bnd, ↓nz_sh, ↓nz_ow, ↓nz_lo, ↓nz_ob, ↓nz_lb, ↓w_var, ↓w_c, ↓w_ans, ↓w_rd, ↓w_rds, ↓w_d2, ↓w_d1, ↓w_dN, ↓w_dS, ↓w_nil, ↓w_cons, ↓gv_sh, ↓gv_ow, ↓gv_ob, ↓fg_nil, ↓gi_v, ↓gi_al, ↓w_giv, ↓w_rdO, ↓w_opT, ↓w_tru, ↓w_bl, ↓bl_d, ↓w_not, ↓w_if, ↓w_and, ↓w_or, ↓w_dNot, ↓w_dAnd, ↓w_dOr, ↓w_oNone, ↓w_oSome, ↓o_int, ↓w_sl, ↓sq_nx, ↓sq_rt, ↓sq_bk, ↓sq_ct, ↓w_seq, ↓w_skip, ↓w_dret, ↓w_retN, ↓w_expr, ↓w_dif, ↓w_brk, ↓w_raise, ↓w_dasg, ↓w_dset, ↓al_sh, ↓al_lo, ↓al_lb, ↓w_asg_v, ↓w_asg_al, ↓w_gsNil, ↓w_gsCons, ↓tp_k, ↓w_gTp, ↓w_for, ↓w_loop_nil, ↓tn_nx, ↓tn_ct, ↓tn_bk, ↓tn_rt, ↓w_iOf, ↓w_iOfN, ↓seq_tup, ↓seq_lst, ↓seq_scr, ↓w_lc, ↓wipe_nil, ↓it_k, ↓w_yes, ↓fr_ok, ↓fr_ex, ↓ms_t, ↓ms_f, ↓ms_n, ↓out_nx, ↓out_v, ↓out_al, ↓mu_nil, ↓mu_t, ↓mu_f, ↓fr_run, ↓st_e, ↓lt_sh, ↓lt_ow, ↓lt_lo, ↓lt_ob, ↓lt_lb, ↓ot_ow, ↓ot_ob, ↓le_nil, ↓le_f, ↓le_t, ↓alf_nil, ↓alf_nil2, ↓alf_v, ↓alf_ff, ↓alf_al, ↓oa_nil, ↓oa_v, ↓oa_al, ↓okr_sh, ↓okr_no, ↓okr_ow, ↓okr_sh1, ↓okr_no1, ↓okr_ow1, ↓okr_sh2, ↓pu_nil, ↓pu_f, ↓pu_al, ↓pu_v, ↓w_call, ↓w_dcall, ↓w_dmeth, ↓mk_k, ↓mk_x, ↓w_make, ↓w_dmake, ↓w_chk_v, ↓w_dBM, ↓w_dBM0, ↓isl_n, ↓isk_n, ↓isl_1, ↓isl_2, ↓isl_3, ↓isl_4, ↓isk_1, ↓isk_2, ↓isk_3, ↓isk_4, ↓isk_5, ↓isk_6, ↓ow_k, ↓w_mutS, ↓w_mutR, ↓f_app, ↓f_pop, ↓f_ext, ↓f_extT, ↓w_rdm, ↓str_k, ↓w_isStr, ↓w_strM, ↓w_fld, ↓ft_sh, ↓ft_ow, ↓ft_lo, ↓fa_sh, ↓fa_lo, ↓ft_al, ↓ob_k, ↓w_setFld, ↓w_fldSet, ↓w_setZ, ↓w_gSub, ↓fow_k, ↓w_gFSub, ↓int_k, ↓w_aug, ↓ch_t, ↓ch_f, ↓w_catch, ↓w_try, ↓w_tryKeep, ↓w_give, ↓w_no, ↓w_dict, ↓w_dictT, ↓w_chain, ↓is_b, ↓w_get2, ↓gz_s, ↓gz_n, ↓w_getZ, ↓o_addI, ↓o_addS, ↓o_addT, ↓o_addL, ↓o_sub, ↓o_mulI, ↓o_mulS, ↓o_mulL, ↓o_fdv, ↓o_mod, ↓o_neg, ↓o_lt, ↓o_le, ↓o_gt, ↓o_ge, ↓b_lt, ↓b_le, ↓o_is, ↓isn_t, ↓isn_1, ↓isn_2, ↓isn_3, ↓isn_4, ↓isn_5, ↓o_eqI, ↓o_eqS, ↓o_ixT, ↓o_ixL, ↓o_ixC, ↓o_ixS, ↓o_ixD, ↓o_slS, ↓o_slT, ↓o_slL, ↓o_slC, ↓o_inD, ↓o_tup, ↓o_lst, ↓o_lenT, ↓o_lenL, ↓o_lenC, ↓o_lenD, ↓o_lenS, ↓o_min, ↓o_max, ↓o_intI, ↓o_intB, ↓o_listT, ↓o_listL, ↓o_listC, ↓o_tupleT, ↓o_tupleL, ↓o_dict, ↓o_rev, ↓o_revT, ↓o_isi, ↓ty_1, ↓ty_2, ↓ty_3, ↓ty_4, ↓ty_5, ↓ty_6, ↓ty_7, ↓tr_b, ↓tr_n, ↓tr_i, ↓tr_t, ↓tr_l, w_chk_al isl_n, w_chk_al isk_n, Bool.false_eq_true, if_true, if_false, true_and, and_true, Bool.bne_false, Bool.bne_true, Bool.not_true, Bool.not_false, decide_true, decide_false, Bool.and_true, Bool.true_and, Bool.or_false, Bool.false_or, Bool.or_true, Bool.true_or, Bool.and_false, Bool.false_and, Bool.or_self, Bool.and_self, List.getElem?_cons_zero, List.getElem?_cons_succ, List.getElem?_nil, List.length_cons, List.length_nil, List.cons_append, List.nil_append, Nat.reduceAdd, Nat.reduceSub, List.replicate_succ, List.replicate_zero, Nat.reduceEqDiff, Int.reduceEq, Int.reduceLT, Int.reduceLE, Nat.reduceLT, Nat.reduceLeDiff, reduceCtorEq, Nat.zero_add, sub_ss]
    · simp -implicitDefEqProofs only [filt0, List.map_nil, List.append_nil, wipeE, List.set_cons_succ, List.set_cons_zero, ↓k_some, ↓an_some, ↓g_0, ↓g_s, ↓s_0, ↓s_s, ↓td_sh, ↓td_ow, ↓td_lo, ↓rd_v, ↓rd_al, ↓rds_nil, ↓rds_cons, ↓shs_nil, ↓shs_v, ↓shk, ↓shs_al, ↓gt_v, ↓gt_al, ↓if_tt, ↓if_ff, ↓w_ret, ↓w_stk, ↓w_rse, ↓w_bnd, ↓nz_sh, ↓nz_ow, ↓nz_lo, ↓nz_ob, ↓nz_lb, ↓w_var, ↓w_c, ↓w_ans, ↓w_rd, ↓w_rds, ↓w_d2, ↓w_d1, ↓w_dN, ↓w_dS, ↓w_nil, ↓w_cons, ↓gv_sh, ↓gv_ow, ↓gv_ob, ↓fg_nil, ↓gi_v, ↓gi_al, ↓w_giv, ↓w_rdO, ↓w_opT, ↓w_tru, ↓w_bl, ↓bl_d, ↓w_not, ↓w_if, ↓w_and, ↓w_or, ↓w_dNot, ↓w_dAnd, ↓w_dOr, ↓w_oNone, ↓w_oSome, ↓o_int, ↓w_sl, ↓sq_nx, ↓sq_rt, ↓sq_bk, ↓sq_ct, ↓w_seq, ↓w_skip, ↓w_dret, ↓w_retN, ↓w_expr, ↓w_dif, ↓w_brk, ↓w_raise, ↓w_dasg, ↓w_dset, ↓al_sh, ↓al_lo, ↓al_lb, ↓w_asg_v, ↓w_asg_al, ↓w_gsNil, ↓w_gsCons, ↓tp_k, ↓w_gTp, ↓w_for, ↓w_loop_nil, ↓tn_nx, ↓tn_ct, ↓tn_bk, ↓tn_rt, ↓w_iOf, ↓w_iOfN, ↓seq_tup, ↓seq_lst, ↓seq_scr, ↓w_lc, ↓wipe_nil, ↓it_k, ↓w_yes, ↓fr_ok, ↓fr_ex, ↓ms_t, ↓ms_f, ↓ms_n, ↓out_nx, ↓out_v, ↓out_al, ↓mu_nil, ↓mu_t, ↓mu_f, ↓fr_run, ↓st_e, ↓lt_sh, ↓lt_ow, ↓lt_lo, ↓lt_ob, ↓lt_lb, ↓ot_ow, ↓ot_ob, ↓le_nil, ↓le_f, ↓le_t, ↓alf_nil, ↓alf_nil2, ↓alf_v, ↓alf_ff, ↓alf_al, ↓oa_nil, ↓oa_v, ↓oa_al, ↓okr_sh, ↓okr_no, ↓okr_ow, ↓okr_sh1, ↓okr_no1, ↓okr_ow1, ↓okr_sh2, ↓pu_nil, ↓pu_f, ↓pu_al, ↓pu_v, ↓w_call, ↓w_dcall, ↓w_dmeth, ↓mk_k, ↓mk_x, ↓w_make, ↓w_dmake, ↓w_chk_v, ↓w_dBM, ↓w_dBM0, ↓isl_n, ↓isk_n, ↓isl_1, ↓isl_2, ↓isl_3, ↓isl_4, ↓isk_1, ↓isk_2, ↓isk_3, ↓isk_4, ↓isk_5, ↓isk_6, ↓ow_k, ↓w_mutS, ↓w_mutR, ↓f_app, ↓f_pop, ↓f_ext, ↓f_extT, ↓w_rdm, ↓str_k, ↓w_isStr, ↓w_strM, ↓w_fld, ↓ft_sh, ↓ft_ow, ↓ft_lo, ↓fa_sh, ↓fa_lo, ↓ft_al, ↓ob_k, ↓w_setFld, ↓w_fldSet, ↓w_setZ, ↓w_gSub, ↓fow_k, ↓w_gFSub, ↓int_k, ↓w_aug, ↓ch_t, ↓ch_f, ↓w_catch, ↓w_try, ↓w_tryKeep, ↓w_give, ↓w_no, ↓w_dict, ↓w_dictT, ↓w_chain, ↓is_b, ↓w_get2, ↓gz_s, ↓gz_n, ↓w_getZ, ↓o_addI, ↓o_addS, ↓o_addT, ↓o_addL, ↓o_sub, ↓o_mulI, ↓o_mulS, ↓o_mulL, ↓o_fdv, ↓o_mod, ↓o_neg, ↓o_lt, ↓o_le, ↓o_gt, ↓o_ge, ↓b_lt, ↓b_le, ↓o_is, ↓isn_t, ↓isn_1, ↓isn_2, ↓isn_3, ↓isn_4, ↓isn_5, ↓o_eqI, ↓o_eqS, ↓o_ixT, ↓o_ixL, ↓o_ixC, ↓o_ixS, ↓o_ixD, ↓o_slS, ↓o_slT, ↓o_slL, ↓o_slC, ↓o_inD, ↓o_tup, ↓o_lst, ↓o_lenT, ↓o_lenL, ↓o_lenC, ↓o_lenD, ↓o_lenS, ↓o_min, ↓o_max, ↓o_intI, ↓o_intB, ↓o_listT, ↓o_listL, ↓o_listC, ↓o_tupleT, ↓o_tupleL, ↓o_dict, ↓o_rev, ↓o_revT, ↓o_isi, ↓ty_1, ↓ty_2, ↓ty_3, ↓ty_4, ↓ty_5, ↓ty_6, ↓ty_7, ↓tr_b, ↓tr_n, ↓tr_i, ↓tr_t, ↓tr_l, w_chk_al isl_n, w_chk_al isk_n, Bool.false_eq_true, if_true, if_false, true_and, and_true, Bool.bne_false, Bool.bne_true, Bool.not_true, Bool.not_false, decide_true, decide_false, Bool.and_true, Bool.true_and, Bool.or_false, Bool.false_or, Bool.or_true, Bool.true_or, Bool.and_false, Bool.false_and, Bool.or_self, Bool.and_self, List.getElem?_cons_zero, List.getElem?_cons_succ, List.getElem?_nil, List.length_cons, List.length_nil, List.cons_append, List.nil_append, Nat.reduceAdd, Nat.reduceSub, List.replicate_succ, List.replicate_zero, Nat.reduceEqDiff, Int.reduceEq, Int.reduceLT, Int.reduceLE, Nat.reduceLT, Nat.reduceLeDiff, reduceCtorEq, Nat.zero_add, eq_nil, sz, at0, ok_nm, nm_eq, l2]
  | k + 1, d + 1, _, .ap (b := b) (s := s) (l := l) hs hl ha, hk => by
    refine FrK.eq ?_
    unfold F__law_shape d__law_shape
    have c2 : cut [D.str (apS b), .str s, .tup (exDs l)] none (some 2) = [D.str (apS b), .str s].map id := cut_take (k := 2)
    have l1 : decide (((3 : Nat) : Int) < 2) = false := by decide
    have l3 : decide (((3 : Nat) : Int) = 3) = true := by decide
    simp -implicitDefEqProofs only [exD, ↓k_some, ↓an_some, ↓g_0, ↓g_s, ↓s_0, ↓s_s, ↓td_sh, ↓td_ow, ↓td_lo, ↓rd_v, ↓rd_al, ↓rds_nil, ↓rds_cons, ↓shs_nil, ↓shs_v, ↓shk, ↓shs_al, ↓gt_v, ↓gt_al, ↓if_tt, ↓if_ff, ↓w_ret, ↓w_stk, ↓w_rse, ↓w_bnd, ↓nz_sh, ↓nz_ow, ↓nz_lo, ↓nz_ob, ↓nz_lb, ↓w_var, ↓w_c, ↓w_ans, ↓w_rd, ↓w_rds, ↓w_d2, ↓w_d1, ↓w_dN, ↓w_dS, ↓w_nil, ↓w_cons, ↓gv_sh, ↓gv_ow, ↓gv_ob, ↓fg_nil, ↓gi_v, ↓gi_al, ↓w_giv, ↓w_rdO, ↓w_opT, ↓w_tru, ↓w_bl, ↓bl_d, ↓w_not, ↓w_if, ↓w_and, ↓w_or, ↓w_dNot, ↓w_dAnd, ↓w_dOr, ↓w_oNone, ↓w_oSome, ↓o_int, ↓w_sl, ↓sq_nx, ↓sq_rt, ↓sq_bk, ↓sq_ct, ↓w_seq, ↓w_skip, ↓w_dret, ↓w_retN, ↓w_expr, ↓w_dif, ↓w_brk, ↓w_raise, ↓w_dasg, ↓w_dset, ↓al_sh, ↓al_lo, ↓al_lb, ↓w_asg_v, ↓w_asg_al, ↓w_gsNil, ↓w_gsCons, ↓tp_k, ↓w_gTp, ↓w_for, ↓w_loop_nil, ↓tn_nx, ↓tn_ct, ↓tn_bk, ↓tn_rt, ↓w_iOf, ↓w_iOfN, ↓seq_tup, ↓seq_lst, ↓seq_scr, ↓w_lc, ↓wipe_nil, ↓it_k, ↓w_yes, ↓fr_ok, ↓fr_ex, ↓ms_t, ↓ms_f, ↓ms_n, ↓out_nx, ↓out_v, ↓out_al, ↓mu_nil, ↓mu_t, ↓mu_f, ↓fr_run, ↓st_e, ↓lt_sh, ↓lt_ow, ↓lt_lo, ↓lt_ob, ↓lt_lb, ↓ot_ow, ↓ot_ob, ↓le_nil, ↓le_f, ↓le_t, ↓alf_nil, ↓alf_nil2, ↓alf_v, ↓alf_ff, ↓alf_al, ↓oa_nil, ↓oa_v, ↓oa_al, ↓okr_sh, ↓okr_no, ↓okr_ow, ↓okr_sh1, ↓okr_no1, ↓okr_ow1, ↓okr_sh2, ↓pu_nil, ↓pu_f, ↓pu_al, ↓pu_v, ↓w_call, ↓w_dcall, ↓w_dmeth, ↓mk_k, ↓mk_x, ↓w_make, ↓w_dmake, ↓w_chk_v, ↓w_dBM, ↓w_dBM0, ↓isl_n, ↓isk_n, ↓isl_1, ↓isl_2, ↓isl_3, ↓isl_4, ↓isk_1, ↓isk_2, ↓isk_3, ↓isk_4, ↓isk_5, ↓isk_6, ↓ow_k, ↓w_mutS, ↓w_mutR, ↓f_app, ↓f_pop, ↓f_ext, ↓f_extT, ↓w_rdm, ↓str_k, ↓w_isStr, ↓w_strM, ↓w_fld, ↓ft_sh, ↓ft_ow, ↓ft_lo, ↓fa_sh, ↓fa_lo, ↓ft_al, ↓ob_k, ↓w_setFld, ↓w_fldSet, ↓w_setZ, ↓w_gSub, ↓fow_k, ↓w_gFSub, ↓int_k, ↓w_aug, ↓ch_t, ↓ch_f, ↓w_catch, ↓w_try, ↓w_tryKeep, ↓w_give, ↓w_no, ↓w_dict, ↓w_dictT, ↓w_chain, ↓is_b, ↓w_get2, ↓gz_s, ↓gz_n, ↓w_getZ, ↓o_addI, ↓o_addS, ↓o_addT, ↓o_addL, ↓o_sub, ↓o_mulI, ↓o_mulS, ↓o_mulL, ↓o_fdv, ↓o_mod, ↓o_neg, ↓o_lt, ↓o_le, ↓o_gt, ↓o_ge, ↓b_lt, ↓b_le, ↓o_is, ↓isn_t, ↓isn_1, ↓isn_2, ↓isn_3, ↓isn_4, ↓isn_5, ↓o_eqI, ↓o_eqS, ↓o_ixT, ↓o_ixL, ↓o_ixC, ↓o_ixS, ↓o_ixD, ↓o_slS, ↓o_slT, ↓o_slL, ↓o_slC, ↓o_inD, ↓o_tup, ↓o_lst, ↓o_lenT, ↓o_lenL, ↓o_lenC, ↓o_lenD, ↓o_lenS, ↓o_min, ↓o_max, ↓o_intI, ↓o_intB, ↓o_listT, ↓o_listL, ↓o_listC, ↓o_tupleT, ↓o_tupleL, ↓o_dict, ↓o_rev, ↓o_revT, ↓o_isi, ↓ty_1, ↓ty_2, ↓ty_3, ↓ty_4, ↓ty_5, ↓ty_6, ↓ty_7, ↓tr_b, ↓tr_n, ↓tr_i, ↓tr_t, ↓tr_l, w_chk_al isl_n, w_chk_al isk_n, Bool.false_eq_true, if_true, if_false, true_and, and_true, Bool.bne_false, Bool.bne_true, Bool.not_true, Bool.not_false, decide_true, decide_false, Bool.and_true, Bool.true_and, Bool.or_false, Bool.false_or, Bool.or_true, Bool.true_or, Bool.and_false, Bool.false_and, Bool.or_self, Bool.and_self, List.getElem?_cons_zero, List.getElem?_cons_succ, List.getElem?_nil, List.length_cons, List.length_nil, List.cons_append, List.nil_append, Nat.reduceAdd, Nat.reduceSub, List.replicate_succ, List.replicate_zero, Nat.reduceEqDiff, Int.reduceEq, Int.reduceLT, Int.reduceLE, Nat.reduceLT, Nat.reduceLeDiff, reduceCtorEq, Nat.zero_add, sub_ts, c2, l1]
    refine wp_comp id (fun _ => false) id (by simp [szl]) ?_ ?_
    · intro x hx
      have : x = .str (apS b) ∨ x = .str s := by simpa using hx
      rcases this with rfl | rfl <;> simp -implicitDefEqProofs only [id, wipeE, List.set_cons_succ, List.set_cons_zero, ↓k_some, ↓an_some, ↓g_0, ↓g_s, ↓s_0, ↓s_s, ↓td_sh, ↓td_ow, ↓td_lo, ↓rd_v, ↓rd_al, ↓rds_nil, ↓rds_cons, ↓shs_nil, ↓shs_v, ↓shk, ↓shs_al, ↓gt_v, ↓gt_al, ↓if_tt, ↓if_ff, ↓w_ret, ↓w_stk, ↓w_rse, ↓w_bnd, ↓nz_sh, ↓nz_ow, ↓nz_lo, ↓nz_ob, ↓nz_lb, ↓w_var, ↓w_c, ↓w_ans, ↓w_rd, ↓w_rds, ↓w_d2, ↓w_d1, ↓w_dN, ↓w_dS, ↓w_nil, ↓w_cons, ↓gv_sh, ↓gv_ow, ↓gv_ob, ↓fg_nil, ↓gi_v, ↓gi_al, ↓w_giv, ↓w_rdO, ↓w_opT, ↓w_tru, ↓w_bl, ↓bl_d, ↓w_not, ↓w_if, ↓w_and, ↓w_or, ↓w_dNot, ↓w_dAnd, ↓w_dOr, ↓w_oNone, ↓w_oSome, ↓o_int, ↓w_sl, ↓sq_nx, ↓sq_rt, ↓sq_bk, ↓sq_ct, ↓w_seq, ↓w_skip, ↓w_dret, ↓w_retN, ↓w_expr, ↓w_dif, ↓w_brk, ↓w_raise, ↓w_dasg, ↓w_dset, ↓al_sh, ↓al_lo, ↓al_lb, ↓w_asg_v, ↓w_asg_al, ↓w_gsNil, ↓w_gsCons, ↓tp_k, ↓w_gTp, ↓w_for, ↓w_loop_nil, ↓tn_nx, ↓tn_ct, ↓tn_bk, ↓tn_rt, ↓w_iOf, ↓w_iOfN, ↓seq_tup, ↓seq_lst, ↓seq_scr, ↓w_lc, ↓wipe_nil, ↓it_k, ↓w_yes, ↓fr_ok, ↓fr_ex, ↓ms_t, ↓ms_f, ↓ms_n, ↓out_nx, ↓out_v, ↓out_al, ↓mu_nil, ↓mu_t, ↓mu_f, ↓fr_run, ↓st_e, ↓lt_sh, ↓lt_ow, ↓lt_lo, ↓lt_ob, ↓lt_lb, ↓ot_ow, ↓ot_ob, ↓le_nil, ↓le_f, ↓le_t, ↓alf_nil, ↓alf_nil2, ↓alf_v, ↓alf_ff, ↓alf_al, ↓oa_nil, ↓oa_v, ↓oa_al, ↓okr_sh, ↓okr_no, ↓okr_ow, ↓okr_sh1, ↓okr_no1, ↓okr_ow1, ↓okr_sh2, ↓pu_nil, ↓pu_f, ↓pu_al, ↓pu_v, ↓w_call, ↓w_dcall, ↓w_dmeth, ↓mk_k, ↓mk_x, ↓w_make, ↓w_dmake, ↓w_chk_v, ↓w_dBM, ↓w_dBM0, ↓isl_n, ↓isk_n, ↓isl_1, ↓isl_2, ↓isl_3, ↓isl_4, ↓isk_1, ↓isk_2, ↓isk_3, ↓isk_4, ↓isk_5, ↓isk_6, ↓ow_k, ↓w_mutS, ↓w_mutR, ↓f_app, ↓f_pop, ↓f_ext, ↓f_extT, ↓w_rdm, ↓str_k, ↓w_isStr, ↓w_strM, ↓w_fld, ↓ft_sh, ↓ft_ow, ↓ft_lo, ↓fa_sh, ↓fa_lo, ↓ft_al, ↓ob_k, ↓w_setFld, ↓w_fldSet, ↓w_setZ, ↓w_gSub, ↓fow_k, ↓w_gFSub, ↓int_k, ↓w_aug, ↓ch_t, ↓ch_f, ↓w_catch, ↓w_try, ↓w_tryKeep, ↓w_give, ↓w_no, ↓w_dict, ↓w_dictT, ↓w_chain, ↓is_b, ↓w_get2, ↓gz_s, ↓gz_n, ↓w_getZ, ↓o_addI, ↓o_addS, ↓o_addT, ↓o_addL, ↓o_sub, ↓o_mulI, ↓o_mulS, ↓o_mulL, ↓o_fdv, ↓o_mod, ↓o_neg, ↓o_lt, ↓o_le, ↓o_gt, ↓o_ge, ↓b_lt, ↓b_le, ↓o_is, ↓isn_t, ↓isn_1, ↓isn_2, ↓isn_3, ↓isn_4, ↓isn_5, ↓o_eqI, ↓o_eqS, ↓o_ixT, ↓o_ixL, ↓o_ixC, ↓o_ixS, ↓o_ixD, ↓o_slS, ↓o_slT, ↓o_slL, ↓o_slC, ↓o_inD, ↓o_tup, ↓o_lst, ↓o_lenT, ↓o_lenL, ↓o_lenC, ↓o_lenD, ↓o_lenS, ↓o_min, ↓o_max, ↓o_intI, ↓o_intB, ↓o_listT, ↓o_listL, ↓o_listC, ↓o_tupleT, ↓o_tupleL, ↓o_dict, ↓o_rev, ↓o_revT, ↓o_isi, ↓ty_1, ↓ty_2, ↓ty_3, ↓ty_4, ↓ty_5, ↓ty_6, ↓ty_7, ↓tr_b, ↓tr_n, ↓tr_i, ↓tr_t, ↓tr_l, w_chk_al isl_n, w_chk_al isk_n, Bool.false_eq_true, if_true, if_false, true_and, and_true, Bool.bne_false, Bool.bne_true, Bool.not_true, Bool.not_false, decide_true, decide_false, Bool.and_true, Bool.true_and, Bool.or_false, Bool.false_or, Bool.or_true, Bool.true_or, Bool.and_false, Bool.false_and, Bool.or_self, Bool.and_self, List.getElem?_cons_zero, List.getElem?_cons_succ, List.getElem?_nil, List.length_cons, List.length_nil, List.cons_append, List.nil_append, Nat.reduceAdd, Nat.reduceSub, List.replicate_succ, List.replicate_zero, Nat.reduceEqDiff, Int.reduceEq, Int.reduceLT, Int.reduceLE, Nat.reduceLT, Nat.reduceLeDiff, reduceCtorEq, Nat.zero_add, sub_ss]
    · simp -implicitDefEqProofs only [filt0, List.map_nil, List.append_nil, wipeE, List.set_cons_succ, List.set_cons_zero, ↓k_some, ↓an_some, ↓g_0, ↓g_s, ↓s_0, ↓s_s, ↓td_sh, ↓td_ow, ↓td_lo, ↓rd_v, ↓rd_al, ↓rds_nil, ↓rds_cons, ↓shs_nil, ↓shs_v, ↓shk, ↓shs_al, ↓gt_v, ↓gt_al, ↓if_tt, ↓if_ff, ↓w_ret, ↓w_stk, ↓w_rse, ↓w_bnd, ↓nz_sh, ↓nz_ow, ↓nz_lo, ↓nz_ob, ↓nz_lb, ↓w_var, ↓w_c, ↓w_ans, ↓w_rd, ↓w_rds, ↓w_d2, ↓w_d1, ↓w_dN, ↓w_dS, ↓w_nil, ↓w_cons, ↓gv_sh, ↓gv_ow, ↓gv_ob, ↓fg_nil, ↓gi_v, ↓gi_al, ↓w_giv, ↓w_rdO, ↓w_opT, ↓w_tru, ↓w_bl, ↓bl_d, ↓w_not, ↓w_if, ↓w_and, ↓w_or, ↓w_dNot, ↓w_dAnd, ↓w_dOr, ↓w_oNone, ↓w_oSome, ↓o_int, ↓w_sl, ↓sq_nx, ↓sq_rt, ↓sq_bk, ↓sq_ct, ↓w_seq, ↓w_skip, ↓w_dret, ↓w_retN, ↓w_expr, ↓w_dif, ↓w_brk, ↓w_raise, ↓w_dasg, ↓w_dset, ↓al_sh, ↓al_lo, ↓al_lb, ↓w_asg_v, ↓w_asg_al, ↓w_gsNil, ↓w_gsCons, ↓tp_k, ↓w_gTp, ↓w_for, ↓w_loop_nil, ↓tn_nx, ↓tn_ct, ↓tn_bk, ↓tn_rt, ↓w_iOf, ↓w_iOfN, ↓seq_tup, ↓seq_lst, ↓seq_scr, ↓w_lc, ↓wipe_nil, ↓it_k, ↓w_yes, ↓fr_ok, ↓fr_ex, ↓ms_t, ↓ms_f, ↓ms_n, ↓out_nx, ↓out_v, ↓out_al, ↓mu_nil, ↓mu_t, ↓mu_f, ↓fr_run, ↓st_e, ↓lt_sh, ↓lt_ow, ↓lt_lo, ↓lt_ob, ↓lt_lb, ↓ot_ow, ↓ot_ob, ↓le_nil, ↓le_f, ↓le_t, ↓alf_nil, ↓alf_nil2, ↓alf_v, ↓alf_ff, ↓alf_al, ↓oa_nil, ↓oa_v, ↓oa_al, ↓okr_sh, ↓okr_no, ↓okr_ow, ↓okr_sh1, ↓okr_no1, ↓okr_ow1, ↓okr_sh2, ↓pu_nil, ↓pu_f, ↓pu_al, ↓pu_v, ↓w_call, ↓w_dcall, ↓w_dmeth, ↓mk_k, ↓mk_x, ↓w_make, ↓w_dmake, ↓w_chk_v, ↓w_dBM, ↓w_dBM0, ↓isl_n, ↓isk_n, ↓isl_1, ↓isl_2, ↓isl_3, ↓isl_4, ↓isk_1, ↓isk_2, ↓isk_3, ↓isk_4, ↓isk_5, ↓isk_6, ↓ow_k, ↓w_mutS, ↓w_mutR, ↓f_app, ↓f_pop, ↓f_ext, ↓f_extT, ↓w_rdm, ↓str_k, ↓w_isStr, ↓w_strM, ↓w_fld, ↓ft_sh, ↓ft_ow, ↓ft_lo, ↓fa_sh, ↓fa_lo, ↓ft_al, ↓ob_k, ↓w_setFld, ↓w_fldSet, ↓w_setZ, ↓w_gSub, ↓fow_k, ↓w_gFSub, ↓int_k, ↓w_aug, ↓ch_t, ↓ch_f, ↓w_catch, ↓w_try, ↓w_tryKeep, ↓w_give, ↓w_no, ↓w_dict, ↓w_dictT, ↓w_chain, ↓is_b, ↓w_get2, ↓gz_s, ↓gz_n, ↓w_getZ, ↓o_addI, ↓o_addS, ↓o_addT, ↓o_addL, ↓o_sub, ↓o_mulI, ↓o_mulS, ↓o_mulL, ↓o_fdv, ↓o_mod, ↓o_neg, ↓o_lt, ↓o_le, ↓o_gt, ↓o_ge, ↓b_lt, ↓b_le, ↓o_is, ↓isn_t, ↓isn_1, ↓isn_2, ↓isn_3, ↓isn_4, ↓isn_5, ↓o_eqI, ↓o_eqS, ↓o_ixT, ↓o_ixL, ↓o_ixC, ↓o_ixS, ↓o_ixD, ↓o_slS, ↓o_slT, ↓o_slL, ↓o_slC, ↓o_inD, ↓o_tup, ↓o_lst, ↓o_lenT, ↓o_lenL, ↓o_lenC, ↓o_lenD, ↓o_lenS, ↓o_min, ↓o_max, ↓o_intI, ↓o_intB, ↓o_listT, ↓o_listL, ↓o_listC, ↓o_tupleT, ↓o_tupleL, ↓o_dict, ↓o_rev, ↓o_revT, ↓o_isi, ↓ty_1, ↓ty_2, ↓ty_3, ↓ty_4, ↓ty_5, ↓ty_6, ↓ty_7, ↓tr_b, ↓tr_n, ↓tr_i, ↓tr_t, ↓tr_l, w_chk_al isl_n, w_chk_al isk_n, Bool.false_eq_true, if_true, if_false, true_and, and_true, Bool.bne_false, Bool.bne_true, Bool.not_true, Bool.not_false, decide_true, decide_false, Bool.and_true, Bool.true_and, Bool.or_false, Bool.false_or, Bool.or_true, Bool.true_or, Bool.and_false, Bool.false_and, Bool.or_self, Bool.and_self, List.getElem?_cons_zero, List.getElem?_cons_succ, List.getElem?_nil, List.length_cons, List.length_nil, List.cons_append, List.nil_append, Nat.reduceAdd, Nat.reduceSub, List.replicate_succ, List.replicate_zero, Nat.reduceEqDiff, Int.reduceEq, Int.reduceLT, Int.reduceLE, Nat.reduceLT, Nat.reduceLeDiff, reduceCtorEq, Nat.zero_add, eq_nil, sz, at0, at2, ok_nm, ok_ap, ap_ne, l3, sub_ts, exDs_map]
      refine wp_comp exD (fun _ => false) exD (xs := l) (acc := []) (by rw [List.length_nil, szl]; omega) ?_ ?_
      · intro x hx
        have := e_shape (k := k) (ha x hx) (by omega)
        simp -implicitDefEqProofs only [wipeE, List.set_cons_succ, List.set_cons_zero, ↓k_some, ↓an_some, ↓g_0, ↓g_s, ↓s_0, ↓s_s, ↓td_sh, ↓td_ow, ↓td_lo, ↓rd_v, ↓rd_al, ↓rds_nil, ↓rds_cons, ↓shs_nil, ↓shs_v, ↓shk, ↓shs_al, ↓gt_v, ↓gt_al, ↓if_tt, ↓if_ff, ↓w_ret, ↓w_stk, ↓w_rse, ↓w_bnd, ↓nz_sh, ↓nz_ow, ↓nz_lo, ↓nz_ob, ↓nz_lb, ↓w_var, ↓w_c, ↓w_ans, ↓w_rd, ↓w_rds, ↓w_d2, ↓w_d1, ↓w_dN, ↓w_dS, ↓w_nil, ↓w_cons, ↓gv_sh, ↓gv_ow, ↓gv_ob, ↓fg_nil, ↓gi_v, ↓gi_al, ↓w_giv, ↓w_rdO, ↓w_opT, ↓w_tru, ↓w_bl, ↓bl_d, ↓w_not, ↓w_if, ↓w_and, ↓w_or, ↓w_dNot, ↓w_dAnd, ↓w_dOr, ↓w_oNone, ↓w_oSome, ↓o_int, ↓w_sl, ↓sq_nx, ↓sq_rt, ↓sq_bk, ↓sq_ct, ↓w_seq, ↓w_skip, ↓w_dret, ↓w_retN, ↓w_expr, ↓w_dif, ↓w_brk, ↓w_raise, ↓w_dasg, ↓w_dset, ↓al_sh, ↓al_lo, ↓al_lb, ↓w_asg_v, ↓w_asg_al, ↓w_gsNil, ↓w_gsCons, ↓tp_k, ↓w_gTp, ↓w_for, ↓w_loop_nil, ↓tn_nx, ↓tn_ct, ↓tn_bk, ↓tn_rt, ↓w_iOf, ↓w_iOfN, ↓seq_tup, ↓seq_lst, ↓seq_scr, ↓w_lc, ↓wipe_nil, ↓it_k, ↓w_yes, ↓fr_ok, ↓fr_ex, ↓ms_t, ↓ms_f, ↓ms_n, ↓out_nx, ↓out_v, ↓out_al, ↓mu_nil, ↓mu_t, ↓mu_f, ↓fr_run, ↓st_e, ↓lt_sh, ↓lt_ow, ↓lt_lo, ↓lt_ob, ↓lt_lb, ↓ot_ow, ↓ot_ob, ↓le_nil, ↓le_f, ↓le_t, ↓alf_nil, ↓alf_nil2, ↓alf_v, ↓alf_ff, ↓alf_al, ↓oa_nil, ↓oa_v, ↓oa_al, ↓okr_sh, ↓okr_no, ↓okr_ow, ↓okr_sh1, ↓okr_no1, ↓okr_ow1, ↓okr_sh2, ↓pu_nil, ↓pu_f, ↓pu_al, ↓pu_v, ↓w_call, ↓w_dcall, ↓w_dmeth, ↓mk_k, ↓mk_x, ↓w_make, ↓w_dmake, ↓w_chk_v, ↓w_dBM, ↓w_dBM0, ↓isl_n, ↓isk_n, ↓isl_1, ↓isl_2, ↓isl_3, ↓isl_4, ↓isk_1, ↓isk_2, ↓isk_3, ↓isk_4, ↓isk_5, ↓isk_6, ↓ow_k, ↓w_mutS, ↓w_mutR, ↓f_app, ↓f_pop, ↓f_ext, ↓f_extT, ↓w_rdm, ↓str_k, ↓w_isStr, ↓w_strM, ↓w_fld, ↓ft_sh, ↓ft_ow, ↓ft_lo, ↓fa_sh, ↓fa_lo, ↓ft_al, ↓ob_k, ↓w_setFld, ↓w_fldSet, ↓w_setZ, ↓w_gSub, ↓fow_k, ↓w_gFSub, ↓int_k, ↓w_aug, ↓ch_t, ↓ch_f, ↓w_catch, ↓w_try, ↓w_tryKeep, ↓w_give, ↓w_no, ↓w_dict, ↓w_dictT, ↓w_chain, ↓is_b, ↓w_get2, ↓gz_s, ↓gz_n, ↓w_getZ, ↓o_addI, ↓o_addS, ↓o_addT, ↓o_addL, ↓o_sub, ↓o_mulI, ↓o_mulS, ↓o_mulL, ↓o_fdv, ↓o_mod, ↓o_neg, ↓o_lt, ↓o_le, ↓o_gt, ↓o_ge, ↓b_lt, ↓b_le, ↓o_is, ↓isn_t, ↓isn_1, ↓isn_2, ↓isn_3, ↓isn_4, ↓isn_5, ↓o_eqI, ↓o_eqS, ↓o_ixT, ↓o_ixL, ↓o_ixC, ↓o_ixS, ↓o_ixD, ↓o_slS, ↓o_slT, ↓o_slL, ↓o_slC, ↓o_inD, ↓o_tup, ↓o_lst, ↓o_lenT, ↓o_lenL, ↓o_lenC, ↓o_lenD, ↓o_lenS, ↓o_min, ↓o_max, ↓o_intI, ↓o_intB, ↓o_listT, ↓o_listL, ↓o_listC, ↓o_tupleT, ↓o_tupleL, ↓o_dict, ↓o_rev, ↓o_revT, ↓o_isi, ↓ty_1, ↓ty_2, ↓ty_3, ↓ty_4, ↓ty_5, ↓ty_6, ↓ty_7, ↓tr_b, ↓tr_n, ↓tr_i, ↓tr_t, ↓tr_l, w_chk_al isl_n, w_chk_al isk_n, Bool.false_eq_true, if_true, if_false, true_and, and_true, Bool.bne_false, Bool.bne_true, Bool.not_true, Bool.not_false, decide_true, decide_false, Bool.and_true, Bool.true_and, Bool.or_false, Bool.false_or, Bool.or_true, Bool.true_or, Bool.and_false, Bool.false_and, Bool.or_self, Bool.and_self, List.getElem?_cons_zero, List.getElem?_cons_succ, List.getElem?_nil, List.length_cons, List.length_nil, List.cons_append, List.nil_append, Nat.reduceAdd, Nat.reduceSub, List.replicate_succ, List.replicate_zero, Nat.reduceEqDiff, Int.reduceEq, Int.reduceLT, Int.reduceLE, Nat.reduceLT, Nat.reduceLeDiff, reduceCtorEq, Nat.zero_add, this]
      · simp -implicitDefEqProofs only [filt0, List.map_nil, List.append_nil, wipeE, List.set_cons_succ, List.set_cons_zero, ↓k_some, ↓an_some, ↓g_0, ↓g_s, ↓s_0, ↓s_s, ↓td_sh, ↓td_ow, ↓td_lo, ↓rd_v, ↓rd_al, ↓rds_nil, ↓rds_cons, ↓shs_nil, ↓shs_v, ↓shk, ↓shs_al, ↓gt_v, ↓gt_al, ↓if_tt, ↓if_ff, ↓w_ret, ↓w_stk, ↓w_rse, ↓w_bnd, ↓nz_sh, ↓nz_ow, ↓nz_lo, ↓nz_ob, ↓nz_lb, ↓w_var, ↓w_c, ↓w_ans, ↓w_rd, ↓w_rds, ↓w_d2, ↓w_d1, ↓w_dN, ↓w_dS, ↓w_nil, ↓w_cons, ↓gv_sh, ↓gv_ow, ↓gv_ob, ↓fg_nil, ↓gi_v, ↓gi_al, ↓w_giv, ↓w_rdO, ↓w_opT, ↓w_tru, ↓w_bl, ↓bl_d, ↓w_not, ↓w_if, ↓w_and, ↓w_or, ↓w_dNot, ↓w_dAnd, ↓w_dOr, ↓w_oNone, ↓w_oSome, ↓o_int, ↓w_sl, ↓sq_nx, ↓sq_rt, ↓sq_bk, ↓sq_ct, ↓w_seq, ↓w_skip, ↓w_dret, ↓w_retN, ↓w_expr, ↓w_dif, ↓w_brk, ↓w_raise, ↓w_dasg, ↓w_dset, ↓al_sh, ↓al_lo, ↓al_lb, ↓w_asg_v, ↓w_asg_al, ↓w_gsNil, ↓w_gsCons, ↓tp_k, ↓w_gTp, ↓w_for, ↓w_loop_nil, ↓tn_nx, ↓tn_ct, ↓tn_bk, ↓tn_rt, ↓w_iOf, ↓w_iOfN, ↓seq_tup, ↓seq_lst, ↓seq_scr, ↓w_lc, ↓wipe_nil, ↓it_k, ↓w_yes, ↓fr_ok, ↓fr_ex, ↓ms_t, ↓ms_f, ↓ms_n, ↓out_nx, ↓out_v, ↓out_al, ↓mu_nil, ↓mu_t, ↓mu_f, ↓fr_run, ↓st_e, ↓lt_sh, ↓lt_ow, ↓lt_lo, ↓lt_ob, ↓lt_lb, ↓ot_ow, ↓ot_ob, ↓le_nil, ↓le_f, ↓le_t, ↓alf_nil, ↓alf_nil2, ↓alf_v, ↓alf_ff, ↓alf_al, ↓oa_nil, ↓oa_v, ↓oa_al, ↓okr_sh, ↓okr_no, ↓okr_ow, ↓okr_sh1, ↓okr_no1, ↓okr_ow1, ↓okr_sh2, ↓pu_nil, ↓pu_f, ↓pu_al, ↓pu_v, ↓w_call, ↓w_dcall, ↓w_dmeth, ↓mk_k, ↓mk_x, ↓w_make, ↓w_dmake, ↓w_chk_v, ↓w_dBM, ↓w_dBM0, ↓isl_n, ↓isk_n, ↓isl_1, ↓isl_2, ↓isl_3, ↓isl_4, ↓isk_1, ↓isk_2, ↓isk_3, ↓isk_4, ↓isk_5, ↓isk_6, ↓ow_k, ↓w_mutS, ↓w_mutR, ↓f_app, ↓f_pop, ↓f_ext, ↓f_extT, ↓w_rdm, ↓str_k, ↓w_isStr, ↓w_strM, ↓w_fld, ↓ft_sh, ↓ft_ow, ↓ft_lo, ↓fa_sh, ↓fa_lo, ↓ft_al, ↓ob_k, ↓w_setFld, ↓w_fldSet, ↓w_setZ, ↓w_gSub, ↓fow_k, ↓w_gFSub, ↓int_k, ↓w_aug, ↓ch_t, ↓ch_f, ↓w_catch, ↓w_try, ↓w_tryKeep, ↓w_give, ↓w_no, ↓w_dict, ↓w_dictT, ↓w_chain, ↓is_b, ↓w_get2, ↓gz_s, ↓gz_n, ↓w_getZ, ↓o_addI, ↓o_addS, ↓o_addT, ↓o_addL, ↓o_sub, ↓o_mulI, ↓o_mulS, ↓o_mulL, ↓o_fdv, ↓o_mod, ↓o_neg, ↓o_lt, ↓o_le, ↓o_gt, ↓o_ge, ↓b_lt, ↓b_le, ↓o_is, ↓isn_t, ↓isn_1, ↓isn_2, ↓isn_3, ↓isn_4, ↓isn_5, ↓o_eqI, ↓o_eqS, ↓o_ixT, ↓o_ixL, ↓o_ixC, ↓o_ixS, ↓o_ixD, ↓o_slS, ↓o_slT, ↓o_slL, ↓o_slC, ↓o_inD, ↓o_tup, ↓o_lst, ↓o_lenT, ↓o_lenL, ↓o_lenC, ↓o_lenD, ↓o_lenS, ↓o_min, ↓o_max, ↓o_intI, ↓o_intB, ↓o_listT, ↓o_listL, ↓o_listC, ↓o_tupleT, ↓o_tupleL, ↓o_dict, ↓o_rev, ↓o_revT, ↓o_isi, ↓ty_1, ↓ty_2, ↓ty_3, ↓ty_4, ↓ty_5, ↓ty_6, ↓ty_7, ↓tr_b, ↓tr_n, ↓tr_i, ↓tr_t, ↓tr_l, w_chk_al isl_n, w_chk_al isk_n, Bool.false_eq_true, if_true, if_false, true_and, and_true, Bool.bne_false, Bool.bne_true, Bool.not_true, Bool.not_false, decide_true, decide_false, Bool.and_true, Bool.true_and, Bool.or_false, Bool.false_or, Bool.or_true, Bool.true_or, Bool.and_false, Bool.false_and, Bool.or_self, Bool.and_self, List.getElem?_cons_zero, List.getElem?_cons_succ, List.getElem?_nil, List.length_cons, List.length_nil, List.cons_append, List.nil_append, Nat.reduceAdd, Nat.reduceSub, List.replicate_succ, List.replicate_zero, Nat.reduceEqDiff, Int.reduceEq, Int.reduceLT, Int.reduceLE, Nat.reduceLT, Nat.reduceLeDiff, reduceCtorEq, Nat.zero_add, eq_nil, sz]
end Lk32

set_option Elab.async false
set_option linter.all false
set_option maxRecDepth 100000
set_option maxHeartbeats 4000000
namespace Lk32
open PySem L2 V
/-! places -/
mutual
def spots : Ex → List (List Nat)
  | .nm _ => [[]]
  | .ap _ _ l => [] :: spotsL 0 l
def spotsL : Nat → List Ex → List (List Nat)
  | _, [] => []
  | k, e :: l => (spots e).map (k :: ·) ++ spotsL (k + 1) l
end
def plD (q : List Nat) : D := .tup (q.map fun k : Nat => .int (k : Int))
theorem spotsL_app : ∀ (a b : List Ex) (k : Nat), spotsL k (a ++ b) = spotsL k a ++ spotsL (k + a.length) b
  | [], b, k => by rw [spotsL]; rfl
  | e :: a, b, k => by
    rw [List.cons_append, spotsL, spotsL, spotsL_app a b (k + 1), List.append_assoc, List.length_cons]
    congr 3
    omega
theorem spots_len : ∀ {d : Nat} {e : Ex}, Ew d e → (spots e).length ≤ 4 ^ d ∧ ∀ q ∈ spots e, q.length ≤ d := by
  intro d e h
  induction h with
  | @nm d s hs =>
    rw [spots]
    have : 0 < 4 ^ d := Nat.pow_pos (by omega)
    exact ⟨by rw [List.length_singleton]; exact this, fun q hq => by rw [List.mem_singleton.mp hq]; simp⟩
  | @ap d b s l hs hl ha ih =>
    have h1 : ∀ (l : List Ex) (k : Nat), (∀ e ∈ l, (spots e).length ≤ 4 ^ d ∧ ∀ q ∈ spots e, q.length ≤ d) → (spotsL k l).length ≤ l.length * 4 ^ d ∧ ∀ q ∈ spotsL k l, q.length ≤ d + 1 := by
      intro l
      induction l with
      | nil => intro k _; rw [spotsL]; exact ⟨by simp, fun q hq => absurd hq List.not_mem_nil⟩
      | cons e l ih2 =>
        intro k h
        obtain ⟨h2, h3⟩ := h e (List.mem_cons_self ..)
        obtain ⟨h4, h5⟩ := ih2 (k + 1) fun x hx => h x (List.mem_cons_of_mem _ hx)
        rw [spotsL]
        refine ⟨by rw [List.length_append, List.length_map, List.length_cons, Nat.add_mul]; omega, fun q hq => ?_⟩
        rcases List.mem_append.mp hq with hq | hq
        · obtain ⟨q', hq', rfl⟩ := List.mem_map.mp hq
          rw [List.length_cons]
          have := h3 q' hq'
          omega
        · exact h5 q hq
    obtain ⟨h2, h3⟩ := h1 l 0 ih
    have h4 : l.length * 4 ^ d ≤ 3 * 4 ^ d := Nat.mul_le_mul_right _ hl
    have h5 : 0 < 4 ^ d := Nat.pow_pos (by omega)
    rw [spots]
    refine ⟨by rw [List.length_cons, Nat.pow_succ]; omega, fun q hq => ?_⟩
    rcases List.mem_cons.mp hq with rfl | hq
    · simp
    · exact h3 q hq
theorem e_spots : ∀ {k d : Nat} {e : Ex}, Ew d e → d < k → d ≤ 8 → F__law_spots k [.sh (exD e)] = .ok (.sh (.lst ((spots e).map plD))) []
  | k + 1, d, _, .nm (s := s) hs, _, _ => by
    refine FrK.eq ?_
    unfold F__law_spots d__law_spots
    have e1 : (spots (.nm s)).map plD = [.tup []] := by rw [spots]; rfl
    rw [e1]
    simp -implicitDefEqProofs only [exD, ↓k_some, ↓an_some, ↓g_0, ↓g_s, ↓s_0, ↓s_s, ↓td_sh, ↓td_ow, ↓td_lo, ↓rd_v, ↓rd_al, ↓rds_nil, ↓rds_cons, ↓shs_nil, ↓shs_v, ↓shk, ↓shs_al, ↓gt_v, ↓gt_al, ↓if_tt, ↓if_ff, ↓w_ret, ↓w_stk, ↓w_rse, ↓w_bnd, ↓nz_sh, ↓nz_ow, ↓nz_lo, ↓nz_ob, ↓nz_lb, ↓w_var, ↓w_c, ↓w_ans, ↓w_rd, ↓w_rds, ↓w_d2, ↓w_d1, ↓w_dN, ↓w_dS, ↓w_nil, ↓w_cons, ↓gv_sh, ↓gv_ow, ↓gv_ob, ↓fg_nil, ↓gi_v, ↓gi_al, ↓w_giv, ↓w_rdO, ↓w_opT, ↓w_tru, ↓w_bl, ↓bl_d, ↓w_not, ↓w_if, ↓w_and, ↓w_or, ↓w_dNot, ↓w_dAnd, ↓w_dOr, ↓w_oNone, ↓w_oSome, ↓o_int, ↓w_sl, ↓sq_nx, ↓sq_rt, ↓sq_bk, ↓sq_ct, ↓w_seq, ↓w_skip, ↓w_dret, ↓w_retN, ↓w_expr, ↓w_dif, ↓w_brk, ↓w_raise, ↓w_dasg, ↓w_dset, ↓al_sh, ↓al_lo, ↓al_lb, ↓w_asg_v, ↓w_asg_al, ↓w_gsNil, ↓w_gsCons, ↓tp_k, ↓w_gTp, ↓w_for, ↓w_loop_nil, ↓tn_nx, ↓tn_ct, ↓tn_bk, ↓tn_rt, ↓w_iOf, ↓w_iOfN, ↓seq_tup, ↓seq_lst, ↓seq_scr, ↓w_lc, ↓wipe_nil, ↓it_k, ↓w_yes, ↓fr_ok, ↓fr_ex, ↓ms_t, ↓ms_f, ↓ms_n, ↓out_nx, ↓out_v, ↓out_al, ↓mu_nil, ↓mu_t, ↓mu_f, ↓fr_run, ↓st_e, ↓lt_sh, ↓lt_ow, ↓lt_lo, ↓lt_ob, ↓lt_lb, ↓ot_ow, ↓ot_ob, ↓le_nil, ↓le_f, ↓le_t, ↓alf_nil, ↓alf_nil2, ↓alf_v, ↓alf_ff, ↓alf_al, ↓oa_nil, ↓oa_v, ↓oa_al, ↓okr_sh, ↓okr_no, ↓okr_ow, ↓okr_sh1, ↓okr_no1, ↓okr_ow1, ↓okr_sh2, ↓pu_nil, ↓pu_f, ↓pu_al, ↓pu_v, ↓w_call, ↓w_dcall, ↓w_dmeth, ↓mk_k, ↓mk_x, ↓w_make, ↓w_dmake, ↓w_chk_v, ↓w_dBM, ↓w_dBM0, ↓isl_n, ↓isk_n, ↓isl_1, ↓isl_2, ↓isl_3, ↓isl_4, ↓isk_1, ↓isk_2, ↓isk_3, ↓isk_4, ↓isk_5, ↓isk_6, ↓ow_k, ↓w_mutS, ↓w_mutR, ↓f_app, ↓f_pop, ↓f_ext, ↓f_extT, ↓w_rdm, ↓str_k, ↓w_isStr, ↓w_strM, ↓w_fld, ↓ft_sh, ↓ft_ow, ↓ft_lo, ↓fa_sh, ↓fa_lo, ↓ft_al, ↓ob_k, ↓w_setFld, ↓w_fldSet, ↓w_setZ, ↓w_gSub, ↓fow_k, ↓w_gFSub, ↓int_k, ↓w_aug, ↓ch_t, ↓ch_f, ↓w_catch, ↓w_try, ↓w_tryKeep, ↓w_give, ↓w_no, ↓w_dict, ↓w_dictT, ↓w_chain, ↓is_b, ↓w_get2, ↓gz_s, ↓gz_n, ↓w_getZ, ↓o_addI, ↓o_addS, ↓o_addT, ↓o_addL, ↓o_sub, ↓o_mulI, ↓o_mulS, ↓o_mulL, ↓o_fdv, ↓o_mod, ↓o_neg, ↓o_lt, ↓o_le, ↓o_gt, ↓o_ge, ↓b_lt, ↓b_le, ↓o_is, ↓isn_t, ↓isn_1, ↓isn_2, ↓isn_3, ↓isn_4, ↓isn_5, ↓o_eqI, ↓o_eqS, ↓o_ixT, ↓o_ixL, ↓o_ixC, ↓o_ixS, ↓o_ixD, ↓o_slS, ↓o_slT, ↓o_slL, ↓o_slC, ↓o_inD, ↓o_tup, ↓o_lst, ↓o_lenT, ↓o_lenL, ↓o_lenC, ↓o_lenD, ↓o_lenS, ↓o_min, ↓o_max, ↓o_intI, ↓o_intB, ↓o_listT, ↓o_listL, ↓o_listC, ↓o_tupleT, ↓o_tupleL, ↓o_dict, ↓o_rev, ↓o_revT, ↓o_isi, ↓ty_1, ↓ty_2, ↓ty_3, ↓ty_4, ↓ty_5, ↓ty_6, ↓ty_7, ↓tr_b, ↓tr_n, ↓tr_i, ↓tr_t, ↓tr_l, w_chk_al isl_n, w_chk_al isk_n, Bool.false_eq_true, if_true, if_false, true_and, and_true, Bool.bne_false, Bool.bne_true, Bool.not_true, Bool.not_false, decide_true, decide_false, Bool.and_true, Bool.true_and, Bool.or_false, Bool.false_or, Bool.or_true, Bool.true_or, Bool.and_false, Bool.false_and, Bool.or_self, Bool.and_self, List.getElem?_cons_zero, List.getElem?_cons_succ, List.getElem?_nil, List.length_cons, List.length_nil, List.cons_append, List.nil_append, Nat.reduceAdd, Nat.reduceSub, List.replicate_succ, List.replicate_zero, Nat.reduceEqDiff, Int.reduceEq, Int.reduceLT, Int.reduceLE, Nat.reduceLT, Nat.reduceLeDiff, reduceCtorEq, Nat.zero_add, at0, ok_nm, nm_eq, sz]
  | k + 1, d + 1, _, .ap (b := b) (s := s) (l := l) hs hl ha, hk, hd => by
    refine FrK.eq ?_
    unfold F__law_spots d__law_spots
    have r1 := rng1_ok (n := l.length) (by omega)
    have ll : (exDs l).length = l.length := by rw [exDs_map, List.length_map]
    have e1 : D.lst [.tup []] = .lst (([] :: spotsL 0 (l.take 0)).map plD) := by rw [List.take_zero, spotsL]; rfl
    simp -implicitDefEqProofs only [exD, ↓k_some, ↓an_some, ↓g_0, ↓g_s, ↓s_0, ↓s_s, ↓td_sh, ↓td_ow, ↓td_lo, ↓rd_v, ↓rd_al, ↓rds_nil, ↓rds_cons, ↓shs_nil, ↓shs_v, ↓shk, ↓shs_al, ↓gt_v, ↓gt_al, ↓if_tt, ↓if_ff, ↓w_ret, ↓w_stk, ↓w_rse, ↓w_bnd, ↓nz_sh, ↓nz_ow, ↓nz_lo, ↓nz_ob, ↓nz_lb, ↓w_var, ↓w_c, ↓w_ans, ↓w_rd, ↓w_rds, ↓w_d2, ↓w_d1, ↓w_dN, ↓w_dS, ↓w_nil, ↓w_cons, ↓gv_sh, ↓gv_ow, ↓gv_ob, ↓fg_nil, ↓gi_v, ↓gi_al, ↓w_giv, ↓w_rdO, ↓w_opT, ↓w_tru, ↓w_bl, ↓bl_d, ↓w_not, ↓w_if, ↓w_and, ↓w_or, ↓w_dNot, ↓w_dAnd, ↓w_dOr, ↓w_oNone, ↓w_oSome, ↓o_int, ↓w_sl, ↓sq_nx, ↓sq_rt, ↓sq_bk, ↓sq_ct, ↓w_seq, ↓w_skip, ↓w_dret, ↓w_retN, ↓w_expr, ↓w_dif, ↓w_brk, ↓w_raise, ↓w_dasg, ↓w_dset, ↓al_sh, ↓al_lo, ↓al_lb, ↓w_asg_v, ↓w_asg_al, ↓w_gsNil, ↓w_gsCons, ↓tp_k, ↓w_gTp, ↓w_for, ↓w_loop_nil, ↓tn_nx, ↓tn_ct, ↓tn_bk, ↓tn_rt, ↓w_iOf, ↓w_iOfN, ↓seq_tup, ↓seq_lst, ↓seq_scr, ↓w_lc, ↓wipe_nil, ↓it_k, ↓w_yes, ↓fr_ok, ↓fr_ex, ↓ms_t, ↓ms_f, ↓ms_n, ↓out_nx, ↓out_v, ↓out_al, ↓mu_nil, ↓mu_t, ↓mu_f, ↓fr_run, ↓st_e, ↓lt_sh, ↓lt_ow, ↓lt_lo, ↓lt_ob, ↓lt_lb, ↓ot_ow, ↓ot_ob, ↓le_nil, ↓le_f, ↓le_t, ↓alf_nil, ↓alf_nil2, ↓alf_v, ↓alf_ff, ↓alf_al, ↓oa_nil, ↓oa_v, ↓oa_al, ↓okr_sh, ↓okr_no, ↓okr_ow, ↓okr_sh1, ↓okr_no1, ↓okr_ow1, ↓okr_sh2, ↓pu_nil, ↓pu_f, ↓pu_al, ↓pu_v, ↓w_call, ↓w_dcall, ↓w_dmeth, ↓mk_k, ↓mk_x, ↓w_make, ↓w_dmake, ↓w_chk_v, ↓w_dBM, ↓w_dBM0, ↓isl_n, ↓isk_n, ↓isl_1, ↓isl_2, ↓isl_3, ↓isl_4, ↓isk_1, ↓isk_2, ↓isk_3, ↓isk_4, ↓isk_5, ↓isk_6, ↓ow_k, ↓w_mutS, ↓w_mutR, ↓f_app, ↓f_pop, ↓f_ext, ↓f_extT, ↓w_rdm, ↓str_k, ↓w_isStr, ↓w_strM, ↓w_fld, ↓ft_sh, ↓ft_ow, ↓ft_lo, ↓fa_sh, ↓fa_lo, ↓ft_al, ↓ob_k, ↓w_setFld, ↓w_fldSet, ↓w_setZ, ↓w_gSub, ↓fow_k, ↓w_gFSub, ↓int_k, ↓w_aug, ↓ch_t, ↓ch_f, ↓w_catch, ↓w_try, ↓w_tryKeep, ↓w_give, ↓w_no, ↓w_dict, ↓w_dictT, ↓w_chain, ↓is_b, ↓w_get2, ↓gz_s, ↓gz_n, ↓w_getZ, ↓o_addI, ↓o_addS, ↓o_addT, ↓o_addL, ↓o_sub, ↓o_mulI, ↓o_mulS, ↓o_mulL, ↓o_fdv, ↓o_mod, ↓o_neg, ↓o_lt, ↓o_le, ↓o_gt, ↓o_ge, ↓b_lt, ↓b_le, ↓o_is, ↓isn_t, ↓isn_1, ↓isn_2, ↓isn_3, ↓isn_4, ↓isn_5, ↓o_eqI, ↓o_eqS, ↓o_ixT, ↓o_ixL, ↓o_ixC, ↓o_ixS, ↓o_ixD, ↓o_slS, ↓o_slT, ↓o_slL, ↓o_slC, ↓o_inD, ↓o_tup, ↓o_lst, ↓o_lenT, ↓o_lenL, ↓o_lenC, ↓o_lenD, ↓o_lenS, ↓o_min, ↓o_max, ↓o_intI, ↓o_intB, ↓o_listT, ↓o_listL, ↓o_listC, ↓o_tupleT, ↓o_tupleL, ↓o_dict, ↓o_rev, ↓o_revT, ↓o_isi, ↓ty_1, ↓ty_2, ↓ty_3, ↓ty_4, ↓ty_5, ↓ty_6, ↓ty_7, ↓tr_b, ↓tr_n, ↓tr_i, ↓tr_t, ↓tr_l, w_chk_al isl_n, w_chk_al isk_n, Bool.false_eq_true, if_true, if_false, true_and, and_true, Bool.bne_false, Bool.bne_true, Bool.not_true, Bool.not_false, decide_true, decide_false, Bool.and_true, Bool.true_and, Bool.or_false, Bool.false_or, Bool.or_true, Bool.true_or, Bool.and_false, Bool.false_and, Bool.or_self, Bool.and_self, List.getElem?_cons_zero, List.getElem?_cons_succ, List.getElem?_nil, List.length_cons, List.length_nil, List.cons_append, List.nil_append, Nat.reduceAdd, Nat.reduceSub, List.replicate_succ, List.replicate_zero, Nat.reduceEqDiff, Int.reduceEq, Int.reduceLT, Int.reduceLE, Nat.reduceLT, Nat.reduceLeDiff, reduceCtorEq, Nat.zero_add, at0, at2, ok_nm, ok_ap, ap_ne, ll, r1, sz, e1]
    refine wp_range (fun j ρ => ∃ t2, ρ = [.sh (.tup [.str (apS b), .str s, .tup (exDs l)]), .sh (.lst (([] :: spotsL 0 (l.take j)).map plD)), t2, .no]) ⟨_, rfl⟩ ?_ ?_
    · rintro j ρ hj ⟨t2, rfl⟩
      have hm : l[j] ∈ l := List.getElem_mem _
      obtain ⟨s1, s2⟩ := spots_len (ha _ hm)
      have p4 : 4 ^ d ≤ 4 ^ 7 := Nat.pow_le_pow_right (by omega) (by omega)
      have p7 : (4 : Nat) ^ 7 = 16384 := rfl
      have ae : atI (exDs l) (j : Int) = some (exD l[j]) := by
        rw [exDs_map, atI_nat (l.map exD) j (by rw [List.length_map]; exact hj), List.getElem_map]
      have ih := e_spots (k := k) (ha _ hm) (by omega) (by omega)
      simp -implicitDefEqProofs only [b1__law_spots, ↓k_some, ↓an_some, ↓g_0, ↓g_s, ↓s_0, ↓s_s, ↓td_sh, ↓td_ow, ↓td_lo, ↓rd_v, ↓rd_al, ↓rds_nil, ↓rds_cons, ↓shs_nil, ↓shs_v, ↓shk, ↓shs_al, ↓gt_v, ↓gt_al, ↓if_tt, ↓if_ff, ↓w_ret, ↓w_stk, ↓w_rse, ↓w_bnd, ↓nz_sh, ↓nz_ow, ↓nz_lo, ↓nz_ob, ↓nz_lb, ↓w_var, ↓w_c, ↓w_ans, ↓w_rd, ↓w_rds, ↓w_d2, ↓w_d1, ↓w_dN, ↓w_dS, ↓w_nil, ↓w_cons, ↓gv_sh, ↓gv_ow, ↓gv_ob, ↓fg_nil, ↓gi_v, ↓gi_al, ↓w_giv, ↓w_rdO, ↓w_opT, ↓w_tru, ↓w_bl, ↓bl_d, ↓w_not, ↓w_if, ↓w_and, ↓w_or, ↓w_dNot, ↓w_dAnd, ↓w_dOr, ↓w_oNone, ↓w_oSome, ↓o_int, ↓w_sl, ↓sq_nx, ↓sq_rt, ↓sq_bk, ↓sq_ct, ↓w_seq, ↓w_skip, ↓w_dret, ↓w_retN, ↓w_expr, ↓w_dif, ↓w_brk, ↓w_raise, ↓w_dasg, ↓w_dset, ↓al_sh, ↓al_lo, ↓al_lb, ↓w_asg_v, ↓w_asg_al, ↓w_gsNil, ↓w_gsCons, ↓tp_k, ↓w_gTp, ↓w_for, ↓w_loop_nil, ↓tn_nx, ↓tn_ct, ↓tn_bk, ↓tn_rt, ↓w_iOf, ↓w_iOfN, ↓seq_tup, ↓seq_lst, ↓seq_scr, ↓w_lc, ↓wipe_nil, ↓it_k, ↓w_yes, ↓fr_ok, ↓fr_ex, ↓ms_t, ↓ms_f, ↓ms_n, ↓out_nx, ↓out_v, ↓out_al, ↓mu_nil, ↓mu_t, ↓mu_f, ↓fr_run, ↓st_e, ↓lt_sh, ↓lt_ow, ↓lt_lo, ↓lt_ob, ↓lt_lb, ↓ot_ow, ↓ot_ob, ↓le_nil, ↓le_f, ↓le_t, ↓alf_nil, ↓alf_nil2, ↓alf_v, ↓alf_ff, ↓alf_al, ↓oa_nil, ↓oa_v, ↓oa_al, ↓okr_sh, ↓okr_no, ↓okr_ow, ↓okr_sh1, ↓okr_no1, ↓okr_ow1, ↓okr_sh2, ↓pu_nil, ↓pu_f, ↓pu_al, ↓pu_v, ↓w_call, ↓w_dcall, ↓w_dmeth, ↓mk_k, ↓mk_x, ↓w_make, ↓w_dmake, ↓w_chk_v, ↓w_dBM, ↓w_dBM0, ↓isl_n, ↓isk_n, ↓isl_1, ↓isl_2, ↓isl_3, ↓isl_4, ↓isk_1, ↓isk_2, ↓isk_3, ↓isk_4, ↓isk_5, ↓isk_6, ↓ow_k, ↓w_mutS, ↓w_mutR, ↓f_app, ↓f_pop, ↓f_ext, ↓f_extT, ↓w_rdm, ↓str_k, ↓w_isStr, ↓w_strM, ↓w_fld, ↓ft_sh, ↓ft_ow, ↓ft_lo, ↓fa_sh, ↓fa_lo, ↓ft_al, ↓ob_k, ↓w_setFld, ↓w_fldSet, ↓w_setZ, ↓w_gSub, ↓fow_k, ↓w_gFSub, ↓int_k, ↓w_aug, ↓ch_t, ↓ch_f, ↓w_catch, ↓w_try, ↓w_tryKeep, ↓w_give, ↓w_no, ↓w_dict, ↓w_dictT, ↓w_chain, ↓is_b, ↓w_get2, ↓gz_s, ↓gz_n, ↓w_getZ, ↓o_addI, ↓o_addS, ↓o_addT, ↓o_addL, ↓o_sub, ↓o_mulI, ↓o_mulS, ↓o_mulL, ↓o_fdv, ↓o_mod, ↓o_neg, ↓o_lt, ↓o_le, ↓o_gt, ↓o_ge, ↓b_lt, ↓b_le, ↓o_is, ↓isn_t, ↓isn_1, ↓isn_2, ↓isn_3, ↓isn_4, ↓isn_5, ↓o_eqI, ↓o_eqS, ↓o_ixT, ↓o_ixL, ↓o_ixC, ↓o_ixS, ↓o_ixD, ↓o_slS, ↓o_slT, ↓o_slL, ↓o_slC, ↓o_inD, ↓o_tup, ↓o_lst, ↓o_lenT, ↓o_lenL, ↓o_lenC, ↓o_lenD, ↓o_lenS, ↓o_min, ↓o_max, ↓o_intI, ↓o_intB, ↓o_listT, ↓o_listL, ↓o_listC, ↓o_tupleT, ↓o_tupleL, ↓o_dict, ↓o_rev, ↓o_revT, ↓o_isi, ↓ty_1, ↓ty_2, ↓ty_3, ↓ty_4, ↓ty_5, ↓ty_6, ↓ty_7, ↓tr_b, ↓tr_n, ↓tr_i, ↓tr_t, ↓tr_l, w_chk_al isl_n, w_chk_al isk_n, Bool.false_eq_true, if_true, if_false, true_and, and_true, Bool.bne_false, Bool.bne_true, Bool.not_true, Bool.not_false, decide_true, decide_false, Bool.and_true, Bool.true_and, Bool.or_false, Bool.false_or, Bool.or_true, Bool.true_or, Bool.and_false, Bool.false_and, Bool.or_self, Bool.and_self, List.getElem?_cons_zero, List.getElem?_cons_succ, List.getElem?_nil, List.length_cons, List.length_nil, List.cons_append, List.nil_append, Nat.reduceAdd, Nat.reduceSub, List.replicate_succ, List.replicate_zero, Nat.reduceEqDiff, Int.reduceEq, Int.reduceLT, Int.reduceLE, Nat.reduceLT, Nat.reduceLeDiff, reduceCtorEq, Nat.zero_add, at2, ae, ih]
      refine wp_all plD (fun q => plD (j :: q)) (by omega) ?_ ?_
      · intro q hq
        have hl1 : szOk (1 + q.length) = true := sz (by have := s2 q hq; omega)
        simp -implicitDefEqProofs only [plD, wipeE, List.set_cons_succ, List.set_cons_zero, ↓k_some, ↓an_some, ↓g_0, ↓g_s, ↓s_0, ↓s_s, ↓td_sh, ↓td_ow, ↓td_lo, ↓rd_v, ↓rd_al, ↓rds_nil, ↓rds_cons, ↓shs_nil, ↓shs_v, ↓shk, ↓shs_al, ↓gt_v, ↓gt_al, ↓if_tt, ↓if_ff, ↓w_ret, ↓w_stk, ↓w_rse, ↓w_bnd, ↓nz_sh, ↓nz_ow, ↓nz_lo, ↓nz_ob, ↓nz_lb, ↓w_var, ↓w_c, ↓w_ans, ↓w_rd, ↓w_rds, ↓w_d2, ↓w_d1, ↓w_dN, ↓w_dS, ↓w_nil, ↓w_cons, ↓gv_sh, ↓gv_ow, ↓gv_ob, ↓fg_nil, ↓gi_v, ↓gi_al, ↓w_giv, ↓w_rdO, ↓w_opT, ↓w_tru, ↓w_bl, ↓bl_d, ↓w_not, ↓w_if, ↓w_and, ↓w_or, ↓w_dNot, ↓w_dAnd, ↓w_dOr, ↓w_oNone, ↓w_oSome, ↓o_int, ↓w_sl, ↓sq_nx, ↓sq_rt, ↓sq_bk, ↓sq_ct, ↓w_seq, ↓w_skip, ↓w_dret, ↓w_retN, ↓w_expr, ↓w_dif, ↓w_brk, ↓w_raise, ↓w_dasg, ↓w_dset, ↓al_sh, ↓al_lo, ↓al_lb, ↓w_asg_v, ↓w_asg_al, ↓w_gsNil, ↓w_gsCons, ↓tp_k, ↓w_gTp, ↓w_for, ↓w_loop_nil, ↓tn_nx, ↓tn_ct, ↓tn_bk, ↓tn_rt, ↓w_iOf, ↓w_iOfN, ↓seq_tup, ↓seq_lst, ↓seq_scr, ↓w_lc, ↓wipe_nil, ↓it_k, ↓w_yes, ↓fr_ok, ↓fr_ex, ↓ms_t, ↓ms_f, ↓ms_n, ↓out_nx, ↓out_v, ↓out_al, ↓mu_nil, ↓mu_t, ↓mu_f, ↓fr_run, ↓st_e, ↓lt_sh, ↓lt_ow, ↓lt_lo, ↓lt_ob, ↓lt_lb, ↓ot_ow, ↓ot_ob, ↓le_nil, ↓le_f, ↓le_t, ↓alf_nil, ↓alf_nil2, ↓alf_v, ↓alf_ff, ↓alf_al, ↓oa_nil, ↓oa_v, ↓oa_al, ↓okr_sh, ↓okr_no, ↓okr_ow, ↓okr_sh1, ↓okr_no1, ↓okr_ow1, ↓okr_sh2, ↓pu_nil, ↓pu_f, ↓pu_al, ↓pu_v, ↓w_call, ↓w_dcall, ↓w_dmeth, ↓mk_k, ↓mk_x, ↓w_make, ↓w_dmake, ↓w_chk_v, ↓w_dBM, ↓w_dBM0, ↓isl_n, ↓isk_n, ↓isl_1, ↓isl_2, ↓isl_3, ↓isl_4, ↓isk_1, ↓isk_2, ↓isk_3, ↓isk_4, ↓isk_5, ↓isk_6, ↓ow_k, ↓w_mutS, ↓w_mutR, ↓f_app, ↓f_pop, ↓f_ext, ↓f_extT, ↓w_rdm, ↓str_k, ↓w_isStr, ↓w_strM, ↓w_fld, ↓ft_sh, ↓ft_ow, ↓ft_lo, ↓fa_sh, ↓fa_lo, ↓ft_al, ↓ob_k, ↓w_setFld, ↓w_fldSet, ↓w_setZ, ↓w_gSub, ↓fow_k, ↓w_gFSub, ↓int_k, ↓w_aug, ↓ch_t, ↓ch_f, ↓w_catch, ↓w_try, ↓w_tryKeep, ↓w_give, ↓w_no, ↓w_dict, ↓w_dictT, ↓w_chain, ↓is_b, ↓w_get2, ↓gz_s, ↓gz_n, ↓w_getZ, ↓o_addI, ↓o_addS, ↓o_addT, ↓o_addL, ↓o_sub, ↓o_mulI, ↓o_mulS, ↓o_mulL, ↓o_fdv, ↓o_mod, ↓o_neg, ↓o_lt, ↓o_le, ↓o_gt, ↓o_ge, ↓b_lt, ↓b_le, ↓o_is, ↓isn_t, ↓isn_1, ↓isn_2, ↓isn_3, ↓isn_4, ↓isn_5, ↓o_eqI, ↓o_eqS, ↓o_ixT, ↓o_ixL, ↓o_ixC, ↓o_ixS, ↓o_ixD, ↓o_slS, ↓o_slT, ↓o_slL, ↓o_slC, ↓o_inD, ↓o_tup, ↓o_lst, ↓o_lenT, ↓o_lenL, ↓o_lenC, ↓o_lenD, ↓o_lenS, ↓o_min, ↓o_max, ↓o_intI, ↓o_intB, ↓o_listT, ↓o_listL, ↓o_listC, ↓o_tupleT, ↓o_tupleL, ↓o_dict, ↓o_rev, ↓o_revT, ↓o_isi, ↓ty_1, ↓ty_2, ↓ty_3, ↓ty_4, ↓ty_5, ↓ty_6, ↓ty_7, ↓tr_b, ↓tr_n, ↓tr_i, ↓tr_t, ↓tr_l, w_chk_al isl_n, w_chk_al isk_n, Bool.false_eq_true, if_true, if_false, true_and, and_true, Bool.bne_false, Bool.bne_true, Bool.not_true, Bool.not_false, decide_true, decide_false, Bool.and_true, Bool.true_and, Bool.or_false, Bool.false_or, Bool.or_true, Bool.true_or, Bool.and_false, Bool.false_and, Bool.or_self, Bool.and_self, List.getElem?_cons_zero, List.getElem?_cons_succ, List.getElem?_nil, List.length_cons, List.length_nil, List.cons_append, List.nil_append, Nat.reduceAdd, Nat.reduceSub, List.replicate_succ, List.replicate_zero, Nat.reduceEqDiff, Int.reduceEq, Int.reduceLT, Int.reduceLE, Nat.reduceLT, Nat.reduceLeDiff, reduceCtorEq, Nat.zero_add, List.length_map, hl1, sz, List.map_cons]
      · have e2 : spotsL 0 (l.take (j + 1)) = spotsL 0 (l.take j) ++ (spots l[j]).map (j :: ·) := by
          have e3 : l.take (j + 1) = l.take j ++ [l[j]] := by rw [List.take_succ, List.getElem?_eq_getElem hj]; rfl
          rw [e3, spotsL_app, spotsL, spotsL, List.length_take, Nat.min_eq_left (by omega), Nat.zero_add, List.append_nil]
        have e4 : (spots l[j]).map (fun q => plD (j :: q)) = ((spots l[j]).map (j :: ·)).map plD := by rw [List.map_map]; rfl
        have bl : (spotsL 0 (l.take j)).length ≤ 3 * 4 ^ d := by
          have h1 : ∀ (m : List Ex) (k : Nat), (∀ e ∈ m, (spots e).length ≤ 4 ^ d) → (spotsL k m).length ≤ m.length * 4 ^ d := by
            intro m
            induction m with
            | nil => intro k _; rw [spotsL]; simp
            | cons e m ih2 =>
              intro k h
              have h2 := h e (List.mem_cons_self ..)
              have h3 := ih2 (k + 1) fun x hx => h x (List.mem_cons_of_mem _ hx)
              rw [spotsL, List.length_append, List.length_map, List.length_cons, Nat.add_mul]
              omega
          refine Nat.le_trans (h1 _ 0 fun e he => (spots_len (ha e (List.mem_of_mem_take he))).1) (Nat.mul_le_mul_right _ ?_)
          rw [List.length_take]
          omega
        have sx : szOk ((([] :: spotsL 0 (l.take j)).map plD).length + ((spots l[j]).map (fun q => plD (j :: q))).length) = true := sz (by rw [List.length_map, List.length_map, List.length_cons]; omega)
        simp -implicitDefEqProofs only [wipeE, List.set_cons_succ, List.set_cons_zero, ↓k_some, ↓an_some, ↓g_0, ↓g_s, ↓s_0, ↓s_s, ↓td_sh, ↓td_ow, ↓td_lo, ↓rd_v, ↓rd_al, ↓rds_nil, ↓rds_cons, ↓shs_nil, ↓shs_v, ↓shk, ↓shs_al, ↓gt_v, ↓gt_al, ↓if_tt, ↓if_ff, ↓w_ret, ↓w_stk, ↓w_rse, ↓w_bnd, ↓nz_sh, ↓nz_ow, ↓nz_lo, ↓nz_ob, ↓nz_lb, ↓w_var, ↓w_c, ↓w_ans, ↓w_rd, ↓w_rds, ↓w_d2, ↓w_d1, ↓w_dN, ↓w_dS, ↓w_nil, ↓w_cons, ↓gv_sh, ↓gv_ow, ↓gv_ob, ↓fg_nil, ↓gi_v, ↓gi_al, ↓w_giv, ↓w_rdO, ↓w_opT, ↓w_tru, ↓w_bl, ↓bl_d, ↓w_not, ↓w_if, ↓w_and, ↓w_or, ↓w_dNot, ↓w_dAnd, ↓w_dOr, ↓w_oNone, ↓w_oSome, ↓o_int, ↓w_sl, ↓sq_nx, ↓sq_rt, ↓sq_bk, ↓sq_ct, ↓w_seq, ↓w_skip, ↓w_dret, ↓w_retN, ↓w_expr, ↓w_dif, ↓w_brk, ↓w_raise, ↓w_dasg, ↓w_dset, ↓al_sh, ↓al_lo, ↓al_lb, ↓w_asg_v, ↓w_asg_al, ↓w_gsNil, ↓w_gsCons, ↓tp_k, ↓w_gTp, ↓w_for, ↓w_loop_nil, ↓tn_nx, ↓tn_ct, ↓tn_bk, ↓tn_rt, ↓w_iOf, ↓w_iOfN, ↓seq_tup, ↓seq_lst, ↓seq_scr, ↓w_lc, ↓wipe_nil, ↓it_k, ↓w_yes, ↓fr_ok, ↓fr_ex, ↓ms_t, ↓ms_f, ↓ms_n, ↓out_nx, ↓out_v, ↓out_al, ↓mu_nil, ↓mu_t, ↓mu_f, ↓fr_run, ↓st_e, ↓lt_sh, ↓lt_ow, ↓lt_lo, ↓lt_ob, ↓lt_lb, ↓ot_ow, ↓ot_ob, ↓le_nil, ↓le_f, ↓le_t, ↓alf_nil, ↓alf_nil2, ↓alf_v, ↓alf_ff, ↓alf_al, ↓oa_nil, ↓oa_v, ↓oa_al, ↓okr_sh, ↓okr_no, ↓okr_ow, ↓okr_sh1, ↓okr_no1, ↓okr_ow1, ↓okr_sh2, ↓pu_nil, ↓pu_f, ↓pu_al, ↓pu_v, ↓w_call, ↓w_dcall, ↓w_dmeth, ↓mk_k, ↓mk_x, ↓w_make, ↓w_dmake, ↓w_chk_v, ↓w_dBM, ↓w_dBM0, ↓isl_n, ↓isk_n, ↓isl_1, ↓isl_2, ↓isl_3, ↓isl_4, ↓isk_1, ↓isk_2, ↓isk_3, ↓isk_4, ↓isk_5, ↓isk_6, ↓ow_k, ↓w_mutS, ↓w_mutR, ↓f_app, ↓f_pop, ↓f_ext, ↓f_extT, ↓w_rdm, ↓str_k, ↓w_isStr, ↓w_strM, ↓w_fld, ↓ft_sh, ↓ft_ow, ↓ft_lo, ↓fa_sh, ↓fa_lo, ↓ft_al, ↓ob_k, ↓w_setFld, ↓w_fldSet, ↓w_setZ, ↓w_gSub, ↓fow_k, ↓w_gFSub, ↓int_k, ↓w_aug, ↓ch_t, ↓ch_f, ↓w_catch, ↓w_try, ↓w_tryKeep, ↓w_give, ↓w_no, ↓w_dict, ↓w_dictT, ↓w_chain, ↓is_b, ↓w_get2, ↓gz_s, ↓gz_n, ↓w_getZ, ↓o_addI, ↓o_addS, ↓o_addT, ↓o_addL, ↓o_sub, ↓o_mulI, ↓o_mulS, ↓o_mulL, ↓o_fdv, ↓o_mod, ↓o_neg, ↓o_lt, ↓o_le, ↓o_gt, ↓o_ge, ↓b_lt, ↓b_le, ↓o_is, ↓isn_t, ↓isn_1, ↓isn_2, ↓isn_3, ↓isn_4, ↓isn_5, ↓o_eqI, ↓o_eqS, ↓o_ixT, ↓o_ixL, ↓o_ixC, ↓o_ixS, ↓o_ixD, ↓o_slS, ↓o_slT, ↓o_slL, ↓o_slC, ↓o_inD, ↓o_tup, ↓o_lst, ↓o_lenT, ↓o_lenL, ↓o_lenC, ↓o_lenD, ↓o_lenS, ↓o_min, ↓o_max, ↓o_intI, ↓o_intB, ↓o_listT, ↓o_listL, ↓o_listC, ↓o_tupleT, ↓o_tupleL, ↓o_dict, ↓o_rev, ↓o_revT, ↓o_isi, ↓ty_1, ↓ty_2, ↓ty_3, ↓ty_4, ↓ty_5, ↓ty_6, ↓ty_7, ↓tr_b, ↓tr_n, ↓tr_i, ↓tr_t, ↓tr_l, w_chk_al isl_n, w_chk_al isk_n, Bool.false_eq_true, if_true, if_false, true_and, and_true, Bool.bne_false, Bool.bne_true, Bool.not_true, Bool.not_false, decide_true, decide_false, Bool.and_true, Bool.true_and, Bool.or_false, Bool.false_or, Bool.or_true, Bool.true_or, Bool.and_false, Bool.false_and, Bool.or_self, Bool.and_self, List.getElem?_cons_zero, List.getElem?_cons_succ, List.getElem?_nil, List.length_cons, List.length_nil, List.cons_append, List.nil_append, Nat.reduceAdd, Nat.reduceSub, List.replicate_succ, List.replicate_zero, Nat.reduceEqDiff, Int.reduceEq, Int.reduceLT, Int.reduceLE, Nat.reduceLT, Nat.reduceLeDiff, reduceCtorEq, Nat.zero_add, sx]
        rw [e4, e2, ← List.map_append, List.cons_append]
        exact ⟨_, rfl⟩
    · rintro ρ ⟨t2, rfl⟩
      rw [List.take_length]
      have e5 : spots (.ap b s l) = [] :: spotsL 0 l := by rw [spots]
      rw [e5]
      simp -implicitDefEqProofs only [↓k_some, ↓an_some, ↓g_0, ↓g_s, ↓s_0, ↓s_s, ↓td_sh, ↓td_ow, ↓td_lo, ↓rd_v, ↓rd_al, ↓rds_nil, ↓rds_cons, ↓shs_nil, ↓shs_v, ↓shk, ↓shs_al, ↓gt_v, ↓gt_al, ↓if_tt, ↓if_ff, ↓w_ret, ↓w_stk, ↓w_rse, ↓w_bnd, ↓nz_sh, ↓nz_ow, ↓nz_lo, ↓nz_ob, ↓nz_lb, ↓w_var, ↓w_c, ↓w_ans, ↓w_rd, ↓w_rds, ↓w_d2, ↓w_d1, ↓w_dN, ↓w_dS, ↓w_nil, ↓w_cons, ↓gv_sh, ↓gv_ow, ↓gv_ob, ↓fg_nil, ↓gi_v, ↓gi_al, ↓w_giv, ↓w_rdO, ↓w_opT, ↓w_tru, ↓w_bl, ↓bl_d, ↓w_not, ↓w_if, ↓w_and, ↓w_or, ↓w_dNot, ↓w_dAnd, ↓w_dOr, ↓w_oNone, ↓w_oSome, ↓o_int, ↓w_sl, ↓sq_nx, ↓sq_rt, ↓sq_bk, ↓sq_ct, ↓w_seq, ↓w_skip, ↓w_dret, ↓w_retN, ↓w_expr, ↓w_dif, ↓w_brk, ↓w_raise, ↓w_dasg, ↓w_dset, ↓al_sh, ↓al_lo, ↓al_lb, ↓w_asg_v, ↓w_asg_al, ↓w_gsNil, ↓w_gsCons, ↓tp_k, ↓w_gTp, ↓w_for, ↓w_loop_nil, ↓tn_nx, ↓tn_ct, ↓tn_bk, ↓tn_rt, ↓w_iOf, ↓w_iOfN, ↓seq_tup, ↓seq_lst, ↓seq_scr, ↓w_lc, ↓wipe_nil, ↓it_k, ↓w_yes, ↓fr_ok, ↓fr_ex, ↓ms_t, ↓ms_f, ↓ms_n, ↓out_nx, ↓out_v, ↓out_al, ↓mu_nil, ↓mu_t, ↓mu_f, ↓fr_run, ↓st_e, ↓lt_sh, ↓lt_ow, ↓lt_lo, ↓lt_ob, ↓lt_lb, ↓ot_ow, ↓ot_ob, ↓le_nil, ↓le_f, ↓le_t, ↓alf_nil, ↓alf_nil2, ↓alf_v, ↓alf_ff, ↓alf_al, ↓oa_nil, ↓oa_v, ↓oa_al, ↓okr_sh, ↓okr_no, ↓okr_ow, ↓okr_sh1, ↓okr_no1, ↓okr_ow1, ↓okr_sh2, ↓pu_nil, ↓pu_f, ↓pu_al, ↓pu_v, ↓w_call, ↓w_dcall, ↓w_dmeth, ↓mk_k, ↓mk_x, ↓w_make, ↓w_dmake, ↓w_chk_v, ↓w_dBM, ↓w_dBM0, ↓isl_n, ↓isk_n, ↓isl_1, ↓isl_2, ↓isl_3, ↓isl_4, ↓isk_1, ↓isk_2, ↓isk_3, ↓isk_4, ↓isk_5, ↓isk_6, ↓ow_k, ↓w_mutS, ↓w_mutR, ↓f_app, ↓f_pop, ↓f_ext, ↓f_extT, ↓w_rdm, ↓str_k, ↓w_isStr, ↓w_strM, ↓w_fld, ↓ft_sh, ↓ft_ow, ↓ft_lo, ↓fa_sh, ↓fa_lo, ↓ft_al, ↓ob_k, ↓w_setFld, ↓w_fldSet, ↓w_setZ, ↓w_gSub, ↓fow_k, ↓w_gFSub, ↓int_k, ↓w_aug, ↓ch_t, ↓ch_f, ↓w_catch, ↓w_try, ↓w_tryKeep, ↓w_give, ↓w_no, ↓w_dict, ↓w_dictT, ↓w_chain, ↓is_b, ↓w_get2, ↓gz_s, ↓gz_n, ↓w_getZ, ↓o_addI, ↓o_addS, ↓o_addT, ↓o_addL, ↓o_sub, ↓o_mulI, ↓o_mulS, ↓o_mulL, ↓o_fdv, ↓o_mod, ↓o_neg, ↓o_lt, ↓o_le, ↓o_gt, ↓o_ge, ↓b_lt, ↓b_le, ↓o_is, ↓isn_t, ↓isn_1, ↓isn_2, ↓isn_3, ↓isn_4, ↓isn_5, ↓o_eqI, ↓o_eqS, ↓o_ixT, ↓o_ixL, ↓o_ixC, ↓o_ixS, ↓o_ixD, ↓o_slS, ↓o_slT, ↓o_slL, ↓o_slC, ↓o_inD, ↓o_tup, ↓o_lst, ↓o_lenT, ↓o_lenL, ↓o_lenC, ↓o_lenD, ↓o_lenS, ↓o_min, ↓o_max, ↓o_intI, ↓o_intB, ↓o_listT, ↓o_listL, ↓o_listC, ↓o_tupleT, ↓o_tupleL, ↓o_dict, ↓o_rev, ↓o_revT, ↓o_isi, ↓ty_1, ↓ty_2, ↓ty_3, ↓ty_4, ↓ty_5, ↓ty_6, ↓ty_7, ↓tr_b, ↓tr_n, ↓tr_i, ↓tr_t, ↓tr_l, w_chk_al isl_n, w_chk_al isk_n, Bool.false_eq_true, if_true, if_false, true_and, and_true, Bool.bne_false, Bool.bne_true, Bool.not_true, Bool.not_false, decide_true, decide_false, Bool.and_true, Bool.true_and, Bool.or_false, Bool.false_or, Bool.or_true, Bool.true_or, Bool.and_false, Bool.false_and, Bool.or_self, Bool.and_self, List.getElem?_cons_zero, List.getElem?_cons_succ, List.getElem?_nil, List.length_cons, List.length_nil, List.cons_append, List.nil_append, Nat.reduceAdd, Nat.reduceSub, List.replicate_succ, List.replicate_zero, Nat.reduceEqDiff, Int.reduceEq, Int.reduceLT, Int.reduceLE, Nat.reduceLT, Nat.reduceLeDiff, reduceCtorEq, Nat.zero_add]
theorem spotsL_mem : ∀ {l : List Ex} {k : Nat} {q : List Nat}, q ∈ spotsL k l → ∃ j x r, q = (k + j) :: r ∧ l[j]? = some x ∧ r ∈ spots x
  | [], k, q, h => by rw [spotsL] at h; cases h
  | e :: l, k, q, h => by
    rw [spotsL] at h
    rcases List.mem_append.mp h with h | h
    · obtain ⟨r, hr, rfl⟩ := List.mem_map.mp h
      exact ⟨0, e, r, rfl, rfl, hr⟩
    · obtain ⟨j, x, r, rfl, h2, h3⟩ := spotsL_mem h
      exact ⟨j + 1, x, r, by congr 1; omega, h2, h3⟩
end Lk32

set_option Elab.async false
set_option linter.all false
set_option maxRecDepth 100000
set_option maxHeartbeats 4000000
namespace Lk32
open PySem L2 V
/-! put-ins -/
abbrev SE := Str × Ex
def lk : List SE → Str → Option Ex
  | [], _ => none
  | p :: l, s => if p.1 = s then some p.2 else lk l s
def dkE (l : List SE) : D := .dk (l.map fun p => .inr p.1) (l.map fun p => exD p.2)
theorem getK_lk (l : List SE) (s : Str) : getK (l.map fun p => (.inr p.1 : Key)) (l.map fun p => exD p.2) (.inr s) = (lk l s).map exD := by
  induction l with
  | nil => rfl
  | cons p l ih =>
    rw [List.map_cons, List.map_cons, getK, lk]
    by_cases z : p.1 = s
    · rw [if_pos (by rw [z]), if_pos z]; rfl
    · rw [if_neg (fun h => z (Sum.inr.inj h)), if_neg z, ih]
theorem lk_none {l : List SE} {s : Str} : lk l s = none ↔ s ∉ l.map (·.1) := by
  induction l with
  | nil => simp [lk]
  | cons p l ih =>
    rw [lk, List.map_cons, List.mem_cons]
    by_cases z : p.1 = s
    · rw [if_pos z]; simp [z]
    · rw [if_neg z, ih]
      constructor
      · rintro h (h1 | h1)
        · exact z h1.symm
        · exact h h1
      · exact fun h h1 => h (.inr h1)
theorem lk_mem {l : List SE} {s : Str} {e : Ex} (h : lk l s = some e) : (s, e) ∈ l := by
  induction l with
  | nil => simp [lk] at h
  | cons p l ih =>
    rw [lk] at h
    by_cases z : p.1 = s
    · rw [if_pos z] at h
      cases h
      subst z
      exact List.mem_cons_self ..
    · rw [if_neg z] at h
      exact List.mem_cons_of_mem _ (ih h)
/-- right names, expressions at most d deep, each name once -/
structure StE (d : Nat) (l : List SE) : Prop where
  nd : (l.map (·.1)).Nodup
  nm : ∀ p ∈ l, Nm p.1
  ew : ∀ p ∈ l, Ew d p.2
  len : l.length ≤ 1000000
theorem isk_e {l : List SE} : isK (some (.sh (dkE l))) = true := rfl
theorem isk_e2 {l : List SE} : isK (some (.ow (dkE l))) = true := rfl
theorem isk_e3 {l : List SE} : isK (some (.lo (dkE l))) = true := rfl
theorem in_e {l : List SE} {s : Str} {n : Bool} {K : V.T → Prop} : AnK (wIn n (.str s) (dkE l)) K = K (.sh (.bl ((lk l s).isSome != n))) := by
  unfold dkE
  rw [o_inD, getK_lk]
  cases lk l s <;> rfl
theorem ix_e {l : List SE} {s : Str} {e : Ex} (h : lk l s = some e) {K : V.T → Prop} : AnK (wIx (dkE l) (.str s)) K = K (.sh (exD e)) := by
  unfold dkE
  rw [o_ixD, getK_lk, h]
  rfl
theorem get_e {l : List SE} {s : Str} {u : D} {K : D → Prop} : GzK (dGet (dkE l) (.str s)) u K = match lk l s with
    | some e => K (exD e)
    | none => K u := by
  have e : dGet (dkE l) (.str s) = some (getK (l.map fun p => (.inr p.1 : Key)) (l.map fun p => exD p.2) (.inr s)) := rfl
  rw [e, getK_lk]
  cases lk l s <;> rfl
theorem set_e {d : Nat} {l : List SE} (h : StE d l) {s : Str} {e : Ex} (hs : s ∉ l.map (·.1)) (hl : l.length < 1000000) {K : D → Prop} : OpK (fSet (dkE l) (.str s) (exD e)) K = K (dkE (l ++ [(s, e)])) := by
  have hk : (l.map fun p => (.inr p.1 : Key)) = (l.map (·.1)).map fun s => (.inr s : Key) := by rw [List.map_map]; rfl
  have hn : (l.map fun p => (.inr p.1 : Key)).Nodup := by
    rw [hk, List.nodup_iff_pairwise_ne, List.pairwise_map]
    have := h.nd
    rw [List.nodup_iff_pairwise_ne] at this
    exact this.imp fun hn z => hn (Sum.inr.inj z)
  unfold dkE
  rw [f_setD hn (by rw [List.length_map, List.length_map]) (by rw [List.length_map]; omega) (by
    rw [hk]
    intro z
    obtain ⟨a, ha, e⟩ := List.mem_map.mp z
    exact hs (Sum.inr.inj e ▸ ha)), List.map_append, List.map_append]
  rfl
theorem StE.snoc {d : Nat} {l : List SE} (h : StE d l) {s : Str} {e : Ex} (hs : s ∉ l.map (·.1)) (hn : Nm s) (he : Ew d e) (hl : l.length < 1000000) : StE d (l ++ [(s, e)]) := by
  refine ⟨?_, fun p hp => ?_, fun p hp => ?_, by rw [List.length_append, List.length_singleton]; omega⟩
  · rw [List.map_append, List.nodup_append]
    exact ⟨h.nd, by simp, fun a ha b hb z => hs (by simp at hb; rw [← hb, ← z]; exact ha)⟩
  · rcases List.mem_append.mp hp with hp | hp
    · exact h.nm p hp
    · rw [List.mem_singleton.mp hp]; exact hn
  · rcases List.mem_append.mp hp with hp | hp
    · exact h.ew p hp
    · rw [List.mem_singleton.mp hp]; exact he
/-! put in -/
mutual
def fill (m : List SE) : Ex → Ex
  | .nm s => (lk m s).getD (.nm s)
  | .ap b s l => .ap b s (fills m l)
def fills (m : List SE) : List Ex → List Ex
  | [] => []
  | e :: l => fill m e :: fills m l
end
theorem fills_map (m : List SE) : ∀ l : List Ex, fills m l = l.map (fill m)
  | [] => by rw [fills]; rfl
  | e :: l => by rw [fills, fills_map m l]; rfl
theorem fill_ew {d d' : Nat} {m : List SE} (hm : ∀ p ∈ m, Ew d' p.2) : ∀ {e : Ex}, Ew d e → Ew (d + d') (fill m e) := by
  intro e h
  induction h with
  | @nm d s hs =>
    rw [fill]
    cases e : lk m s with
    | none => exact .nm hs
    | some x => exact (hm _ (lk_mem e)).mono (by omega)
  | @ap d b s l hs hl ha ih =>
    rw [fill, fills_map]
    have e1 : d + 1 + d' = d + d' + 1 := by omega
    rw [e1]
    refine .ap hs (by rw [List.length_map]; exact hl) fun x hx => ?_
    obtain ⟨y, hy, rfl⟩ := List.mem_map.mp hx
    exact ih y hy
end Lk32

set_option Elab.async false
set_option linter.all false
set_option maxRecDepth 100000
set_option maxHeartbeats 4000000
namespace Lk32
open PySem L2 V
/-! the names that stand in an expression -/
mutual
def gat : Ex → List Str → List Str
  | .nm s, acc => if s ∈ acc then acc else acc ++ [s]
  | .ap _ _ l, acc => gats l acc
def gats : List Ex → List Str → List Str
  | [], acc => acc
  | e :: l, acc => gats l (gat e acc)
end
theorem gats_fold : ∀ (l : List Ex) (acc : List Str), gats l acc = l.foldl (fun a e => gat e a) acc
  | [], acc => by rw [gats]; rfl
  | e :: l, acc => by rw [gats, gats_fold l]; rfl
theorem gat_ok {d : Nat} {e : Ex} (h : Ew d e) : ∀ {acc : List Str}, (∀ s ∈ acc, Nm s) → (∀ s ∈ gat e acc, Nm s) ∧ (gat e acc).length ≤ acc.length + 4 ^ d := by
  induction h with
  | @nm d s hs =>
    intro acc ha
    have : 0 < 4 ^ d := Nat.pow_pos (by omega)
    rw [gat]
    by_cases z : s ∈ acc
    · rw [if_pos z]; exact ⟨ha, by omega⟩
    · rw [if_neg z]
      refine ⟨fun x hx => ?_, by rw [List.length_append, List.length_singleton]; omega⟩
      rcases List.mem_append.mp hx with hx | hx
      · exact ha x hx
      · rw [List.mem_singleton.mp hx]; exact hs
  | @ap d b s l hs hl ha ih =>
    intro acc hacc
    have key : ∀ (m : List Ex) (acc : List Str), (∀ e ∈ m, e ∈ l) → (∀ s ∈ acc, Nm s) → (∀ s ∈ gats m acc, Nm s) ∧ (gats m acc).length ≤ acc.length + m.length * 4 ^ d := by
      intro m
      induction m with
      | nil => intro acc _ h; rw [gats]; exact ⟨h, by simp⟩
      | cons e m ih2 =>
        intro acc hm h
        obtain ⟨h1, h2⟩ := ih e (hm e (List.mem_cons_self ..)) h
        obtain ⟨h3, h4⟩ := ih2 (gat e acc) (fun x hx => hm x (List.mem_cons_of_mem _ hx)) h1
        rw [gats]
        refine ⟨h3, ?_⟩
        rw [List.length_cons, Nat.add_mul]
        omega
    obtain ⟨h1, h2⟩ := key l acc (fun _ h => h) hacc
    have h3 : l.length * 4 ^ d ≤ 3 * 4 ^ d := Nat.mul_le_mul_right _ hl
    rw [gat]
    exact ⟨h1, by rw [Nat.pow_succ]; omega⟩
theorem e_argsof {d : Nat} {e : Ex} (h : Ew d e) : F_arguments_of [.sh (exD e)] = .ok (.sh (.tup (match e with
    | .nm _ => []
    | .ap _ _ l => l.map exD))) [] := by
  refine FrK.eq ?_
  unfold F_arguments_of d_arguments_of
  cases h with
  | nm hs => simp -implicitDefEqProofs only [exD, ↓k_some, ↓an_some, ↓g_0, ↓g_s, ↓s_0, ↓s_s, ↓td_sh, ↓td_ow, ↓td_lo, ↓rd_v, ↓rd_al, ↓rds_nil, ↓rds_cons, ↓shs_nil, ↓shs_v, ↓shk, ↓shs_al, ↓gt_v, ↓gt_al, ↓if_tt, ↓if_ff, ↓w_ret, ↓w_stk, ↓w_rse, ↓w_bnd, ↓nz_sh, ↓nz_ow, ↓nz_lo, ↓nz_ob, ↓nz_lb, ↓w_var, ↓w_c, ↓w_ans, ↓w_rd, ↓w_rds, ↓w_d2, ↓w_d1, ↓w_dN, ↓w_dS, ↓w_nil, ↓w_cons, ↓gv_sh, ↓gv_ow, ↓gv_ob, ↓fg_nil, ↓gi_v, ↓gi_al, ↓w_giv, ↓w_rdO, ↓w_opT, ↓w_tru, ↓w_bl, ↓bl_d, ↓w_not, ↓w_if, ↓w_and, ↓w_or, ↓w_dNot, ↓w_dAnd, ↓w_dOr, ↓w_oNone, ↓w_oSome, ↓o_int, ↓w_sl, ↓sq_nx, ↓sq_rt, ↓sq_bk, ↓sq_ct, ↓w_seq, ↓w_skip, ↓w_dret, ↓w_retN, ↓w_expr, ↓w_dif, ↓w_brk, ↓w_raise, ↓w_dasg, ↓w_dset, ↓al_sh, ↓al_lo, ↓al_lb, ↓w_asg_v, ↓w_asg_al, ↓w_gsNil, ↓w_gsCons, ↓tp_k, ↓w_gTp, ↓w_for, ↓w_loop_nil, ↓tn_nx, ↓tn_ct, ↓tn_bk, ↓tn_rt, ↓w_iOf, ↓w_iOfN, ↓seq_tup, ↓seq_lst, ↓seq_scr, ↓w_lc, ↓wipe_nil, ↓it_k, ↓w_yes, ↓fr_ok, ↓fr_ex, ↓ms_t, ↓ms_f, ↓ms_n, ↓out_nx, ↓out_v, ↓out_al, ↓mu_nil, ↓mu_t, ↓mu_f, ↓fr_run, ↓st_e, ↓lt_sh, ↓lt_ow, ↓lt_lo, ↓lt_ob, ↓lt_lb, ↓ot_ow, ↓ot_ob, ↓le_nil, ↓le_f, ↓le_t, ↓alf_nil, ↓alf_nil2, ↓alf_v, ↓alf_ff, ↓alf_al, ↓oa_nil, ↓oa_v, ↓oa_al, ↓okr_sh, ↓okr_no, ↓okr_ow, ↓okr_sh1, ↓okr_no1, ↓okr_ow1, ↓okr_sh2, ↓pu_nil, ↓pu_f, ↓pu_al, ↓pu_v, ↓w_call, ↓w_dcall, ↓w_dmeth, ↓mk_k, ↓mk_x, ↓w_make, ↓w_dmake, ↓w_chk_v, ↓w_dBM, ↓w_dBM0, ↓isl_n, ↓isk_n, ↓isl_1, ↓isl_2, ↓isl_3, ↓isl_4, ↓isk_1, ↓isk_2, ↓isk_3, ↓isk_4, ↓isk_5, ↓isk_6, ↓ow_k, ↓w_mutS, ↓w_mutR, ↓f_app, ↓f_pop, ↓f_ext, ↓f_extT, ↓w_rdm, ↓str_k, ↓w_isStr, ↓w_strM, ↓w_fld, ↓ft_sh, ↓ft_ow, ↓ft_lo, ↓fa_sh, ↓fa_lo, ↓ft_al, ↓ob_k, ↓w_setFld, ↓w_fldSet, ↓w_setZ, ↓w_gSub, ↓fow_k, ↓w_gFSub, ↓int_k, ↓w_aug, ↓ch_t, ↓ch_f, ↓w_catch, ↓w_try, ↓w_tryKeep, ↓w_give, ↓w_no, ↓w_dict, ↓w_dictT, ↓w_chain, ↓is_b, ↓w_get2, ↓gz_s, ↓gz_n, ↓w_getZ, ↓o_addI, ↓o_addS, ↓o_addT, ↓o_addL, ↓o_sub, ↓o_mulI, ↓o_mulS, ↓o_mulL, ↓o_fdv, ↓o_mod, ↓o_neg, ↓o_lt, ↓o_le, ↓o_gt, ↓o_ge, ↓b_lt, ↓b_le, ↓o_is, ↓isn_t, ↓isn_1, ↓isn_2, ↓isn_3, ↓isn_4, ↓isn_5, ↓o_eqI, ↓o_eqS, ↓o_ixT, ↓o_ixL, ↓o_ixC, ↓o_ixS, ↓o_ixD, ↓o_slS, ↓o_slT, ↓o_slL, ↓o_slC, ↓o_inD, ↓o_tup, ↓o_lst, ↓o_lenT, ↓o_lenL, ↓o_lenC, ↓o_lenD, ↓o_lenS, ↓o_min, ↓o_max, ↓o_intI, ↓o_intB, ↓o_listT, ↓o_listL, ↓o_listC, ↓o_tupleT, ↓o_tupleL, ↓o_dict, ↓o_rev, ↓o_revT, ↓o_isi, ↓ty_1, ↓ty_2, ↓ty_3, ↓ty_4, ↓ty_5, ↓ty_6, ↓ty_7, ↓tr_b, ↓tr_n, ↓tr_i, ↓tr_t, ↓tr_l, w_chk_al isl_n, w_chk_al isk_n, Bool.false_eq_true, if_true, if_false, true_and, and_true, Bool.bne_false, Bool.bne_true, Bool.not_true, Bool.not_false, decide_true, decide_false, Bool.and_true, Bool.true_and, Bool.or_false, Bool.false_or, Bool.or_true, Bool.true_or, Bool.and_false, Bool.false_and, Bool.or_self, Bool.and_self, List.getElem?_cons_zero, List.getElem?_cons_succ, List.getElem?_nil, List.length_cons, List.length_nil, List.cons_append, List.nil_append, Nat.reduceAdd, Nat.reduceSub, List.replicate_succ, List.replicate_zero, Nat.reduceEqDiff, Int.reduceEq, Int.reduceLT, Int.reduceLE, Nat.reduceLT, Nat.reduceLeDiff, reduceCtorEq, Nat.zero_add, at0, ok_nm, nm_eq, sz]
  | ap hs hl ha => simp -implicitDefEqProofs only [exD, ↓k_some, ↓an_some, ↓g_0, ↓g_s, ↓s_0, ↓s_s, ↓td_sh, ↓td_ow, ↓td_lo, ↓rd_v, ↓rd_al, ↓rds_nil, ↓rds_cons, ↓shs_nil, ↓shs_v, ↓shk, ↓shs_al, ↓gt_v, ↓gt_al, ↓if_tt, ↓if_ff, ↓w_ret, ↓w_stk, ↓w_rse, ↓w_bnd, ↓nz_sh, ↓nz_ow, ↓nz_lo, ↓nz_ob, ↓nz_lb, ↓w_var, ↓w_c, ↓w_ans, ↓w_rd, ↓w_rds, ↓w_d2, ↓w_d1, ↓w_dN, ↓w_dS, ↓w_nil, ↓w_cons, ↓gv_sh, ↓gv_ow, ↓gv_ob, ↓fg_nil, ↓gi_v, ↓gi_al, ↓w_giv, ↓w_rdO, ↓w_opT, ↓w_tru, ↓w_bl, ↓bl_d, ↓w_not, ↓w_if, ↓w_and, ↓w_or, ↓w_dNot, ↓w_dAnd, ↓w_dOr, ↓w_oNone, ↓w_oSome, ↓o_int, ↓w_sl, ↓sq_nx, ↓sq_rt, ↓sq_bk, ↓sq_ct, ↓w_seq, ↓w_skip, ↓w_dret, ↓w_retN, ↓w_expr, ↓w_dif, ↓w_brk, ↓w_raise, ↓w_dasg, ↓w_dset, ↓al_sh, ↓al_lo, ↓al_lb, ↓w_asg_v, ↓w_asg_al, ↓w_gsNil, ↓w_gsCons, ↓tp_k, ↓w_gTp, ↓w_for, ↓w_loop_nil, ↓tn_nx, ↓tn_ct, ↓tn_bk, ↓tn_rt, ↓w_iOf, ↓w_iOfN, ↓seq_tup, ↓seq_lst, ↓seq_scr, ↓w_lc, ↓wipe_nil, ↓it_k, ↓w_yes, ↓fr_ok, ↓fr_ex, ↓ms_t, ↓ms_f, ↓ms_n, ↓out_nx, ↓out_v, ↓out_al, ↓mu_nil, ↓mu_t, ↓mu_f, ↓fr_run, ↓st_e, ↓lt_sh, ↓lt_ow, ↓lt_lo, ↓lt_ob, ↓lt_lb, ↓ot_ow, ↓ot_ob, ↓le_nil, ↓le_f, ↓le_t, ↓alf_nil, ↓alf_nil2, ↓alf_v, ↓alf_ff, ↓alf_al, ↓oa_nil, ↓oa_v, ↓oa_al, ↓okr_sh, ↓okr_no, ↓okr_ow, ↓okr_sh1, ↓okr_no1, ↓okr_ow1, ↓okr_sh2, ↓pu_nil, ↓pu_f, ↓pu_al, ↓pu_v, ↓w_call, ↓w_dcall, ↓w_dmeth, ↓mk_k, ↓mk_x, ↓w_make, ↓w_dmake, ↓w_chk_v, ↓w_dBM, ↓w_dBM0, ↓isl_n, ↓isk_n, ↓isl_1, ↓isl_2, ↓isl_3, ↓isl_4, ↓isk_1, ↓isk_2, ↓isk_3, ↓isk_4, ↓isk_5, ↓isk_6, ↓ow_k, ↓w_mutS, ↓w_mutR, ↓f_app, ↓f_pop, ↓f_ext, ↓f_extT, ↓w_rdm, ↓str_k, ↓w_isStr, ↓w_strM, ↓w_fld, ↓ft_sh, ↓ft_ow, ↓ft_lo, ↓fa_sh, ↓fa_lo, ↓ft_al, ↓ob_k, ↓w_setFld, ↓w_fldSet, ↓w_setZ, ↓w_gSub, ↓fow_k, ↓w_gFSub, ↓int_k, ↓w_aug, ↓ch_t, ↓ch_f, ↓w_catch, ↓w_try, ↓w_tryKeep, ↓w_give, ↓w_no, ↓w_dict, ↓w_dictT, ↓w_chain, ↓is_b, ↓w_get2, ↓gz_s, ↓gz_n, ↓w_getZ, ↓o_addI, ↓o_addS, ↓o_addT, ↓o_addL, ↓o_sub, ↓o_mulI, ↓o_mulS, ↓o_mulL, ↓o_fdv, ↓o_mod, ↓o_neg, ↓o_lt, ↓o_le, ↓o_gt, ↓o_ge, ↓b_lt, ↓b_le, ↓o_is, ↓isn_t, ↓isn_1, ↓isn_2, ↓isn_3, ↓isn_4, ↓isn_5, ↓o_eqI, ↓o_eqS, ↓o_ixT, ↓o_ixL, ↓o_ixC, ↓o_ixS, ↓o_ixD, ↓o_slS, ↓o_slT, ↓o_slL, ↓o_slC, ↓o_inD, ↓o_tup, ↓o_lst, ↓o_lenT, ↓o_lenL, ↓o_lenC, ↓o_lenD, ↓o_lenS, ↓o_min, ↓o_max, ↓o_intI, ↓o_intB, ↓o_listT, ↓o_listL, ↓o_listC, ↓o_tupleT, ↓o_tupleL, ↓o_dict, ↓o_rev, ↓o_revT, ↓o_isi, ↓ty_1, ↓ty_2, ↓ty_3, ↓ty_4, ↓ty_5, ↓ty_6, ↓ty_7, ↓tr_b, ↓tr_n, ↓tr_i, ↓tr_t, ↓tr_l, w_chk_al isl_n, w_chk_al isk_n, Bool.false_eq_true, if_true, if_false, true_and, and_true, Bool.bne_false, Bool.bne_true, Bool.not_true, Bool.not_false, decide_true, decide_false, Bool.and_true, Bool.true_and, Bool.or_false, Bool.false_or, Bool.or_true, Bool.true_or, Bool.and_false, Bool.false_and, Bool.or_self, Bool.and_self, List.getElem?_cons_zero, List.getElem?_cons_succ, List.getElem?_nil, List.length_cons, List.length_nil, List.cons_append, List.nil_append, Nat.reduceAdd, Nat.reduceSub, List.replicate_succ, List.replicate_zero, Nat.reduceEqDiff, Int.reduceEq, Int.reduceLT, Int.reduceLE, Nat.reduceLT, Nat.reduceLeDiff, reduceCtorEq, Nat.zero_add, at0, at2, ok_nm, ok_ap, ap_ne, exDs_map]
def nmD (l : List Str) : D := .lst (l.map .str)
theorem isl_nm {l : List Str} : isL (some (.ow (nmD l))) = true := rfl
theorem isl_nm2 {l : List Str} : isL (some (.lo (nmD l))) = true := rfl
theorem o_inNm {l : List Str} {s : Str} (hl : ∀ x ∈ l, Nm x) (hs : Nm s) {n : Bool} {K : V.T → Prop} : AnK (wIn n (.str s) (nmD l)) K = K (.sh (.bl (decide (s ∈ l) != n))) := o_inL hs.ok fun x hx => (hl x hx).ok
theorem app_nm {l : List Str} {s : Str} {K : D × D → Prop} (h : ltOk l.length = true) : OpK (fAppend (nmD l) [.str s]) K = K (.non, nmD (l ++ [s])) := by
  unfold nmD
  rw [f_app, List.length_map, List.map_append]
  simp [h]
theorem e_gather : ∀ {k d : Nat} {e : Ex}, Ew d e → d < k → d ≤ 8 → ∀ {acc : List Str}, (∀ s ∈ acc, Nm s) → acc.length + 4 ^ d ≤ 1000000 → F_gather k [.sh (exD e), .ow (nmD acc)] = .ok (.sh .non) [.ow (nmD (gat e acc))]
  | k + 1, d, _, .nm (s := s) hs, _, _, acc, hacc, hlen => by
    have p4 : 0 < 4 ^ d := Nat.pow_pos (by omega)
    have ea : F_arguments_of [.sh (exD (.nm s))] = .ok (.sh (.tup [])) [] := e_argsof (d := d) (.nm hs)
    have e1 : exD (.nm s) = .tup [.str "name", .str s] := by rw [exD]
    rw [e1] at ea
    have q := fun (n : Bool) (K : V.T → Prop) => o_inNm (n := n) (K := K) hacc hs
    have lt : ltOk acc.length = true := lt_ok (by omega)
    refine FrK.eq ?_
    unfold F_gather d_gather
    rw [gat]
    by_cases z : s ∈ acc
    · rw [if_pos z]
      simp -implicitDefEqProofs only [e1, ↓k_some, ↓an_some, ↓g_0, ↓g_s, ↓s_0, ↓s_s, ↓td_sh, ↓td_ow, ↓td_lo, ↓rd_v, ↓rd_al, ↓rds_nil, ↓rds_cons, ↓shs_nil, ↓shs_v, ↓shk, ↓shs_al, ↓gt_v, ↓gt_al, ↓if_tt, ↓if_ff, ↓w_ret, ↓w_stk, ↓w_rse, ↓w_bnd, ↓nz_sh, ↓nz_ow, ↓nz_lo, ↓nz_ob, ↓nz_lb, ↓w_var, ↓w_c, ↓w_ans, ↓w_rd, ↓w_rds, ↓w_d2, ↓w_d1, ↓w_dN, ↓w_dS, ↓w_nil, ↓w_cons, ↓gv_sh, ↓gv_ow, ↓gv_ob, ↓fg_nil, ↓gi_v, ↓gi_al, ↓w_giv, ↓w_rdO, ↓w_opT, ↓w_tru, ↓w_bl, ↓bl_d, ↓w_not, ↓w_if, ↓w_and, ↓w_or, ↓w_dNot, ↓w_dAnd, ↓w_dOr, ↓w_oNone, ↓w_oSome, ↓o_int, ↓w_sl, ↓sq_nx, ↓sq_rt, ↓sq_bk, ↓sq_ct, ↓w_seq, ↓w_skip, ↓w_dret, ↓w_retN, ↓w_expr, ↓w_dif, ↓w_brk, ↓w_raise, ↓w_dasg, ↓w_dset, ↓al_sh, ↓al_lo, ↓al_lb, ↓w_asg_v, ↓w_asg_al, ↓w_gsNil, ↓w_gsCons, ↓tp_k, ↓w_gTp, ↓w_for, ↓w_loop_nil, ↓tn_nx, ↓tn_ct, ↓tn_bk, ↓tn_rt, ↓w_iOf, ↓w_iOfN, ↓seq_tup, ↓seq_lst, ↓seq_scr, ↓w_lc, ↓wipe_nil, ↓it_k, ↓w_yes, ↓fr_ok, ↓fr_ex, ↓ms_t, ↓ms_f, ↓ms_n, ↓out_nx, ↓out_v, ↓out_al, ↓mu_nil, ↓mu_t, ↓mu_f, ↓fr_run, ↓st_e, ↓lt_sh, ↓lt_ow, ↓lt_lo, ↓lt_ob, ↓lt_lb, ↓ot_ow, ↓ot_ob, ↓le_nil, ↓le_f, ↓le_t, ↓alf_nil, ↓alf_nil2, ↓alf_v, ↓alf_ff, ↓alf_al, ↓oa_nil, ↓oa_v, ↓oa_al, ↓okr_sh, ↓okr_no, ↓okr_ow, ↓okr_sh1, ↓okr_no1, ↓okr_ow1, ↓okr_sh2, ↓pu_nil, ↓pu_f, ↓pu_al, ↓pu_v, ↓w_call, ↓w_dcall, ↓w_dmeth, ↓mk_k, ↓mk_x, ↓w_make, ↓w_dmake, ↓w_chk_v, ↓w_dBM, ↓w_dBM0, ↓isl_n, ↓isk_n, ↓isl_1, ↓isl_2, ↓isl_3, ↓isl_4, ↓isk_1, ↓isk_2, ↓isk_3, ↓isk_4, ↓isk_5, ↓isk_6, ↓ow_k, ↓w_mutS, ↓w_mutR, ↓f_app, ↓f_pop, ↓f_ext, ↓f_extT, ↓w_rdm, ↓str_k, ↓w_isStr, ↓w_strM, ↓w_fld, ↓ft_sh, ↓ft_ow, ↓ft_lo, ↓fa_sh, ↓fa_lo, ↓ft_al, ↓ob_k, ↓w_setFld, ↓w_fldSet, ↓w_setZ, ↓w_gSub, ↓fow_k, ↓w_gFSub, ↓int_k, ↓w_aug, ↓ch_t, ↓ch_f, ↓w_catch, ↓w_try, ↓w_tryKeep, ↓w_give, ↓w_no, ↓w_dict, ↓w_dictT, ↓w_chain, ↓is_b, ↓w_get2, ↓gz_s, ↓gz_n, ↓w_getZ, ↓o_addI, ↓o_addS, ↓o_addT, ↓o_addL, ↓o_sub, ↓o_mulI, ↓o_mulS, ↓o_mulL, ↓o_fdv, ↓o_mod, ↓o_neg, ↓o_lt, ↓o_le, ↓o_gt, ↓o_ge, ↓b_lt, ↓b_le, ↓o_is, ↓isn_t, ↓isn_1, ↓isn_2, ↓isn_3, ↓isn_4, ↓isn_5, ↓o_eqI, ↓o_eqS, ↓o_ixT, ↓o_ixL, ↓o_ixC, ↓o_ixS, ↓o_ixD, ↓o_slS, ↓o_slT, ↓o_slL, ↓o_slC, ↓o_inD, ↓o_tup, ↓o_lst, ↓o_lenT, ↓o_lenL, ↓o_lenC, ↓o_lenD, ↓o_lenS, ↓o_min, ↓o_max, ↓o_intI, ↓o_intB, ↓o_listT, ↓o_listL, ↓o_listC, ↓o_tupleT, ↓o_tupleL, ↓o_dict, ↓o_rev, ↓o_revT, ↓o_isi, ↓ty_1, ↓ty_2, ↓ty_3, ↓ty_4, ↓ty_5, ↓ty_6, ↓ty_7, ↓tr_b, ↓tr_n, ↓tr_i, ↓tr_t, ↓tr_l, w_chk_al isl_n, w_chk_al isk_n, Bool.false_eq_true, if_true, if_false, true_and, and_true, Bool.bne_false, Bool.bne_true, Bool.not_true, Bool.not_false, decide_true, decide_false, Bool.and_true, Bool.true_and, Bool.or_false, Bool.false_or, Bool.or_true, Bool.true_or, Bool.and_false, Bool.false_and, Bool.or_self, Bool.and_self, List.getElem?_cons_zero, List.getElem?_cons_succ, List.getElem?_nil, List.length_cons, List.length_nil, List.cons_append, List.nil_append, Nat.reduceAdd, Nat.reduceSub, List.replicate_succ, List.replicate_zero, Nat.reduceEqDiff, Int.reduceEq, Int.reduceLT, Int.reduceLE, Nat.reduceLT, Nat.reduceLeDiff, reduceCtorEq, Nat.zero_add, at0, at1, ok_nm, nm_eq, q, decide_eq_true z, ea]
    · rw [if_neg z]
      simp -implicitDefEqProofs only [e1, ↓k_some, ↓an_some, ↓g_0, ↓g_s, ↓s_0, ↓s_s, ↓td_sh, ↓td_ow, ↓td_lo, ↓rd_v, ↓rd_al, ↓rds_nil, ↓rds_cons, ↓shs_nil, ↓shs_v, ↓shk, ↓shs_al, ↓gt_v, ↓gt_al, ↓if_tt, ↓if_ff, ↓w_ret, ↓w_stk, ↓w_rse, ↓w_bnd, ↓nz_sh, ↓nz_ow, ↓nz_lo, ↓nz_ob, ↓nz_lb, ↓w_var, ↓w_c, ↓w_ans, ↓w_rd, ↓w_rds, ↓w_d2, ↓w_d1, ↓w_dN, ↓w_dS, ↓w_nil, ↓w_cons, ↓gv_sh, ↓gv_ow, ↓gv_ob, ↓fg_nil, ↓gi_v, ↓gi_al, ↓w_giv, ↓w_rdO, ↓w_opT, ↓w_tru, ↓w_bl, ↓bl_d, ↓w_not, ↓w_if, ↓w_and, ↓w_or, ↓w_dNot, ↓w_dAnd, ↓w_dOr, ↓w_oNone, ↓w_oSome, ↓o_int, ↓w_sl, ↓sq_nx, ↓sq_rt, ↓sq_bk, ↓sq_ct, ↓w_seq, ↓w_skip, ↓w_dret, ↓w_retN, ↓w_expr, ↓w_dif, ↓w_brk, ↓w_raise, ↓w_dasg, ↓w_dset, ↓al_sh, ↓al_lo, ↓al_lb, ↓w_asg_v, ↓w_asg_al, ↓w_gsNil, ↓w_gsCons, ↓tp_k, ↓w_gTp, ↓w_for, ↓w_loop_nil, ↓tn_nx, ↓tn_ct, ↓tn_bk, ↓tn_rt, ↓w_iOf, ↓w_iOfN, ↓seq_tup, ↓seq_lst, ↓seq_scr, ↓w_lc, ↓wipe_nil, ↓it_k, ↓w_yes, ↓fr_ok, ↓fr_ex, ↓ms_t, ↓ms_f, ↓ms_n, ↓out_nx, ↓out_v, ↓out_al, ↓mu_nil, ↓mu_t, ↓mu_f, ↓fr_run, ↓st_e, ↓lt_sh, ↓lt_ow, ↓lt_lo, ↓lt_ob, ↓lt_lb, ↓ot_ow, ↓ot_ob, ↓le_nil, ↓le_f, ↓le_t, ↓alf_nil, ↓alf_nil2, ↓alf_v, ↓alf_ff, ↓alf_al, ↓oa_nil, ↓oa_v, ↓oa_al, ↓okr_sh, ↓okr_no, ↓okr_ow, ↓okr_sh1, ↓okr_no1, ↓okr_ow1, ↓okr_sh2, ↓pu_nil, ↓pu_f, ↓pu_al, ↓pu_v, ↓w_call, ↓w_dcall, ↓w_dmeth, ↓mk_k, ↓mk_x, ↓w_make, ↓w_dmake, ↓w_chk_v, ↓w_dBM, ↓w_dBM0, ↓isl_n, ↓isk_n, ↓isl_1, ↓isl_2, ↓isl_3, ↓isl_4, ↓isk_1, ↓isk_2, ↓isk_3, ↓isk_4, ↓isk_5, ↓isk_6, ↓ow_k, ↓w_mutS, ↓w_mutR, ↓f_app, ↓f_pop, ↓f_ext, ↓f_extT, ↓w_rdm, ↓str_k, ↓w_isStr, ↓w_strM, ↓w_fld, ↓ft_sh, ↓ft_ow, ↓ft_lo, ↓fa_sh, ↓fa_lo, ↓ft_al, ↓ob_k, ↓w_setFld, ↓w_fldSet, ↓w_setZ, ↓w_gSub, ↓fow_k, ↓w_gFSub, ↓int_k, ↓w_aug, ↓ch_t, ↓ch_f, ↓w_catch, ↓w_try, ↓w_tryKeep, ↓w_give, ↓w_no, ↓w_dict, ↓w_dictT, ↓w_chain, ↓is_b, ↓w_get2, ↓gz_s, ↓gz_n, ↓w_getZ, ↓o_addI, ↓o_addS, ↓o_addT, ↓o_addL, ↓o_sub, ↓o_mulI, ↓o_mulS, ↓o_mulL, ↓o_fdv, ↓o_mod, ↓o_neg, ↓o_lt, ↓o_le, ↓o_gt, ↓o_ge, ↓b_lt, ↓b_le, ↓o_is, ↓isn_t, ↓isn_1, ↓isn_2, ↓isn_3, ↓isn_4, ↓isn_5, ↓o_eqI, ↓o_eqS, ↓o_ixT, ↓o_ixL, ↓o_ixC, ↓o_ixS, ↓o_ixD, ↓o_slS, ↓o_slT, ↓o_slL, ↓o_slC, ↓o_inD, ↓o_tup, ↓o_lst, ↓o_lenT, ↓o_lenL, ↓o_lenC, ↓o_lenD, ↓o_lenS, ↓o_min, ↓o_max, ↓o_intI, ↓o_intB, ↓o_listT, ↓o_listL, ↓o_listC, ↓o_tupleT, ↓o_tupleL, ↓o_dict, ↓o_rev, ↓o_revT, ↓o_isi, ↓ty_1, ↓ty_2, ↓ty_3, ↓ty_4, ↓ty_5, ↓ty_6, ↓ty_7, ↓tr_b, ↓tr_n, ↓tr_i, ↓tr_t, ↓tr_l, w_chk_al isl_n, w_chk_al isk_n, Bool.false_eq_true, if_true, if_false, true_and, and_true, Bool.bne_false, Bool.bne_true, Bool.not_true, Bool.not_false, decide_true, decide_false, Bool.and_true, Bool.true_and, Bool.or_false, Bool.false_or, Bool.or_true, Bool.true_or, Bool.and_false, Bool.false_and, Bool.or_self, Bool.and_self, List.getElem?_cons_zero, List.getElem?_cons_succ, List.getElem?_nil, List.length_cons, List.length_nil, List.cons_append, List.nil_append, Nat.reduceAdd, Nat.reduceSub, List.replicate_succ, List.replicate_zero, Nat.reduceEqDiff, Int.reduceEq, Int.reduceLT, Int.reduceLE, Nat.reduceLT, Nat.reduceLeDiff, reduceCtorEq, Nat.zero_add, at0, at1, ok_nm, nm_eq, q, decide_eq_false z, ea, isl_nm, app_nm lt]
  | k + 1, d + 1, _, .ap (b := b) (s := s) (l := l) hs hl ha, hk, hd, acc, hacc, hlen => by
    have e1 : exD (.ap b s l) = .tup [.str (apS b), .str s, .tup (exDs l)] := by rw [exD]
    have ea : F_arguments_of [.sh (exD (.ap b s l))] = .ok (.sh (.tup (l.map exD))) [] := e_argsof (d := d + 1) (.ap hs hl ha)
    rw [e1] at ea
    have p3 : l.length * 4 ^ d ≤ 3 * 4 ^ d := Nat.mul_le_mul_right _ hl
    rw [Nat.pow_succ] at hlen
    refine FrK.eq ?_
    unfold F_gather d_gather
    simp -implicitDefEqProofs only [e1, ↓k_some, ↓an_some, ↓g_0, ↓g_s, ↓s_0, ↓s_s, ↓td_sh, ↓td_ow, ↓td_lo, ↓rd_v, ↓rd_al, ↓rds_nil, ↓rds_cons, ↓shs_nil, ↓shs_v, ↓shk, ↓shs_al, ↓gt_v, ↓gt_al, ↓if_tt, ↓if_ff, ↓w_ret, ↓w_stk, ↓w_rse, ↓w_bnd, ↓nz_sh, ↓nz_ow, ↓nz_lo, ↓nz_ob, ↓nz_lb, ↓w_var, ↓w_c, ↓w_ans, ↓w_rd, ↓w_rds, ↓w_d2, ↓w_d1, ↓w_dN, ↓w_dS, ↓w_nil, ↓w_cons, ↓gv_sh, ↓gv_ow, ↓gv_ob, ↓fg_nil, ↓gi_v, ↓gi_al, ↓w_giv, ↓w_rdO, ↓w_opT, ↓w_tru, ↓w_bl, ↓bl_d, ↓w_not, ↓w_if, ↓w_and, ↓w_or, ↓w_dNot, ↓w_dAnd, ↓w_dOr, ↓w_oNone, ↓w_oSome, ↓o_int, ↓w_sl, ↓sq_nx, ↓sq_rt, ↓sq_bk, ↓sq_ct, ↓w_seq, ↓w_skip, ↓w_dret, ↓w_retN, ↓w_expr, ↓w_dif, ↓w_brk, ↓w_raise, ↓w_dasg, ↓w_dset, ↓al_sh, ↓al_lo, ↓al_lb, ↓w_asg_v, ↓w_asg_al, ↓w_gsNil, ↓w_gsCons, ↓tp_k, ↓w_gTp, ↓w_for, ↓w_loop_nil, ↓tn_nx, ↓tn_ct, ↓tn_bk, ↓tn_rt, ↓w_iOf, ↓w_iOfN, ↓seq_tup, ↓seq_lst, ↓seq_scr, ↓w_lc, ↓wipe_nil, ↓it_k, ↓w_yes, ↓fr_ok, ↓fr_ex, ↓ms_t, ↓ms_f, ↓ms_n, ↓out_nx, ↓out_v, ↓out_al, ↓mu_nil, ↓mu_t, ↓mu_f, ↓fr_run, ↓st_e, ↓lt_sh, ↓lt_ow, ↓lt_lo, ↓lt_ob, ↓lt_lb, ↓ot_ow, ↓ot_ob, ↓le_nil, ↓le_f, ↓le_t, ↓alf_nil, ↓alf_nil2, ↓alf_v, ↓alf_ff, ↓alf_al, ↓oa_nil, ↓oa_v, ↓oa_al, ↓okr_sh, ↓okr_no, ↓okr_ow, ↓okr_sh1, ↓okr_no1, ↓okr_ow1, ↓okr_sh2, ↓pu_nil, ↓pu_f, ↓pu_al, ↓pu_v, ↓w_call, ↓w_dcall, ↓w_dmeth, ↓mk_k, ↓mk_x, ↓w_make, ↓w_dmake, ↓w_chk_v, ↓w_dBM, ↓w_dBM0, ↓isl_n, ↓isk_n, ↓isl_1, ↓isl_2, ↓isl_3, ↓isl_4, ↓isk_1, ↓isk_2, ↓isk_3, ↓isk_4, ↓isk_5, ↓isk_6, ↓ow_k, ↓w_mutS, ↓w_mutR, ↓f_app, ↓f_pop, ↓f_ext, ↓f_extT, ↓w_rdm, ↓str_k, ↓w_isStr, ↓w_strM, ↓w_fld, ↓ft_sh, ↓ft_ow, ↓ft_lo, ↓fa_sh, ↓fa_lo, ↓ft_al, ↓ob_k, ↓w_setFld, ↓w_fldSet, ↓w_setZ, ↓w_gSub, ↓fow_k, ↓w_gFSub, ↓int_k, ↓w_aug, ↓ch_t, ↓ch_f, ↓w_catch, ↓w_try, ↓w_tryKeep, ↓w_give, ↓w_no, ↓w_dict, ↓w_dictT, ↓w_chain, ↓is_b, ↓w_get2, ↓gz_s, ↓gz_n, ↓w_getZ, ↓o_addI, ↓o_addS, ↓o_addT, ↓o_addL, ↓o_sub, ↓o_mulI, ↓o_mulS, ↓o_mulL, ↓o_fdv, ↓o_mod, ↓o_neg, ↓o_lt, ↓o_le, ↓o_gt, ↓o_ge, ↓b_lt, ↓b_le, ↓o_is, ↓isn_t, ↓isn_1, ↓isn_2, ↓isn_3, ↓isn_4, ↓isn_5, ↓o_eqI, ↓o_eqS, ↓o_ixT, ↓o_ixL, ↓o_ixC, ↓o_ixS, ↓o_ixD, ↓o_slS, ↓o_slT, ↓o_slL, ↓o_slC, ↓o_inD, ↓o_tup, ↓o_lst, ↓o_lenT, ↓o_lenL, ↓o_lenC, ↓o_lenD, ↓o_lenS, ↓o_min, ↓o_max, ↓o_intI, ↓o_intB, ↓o_listT, ↓o_listL, ↓o_listC, ↓o_tupleT, ↓o_tupleL, ↓o_dict, ↓o_rev, ↓o_revT, ↓o_isi, ↓ty_1, ↓ty_2, ↓ty_3, ↓ty_4, ↓ty_5, ↓ty_6, ↓ty_7, ↓tr_b, ↓tr_n, ↓tr_i, ↓tr_t, ↓tr_l, w_chk_al isl_n, w_chk_al isk_n, Bool.false_eq_true, if_true, if_false, true_and, and_true, Bool.bne_false, Bool.bne_true, Bool.not_true, Bool.not_false, decide_true, decide_false, Bool.and_true, Bool.true_and, Bool.or_false, Bool.false_or, Bool.or_true, Bool.true_or, Bool.and_false, Bool.false_and, Bool.or_self, Bool.and_self, List.getElem?_cons_zero, List.getElem?_cons_succ, List.getElem?_nil, List.length_cons, List.length_nil, List.cons_append, List.nil_append, Nat.reduceAdd, Nat.reduceSub, List.replicate_succ, List.replicate_zero, Nat.reduceEqDiff, Int.reduceEq, Int.reduceLT, Int.reduceLE, Nat.reduceLT, Nat.reduceLeDiff, reduceCtorEq, Nat.zero_add, at0, ok_nm, ok_ap, ap_ne, ea]
    refine wp_loop exD (fun rest ρ => ∃ (pre : List Ex) (a : List Str) (t : V.T), l = pre ++ rest ∧ (∀ s ∈ a, Nm s) ∧ a.length + rest.length * 4 ^ d ≤ 1000000 ∧ gats rest a = gats l acc ∧
      ρ = [.sh (.tup [.str (apS b), .str s, .tup (exDs l)]), .ow (nmD a), t]) ⟨[], acc, _, rfl, hacc, by omega, rfl, rfl⟩ ?_ ?_
    · rintro e rest ρ ⟨pre, a, t, hl2, hna, hle, hg, rfl⟩
      have hm : e ∈ l := by rw [hl2]; simp
      rw [List.length_cons, Nat.add_mul, Nat.one_mul] at hle
      have ih := e_gather (k := k) (ha e hm) (by omega) (by omega) hna (by omega)
      obtain ⟨g1, g2⟩ := gat_ok (ha e hm) hna
      simp -implicitDefEqProofs only [b1_gather, ↓k_some, ↓an_some, ↓g_0, ↓g_s, ↓s_0, ↓s_s, ↓td_sh, ↓td_ow, ↓td_lo, ↓rd_v, ↓rd_al, ↓rds_nil, ↓rds_cons, ↓shs_nil, ↓shs_v, ↓shk, ↓shs_al, ↓gt_v, ↓gt_al, ↓if_tt, ↓if_ff, ↓w_ret, ↓w_stk, ↓w_rse, ↓w_bnd, ↓nz_sh, ↓nz_ow, ↓nz_lo, ↓nz_ob, ↓nz_lb, ↓w_var, ↓w_c, ↓w_ans, ↓w_rd, ↓w_rds, ↓w_d2, ↓w_d1, ↓w_dN, ↓w_dS, ↓w_nil, ↓w_cons, ↓gv_sh, ↓gv_ow, ↓gv_ob, ↓fg_nil, ↓gi_v, ↓gi_al, ↓w_giv, ↓w_rdO, ↓w_opT, ↓w_tru, ↓w_bl, ↓bl_d, ↓w_not, ↓w_if, ↓w_and, ↓w_or, ↓w_dNot, ↓w_dAnd, ↓w_dOr, ↓w_oNone, ↓w_oSome, ↓o_int, ↓w_sl, ↓sq_nx, ↓sq_rt, ↓sq_bk, ↓sq_ct, ↓w_seq, ↓w_skip, ↓w_dret, ↓w_retN, ↓w_expr, ↓w_dif, ↓w_brk, ↓w_raise, ↓w_dasg, ↓w_dset, ↓al_sh, ↓al_lo, ↓al_lb, ↓w_asg_v, ↓w_asg_al, ↓w_gsNil, ↓w_gsCons, ↓tp_k, ↓w_gTp, ↓w_for, ↓w_loop_nil, ↓tn_nx, ↓tn_ct, ↓tn_bk, ↓tn_rt, ↓w_iOf, ↓w_iOfN, ↓seq_tup, ↓seq_lst, ↓seq_scr, ↓w_lc, ↓wipe_nil, ↓it_k, ↓w_yes, ↓fr_ok, ↓fr_ex, ↓ms_t, ↓ms_f, ↓ms_n, ↓out_nx, ↓out_v, ↓out_al, ↓mu_nil, ↓mu_t, ↓mu_f, ↓fr_run, ↓st_e, ↓lt_sh, ↓lt_ow, ↓lt_lo, ↓lt_ob, ↓lt_lb, ↓ot_ow, ↓ot_ob, ↓le_nil, ↓le_f, ↓le_t, ↓alf_nil, ↓alf_nil2, ↓alf_v, ↓alf_ff, ↓alf_al, ↓oa_nil, ↓oa_v, ↓oa_al, ↓okr_sh, ↓okr_no, ↓okr_ow, ↓okr_sh1, ↓okr_no1, ↓okr_ow1, ↓okr_sh2, ↓pu_nil, ↓pu_f, ↓pu_al, ↓pu_v, ↓w_call, ↓w_dcall, ↓w_dmeth, ↓mk_k, ↓mk_x, ↓w_make, ↓w_dmake, ↓w_chk_v, ↓w_dBM, ↓w_dBM0, ↓isl_n, ↓isk_n, ↓isl_1, ↓isl_2, ↓isl_3, ↓isl_4, ↓isk_1, ↓isk_2, ↓isk_3, ↓isk_4, ↓isk_5, ↓isk_6, ↓ow_k, ↓w_mutS, ↓w_mutR, ↓f_app, ↓f_pop, ↓f_ext, ↓f_extT, ↓w_rdm, ↓str_k, ↓w_isStr, ↓w_strM, ↓w_fld, ↓ft_sh, ↓ft_ow, ↓ft_lo, ↓fa_sh, ↓fa_lo, ↓ft_al, ↓ob_k, ↓w_setFld, ↓w_fldSet, ↓w_setZ, ↓w_gSub, ↓fow_k, ↓w_gFSub, ↓int_k, ↓w_aug, ↓ch_t, ↓ch_f, ↓w_catch, ↓w_try, ↓w_tryKeep, ↓w_give, ↓w_no, ↓w_dict, ↓w_dictT, ↓w_chain, ↓is_b, ↓w_get2, ↓gz_s, ↓gz_n, ↓w_getZ, ↓o_addI, ↓o_addS, ↓o_addT, ↓o_addL, ↓o_sub, ↓o_mulI, ↓o_mulS, ↓o_mulL, ↓o_fdv, ↓o_mod, ↓o_neg, ↓o_lt, ↓o_le, ↓o_gt, ↓o_ge, ↓b_lt, ↓b_le, ↓o_is, ↓isn_t, ↓isn_1, ↓isn_2, ↓isn_3, ↓isn_4, ↓isn_5, ↓o_eqI, ↓o_eqS, ↓o_ixT, ↓o_ixL, ↓o_ixC, ↓o_ixS, ↓o_ixD, ↓o_slS, ↓o_slT, ↓o_slL, ↓o_slC, ↓o_inD, ↓o_tup, ↓o_lst, ↓o_lenT, ↓o_lenL, ↓o_lenC, ↓o_lenD, ↓o_lenS, ↓o_min, ↓o_max, ↓o_intI, ↓o_intB, ↓o_listT, ↓o_listL, ↓o_listC, ↓o_tupleT, ↓o_tupleL, ↓o_dict, ↓o_rev, ↓o_revT, ↓o_isi, ↓ty_1, ↓ty_2, ↓ty_3, ↓ty_4, ↓ty_5, ↓ty_6, ↓ty_7, ↓tr_b, ↓tr_n, ↓tr_i, ↓tr_t, ↓tr_l, w_chk_al isl_n, w_chk_al isk_n, Bool.false_eq_true, if_true, if_false, true_and, and_true, Bool.bne_false, Bool.bne_true, Bool.not_true, Bool.not_false, decide_true, decide_false, Bool.and_true, Bool.true_and, Bool.or_false, Bool.false_or, Bool.or_true, Bool.true_or, Bool.and_false, Bool.false_and, Bool.or_self, Bool.and_self, List.getElem?_cons_zero, List.getElem?_cons_succ, List.getElem?_nil, List.length_cons, List.length_nil, List.cons_append, List.nil_append, Nat.reduceAdd, Nat.reduceSub, List.replicate_succ, List.replicate_zero, Nat.reduceEqDiff, Int.reduceEq, Int.reduceLT, Int.reduceLE, Nat.reduceLT, Nat.reduceLeDiff, reduceCtorEq, Nat.zero_add, ih]
      refine ⟨pre ++ [e], gat e a, _, by rw [hl2]; simp, g1, by omega, ?_, rfl⟩
      rw [← hg, gats]
    · rintro ρ ⟨pre, a, t, hl2, hna, hle, hg, rfl⟩
      rw [gats] at hg
      rw [gat, ← hg]
      simp -implicitDefEqProofs only [↓k_some, ↓an_some, ↓g_0, ↓g_s, ↓s_0, ↓s_s, ↓td_sh, ↓td_ow, ↓td_lo, ↓rd_v, ↓rd_al, ↓rds_nil, ↓rds_cons, ↓shs_nil, ↓shs_v, ↓shk, ↓shs_al, ↓gt_v, ↓gt_al, ↓if_tt, ↓if_ff, ↓w_ret, ↓w_stk, ↓w_rse, ↓w_bnd, ↓nz_sh, ↓nz_ow, ↓nz_lo, ↓nz_ob, ↓nz_lb, ↓w_var, ↓w_c, ↓w_ans, ↓w_rd, ↓w_rds, ↓w_d2, ↓w_d1, ↓w_dN, ↓w_dS, ↓w_nil, ↓w_cons, ↓gv_sh, ↓gv_ow, ↓gv_ob, ↓fg_nil, ↓gi_v, ↓gi_al, ↓w_giv, ↓w_rdO, ↓w_opT, ↓w_tru, ↓w_bl, ↓bl_d, ↓w_not, ↓w_if, ↓w_and, ↓w_or, ↓w_dNot, ↓w_dAnd, ↓w_dOr, ↓w_oNone, ↓w_oSome, ↓o_int, ↓w_sl, ↓sq_nx, ↓sq_rt, ↓sq_bk, ↓sq_ct, ↓w_seq, ↓w_skip, ↓w_dret, ↓w_retN, ↓w_expr, ↓w_dif, ↓w_brk, ↓w_raise, ↓w_dasg, ↓w_dset, ↓al_sh, ↓al_lo, ↓al_lb, ↓w_asg_v, ↓w_asg_al, ↓w_gsNil, ↓w_gsCons, ↓tp_k, ↓w_gTp, ↓w_for, ↓w_loop_nil, ↓tn_nx, ↓tn_ct, ↓tn_bk, ↓tn_rt, ↓w_iOf, ↓w_iOfN, ↓seq_tup, ↓seq_lst, ↓seq_scr, ↓w_lc, ↓wipe_nil, ↓it_k, ↓w_yes, ↓fr_ok, ↓fr_ex, ↓ms_t, ↓ms_f, ↓ms_n, ↓out_nx, ↓out_v, ↓out_al, ↓mu_nil, ↓mu_t, ↓mu_f, ↓fr_run, ↓st_e, ↓lt_sh, ↓lt_ow, ↓lt_lo, ↓lt_ob, ↓lt_lb, ↓ot_ow, ↓ot_ob, ↓le_nil, ↓le_f, ↓le_t, ↓alf_nil, ↓alf_nil2, ↓alf_v, ↓alf_ff, ↓alf_al, ↓oa_nil, ↓oa_v, ↓oa_al, ↓okr_sh, ↓okr_no, ↓okr_ow, ↓okr_sh1, ↓okr_no1, ↓okr_ow1, ↓okr_sh2, ↓pu_nil, ↓pu_f, ↓pu_al, ↓pu_v, ↓w_call, ↓w_dcall, ↓w_dmeth, ↓mk_k, ↓mk_x, ↓w_make, ↓w_dmake, ↓w_chk_v, ↓w_dBM, ↓w_dBM0, ↓isl_n, ↓isk_n, ↓isl_1, ↓isl_2, ↓isl_3, ↓isl_4, ↓isk_1, ↓isk_2, ↓isk_3, ↓isk_4, ↓isk_5, ↓isk_6, ↓ow_k, ↓w_mutS, ↓w_mutR, ↓f_app, ↓f_pop, ↓f_ext, ↓f_extT, ↓w_rdm, ↓str_k, ↓w_isStr, ↓w_strM, ↓w_fld, ↓ft_sh, ↓ft_ow, ↓ft_lo, ↓fa_sh, ↓fa_lo, ↓ft_al, ↓ob_k, ↓w_setFld, ↓w_fldSet, ↓w_setZ, ↓w_gSub, ↓fow_k, ↓w_gFSub, ↓int_k, ↓w_aug, ↓ch_t, ↓ch_f, ↓w_catch, ↓w_try, ↓w_tryKeep, ↓w_give, ↓w_no, ↓w_dict, ↓w_dictT, ↓w_chain, ↓is_b, ↓w_get2, ↓gz_s, ↓gz_n, ↓w_getZ, ↓o_addI, ↓o_addS, ↓o_addT, ↓o_addL, ↓o_sub, ↓o_mulI, ↓o_mulS, ↓o_mulL, ↓o_fdv, ↓o_mod, ↓o_neg, ↓o_lt, ↓o_le, ↓o_gt, ↓o_ge, ↓b_lt, ↓b_le, ↓o_is, ↓isn_t, ↓isn_1, ↓isn_2, ↓isn_3, ↓isn_4, ↓isn_5, ↓o_eqI, ↓o_eqS, ↓o_ixT, ↓o_ixL, ↓o_ixC, ↓o_ixS, ↓o_ixD, ↓o_slS, ↓o_slT, ↓o_slL, ↓o_slC, ↓o_inD, ↓o_tup, ↓o_lst, ↓o_lenT, ↓o_lenL, ↓o_lenC, ↓o_lenD, ↓o_lenS, ↓o_min, ↓o_max, ↓o_intI, ↓o_intB, ↓o_listT, ↓o_listL, ↓o_listC, ↓o_tupleT, ↓o_tupleL, ↓o_dict, ↓o_rev, ↓o_revT, ↓o_isi, ↓ty_1, ↓ty_2, ↓ty_3, ↓ty_4, ↓ty_5, ↓ty_6, ↓ty_7, ↓tr_b, ↓tr_n, ↓tr_i, ↓tr_t, ↓tr_l, w_chk_al isl_n, w_chk_al isk_n, Bool.false_eq_true, if_true, if_false, true_and, and_true, Bool.bne_false, Bool.bne_true, Bool.not_true, Bool.not_false, decide_true, decide_false, Bool.and_true, Bool.true_and, Bool.or_false, Bool.false_or, Bool.or_true, Bool.true_or, Bool.and_false, Bool.false_and, Bool.or_self, Bool.and_self, List.getElem?_cons_zero, List.getElem?_cons_succ, List.getElem?_nil, List.length_cons, List.length_nil, List.cons_append, List.nil_append, Nat.reduceAdd, Nat.reduceSub, List.replicate_succ, List.replicate_zero, Nat.reduceEqDiff, Int.reduceEq, Int.reduceLT, Int.reduceLE, Nat.reduceLT, Nat.reduceLeDiff, reduceCtorEq, Nat.zero_add]
theorem e_names_in {d : Nat} {e : Ex} (h : Ew d e) (hd : d ≤ 8) : F_names_in [.sh (exD e)] = .ok (.ow (nmD (gat e []))) [] := by
  have p4 : 4 ^ d ≤ 4 ^ 8 := Nat.pow_le_pow_right (by omega) hd
  have p8 : (4 : Nat) ^ 8 = 65536 := rfl
  have g := e_gather (k := 12) h (by omega) hd (acc := []) (by simp) (by simp; omega)
  have e0 : D.lst [] = nmD [] := rfl
  refine FrK.eq ?_
  unfold F_names_in d_names_in
  simp -implicitDefEqProofs only [↓k_some, ↓an_some, ↓g_0, ↓g_s, ↓s_0, ↓s_s, ↓td_sh, ↓td_ow, ↓td_lo, ↓rd_v, ↓rd_al, ↓rds_nil, ↓rds_cons, ↓shs_nil, ↓shs_v, ↓shk, ↓shs_al, ↓gt_v, ↓gt_al, ↓if_tt, ↓if_ff, ↓w_ret, ↓w_stk, ↓w_rse, ↓w_bnd, ↓nz_sh, ↓nz_ow, ↓nz_lo, ↓nz_ob, ↓nz_lb, ↓w_var, ↓w_c, ↓w_ans, ↓w_rd, ↓w_rds, ↓w_d2, ↓w_d1, ↓w_dN, ↓w_dS, ↓w_nil, ↓w_cons, ↓gv_sh, ↓gv_ow, ↓gv_ob, ↓fg_nil, ↓gi_v, ↓gi_al, ↓w_giv, ↓w_rdO, ↓w_opT, ↓w_tru, ↓w_bl, ↓bl_d, ↓w_not, ↓w_if, ↓w_and, ↓w_or, ↓w_dNot, ↓w_dAnd, ↓w_dOr, ↓w_oNone, ↓w_oSome, ↓o_int, ↓w_sl, ↓sq_nx, ↓sq_rt, ↓sq_bk, ↓sq_ct, ↓w_seq, ↓w_skip, ↓w_dret, ↓w_retN, ↓w_expr, ↓w_dif, ↓w_brk, ↓w_raise, ↓w_dasg, ↓w_dset, ↓al_sh, ↓al_lo, ↓al_lb, ↓w_asg_v, ↓w_asg_al, ↓w_gsNil, ↓w_gsCons, ↓tp_k, ↓w_gTp, ↓w_for, ↓w_loop_nil, ↓tn_nx, ↓tn_ct, ↓tn_bk, ↓tn_rt, ↓w_iOf, ↓w_iOfN, ↓seq_tup, ↓seq_lst, ↓seq_scr, ↓w_lc, ↓wipe_nil, ↓it_k, ↓w_yes, ↓fr_ok, ↓fr_ex, ↓ms_t, ↓ms_f, ↓ms_n, ↓out_nx, ↓out_v, ↓out_al, ↓mu_nil, ↓mu_t, ↓mu_f, ↓fr_run, ↓st_e, ↓lt_sh, ↓lt_ow, ↓lt_lo, ↓lt_ob, ↓lt_lb, ↓ot_ow, ↓ot_ob, ↓le_nil, ↓le_f, ↓le_t, ↓alf_nil, ↓alf_nil2, ↓alf_v, ↓alf_ff, ↓alf_al, ↓oa_nil, ↓oa_v, ↓oa_al, ↓okr_sh, ↓okr_no, ↓okr_ow, ↓okr_sh1, ↓okr_no1, ↓okr_ow1, ↓okr_sh2, ↓pu_nil, ↓pu_f, ↓pu_al, ↓pu_v, ↓w_call, ↓w_dcall, ↓w_dmeth, ↓mk_k, ↓mk_x, ↓w_make, ↓w_dmake, ↓w_chk_v, ↓w_dBM, ↓w_dBM0, ↓isl_n, ↓isk_n, ↓isl_1, ↓isl_2, ↓isl_3, ↓isl_4, ↓isk_1, ↓isk_2, ↓isk_3, ↓isk_4, ↓isk_5, ↓isk_6, ↓ow_k, ↓w_mutS, ↓w_mutR, ↓f_app, ↓f_pop, ↓f_ext, ↓f_extT, ↓w_rdm, ↓str_k, ↓w_isStr, ↓w_strM, ↓w_fld, ↓ft_sh, ↓ft_ow, ↓ft_lo, ↓fa_sh, ↓fa_lo, ↓ft_al, ↓ob_k, ↓w_setFld, ↓w_fldSet, ↓w_setZ, ↓w_gSub, ↓fow_k, ↓w_gFSub, ↓int_k, ↓w_aug, ↓ch_t, ↓ch_f, ↓w_catch, ↓w_try, ↓w_tryKeep, ↓w_give, ↓w_no, ↓w_dict, ↓w_dictT, ↓w_chain, ↓is_b, ↓w_get2, ↓gz_s, ↓gz_n, ↓w_getZ, ↓o_addI, ↓o_addS, ↓o_addT, ↓o_addL, ↓o_sub, ↓o_mulI, ↓o_mulS, ↓o_mulL, ↓o_fdv, ↓o_mod, ↓o_neg, ↓o_lt, ↓o_le, ↓o_gt, ↓o_ge, ↓b_lt, ↓b_le, ↓o_is, ↓isn_t, ↓isn_1, ↓isn_2, ↓isn_3, ↓isn_4, ↓isn_5, ↓o_eqI, ↓o_eqS, ↓o_ixT, ↓o_ixL, ↓o_ixC, ↓o_ixS, ↓o_ixD, ↓o_slS, ↓o_slT, ↓o_slL, ↓o_slC, ↓o_inD, ↓o_tup, ↓o_lst, ↓o_lenT, ↓o_lenL, ↓o_lenC, ↓o_lenD, ↓o_lenS, ↓o_min, ↓o_max, ↓o_intI, ↓o_intB, ↓o_listT, ↓o_listL, ↓o_listC, ↓o_tupleT, ↓o_tupleL, ↓o_dict, ↓o_rev, ↓o_revT, ↓o_isi, ↓ty_1, ↓ty_2, ↓ty_3, ↓ty_4, ↓ty_5, ↓ty_6, ↓ty_7, ↓tr_b, ↓tr_n, ↓tr_i, ↓tr_t, ↓tr_l, w_chk_al isl_n, w_chk_al isk_n, Bool.false_eq_true, if_true, if_false, true_and, and_true, Bool.bne_false, Bool.bne_true, Bool.not_true, Bool.not_false, decide_true, decide_false, Bool.and_true, Bool.true_and, Bool.or_false, Bool.false_or, Bool.or_true, Bool.true_or, Bool.and_false, Bool.false_and, Bool.or_self, Bool.and_self, List.getElem?_cons_zero, List.getElem?_cons_succ, List.getElem?_nil, List.length_cons, List.length_nil, List.cons_append, List.nil_append, Nat.reduceAdd, Nat.reduceSub, List.replicate_succ, List.replicate_zero, Nat.reduceEqDiff, Int.reduceEq, Int.reduceLT, Int.reduceLE, Nat.reduceLT, Nat.reduceLeDiff, reduceCtorEq, Nat.zero_add, sz, e0, g]
end Lk32

set_option Elab.async false
set_option linter.all false
set_option maxRecDepth 100000
set_option maxHeartbeats 4000000
namespace Lk32
open PySem L2 V
/-! the places in order -/
theorem spots_hd : ∀ e : Ex, ∃ r, spots e = [] :: r
  | .nm s => ⟨[], by rw [spots]⟩
  | .ap b s l => ⟨spotsL 0 l, by rw [spots]⟩
def lxN (q : List Nat) : List Int := q.map fun k : Nat => (k : Int)
theorem lex_nil (x : List Int) : HT.lexLt x [] = false := by cases x <;> rfl
abbrev Rise (l : List (List Nat)) : Prop := l.Pairwise fun x y => HT.lexLt (lxN y) (lxN x) = false
theorem spotsL_head : ∀ {l : List Ex} {k : Nat} {q : List Nat}, q ∈ spotsL k l → ∃ j r, q = j :: r ∧ k ≤ j
  | [], k, q, h => by rw [spotsL] at h; cases h
  | e :: l, k, q, h => by
    rw [spotsL] at h
    rcases List.mem_append.mp h with h | h
    · obtain ⟨r, _, rfl⟩ := List.mem_map.mp h
      exact ⟨k, r, rfl, Nat.le_refl _⟩
    · obtain ⟨j, r, e, hj⟩ := spotsL_head h
      exact ⟨j, r, e, by omega⟩
mutual
theorem spots_rise : ∀ e : Ex, Rise (spots e)
  | .nm s => by rw [spots]; exact List.pairwise_singleton _ _
  | .ap b s l => by
    rw [spots]
    exact .cons (fun y _ => lex_nil _) (spotsL_rise 0 l)
theorem spotsL_rise : ∀ (k : Nat) (l : List Ex), Rise (spotsL k l)
  | _, [] => by rw [spotsL]; exact .nil
  | k, e :: l => by
    rw [spotsL]
    refine List.pairwise_append.mpr ⟨?_, spotsL_rise (k + 1) l, ?_⟩
    · rw [List.pairwise_map]
      refine (spots_rise e).imp fun {x y} h => ?_
      show HT.lexLt ((k : Int) :: lxN y) ((k : Int) :: lxN x) = false
      rw [HT.lexLt_cons, if_pos rfl]
      exact h
    · intro x hx y hy
      obtain ⟨r, _, rfl⟩ := List.mem_map.mp hx
      obtain ⟨j, r', rfl, hj⟩ := spotsL_head hy
      show HT.lexLt ((j : Int) :: lxN r') ((k : Int) :: lxN r) = false
      rw [HT.lexLt_cons, if_neg (by omega)]
      exact decide_eq_false (by omega)
end
theorem rises_of : ∀ {l : List (List Int)}, (l.Pairwise fun x y => HT.lexLt y x = false) → risesI l = true
  | [], _ => rfl
  | x :: r, h => by
    obtain ⟨h1, h2⟩ := List.pairwise_cons.mp h
    rw [risesI, rises_of h2, Bool.and_true, List.all_eq_true]
    intro y hy
    rw [h1 y hy]
    rfl
theorem nums_pl : ∀ q : List Nat, numsD (q.map fun k : Nat => D.int (k : Int)) = some (lxN q)
  | [] => rfl
  | k :: q => by rw [List.map_cons, numsD, nums_pl q]; rfl
theorem tups_pl : ∀ l : List (List Nat), tupsInts (l.map plD) = some (l.map lxN)
  | [] => rfl
  | q :: l => by
    rw [List.map_cons, tupsInts, tups_pl l]
    have : tupInts (plD q) = some (lxN q) := nums_pl q
    rw [this]
    rfl
theorem o_sorted (e : Ex) {K : V.T → Prop} : AnK (wSortTI [.lst ((spots e).map plD)]) K = K (.ow (.lst ((spots e).map plD))) := by
  have h : wSortTI [.lst ((spots e).map plD)] = some (.ow (.lst ((spots e).map plD))) := by
    have r : risesI ((spots e).map lxN) = true := rises_of (List.pairwise_map.mpr (spots_rise e))
    obtain ⟨q, hq⟩ := spots_hd e
    have t := tups_pl (spots e)
    rw [hq, List.map_cons] at t r
    rw [hq]
    rw [List.map_cons]
    show (match tupsInts (plD [] :: q.map plD) with
      | some ([] :: r) => if risesI ([] :: r) = true then some (V.T.ow (D.lst (plD [] :: q.map plD))) else none
      | _ => none) = _
    rw [t]
    show (if risesI ([] :: q.map lxN) = true then _ else _) = _
    rw [if_pos (show risesI ([] :: q.map lxN) = true from r)]
  rw [h]
  rfl
/-! what stands at a place -/
def subE : Ex → List Nat → Ex
  | e, [] => e
  | .ap _ _ l, k :: r => subE (l.getD k (.nm "")) r
  | .nm s, _ :: _ => .nm s
/-- a name is put behind, where it is new -/
def stG (acc : List Str) : Ex → List Str
  | .nm s => if s ∈ acc then acc else acc ++ [s]
  | .ap _ _ _ => acc
mutual
theorem gat_spots : ∀ (e : Ex) (acc : List Str), (spots e).foldl (fun a q => stG a (subE e q)) acc = gat e acc
  | .nm s, acc => by rw [spots, gat]; simp [subE, stG]
  | .ap b s l, acc => by
    rw [spots, gat, List.foldl_cons]
    have := gats_spots b s l [] acc
    rw [List.nil_append, List.length_nil] at this
    exact this
theorem gats_spots : ∀ (b : Bool) (s : Str) (l pre : List Ex) (acc : List Str), (spotsL pre.length l).foldl (fun a q => stG a (subE (.ap b s (pre ++ l)) q)) acc = gats l acc
  | _, _, [], pre, acc => by rw [spotsL, gats]; rfl
  | b, s, e :: l, pre, acc => by
    rw [spotsL, gats, List.foldl_append, List.foldl_map]
    have h1 : ∀ q, subE (.ap b s (pre ++ e :: l)) (pre.length :: q) = subE e q := fun q => by
      rw [subE]
      simp
    simp only [h1]
    rw [gat_spots e acc]
    have := gats_spots b s l (pre ++ [e]) (gat e acc)
    rw [List.length_append, List.length_singleton, List.append_assoc] at this
    exact this
end
theorem sub_step {d : Nat} {e : Ex} {k : Nat} {r : List Nat} (h : Ew d e) (hq : k :: r ∈ spots e) : ∃ (d' : Nat) (b : Bool) (s : Str) (l : List Ex) (x : Ex), e = .ap b s l ∧ l[k]? = some x ∧ r ∈ spots x ∧ Ew d' x ∧ d = d' + 1 ∧ subE e (k :: r) = subE x r := by
  cases h with
  | nm hs => rw [spots, List.mem_singleton] at hq; cases hq
  | @ap d' b s l hs hl ha =>
    rw [spots] at hq
    rcases List.mem_cons.mp hq with hq | hq
    · cases hq
    · obtain ⟨j, x, r', e1, hx, hr⟩ := spotsL_mem hq
      cases e1
      rw [Nat.zero_add]
      refine ⟨d', b, s, l, x, rfl, hx, hr, ha x (List.mem_of_getElem? hx), rfl, ?_⟩
      rw [subE, List.getD_eq_getElem?_getD, hx]
      rfl
theorem sub_nm : ∀ {d : Nat} {e : Ex} (q : List Nat), Ew d e → q ∈ spots e → ∃ d', Ew d' (subE e q)
  | d, e, [], h, hq => by rw [subE]; exact ⟨d, h⟩
  | d, e, k :: r, h, hq => by
    obtain ⟨d', b, s, l, x, rfl, hx, hr, hw, _, e1⟩ := sub_step h hq
    rw [e1]
    exact sub_nm r hw hr
theorem stG_ok {acc : List Str} {d : Nat} {x : Ex} (h : Ew d x) (ha : ∀ s ∈ acc, Nm s) : (∀ s ∈ stG acc x, Nm s) ∧ (stG acc x).length ≤ acc.length + 1 := by
  cases h with
  | @nm d s hs =>
    rw [stG]
    by_cases z : s ∈ acc
    · rw [if_pos z]; exact ⟨ha, by omega⟩
    · rw [if_neg z]
      refine ⟨fun x hx => ?_, by rw [List.length_append, List.length_singleton]; omega⟩
      rcases List.mem_append.mp hx with hx | hx
      · exact ha x hx
      · rw [List.mem_singleton.mp hx]; exact hs
  | ap hs hl hb => rw [stG]; exact ⟨ha, by omega⟩
theorem e_standing {d : Nat} {e : Ex} (h : Ew d e) (hd : d ≤ 8) : F__law_standing [.sh (exD e)] = .ok (.ow (nmD (gat e []))) [] := by
  have es := e_spots (k := 12) h (by omega) hd
  obtain ⟨hl, _⟩ := spots_len h
  have p4 : 4 ^ d ≤ 4 ^ 8 := Nat.pow_le_pow_right (by omega) hd
  have p8 : (4 : Nat) ^ 8 = 65536 := rfl
  have so := fun (K : V.T → Prop) => o_sorted e (K := K)
  have e0 : D.lst [] = nmD [] := rfl
  refine FrK.eq ?_
  unfold F__law_standing d__law_standing
  simp -implicitDefEqProofs only [↓k_some, ↓an_some, ↓g_0, ↓g_s, ↓s_0, ↓s_s, ↓td_sh, ↓td_ow, ↓td_lo, ↓rd_v, ↓rd_al, ↓rds_nil, ↓rds_cons, ↓shs_nil, ↓shs_v, ↓shk, ↓shs_al, ↓gt_v, ↓gt_al, ↓if_tt, ↓if_ff, ↓w_ret, ↓w_stk, ↓w_rse, ↓w_bnd, ↓nz_sh, ↓nz_ow, ↓nz_lo, ↓nz_ob, ↓nz_lb, ↓w_var, ↓w_c, ↓w_ans, ↓w_rd, ↓w_rds, ↓w_d2, ↓w_d1, ↓w_dN, ↓w_dS, ↓w_nil, ↓w_cons, ↓gv_sh, ↓gv_ow, ↓gv_ob, ↓fg_nil, ↓gi_v, ↓gi_al, ↓w_giv, ↓w_rdO, ↓w_opT, ↓w_tru, ↓w_bl, ↓bl_d, ↓w_not, ↓w_if, ↓w_and, ↓w_or, ↓w_dNot, ↓w_dAnd, ↓w_dOr, ↓w_oNone, ↓w_oSome, ↓o_int, ↓w_sl, ↓sq_nx, ↓sq_rt, ↓sq_bk, ↓sq_ct, ↓w_seq, ↓w_skip, ↓w_dret, ↓w_retN, ↓w_expr, ↓w_dif, ↓w_brk, ↓w_raise, ↓w_dasg, ↓w_dset, ↓al_sh, ↓al_lo, ↓al_lb, ↓w_asg_v, ↓w_asg_al, ↓w_gsNil, ↓w_gsCons, ↓tp_k, ↓w_gTp, ↓w_for, ↓w_loop_nil, ↓tn_nx, ↓tn_ct, ↓tn_bk, ↓tn_rt, ↓w_iOf, ↓w_iOfN, ↓seq_tup, ↓seq_lst, ↓seq_scr, ↓w_lc, ↓wipe_nil, ↓it_k, ↓w_yes, ↓fr_ok, ↓fr_ex, ↓ms_t, ↓ms_f, ↓ms_n, ↓out_nx, ↓out_v, ↓out_al, ↓mu_nil, ↓mu_t, ↓mu_f, ↓fr_run, ↓st_e, ↓lt_sh, ↓lt_ow, ↓lt_lo, ↓lt_ob, ↓lt_lb, ↓ot_ow, ↓ot_ob, ↓le_nil, ↓le_f, ↓le_t, ↓alf_nil, ↓alf_nil2, ↓alf_v, ↓alf_ff, ↓alf_al, ↓oa_nil, ↓oa_v, ↓oa_al, ↓okr_sh, ↓okr_no, ↓okr_ow, ↓okr_sh1, ↓okr_no1, ↓okr_ow1, ↓okr_sh2, ↓pu_nil, ↓pu_f, ↓pu_al, ↓pu_v, ↓w_call, ↓w_dcall, ↓w_dmeth, ↓mk_k, ↓mk_x, ↓w_make, ↓w_dmake, ↓w_chk_v, ↓w_dBM, ↓w_dBM0, ↓isl_n, ↓isk_n, ↓isl_1, ↓isl_2, ↓isl_3, ↓isl_4, ↓isk_1, ↓isk_2, ↓isk_3, ↓isk_4, ↓isk_5, ↓isk_6, ↓ow_k, ↓w_mutS, ↓w_mutR, ↓f_app, ↓f_pop, ↓f_ext, ↓f_extT, ↓w_rdm, ↓str_k, ↓w_isStr, ↓w_strM, ↓w_fld, ↓ft_sh, ↓ft_ow, ↓ft_lo, ↓fa_sh, ↓fa_lo, ↓ft_al, ↓ob_k, ↓w_setFld, ↓w_fldSet, ↓w_setZ, ↓w_gSub, ↓fow_k, ↓w_gFSub, ↓int_k, ↓w_aug, ↓ch_t, ↓ch_f, ↓w_catch, ↓w_try, ↓w_tryKeep, ↓w_give, ↓w_no, ↓w_dict, ↓w_dictT, ↓w_chain, ↓is_b, ↓w_get2, ↓gz_s, ↓gz_n, ↓w_getZ, ↓o_addI, ↓o_addS, ↓o_addT, ↓o_addL, ↓o_sub, ↓o_mulI, ↓o_mulS, ↓o_mulL, ↓o_fdv, ↓o_mod, ↓o_neg, ↓o_lt, ↓o_le, ↓o_gt, ↓o_ge, ↓b_lt, ↓b_le, ↓o_is, ↓isn_t, ↓isn_1, ↓isn_2, ↓isn_3, ↓isn_4, ↓isn_5, ↓o_eqI, ↓o_eqS, ↓o_ixT, ↓o_ixL, ↓o_ixC, ↓o_ixS, ↓o_ixD, ↓o_slS, ↓o_slT, ↓o_slL, ↓o_slC, ↓o_inD, ↓o_tup, ↓o_lst, ↓o_lenT, ↓o_lenL, ↓o_lenC, ↓o_lenD, ↓o_lenS, ↓o_min, ↓o_max, ↓o_intI, ↓o_intB, ↓o_listT, ↓o_listL, ↓o_listC, ↓o_tupleT, ↓o_tupleL, ↓o_dict, ↓o_rev, ↓o_revT, ↓o_isi, ↓ty_1, ↓ty_2, ↓ty_3, ↓ty_4, ↓ty_5, ↓ty_6, ↓ty_7, ↓tr_b, ↓tr_n, ↓tr_i, ↓tr_t, ↓tr_l, w_chk_al isl_n, w_chk_al isk_n, Bool.false_eq_true, if_true, if_false, true_and, and_true, Bool.bne_false, Bool.bne_true, Bool.not_true, Bool.not_false, decide_true, decide_false, Bool.and_true, Bool.true_and, Bool.or_false, Bool.false_or, Bool.or_true, Bool.true_or, Bool.and_false, Bool.false_and, Bool.or_self, Bool.and_self, List.getElem?_cons_zero, List.getElem?_cons_succ, List.getElem?_nil, List.length_cons, List.length_nil, List.cons_append, List.nil_append, Nat.reduceAdd, Nat.reduceSub, List.replicate_succ, List.replicate_zero, Nat.reduceEqDiff, Int.reduceEq, Int.reduceLT, Int.reduceLE, Nat.reduceLT, Nat.reduceLeDiff, reduceCtorEq, Nat.zero_add, sz, e0, es, so]
  refine wp_loopA plD (fun pre ρ => ∃ (a : List Str) (t3 t4 t2 : V.T), (∀ s ∈ a, Nm s) ∧ a.length ≤ pre.length ∧ a = pre.foldl (fun a q => stG a (subE e q)) [] ∧ ρ = [.sh (exD e), .ow (nmD a), t2, t3, t4]) ⟨[], _, _, _, by simp, Nat.le_refl _, rfl, rfl⟩ ?_ ?_
  · rintro pre q post ρ hx ⟨a, t3, t4, t2, hna, hle, hfo, rfl⟩
    have hq : q ∈ spots e := by rw [hx]; simp
    have hpl : pre.length < 65536 := by
      have := congrArg List.length hx
      rw [List.length_append, List.length_cons] at this
      omega
    simp -implicitDefEqProofs only [b2__law_standing, ↓k_some, ↓an_some, ↓g_0, ↓g_s, ↓s_0, ↓s_s, ↓td_sh, ↓td_ow, ↓td_lo, ↓rd_v, ↓rd_al, ↓rds_nil, ↓rds_cons, ↓shs_nil, ↓shs_v, ↓shk, ↓shs_al, ↓gt_v, ↓gt_al, ↓if_tt, ↓if_ff, ↓w_ret, ↓w_stk, ↓w_rse, ↓w_bnd, ↓nz_sh, ↓nz_ow, ↓nz_lo, ↓nz_ob, ↓nz_lb, ↓w_var, ↓w_c, ↓w_ans, ↓w_rd, ↓w_rds, ↓w_d2, ↓w_d1, ↓w_dN, ↓w_dS, ↓w_nil, ↓w_cons, ↓gv_sh, ↓gv_ow, ↓gv_ob, ↓fg_nil, ↓gi_v, ↓gi_al, ↓w_giv, ↓w_rdO, ↓w_opT, ↓w_tru, ↓w_bl, ↓bl_d, ↓w_not, ↓w_if, ↓w_and, ↓w_or, ↓w_dNot, ↓w_dAnd, ↓w_dOr, ↓w_oNone, ↓w_oSome, ↓o_int, ↓w_sl, ↓sq_nx, ↓sq_rt, ↓sq_bk, ↓sq_ct, ↓w_seq, ↓w_skip, ↓w_dret, ↓w_retN, ↓w_expr, ↓w_dif, ↓w_brk, ↓w_raise, ↓w_dasg, ↓w_dset, ↓al_sh, ↓al_lo, ↓al_lb, ↓w_asg_v, ↓w_asg_al, ↓w_gsNil, ↓w_gsCons, ↓tp_k, ↓w_gTp, ↓w_for, ↓w_loop_nil, ↓tn_nx, ↓tn_ct, ↓tn_bk, ↓tn_rt, ↓w_iOf, ↓w_iOfN, ↓seq_tup, ↓seq_lst, ↓seq_scr, ↓w_lc, ↓wipe_nil, ↓it_k, ↓w_yes, ↓fr_ok, ↓fr_ex, ↓ms_t, ↓ms_f, ↓ms_n, ↓out_nx, ↓out_v, ↓out_al, ↓mu_nil, ↓mu_t, ↓mu_f, ↓fr_run, ↓st_e, ↓lt_sh, ↓lt_ow, ↓lt_lo, ↓lt_ob, ↓lt_lb, ↓ot_ow, ↓ot_ob, ↓le_nil, ↓le_f, ↓le_t, ↓alf_nil, ↓alf_nil2, ↓alf_v, ↓alf_ff, ↓alf_al, ↓oa_nil, ↓oa_v, ↓oa_al, ↓okr_sh, ↓okr_no, ↓okr_ow, ↓okr_sh1, ↓okr_no1, ↓okr_ow1, ↓okr_sh2, ↓pu_nil, ↓pu_f, ↓pu_al, ↓pu_v, ↓w_call, ↓w_dcall, ↓w_dmeth, ↓mk_k, ↓mk_x, ↓w_make, ↓w_dmake, ↓w_chk_v, ↓w_dBM, ↓w_dBM0, ↓isl_n, ↓isk_n, ↓isl_1, ↓isl_2, ↓isl_3, ↓isl_4, ↓isk_1, ↓isk_2, ↓isk_3, ↓isk_4, ↓isk_5, ↓isk_6, ↓ow_k, ↓w_mutS, ↓w_mutR, ↓f_app, ↓f_pop, ↓f_ext, ↓f_extT, ↓w_rdm, ↓str_k, ↓w_isStr, ↓w_strM, ↓w_fld, ↓ft_sh, ↓ft_ow, ↓ft_lo, ↓fa_sh, ↓fa_lo, ↓ft_al, ↓ob_k, ↓w_setFld, ↓w_fldSet, ↓w_setZ, ↓w_gSub, ↓fow_k, ↓w_gFSub, ↓int_k, ↓w_aug, ↓ch_t, ↓ch_f, ↓w_catch, ↓w_try, ↓w_tryKeep, ↓w_give, ↓w_no, ↓w_dict, ↓w_dictT, ↓w_chain, ↓is_b, ↓w_get2, ↓gz_s, ↓gz_n, ↓w_getZ, ↓o_addI, ↓o_addS, ↓o_addT, ↓o_addL, ↓o_sub, ↓o_mulI, ↓o_mulS, ↓o_mulL, ↓o_fdv, ↓o_mod, ↓o_neg, ↓o_lt, ↓o_le, ↓o_gt, ↓o_ge, ↓b_lt, ↓b_le, ↓o_is, ↓isn_t, ↓isn_1, ↓isn_2, ↓isn_3, ↓isn_4, ↓isn_5, ↓o_eqI, ↓o_eqS, ↓o_ixT, ↓o_ixL, ↓o_ixC, ↓o_ixS, ↓o_ixD, ↓o_slS, ↓o_slT, ↓o_slL, ↓o_slC, ↓o_inD, ↓o_tup, ↓o_lst, ↓o_lenT, ↓o_lenL, ↓o_lenC, ↓o_lenD, ↓o_lenS, ↓o_min, ↓o_max, ↓o_intI, ↓o_intB, ↓o_listT, ↓o_listL, ↓o_listC, ↓o_tupleT, ↓o_tupleL, ↓o_dict, ↓o_rev, ↓o_revT, ↓o_isi, ↓ty_1, ↓ty_2, ↓ty_3, ↓ty_4, ↓ty_5, ↓ty_6, ↓ty_7, ↓tr_b, ↓tr_n, ↓tr_i, ↓tr_t, ↓tr_l, w_chk_al isl_n, w_chk_al isk_n, Bool.false_eq_true, if_true, if_false, true_and, and_true, Bool.bne_false, Bool.bne_true, Bool.not_true, Bool.not_false, decide_true, decide_false, Bool.and_true, Bool.true_and, Bool.or_false, Bool.false_or, Bool.or_true, Bool.true_or, Bool.and_false, Bool.false_and, Bool.or_self, Bool.and_self, List.getElem?_cons_zero, List.getElem?_cons_succ, List.getElem?_nil, List.length_cons, List.length_nil, List.cons_append, List.nil_append, Nat.reduceAdd, Nat.reduceSub, List.replicate_succ, List.replicate_zero, Nat.reduceEqDiff, Int.reduceEq, Int.reduceLT, Int.reduceLE, Nat.reduceLT, Nat.reduceLeDiff, reduceCtorEq, Nat.zero_add, plD]
    refine wp_loop (fun k : Nat => D.int (k : Int)) (fun rest ρ => ∃ (d' : Nat) (e' : Ex) (t4 : V.T), Ew d' e' ∧ rest ∈ spots e' ∧ subE e' rest = subE e q ∧ ρ = [.sh (exD e), .ow (nmD a), .sh (.tup (q.map fun k : Nat => .int (k : Int))), .sh (exD e'), t4]) ⟨d, e, _, h, hq, rfl, rfl⟩ ?_ ?_
    · rintro k rest ρ ⟨d', e', t4, he, hr, hsu, rfl⟩
      obtain ⟨d2, b, s, l, x, rfl, hx, hr2, hw, rfl, e1⟩ := sub_step he hr
      rw [e1] at hsu
      obtain ⟨hk, hx⟩ := List.getElem?_eq_some_iff.mp hx
      have ae : atI (exDs l) (k : Int) = some (exD x) := by
        rw [exDs_map, atI_nat (l.map exD) k (by rw [List.length_map]; exact hk), List.getElem_map, hx]
      simp -implicitDefEqProofs only [exD, b1__law_standing, ↓k_some, ↓an_some, ↓g_0, ↓g_s, ↓s_0, ↓s_s, ↓td_sh, ↓td_ow, ↓td_lo, ↓rd_v, ↓rd_al, ↓rds_nil, ↓rds_cons, ↓shs_nil, ↓shs_v, ↓shk, ↓shs_al, ↓gt_v, ↓gt_al, ↓if_tt, ↓if_ff, ↓w_ret, ↓w_stk, ↓w_rse, ↓w_bnd, ↓nz_sh, ↓nz_ow, ↓nz_lo, ↓nz_ob, ↓nz_lb, ↓w_var, ↓w_c, ↓w_ans, ↓w_rd, ↓w_rds, ↓w_d2, ↓w_d1, ↓w_dN, ↓w_dS, ↓w_nil, ↓w_cons, ↓gv_sh, ↓gv_ow, ↓gv_ob, ↓fg_nil, ↓gi_v, ↓gi_al, ↓w_giv, ↓w_rdO, ↓w_opT, ↓w_tru, ↓w_bl, ↓bl_d, ↓w_not, ↓w_if, ↓w_and, ↓w_or, ↓w_dNot, ↓w_dAnd, ↓w_dOr, ↓w_oNone, ↓w_oSome, ↓o_int, ↓w_sl, ↓sq_nx, ↓sq_rt, ↓sq_bk, ↓sq_ct, ↓w_seq, ↓w_skip, ↓w_dret, ↓w_retN, ↓w_expr, ↓w_dif, ↓w_brk, ↓w_raise, ↓w_dasg, ↓w_dset, ↓al_sh, ↓al_lo, ↓al_lb, ↓w_asg_v, ↓w_asg_al, ↓w_gsNil, ↓w_gsCons, ↓tp_k, ↓w_gTp, ↓w_for, ↓w_loop_nil, ↓tn_nx, ↓tn_ct, ↓tn_bk, ↓tn_rt, ↓w_iOf, ↓w_iOfN, ↓seq_tup, ↓seq_lst, ↓seq_scr, ↓w_lc, ↓wipe_nil, ↓it_k, ↓w_yes, ↓fr_ok, ↓fr_ex, ↓ms_t, ↓ms_f, ↓ms_n, ↓out_nx, ↓out_v, ↓out_al, ↓mu_nil, ↓mu_t, ↓mu_f, ↓fr_run, ↓st_e, ↓lt_sh, ↓lt_ow, ↓lt_lo, ↓lt_ob, ↓lt_lb, ↓ot_ow, ↓ot_ob, ↓le_nil, ↓le_f, ↓le_t, ↓alf_nil, ↓alf_nil2, ↓alf_v, ↓alf_ff, ↓alf_al, ↓oa_nil, ↓oa_v, ↓oa_al, ↓okr_sh, ↓okr_no, ↓okr_ow, ↓okr_sh1, ↓okr_no1, ↓okr_ow1, ↓okr_sh2, ↓pu_nil, ↓pu_f, ↓pu_al, ↓pu_v, ↓w_call, ↓w_dcall, ↓w_dmeth, ↓mk_k, ↓mk_x, ↓w_make, ↓w_dmake, ↓w_chk_v, ↓w_dBM, ↓w_dBM0, ↓isl_n, ↓isk_n, ↓isl_1, ↓isl_2, ↓isl_3, ↓isl_4, ↓isk_1, ↓isk_2, ↓isk_3, ↓isk_4, ↓isk_5, ↓isk_6, ↓ow_k, ↓w_mutS, ↓w_mutR, ↓f_app, ↓f_pop, ↓f_ext, ↓f_extT, ↓w_rdm, ↓str_k, ↓w_isStr, ↓w_strM, ↓w_fld, ↓ft_sh, ↓ft_ow, ↓ft_lo, ↓fa_sh, ↓fa_lo, ↓ft_al, ↓ob_k, ↓w_setFld, ↓w_fldSet, ↓w_setZ, ↓w_gSub, ↓fow_k, ↓w_gFSub, ↓int_k, ↓w_aug, ↓ch_t, ↓ch_f, ↓w_catch, ↓w_try, ↓w_tryKeep, ↓w_give, ↓w_no, ↓w_dict, ↓w_dictT, ↓w_chain, ↓is_b, ↓w_get2, ↓gz_s, ↓gz_n, ↓w_getZ, ↓o_addI, ↓o_addS, ↓o_addT, ↓o_addL, ↓o_sub, ↓o_mulI, ↓o_mulS, ↓o_mulL, ↓o_fdv, ↓o_mod, ↓o_neg, ↓o_lt, ↓o_le, ↓o_gt, ↓o_ge, ↓b_lt, ↓b_le, ↓o_is, ↓isn_t, ↓isn_1, ↓isn_2, ↓isn_3, ↓isn_4, ↓isn_5, ↓o_eqI, ↓o_eqS, ↓o_ixT, ↓o_ixL, ↓o_ixC, ↓o_ixS, ↓o_ixD, ↓o_slS, ↓o_slT, ↓o_slL, ↓o_slC, ↓o_inD, ↓o_tup, ↓o_lst, ↓o_lenT, ↓o_lenL, ↓o_lenC, ↓o_lenD, ↓o_lenS, ↓o_min, ↓o_max, ↓o_intI, ↓o_intB, ↓o_listT, ↓o_listL, ↓o_listC, ↓o_tupleT, ↓o_tupleL, ↓o_dict, ↓o_rev, ↓o_revT, ↓o_isi, ↓ty_1, ↓ty_2, ↓ty_3, ↓ty_4, ↓ty_5, ↓ty_6, ↓ty_7, ↓tr_b, ↓tr_n, ↓tr_i, ↓tr_t, ↓tr_l, w_chk_al isl_n, w_chk_al isk_n, Bool.false_eq_true, if_true, if_false, true_and, and_true, Bool.bne_false, Bool.bne_true, Bool.not_true, Bool.not_false, decide_true, decide_false, Bool.and_true, Bool.true_and, Bool.or_false, Bool.false_or, Bool.or_true, Bool.true_or, Bool.and_false, Bool.false_and, Bool.or_self, Bool.and_self, List.getElem?_cons_zero, List.getElem?_cons_succ, List.getElem?_nil, List.length_cons, List.length_nil, List.cons_append, List.nil_append, Nat.reduceAdd, Nat.reduceSub, List.replicate_succ, List.replicate_zero, Nat.reduceEqDiff, Int.reduceEq, Int.reduceLT, Int.reduceLE, Nat.reduceLT, Nat.reduceLeDiff, reduceCtorEq, Nat.zero_add, at2, ae]
      exact ⟨d2, x, _, hw, hr2, hsu, rfl⟩
    · rintro ρ ⟨d', e', t4, he, hr, hsu, rfl⟩
      rw [subE] at hsu
      obtain ⟨g1, g2⟩ := stG_ok he hna
      have lt : ltOk a.length = true := lt_ok (by omega)
      have fin : stG a e' = (pre ++ [q]).foldl (fun a q => stG a (subE e q)) [] := by
        rw [List.foldl_append, ← hfo, hsu]
        rfl
      cases he with
      | @nm d' s hs =>
        have qi := fun (n : Bool) (K : V.T → Prop) => o_inNm (n := n) (K := K) hna hs
        have e1 : exD (.nm s) = .tup [.str "name", .str s] := by rw [exD]
        rw [stG] at fin g1 g2
        by_cases z : s ∈ a
        · rw [if_pos z] at fin g1 g2
          simp -implicitDefEqProofs only [e1, ↓k_some, ↓an_some, ↓g_0, ↓g_s, ↓s_0, ↓s_s, ↓td_sh, ↓td_ow, ↓td_lo, ↓rd_v, ↓rd_al, ↓rds_nil, ↓rds_cons, ↓shs_nil, ↓shs_v, ↓shk, ↓shs_al, ↓gt_v, ↓gt_al, ↓if_tt, ↓if_ff, ↓w_ret, ↓w_stk, ↓w_rse, ↓w_bnd, ↓nz_sh, ↓nz_ow, ↓nz_lo, ↓nz_ob, ↓nz_lb, ↓w_var, ↓w_c, ↓w_ans, ↓w_rd, ↓w_rds, ↓w_d2, ↓w_d1, ↓w_dN, ↓w_dS, ↓w_nil, ↓w_cons, ↓gv_sh, ↓gv_ow, ↓gv_ob, ↓fg_nil, ↓gi_v, ↓gi_al, ↓w_giv, ↓w_rdO, ↓w_opT, ↓w_tru, ↓w_bl, ↓bl_d, ↓w_not, ↓w_if, ↓w_and, ↓w_or, ↓w_dNot, ↓w_dAnd, ↓w_dOr, ↓w_oNone, ↓w_oSome, ↓o_int, ↓w_sl, ↓sq_nx, ↓sq_rt, ↓sq_bk, ↓sq_ct, ↓w_seq, ↓w_skip, ↓w_dret, ↓w_retN, ↓w_expr, ↓w_dif, ↓w_brk, ↓w_raise, ↓w_dasg, ↓w_dset, ↓al_sh, ↓al_lo, ↓al_lb, ↓w_asg_v, ↓w_asg_al, ↓w_gsNil, ↓w_gsCons, ↓tp_k, ↓w_gTp, ↓w_for, ↓w_loop_nil, ↓tn_nx, ↓tn_ct, ↓tn_bk, ↓tn_rt, ↓w_iOf, ↓w_iOfN, ↓seq_tup, ↓seq_lst, ↓seq_scr, ↓w_lc, ↓wipe_nil, ↓it_k, ↓w_yes, ↓fr_ok, ↓fr_ex, ↓ms_t, ↓ms_f, ↓ms_n, ↓out_nx, ↓out_v, ↓out_al, ↓mu_nil, ↓mu_t, ↓mu_f, ↓fr_run, ↓st_e, ↓lt_sh, ↓lt_ow, ↓lt_lo, ↓lt_ob, ↓lt_lb, ↓ot_ow, ↓ot_ob, ↓le_nil, ↓le_f, ↓le_t, ↓alf_nil, ↓alf_nil2, ↓alf_v, ↓alf_ff, ↓alf_al, ↓oa_nil, ↓oa_v, ↓oa_al, ↓okr_sh, ↓okr_no, ↓okr_ow, ↓okr_sh1, ↓okr_no1, ↓okr_ow1, ↓okr_sh2, ↓pu_nil, ↓pu_f, ↓pu_al, ↓pu_v, ↓w_call, ↓w_dcall, ↓w_dmeth, ↓mk_k, ↓mk_x, ↓w_make, ↓w_dmake, ↓w_chk_v, ↓w_dBM, ↓w_dBM0, ↓isl_n, ↓isk_n, ↓isl_1, ↓isl_2, ↓isl_3, ↓isl_4, ↓isk_1, ↓isk_2, ↓isk_3, ↓isk_4, ↓isk_5, ↓isk_6, ↓ow_k, ↓w_mutS, ↓w_mutR, ↓f_app, ↓f_pop, ↓f_ext, ↓f_extT, ↓w_rdm, ↓str_k, ↓w_isStr, ↓w_strM, ↓w_fld, ↓ft_sh, ↓ft_ow, ↓ft_lo, ↓fa_sh, ↓fa_lo, ↓ft_al, ↓ob_k, ↓w_setFld, ↓w_fldSet, ↓w_setZ, ↓w_gSub, ↓fow_k, ↓w_gFSub, ↓int_k, ↓w_aug, ↓ch_t, ↓ch_f, ↓w_catch, ↓w_try, ↓w_tryKeep, ↓w_give, ↓w_no, ↓w_dict, ↓w_dictT, ↓w_chain, ↓is_b, ↓w_get2, ↓gz_s, ↓gz_n, ↓w_getZ, ↓o_addI, ↓o_addS, ↓o_addT, ↓o_addL, ↓o_sub, ↓o_mulI, ↓o_mulS, ↓o_mulL, ↓o_fdv, ↓o_mod, ↓o_neg, ↓o_lt, ↓o_le, ↓o_gt, ↓o_ge, ↓b_lt, ↓b_le, ↓o_is, ↓isn_t, ↓isn_1, ↓isn_2, ↓isn_3, ↓isn_4, ↓isn_5, ↓o_eqI, ↓o_eqS, ↓o_ixT, ↓o_ixL, ↓o_ixC, ↓o_ixS, ↓o_ixD, ↓o_slS, ↓o_slT, ↓o_slL, ↓o_slC, ↓o_inD, ↓o_tup, ↓o_lst, ↓o_lenT, ↓o_lenL, ↓o_lenC, ↓o_lenD, ↓o_lenS, ↓o_min, ↓o_max, ↓o_intI, ↓o_intB, ↓o_listT, ↓o_listL, ↓o_listC, ↓o_tupleT, ↓o_tupleL, ↓o_dict, ↓o_rev, ↓o_revT, ↓o_isi, ↓ty_1, ↓ty_2, ↓ty_3, ↓ty_4, ↓ty_5, ↓ty_6, ↓ty_7, ↓tr_b, ↓tr_n, ↓tr_i, ↓tr_t, ↓tr_l, w_chk_al isl_n, w_chk_al isk_n, Bool.false_eq_true, if_true, if_false, true_and, and_true, Bool.bne_false, Bool.bne_true, Bool.not_true, Bool.not_false, decide_true, decide_false, Bool.and_true, Bool.true_and, Bool.or_false, Bool.false_or, Bool.or_true, Bool.true_or, Bool.and_false, Bool.false_and, Bool.or_self, Bool.and_self, List.getElem?_cons_zero, List.getElem?_cons_succ, List.getElem?_nil, List.length_cons, List.length_nil, List.cons_append, List.nil_append, Nat.reduceAdd, Nat.reduceSub, List.replicate_succ, List.replicate_zero, Nat.reduceEqDiff, Int.reduceEq, Int.reduceLT, Int.reduceLE, Nat.reduceLT, Nat.reduceLeDiff, reduceCtorEq, Nat.zero_add, at0, at1, ok_nm, nm_eq, qi, decide_eq_true z]
          exact ⟨a, _, _, _, hna, by rw [List.length_append, List.length_singleton]; omega, fin, rfl⟩
        · rw [if_neg z] at fin g1 g2
          simp -implicitDefEqProofs only [e1, ↓k_some, ↓an_some, ↓g_0, ↓g_s, ↓s_0, ↓s_s, ↓td_sh, ↓td_ow, ↓td_lo, ↓rd_v, ↓rd_al, ↓rds_nil, ↓rds_cons, ↓shs_nil, ↓shs_v, ↓shk, ↓shs_al, ↓gt_v, ↓gt_al, ↓if_tt, ↓if_ff, ↓w_ret, ↓w_stk, ↓w_rse, ↓w_bnd, ↓nz_sh, ↓nz_ow, ↓nz_lo, ↓nz_ob, ↓nz_lb, ↓w_var, ↓w_c, ↓w_ans, ↓w_rd, ↓w_rds, ↓w_d2, ↓w_d1, ↓w_dN, ↓w_dS, ↓w_nil, ↓w_cons, ↓gv_sh, ↓gv_ow, ↓gv_ob, ↓fg_nil, ↓gi_v, ↓gi_al, ↓w_giv, ↓w_rdO, ↓w_opT, ↓w_tru, ↓w_bl, ↓bl_d, ↓w_not, ↓w_if, ↓w_and, ↓w_or, ↓w_dNot, ↓w_dAnd, ↓w_dOr, ↓w_oNone, ↓w_oSome, ↓o_int, ↓w_sl, ↓sq_nx, ↓sq_rt, ↓sq_bk, ↓sq_ct, ↓w_seq, ↓w_skip, ↓w_dret, ↓w_retN, ↓w_expr, ↓w_dif, ↓w_brk, ↓w_raise, ↓w_dasg, ↓w_dset, ↓al_sh, ↓al_lo, ↓al_lb, ↓w_asg_v, ↓w_asg_al, ↓w_gsNil, ↓w_gsCons, ↓tp_k, ↓w_gTp, ↓w_for, ↓w_loop_nil, ↓tn_nx, ↓tn_ct, ↓tn_bk, ↓tn_rt, ↓w_iOf, ↓w_iOfN, ↓seq_tup, ↓seq_lst, ↓seq_scr, ↓w_lc, ↓wipe_nil, ↓it_k, ↓w_yes, ↓fr_ok, ↓fr_ex, ↓ms_t, ↓ms_f, ↓ms_n, ↓out_nx, ↓out_v, ↓out_al, ↓mu_nil, ↓mu_t, ↓mu_f, ↓fr_run, ↓st_e, ↓lt_sh, ↓lt_ow, ↓lt_lo, ↓lt_ob, ↓lt_lb, ↓ot_ow, ↓ot_ob, ↓le_nil, ↓le_f, ↓le_t, ↓alf_nil, ↓alf_nil2, ↓alf_v, ↓alf_ff, ↓alf_al, ↓oa_nil, ↓oa_v, ↓oa_al, ↓okr_sh, ↓okr_no, ↓okr_ow, ↓okr_sh1, ↓okr_no1, ↓okr_ow1, ↓okr_sh2, ↓pu_nil, ↓pu_f, ↓pu_al, ↓pu_v, ↓w_call, ↓w_dcall, ↓w_dmeth, ↓mk_k, ↓mk_x, ↓w_make, ↓w_dmake, ↓w_chk_v, ↓w_dBM, ↓w_dBM0, ↓isl_n, ↓isk_n, ↓isl_1, ↓isl_2, ↓isl_3, ↓isl_4, ↓isk_1, ↓isk_2, ↓isk_3, ↓isk_4, ↓isk_5, ↓isk_6, ↓ow_k, ↓w_mutS, ↓w_mutR, ↓f_app, ↓f_pop, ↓f_ext, ↓f_extT, ↓w_rdm, ↓str_k, ↓w_isStr, ↓w_strM, ↓w_fld, ↓ft_sh, ↓ft_ow, ↓ft_lo, ↓fa_sh, ↓fa_lo, ↓ft_al, ↓ob_k, ↓w_setFld, ↓w_fldSet, ↓w_setZ, ↓w_gSub, ↓fow_k, ↓w_gFSub, ↓int_k, ↓w_aug, ↓ch_t, ↓ch_f, ↓w_catch, ↓w_try, ↓w_tryKeep, ↓w_give, ↓w_no, ↓w_dict, ↓w_dictT, ↓w_chain, ↓is_b, ↓w_get2, ↓gz_s, ↓gz_n, ↓w_getZ, ↓o_addI, ↓o_addS, ↓o_addT, ↓o_addL, ↓o_sub, ↓o_mulI, ↓o_mulS, ↓o_mulL, ↓o_fdv, ↓o_mod, ↓o_neg, ↓o_lt, ↓o_le, ↓o_gt, ↓o_ge, ↓b_lt, ↓b_le, ↓o_is, ↓isn_t, ↓isn_1, ↓isn_2, ↓isn_3, ↓isn_4, ↓isn_5, ↓o_eqI, ↓o_eqS, ↓o_ixT, ↓o_ixL, ↓o_ixC, ↓o_ixS, ↓o_ixD, ↓o_slS, ↓o_slT, ↓o_slL, ↓o_slC, ↓o_inD, ↓o_tup, ↓o_lst, ↓o_lenT, ↓o_lenL, ↓o_lenC, ↓o_lenD, ↓o_lenS, ↓o_min, ↓o_max, ↓o_intI, ↓o_intB, ↓o_listT, ↓o_listL, ↓o_listC, ↓o_tupleT, ↓o_tupleL, ↓o_dict, ↓o_rev, ↓o_revT, ↓o_isi, ↓ty_1, ↓ty_2, ↓ty_3, ↓ty_4, ↓ty_5, ↓ty_6, ↓ty_7, ↓tr_b, ↓tr_n, ↓tr_i, ↓tr_t, ↓tr_l, w_chk_al isl_n, w_chk_al isk_n, Bool.false_eq_true, if_true, if_false, true_and, and_true, Bool.bne_false, Bool.bne_true, Bool.not_true, Bool.not_false, decide_true, decide_false, Bool.and_true, Bool.true_and, Bool.or_false, Bool.false_or, Bool.or_true, Bool.true_or, Bool.and_false, Bool.false_and, Bool.or_self, Bool.and_self, List.getElem?_cons_zero, List.getElem?_cons_succ, List.getElem?_nil, List.length_cons, List.length_nil, List.cons_append, List.nil_append, Nat.reduceAdd, Nat.reduceSub, List.replicate_succ, List.replicate_zero, Nat.reduceEqDiff, Int.reduceEq, Int.reduceLT, Int.reduceLE, Nat.reduceLT, Nat.reduceLeDiff, reduceCtorEq, Nat.zero_add, at0, at1, ok_nm, nm_eq, qi, decide_eq_false z, isl_nm, app_nm lt]
          exact ⟨a ++ [s], _, _, _, g1, by rw [List.length_append, List.length_append, List.length_singleton, List.length_singleton]; omega, fin, rfl⟩
      | @ap d' b s l hs hl ha =>
        have e1 : exD (.ap b s l) = .tup [.str (apS b), .str s, .tup (exDs l)] := by rw [exD]
        rw [stG] at fin g1 g2
        simp -implicitDefEqProofs only [e1, ↓k_some, ↓an_some, ↓g_0, ↓g_s, ↓s_0, ↓s_s, ↓td_sh, ↓td_ow, ↓td_lo, ↓rd_v, ↓rd_al, ↓rds_nil, ↓rds_cons, ↓shs_nil, ↓shs_v, ↓shk, ↓shs_al, ↓gt_v, ↓gt_al, ↓if_tt, ↓if_ff, ↓w_ret, ↓w_stk, ↓w_rse, ↓w_bnd, ↓nz_sh, ↓nz_ow, ↓nz_lo, ↓nz_ob, ↓nz_lb, ↓w_var, ↓w_c, ↓w_ans, ↓w_rd, ↓w_rds, ↓w_d2, ↓w_d1, ↓w_dN, ↓w_dS, ↓w_nil, ↓w_cons, ↓gv_sh, ↓gv_ow, ↓gv_ob, ↓fg_nil, ↓gi_v, ↓gi_al, ↓w_giv, ↓w_rdO, ↓w_opT, ↓w_tru, ↓w_bl, ↓bl_d, ↓w_not, ↓w_if, ↓w_and, ↓w_or, ↓w_dNot, ↓w_dAnd, ↓w_dOr, ↓w_oNone, ↓w_oSome, ↓o_int, ↓w_sl, ↓sq_nx, ↓sq_rt, ↓sq_bk, ↓sq_ct, ↓w_seq, ↓w_skip, ↓w_dret, ↓w_retN, ↓w_expr, ↓w_dif, ↓w_brk, ↓w_raise, ↓w_dasg, ↓w_dset, ↓al_sh, ↓al_lo, ↓al_lb, ↓w_asg_v, ↓w_asg_al, ↓w_gsNil, ↓w_gsCons, ↓tp_k, ↓w_gTp, ↓w_for, ↓w_loop_nil, ↓tn_nx, ↓tn_ct, ↓tn_bk, ↓tn_rt, ↓w_iOf, ↓w_iOfN, ↓seq_tup, ↓seq_lst, ↓seq_scr, ↓w_lc, ↓wipe_nil, ↓it_k, ↓w_yes, ↓fr_ok, ↓fr_ex, ↓ms_t, ↓ms_f, ↓ms_n, ↓out_nx, ↓out_v, ↓out_al, ↓mu_nil, ↓mu_t, ↓mu_f, ↓fr_run, ↓st_e, ↓lt_sh, ↓lt_ow, ↓lt_lo, ↓lt_ob, ↓lt_lb, ↓ot_ow, ↓ot_ob, ↓le_nil, ↓le_f, ↓le_t, ↓alf_nil, ↓alf_nil2, ↓alf_v, ↓alf_ff, ↓alf_al, ↓oa_nil, ↓oa_v, ↓oa_al, ↓okr_sh, ↓okr_no, ↓okr_ow, ↓okr_sh1, ↓okr_no1, ↓okr_ow1, ↓okr_sh2, ↓pu_nil, ↓pu_f, ↓pu_al, ↓pu_v, ↓w_call, ↓w_dcall, ↓w_dmeth, ↓mk_k, ↓mk_x, ↓w_make, ↓w_dmake, ↓w_chk_v, ↓w_dBM, ↓w_dBM0, ↓isl_n, ↓isk_n, ↓isl_1, ↓isl_2, ↓isl_3, ↓isl_4, ↓isk_1, ↓isk_2, ↓isk_3, ↓isk_4, ↓isk_5, ↓isk_6, ↓ow_k, ↓w_mutS, ↓w_mutR, ↓f_app, ↓f_pop, ↓f_ext, ↓f_extT, ↓w_rdm, ↓str_k, ↓w_isStr, ↓w_strM, ↓w_fld, ↓ft_sh, ↓ft_ow, ↓ft_lo, ↓fa_sh, ↓fa_lo, ↓ft_al, ↓ob_k, ↓w_setFld, ↓w_fldSet, ↓w_setZ, ↓w_gSub, ↓fow_k, ↓w_gFSub, ↓int_k, ↓w_aug, ↓ch_t, ↓ch_f, ↓w_catch, ↓w_try, ↓w_tryKeep, ↓w_give, ↓w_no, ↓w_dict, ↓w_dictT, ↓w_chain, ↓is_b, ↓w_get2, ↓gz_s, ↓gz_n, ↓w_getZ, ↓o_addI, ↓o_addS, ↓o_addT, ↓o_addL, ↓o_sub, ↓o_mulI, ↓o_mulS, ↓o_mulL, ↓o_fdv, ↓o_mod, ↓o_neg, ↓o_lt, ↓o_le, ↓o_gt, ↓o_ge, ↓b_lt, ↓b_le, ↓o_is, ↓isn_t, ↓isn_1, ↓isn_2, ↓isn_3, ↓isn_4, ↓isn_5, ↓o_eqI, ↓o_eqS, ↓o_ixT, ↓o_ixL, ↓o_ixC, ↓o_ixS, ↓o_ixD, ↓o_slS, ↓o_slT, ↓o_slL, ↓o_slC, ↓o_inD, ↓o_tup, ↓o_lst, ↓o_lenT, ↓o_lenL, ↓o_lenC, ↓o_lenD, ↓o_lenS, ↓o_min, ↓o_max, ↓o_intI, ↓o_intB, ↓o_listT, ↓o_listL, ↓o_listC, ↓o_tupleT, ↓o_tupleL, ↓o_dict, ↓o_rev, ↓o_revT, ↓o_isi, ↓ty_1, ↓ty_2, ↓ty_3, ↓ty_4, ↓ty_5, ↓ty_6, ↓ty_7, ↓tr_b, ↓tr_n, ↓tr_i, ↓tr_t, ↓tr_l, w_chk_al isl_n, w_chk_al isk_n, Bool.false_eq_true, if_true, if_false, true_and, and_true, Bool.bne_false, Bool.bne_true, Bool.not_true, Bool.not_false, decide_true, decide_false, Bool.and_true, Bool.true_and, Bool.or_false, Bool.false_or, Bool.or_true, Bool.true_or, Bool.and_false, Bool.false_and, Bool.or_self, Bool.and_self, List.getElem?_cons_zero, List.getElem?_cons_succ, List.getElem?_nil, List.length_cons, List.length_nil, List.cons_append, List.nil_append, Nat.reduceAdd, Nat.reduceSub, List.replicate_succ, List.replicate_zero, Nat.reduceEqDiff, Int.reduceEq, Int.reduceLT, Int.reduceLE, Nat.reduceLT, Nat.reduceLeDiff, reduceCtorEq, Nat.zero_add, at0, ok_nm, ok_ap, ap_ne]
        exact ⟨a, _, _, _, hna, by rw [List.length_append, List.length_singleton]; omega, fin, rfl⟩
  · rintro ρ ⟨a, t3, t4, t2, hna, hle, hfo, rfl⟩
    rw [gat_spots] at hfo
    subst hfo
    simp -implicitDefEqProofs only [↓k_some, ↓an_some, ↓g_0, ↓g_s, ↓s_0, ↓s_s, ↓td_sh, ↓td_ow, ↓td_lo, ↓rd_v, ↓rd_al, ↓rds_nil, ↓rds_cons, ↓shs_nil, ↓shs_v, ↓shk, ↓shs_al, ↓gt_v, ↓gt_al, ↓if_tt, ↓if_ff, ↓w_ret, ↓w_stk, ↓w_rse, ↓w_bnd, ↓nz_sh, ↓nz_ow, ↓nz_lo, ↓nz_ob, ↓nz_lb, ↓w_var, ↓w_c, ↓w_ans, ↓w_rd, ↓w_rds, ↓w_d2, ↓w_d1, ↓w_dN, ↓w_dS, ↓w_nil, ↓w_cons, ↓gv_sh, ↓gv_ow, ↓gv_ob, ↓fg_nil, ↓gi_v, ↓gi_al, ↓w_giv, ↓w_rdO, ↓w_opT, ↓w_tru, ↓w_bl, ↓bl_d, ↓w_not, ↓w_if, ↓w_and, ↓w_or, ↓w_dNot, ↓w_dAnd, ↓w_dOr, ↓w_oNone, ↓w_oSome, ↓o_int, ↓w_sl, ↓sq_nx, ↓sq_rt, ↓sq_bk, ↓sq_ct, ↓w_seq, ↓w_skip, ↓w_dret, ↓w_retN, ↓w_expr, ↓w_dif, ↓w_brk, ↓w_raise, ↓w_dasg, ↓w_dset, ↓al_sh, ↓al_lo, ↓al_lb, ↓w_asg_v, ↓w_asg_al, ↓w_gsNil, ↓w_gsCons, ↓tp_k, ↓w_gTp, ↓w_for, ↓w_loop_nil, ↓tn_nx, ↓tn_ct, ↓tn_bk, ↓tn_rt, ↓w_iOf, ↓w_iOfN, ↓seq_tup, ↓seq_lst, ↓seq_scr, ↓w_lc, ↓wipe_nil, ↓it_k, ↓w_yes, ↓fr_ok, ↓fr_ex, ↓ms_t, ↓ms_f, ↓ms_n, ↓out_nx, ↓out_v, ↓out_al, ↓mu_nil, ↓mu_t, ↓mu_f, ↓fr_run, ↓st_e, ↓lt_sh, ↓lt_ow, ↓lt_lo, ↓lt_ob, ↓lt_lb, ↓ot_ow, ↓ot_ob, ↓le_nil, ↓le_f, ↓le_t, ↓alf_nil, ↓alf_nil2, ↓alf_v, ↓alf_ff, ↓alf_al, ↓oa_nil, ↓oa_v, ↓oa_al, ↓okr_sh, ↓okr_no, ↓okr_ow, ↓okr_sh1, ↓okr_no1, ↓okr_ow1, ↓okr_sh2, ↓pu_nil, ↓pu_f, ↓pu_al, ↓pu_v, ↓w_call, ↓w_dcall, ↓w_dmeth, ↓mk_k, ↓mk_x, ↓w_make, ↓w_dmake, ↓w_chk_v, ↓w_dBM, ↓w_dBM0, ↓isl_n, ↓isk_n, ↓isl_1, ↓isl_2, ↓isl_3, ↓isl_4, ↓isk_1, ↓isk_2, ↓isk_3, ↓isk_4, ↓isk_5, ↓isk_6, ↓ow_k, ↓w_mutS, ↓w_mutR, ↓f_app, ↓f_pop, ↓f_ext, ↓f_extT, ↓w_rdm, ↓str_k, ↓w_isStr, ↓w_strM, ↓w_fld, ↓ft_sh, ↓ft_ow, ↓ft_lo, ↓fa_sh, ↓fa_lo, ↓ft_al, ↓ob_k, ↓w_setFld, ↓w_fldSet, ↓w_setZ, ↓w_gSub, ↓fow_k, ↓w_gFSub, ↓int_k, ↓w_aug, ↓ch_t, ↓ch_f, ↓w_catch, ↓w_try, ↓w_tryKeep, ↓w_give, ↓w_no, ↓w_dict, ↓w_dictT, ↓w_chain, ↓is_b, ↓w_get2, ↓gz_s, ↓gz_n, ↓w_getZ, ↓o_addI, ↓o_addS, ↓o_addT, ↓o_addL, ↓o_sub, ↓o_mulI, ↓o_mulS, ↓o_mulL, ↓o_fdv, ↓o_mod, ↓o_neg, ↓o_lt, ↓o_le, ↓o_gt, ↓o_ge, ↓b_lt, ↓b_le, ↓o_is, ↓isn_t, ↓isn_1, ↓isn_2, ↓isn_3, ↓isn_4, ↓isn_5, ↓o_eqI, ↓o_eqS, ↓o_ixT, ↓o_ixL, ↓o_ixC, ↓o_ixS, ↓o_ixD, ↓o_slS, ↓o_slT, ↓o_slL, ↓o_slC, ↓o_inD, ↓o_tup, ↓o_lst, ↓o_lenT, ↓o_lenL, ↓o_lenC, ↓o_lenD, ↓o_lenS, ↓o_min, ↓o_max, ↓o_intI, ↓o_intB, ↓o_listT, ↓o_listL, ↓o_listC, ↓o_tupleT, ↓o_tupleL, ↓o_dict, ↓o_rev, ↓o_revT, ↓o_isi, ↓ty_1, ↓ty_2, ↓ty_3, ↓ty_4, ↓ty_5, ↓ty_6, ↓ty_7, ↓tr_b, ↓tr_n, ↓tr_i, ↓tr_t, ↓tr_l, w_chk_al isl_n, w_chk_al isk_n, Bool.false_eq_true, if_true, if_false, true_and, and_true, Bool.bne_false, Bool.bne_true, Bool.not_true, Bool.not_false, decide_true, decide_false, Bool.and_true, Bool.true_and, Bool.or_false, Bool.false_or, Bool.or_true, Bool.true_or, Bool.and_false, Bool.false_and, Bool.or_self, Bool.and_self, List.getElem?_cons_zero, List.getElem?_cons_succ, List.getElem?_nil, List.length_cons, List.length_nil, List.cons_append, List.nil_append, Nat.reduceAdd, Nat.reduceSub, List.replicate_succ, List.replicate_zero, Nat.reduceEqDiff, Int.reduceEq, Int.reduceLT, Int.reduceLE, Nat.reduceLT, Nat.reduceLeDiff, reduceCtorEq, Nat.zero_add]
end Lk32

set_option Elab.async false
set_option linter.all false
set_option maxRecDepth 100000
set_option maxHeartbeats 4000000
namespace Lk32
open PySem L2 V
theorem w_forK {ρ : V.Env} {QO : O → V.Env → Prop} {E : Str → V.Env → Prop} {i : Nat} {g : DG} {b : DS} : Wp (dForK i g b) ρ QO E = Wp (dFor (iOf keysP (dVar i)) g b) ρ QO NoE := by
  unfold dForK Wp nox
  cases dFor (iOf keysP (dVar i)) g b ρ <;> rfl
theorem keys_e {st : List SE} : keysP (dkE st) = some (st.map fun p => .str p.1) := by
  show some ((st.map fun p => (.inr p.1 : Key)).map keyX) = _
  rw [List.map_map]
  rfl
theorem e_filled (m : List SE) : ∀ {k d : Nat} {e : Ex}, Ew d e → d < k → F_filled k [.sh (exD e), .sh (dkE m)] = .ok (.sh (exD (fill m e))) []
  | k + 1, d, _, .nm (s := s) hs, _ => by
    refine FrK.eq ?_
    unfold F_filled d_filled
    have e1 : exD (.nm s) = .tup [.str "name", .str s] := by rw [exD]
    rw [fill]
    cases hl : lk m s with
    | none =>
      have g := fun (K : D → Prop) => get_e (l := m) (s := s) (u := .tup [.str "name", .str s]) (K := K)
      simp only [hl] at g
      simp -implicitDefEqProofs only [e1, ↓k_some, ↓an_some, ↓g_0, ↓g_s, ↓s_0, ↓s_s, ↓td_sh, ↓td_ow, ↓td_lo, ↓rd_v, ↓rd_al, ↓rds_nil, ↓rds_cons, ↓shs_nil, ↓shs_v, ↓shk, ↓shs_al, ↓gt_v, ↓gt_al, ↓if_tt, ↓if_ff, ↓w_ret, ↓w_stk, ↓w_rse, ↓w_bnd, ↓nz_sh, ↓nz_ow, ↓nz_lo, ↓nz_ob, ↓nz_lb, ↓w_var, ↓w_c, ↓w_ans, ↓w_rd, ↓w_rds, ↓w_d2, ↓w_d1, ↓w_dN, ↓w_dS, ↓w_nil, ↓w_cons, ↓gv_sh, ↓gv_ow, ↓gv_ob, ↓fg_nil, ↓gi_v, ↓gi_al, ↓w_giv, ↓w_rdO, ↓w_opT, ↓w_tru, ↓w_bl, ↓bl_d, ↓w_not, ↓w_if, ↓w_and, ↓w_or, ↓w_dNot, ↓w_dAnd, ↓w_dOr, ↓w_oNone, ↓w_oSome, ↓o_int, ↓w_sl, ↓sq_nx, ↓sq_rt, ↓sq_bk, ↓sq_ct, ↓w_seq, ↓w_skip, ↓w_dret, ↓w_retN, ↓w_expr, ↓w_dif, ↓w_brk, ↓w_raise, ↓w_dasg, ↓w_dset, ↓al_sh, ↓al_lo, ↓al_lb, ↓w_asg_v, ↓w_asg_al, ↓w_gsNil, ↓w_gsCons, ↓tp_k, ↓w_gTp, ↓w_for, ↓w_loop_nil, ↓tn_nx, ↓tn_ct, ↓tn_bk, ↓tn_rt, ↓w_iOf, ↓w_iOfN, ↓seq_tup, ↓seq_lst, ↓seq_scr, ↓w_lc, ↓wipe_nil, ↓it_k, ↓w_yes, ↓fr_ok, ↓fr_ex, ↓ms_t, ↓ms_f, ↓ms_n, ↓out_nx, ↓out_v, ↓out_al, ↓mu_nil, ↓mu_t, ↓mu_f, ↓fr_run, ↓st_e, ↓lt_sh, ↓lt_ow, ↓lt_lo, ↓lt_ob, ↓lt_lb, ↓ot_ow, ↓ot_ob, ↓le_nil, ↓le_f, ↓le_t, ↓alf_nil, ↓alf_nil2, ↓alf_v, ↓alf_ff, ↓alf_al, ↓oa_nil, ↓oa_v, ↓oa_al, ↓okr_sh, ↓okr_no, ↓okr_ow, ↓okr_sh1, ↓okr_no1, ↓okr_ow1, ↓okr_sh2, ↓pu_nil, ↓pu_f, ↓pu_al, ↓pu_v, ↓w_call, ↓w_dcall, ↓w_dmeth, ↓mk_k, ↓mk_x, ↓w_make, ↓w_dmake, ↓w_chk_v, ↓w_dBM, ↓w_dBM0, ↓isl_n, ↓isk_n, ↓isl_1, ↓isl_2, ↓isl_3, ↓isl_4, ↓isk_1, ↓isk_2, ↓isk_3, ↓isk_4, ↓isk_5, ↓isk_6, ↓ow_k, ↓w_mutS, ↓w_mutR, ↓f_app, ↓f_pop, ↓f_ext, ↓f_extT, ↓w_rdm, ↓str_k, ↓w_isStr, ↓w_strM, ↓w_fld, ↓ft_sh, ↓ft_ow, ↓ft_lo, ↓fa_sh, ↓fa_lo, ↓ft_al, ↓ob_k, ↓w_setFld, ↓w_fldSet, ↓w_setZ, ↓w_gSub, ↓fow_k, ↓w_gFSub, ↓int_k, ↓w_aug, ↓ch_t, ↓ch_f, ↓w_catch, ↓w_try, ↓w_tryKeep, ↓w_give, ↓w_no, ↓w_dict, ↓w_dictT, ↓w_chain, ↓is_b, ↓w_get2, ↓gz_s, ↓gz_n, ↓w_getZ, ↓o_addI, ↓o_addS, ↓o_addT, ↓o_addL, ↓o_sub, ↓o_mulI, ↓o_mulS, ↓o_mulL, ↓o_fdv, ↓o_mod, ↓o_neg, ↓o_lt, ↓o_le, ↓o_gt, ↓o_ge, ↓b_lt, ↓b_le, ↓o_is, ↓isn_t, ↓isn_1, ↓isn_2, ↓isn_3, ↓isn_4, ↓isn_5, ↓o_eqI, ↓o_eqS, ↓o_ixT, ↓o_ixL, ↓o_ixC, ↓o_ixS, ↓o_ixD, ↓o_slS, ↓o_slT, ↓o_slL, ↓o_slC, ↓o_inD, ↓o_tup, ↓o_lst, ↓o_lenT, ↓o_lenL, ↓o_lenC, ↓o_lenD, ↓o_lenS, ↓o_min, ↓o_max, ↓o_intI, ↓o_intB, ↓o_listT, ↓o_listL, ↓o_listC, ↓o_tupleT, ↓o_tupleL, ↓o_dict, ↓o_rev, ↓o_revT, ↓o_isi, ↓ty_1, ↓ty_2, ↓ty_3, ↓ty_4, ↓ty_5, ↓ty_6, ↓ty_7, ↓tr_b, ↓tr_n, ↓tr_i, ↓tr_t, ↓tr_l, w_chk_al isl_n, w_chk_al isk_n, Bool.false_eq_true, if_true, if_false, true_and, and_true, Bool.bne_false, Bool.bne_true, Bool.not_true, Bool.not_false, decide_true, decide_false, Bool.and_true, Bool.true_and, Bool.or_false, Bool.false_or, Bool.or_true, Bool.true_or, Bool.and_false, Bool.false_and, Bool.or_self, Bool.and_self, List.getElem?_cons_zero, List.getElem?_cons_succ, List.getElem?_nil, List.length_cons, List.length_nil, List.cons_append, List.nil_append, Nat.reduceAdd, Nat.reduceSub, List.replicate_succ, List.replicate_zero, Nat.reduceEqDiff, Int.reduceEq, Int.reduceLT, Int.reduceLE, Nat.reduceLT, Nat.reduceLeDiff, reduceCtorEq, Nat.zero_add, at0, at1, ok_nm, nm_eq, isk_e, g, Option.getD_none]
    | some x =>
      have g := fun (K : D → Prop) => get_e (l := m) (s := s) (u := .tup [.str "name", .str s]) (K := K)
      simp only [hl] at g
      simp -implicitDefEqProofs only [e1, ↓k_some, ↓an_some, ↓g_0, ↓g_s, ↓s_0, ↓s_s, ↓td_sh, ↓td_ow, ↓td_lo, ↓rd_v, ↓rd_al, ↓rds_nil, ↓rds_cons, ↓shs_nil, ↓shs_v, ↓shk, ↓shs_al, ↓gt_v, ↓gt_al, ↓if_tt, ↓if_ff, ↓w_ret, ↓w_stk, ↓w_rse, ↓w_bnd, ↓nz_sh, ↓nz_ow, ↓nz_lo, ↓nz_ob, ↓nz_lb, ↓w_var, ↓w_c, ↓w_ans, ↓w_rd, ↓w_rds, ↓w_d2, ↓w_d1, ↓w_dN, ↓w_dS, ↓w_nil, ↓w_cons, ↓gv_sh, ↓gv_ow, ↓gv_ob, ↓fg_nil, ↓gi_v, ↓gi_al, ↓w_giv, ↓w_rdO, ↓w_opT, ↓w_tru, ↓w_bl, ↓bl_d, ↓w_not, ↓w_if, ↓w_and, ↓w_or, ↓w_dNot, ↓w_dAnd, ↓w_dOr, ↓w_oNone, ↓w_oSome, ↓o_int, ↓w_sl, ↓sq_nx, ↓sq_rt, ↓sq_bk, ↓sq_ct, ↓w_seq, ↓w_skip, ↓w_dret, ↓w_retN, ↓w_expr, ↓w_dif, ↓w_brk, ↓w_raise, ↓w_dasg, ↓w_dset, ↓al_sh, ↓al_lo, ↓al_lb, ↓w_asg_v, ↓w_asg_al, ↓w_gsNil, ↓w_gsCons, ↓tp_k, ↓w_gTp, ↓w_for, ↓w_loop_nil, ↓tn_nx, ↓tn_ct, ↓tn_bk, ↓tn_rt, ↓w_iOf, ↓w_iOfN, ↓seq_tup, ↓seq_lst, ↓seq_scr, ↓w_lc, ↓wipe_nil, ↓it_k, ↓w_yes, ↓fr_ok, ↓fr_ex, ↓ms_t, ↓ms_f, ↓ms_n, ↓out_nx, ↓out_v, ↓out_al, ↓mu_nil, ↓mu_t, ↓mu_f, ↓fr_run, ↓st_e, ↓lt_sh, ↓lt_ow, ↓lt_lo, ↓lt_ob, ↓lt_lb, ↓ot_ow, ↓ot_ob, ↓le_nil, ↓le_f, ↓le_t, ↓alf_nil, ↓alf_nil2, ↓alf_v, ↓alf_ff, ↓alf_al, ↓oa_nil, ↓oa_v, ↓oa_al, ↓okr_sh, ↓okr_no, ↓okr_ow, ↓okr_sh1, ↓okr_no1, ↓okr_ow1, ↓okr_sh2, ↓pu_nil, ↓pu_f, ↓pu_al, ↓pu_v, ↓w_call, ↓w_dcall, ↓w_dmeth, ↓mk_k, ↓mk_x, ↓w_make, ↓w_dmake, ↓w_chk_v, ↓w_dBM, ↓w_dBM0, ↓isl_n, ↓isk_n, ↓isl_1, ↓isl_2, ↓isl_3, ↓isl_4, ↓isk_1, ↓isk_2, ↓isk_3, ↓isk_4, ↓isk_5, ↓isk_6, ↓ow_k, ↓w_mutS, ↓w_mutR, ↓f_app, ↓f_pop, ↓f_ext, ↓f_extT, ↓w_rdm, ↓str_k, ↓w_isStr, ↓w_strM, ↓w_fld, ↓ft_sh, ↓ft_ow, ↓ft_lo, ↓fa_sh, ↓fa_lo, ↓ft_al, ↓ob_k, ↓w_setFld, ↓w_fldSet, ↓w_setZ, ↓w_gSub, ↓fow_k, ↓w_gFSub, ↓int_k, ↓w_aug, ↓ch_t, ↓ch_f, ↓w_catch, ↓w_try, ↓w_tryKeep, ↓w_give, ↓w_no, ↓w_dict, ↓w_dictT, ↓w_chain, ↓is_b, ↓w_get2, ↓gz_s, ↓gz_n, ↓w_getZ, ↓o_addI, ↓o_addS, ↓o_addT, ↓o_addL, ↓o_sub, ↓o_mulI, ↓o_mulS, ↓o_mulL, ↓o_fdv, ↓o_mod, ↓o_neg, ↓o_lt, ↓o_le, ↓o_gt, ↓o_ge, ↓b_lt, ↓b_le, ↓o_is, ↓isn_t, ↓isn_1, ↓isn_2, ↓isn_3, ↓isn_4, ↓isn_5, ↓o_eqI, ↓o_eqS, ↓o_ixT, ↓o_ixL, ↓o_ixC, ↓o_ixS, ↓o_ixD, ↓o_slS, ↓o_slT, ↓o_slL, ↓o_slC, ↓o_inD, ↓o_tup, ↓o_lst, ↓o_lenT, ↓o_lenL, ↓o_lenC, ↓o_lenD, ↓o_lenS, ↓o_min, ↓o_max, ↓o_intI, ↓o_intB, ↓o_listT, ↓o_listL, ↓o_listC, ↓o_tupleT, ↓o_tupleL, ↓o_dict, ↓o_rev, ↓o_revT, ↓o_isi, ↓ty_1, ↓ty_2, ↓ty_3, ↓ty_4, ↓ty_5, ↓ty_6, ↓ty_7, ↓tr_b, ↓tr_n, ↓tr_i, ↓tr_t, ↓tr_l, w_chk_al isl_n, w_chk_al isk_n, Bool.false_eq_true, if_true, if_false, true_and, and_true, Bool.bne_false, Bool.bne_true, Bool.not_true, Bool.not_false, decide_true, decide_false, Bool.and_true, Bool.true_and, Bool.or_false, Bool.false_or, Bool.or_true, Bool.true_or, Bool.and_false, Bool.false_and, Bool.or_self, Bool.and_self, List.getElem?_cons_zero, List.getElem?_cons_succ, List.getElem?_nil, List.length_cons, List.length_nil, List.cons_append, List.nil_append, Nat.reduceAdd, Nat.reduceSub, List.replicate_succ, List.replicate_zero, Nat.reduceEqDiff, Int.reduceEq, Int.reduceLT, Int.reduceLE, Nat.reduceLT, Nat.reduceLeDiff, reduceCtorEq, Nat.zero_add, at0, at1, ok_nm, nm_eq, isk_e, g, Option.getD_some]
  | k + 1, d + 1, _, .ap (b := b) (s := s) (l := l) hs hl ha, hk => by
    refine FrK.eq ?_
    unfold F_filled d_filled
    simp -implicitDefEqProofs only [exD, ↓k_some, ↓an_some, ↓g_0, ↓g_s, ↓s_0, ↓s_s, ↓td_sh, ↓td_ow, ↓td_lo, ↓rd_v, ↓rd_al, ↓rds_nil, ↓rds_cons, ↓shs_nil, ↓shs_v, ↓shk, ↓shs_al, ↓gt_v, ↓gt_al, ↓if_tt, ↓if_ff, ↓w_ret, ↓w_stk, ↓w_rse, ↓w_bnd, ↓nz_sh, ↓nz_ow, ↓nz_lo, ↓nz_ob, ↓nz_lb, ↓w_var, ↓w_c, ↓w_ans, ↓w_rd, ↓w_rds, ↓w_d2, ↓w_d1, ↓w_dN, ↓w_dS, ↓w_nil, ↓w_cons, ↓gv_sh, ↓gv_ow, ↓gv_ob, ↓fg_nil, ↓gi_v, ↓gi_al, ↓w_giv, ↓w_rdO, ↓w_opT, ↓w_tru, ↓w_bl, ↓bl_d, ↓w_not, ↓w_if, ↓w_and, ↓w_or, ↓w_dNot, ↓w_dAnd, ↓w_dOr, ↓w_oNone, ↓w_oSome, ↓o_int, ↓w_sl, ↓sq_nx, ↓sq_rt, ↓sq_bk, ↓sq_ct, ↓w_seq, ↓w_skip, ↓w_dret, ↓w_retN, ↓w_expr, ↓w_dif, ↓w_brk, ↓w_raise, ↓w_dasg, ↓w_dset, ↓al_sh, ↓al_lo, ↓al_lb, ↓w_asg_v, ↓w_asg_al, ↓w_gsNil, ↓w_gsCons, ↓tp_k, ↓w_gTp, ↓w_for, ↓w_loop_nil, ↓tn_nx, ↓tn_ct, ↓tn_bk, ↓tn_rt, ↓w_iOf, ↓w_iOfN, ↓seq_tup, ↓seq_lst, ↓seq_scr, ↓w_lc, ↓wipe_nil, ↓it_k, ↓w_yes, ↓fr_ok, ↓fr_ex, ↓ms_t, ↓ms_f, ↓ms_n, ↓out_nx, ↓out_v, ↓out_al, ↓mu_nil, ↓mu_t, ↓mu_f, ↓fr_run, ↓st_e, ↓lt_sh, ↓lt_ow, ↓lt_lo, ↓lt_ob, ↓lt_lb, ↓ot_ow, ↓ot_ob, ↓le_nil, ↓le_f, ↓le_t, ↓alf_nil, ↓alf_nil2, ↓alf_v, ↓alf_ff, ↓alf_al, ↓oa_nil, ↓oa_v, ↓oa_al, ↓okr_sh, ↓okr_no, ↓okr_ow, ↓okr_sh1, ↓okr_no1, ↓okr_ow1, ↓okr_sh2, ↓pu_nil, ↓pu_f, ↓pu_al, ↓pu_v, ↓w_call, ↓w_dcall, ↓w_dmeth, ↓mk_k, ↓mk_x, ↓w_make, ↓w_dmake, ↓w_chk_v, ↓w_dBM, ↓w_dBM0, ↓isl_n, ↓isk_n, ↓isl_1, ↓isl_2, ↓isl_3, ↓isl_4, ↓isk_1, ↓isk_2, ↓isk_3, ↓isk_4, ↓isk_5, ↓isk_6, ↓ow_k, ↓w_mutS, ↓w_mutR, ↓f_app, ↓f_pop, ↓f_ext, ↓f_extT, ↓w_rdm, ↓str_k, ↓w_isStr, ↓w_strM, ↓w_fld, ↓ft_sh, ↓ft_ow, ↓ft_lo, ↓fa_sh, ↓fa_lo, ↓ft_al, ↓ob_k, ↓w_setFld, ↓w_fldSet, ↓w_setZ, ↓w_gSub, ↓fow_k, ↓w_gFSub, ↓int_k, ↓w_aug, ↓ch_t, ↓ch_f, ↓w_catch, ↓w_try, ↓w_tryKeep, ↓w_give, ↓w_no, ↓w_dict, ↓w_dictT, ↓w_chain, ↓is_b, ↓w_get2, ↓gz_s, ↓gz_n, ↓w_getZ, ↓o_addI, ↓o_addS, ↓o_addT, ↓o_addL, ↓o_sub, ↓o_mulI, ↓o_mulS, ↓o_mulL, ↓o_fdv, ↓o_mod, ↓o_neg, ↓o_lt, ↓o_le, ↓o_gt, ↓o_ge, ↓b_lt, ↓b_le, ↓o_is, ↓isn_t, ↓isn_1, ↓isn_2, ↓isn_3, ↓isn_4, ↓isn_5, ↓o_eqI, ↓o_eqS, ↓o_ixT, ↓o_ixL, ↓o_ixC, ↓o_ixS, ↓o_ixD, ↓o_slS, ↓o_slT, ↓o_slL, ↓o_slC, ↓o_inD, ↓o_tup, ↓o_lst, ↓o_lenT, ↓o_lenL, ↓o_lenC, ↓o_lenD, ↓o_lenS, ↓o_min, ↓o_max, ↓o_intI, ↓o_intB, ↓o_listT, ↓o_listL, ↓o_listC, ↓o_tupleT, ↓o_tupleL, ↓o_dict, ↓o_rev, ↓o_revT, ↓o_isi, ↓ty_1, ↓ty_2, ↓ty_3, ↓ty_4, ↓ty_5, ↓ty_6, ↓ty_7, ↓tr_b, ↓tr_n, ↓tr_i, ↓tr_t, ↓tr_l, w_chk_al isl_n, w_chk_al isk_n, Bool.false_eq_true, if_true, if_false, true_and, and_true, Bool.bne_false, Bool.bne_true, Bool.not_true, Bool.not_false, decide_true, decide_false, Bool.and_true, Bool.true_and, Bool.or_false, Bool.false_or, Bool.or_true, Bool.true_or, Bool.and_false, Bool.false_and, Bool.or_self, Bool.and_self, List.getElem?_cons_zero, List.getElem?_cons_succ, List.getElem?_nil, List.length_cons, List.length_nil, List.cons_append, List.nil_append, Nat.reduceAdd, Nat.reduceSub, List.replicate_succ, List.replicate_zero, Nat.reduceEqDiff, Int.reduceEq, Int.reduceLT, Int.reduceLE, Nat.reduceLT, Nat.reduceLeDiff, reduceCtorEq, Nat.zero_add, at0, at1, at2, ok_nm, ok_ap, ap_ne, exDs_map, sz]
    refine wp_all exD (fun e => exD (fill m e)) (by omega) ?_ ?_
    · intro x hx
      have := e_filled m (k := k) (ha x hx) (by omega)
      simp -implicitDefEqProofs only [wipeE, List.set_cons_succ, List.set_cons_zero, ↓k_some, ↓an_some, ↓g_0, ↓g_s, ↓s_0, ↓s_s, ↓td_sh, ↓td_ow, ↓td_lo, ↓rd_v, ↓rd_al, ↓rds_nil, ↓rds_cons, ↓shs_nil, ↓shs_v, ↓shk, ↓shs_al, ↓gt_v, ↓gt_al, ↓if_tt, ↓if_ff, ↓w_ret, ↓w_stk, ↓w_rse, ↓w_bnd, ↓nz_sh, ↓nz_ow, ↓nz_lo, ↓nz_ob, ↓nz_lb, ↓w_var, ↓w_c, ↓w_ans, ↓w_rd, ↓w_rds, ↓w_d2, ↓w_d1, ↓w_dN, ↓w_dS, ↓w_nil, ↓w_cons, ↓gv_sh, ↓gv_ow, ↓gv_ob, ↓fg_nil, ↓gi_v, ↓gi_al, ↓w_giv, ↓w_rdO, ↓w_opT, ↓w_tru, ↓w_bl, ↓bl_d, ↓w_not, ↓w_if, ↓w_and, ↓w_or, ↓w_dNot, ↓w_dAnd, ↓w_dOr, ↓w_oNone, ↓w_oSome, ↓o_int, ↓w_sl, ↓sq_nx, ↓sq_rt, ↓sq_bk, ↓sq_ct, ↓w_seq, ↓w_skip, ↓w_dret, ↓w_retN, ↓w_expr, ↓w_dif, ↓w_brk, ↓w_raise, ↓w_dasg, ↓w_dset, ↓al_sh, ↓al_lo, ↓al_lb, ↓w_asg_v, ↓w_asg_al, ↓w_gsNil, ↓w_gsCons, ↓tp_k, ↓w_gTp, ↓w_for, ↓w_loop_nil, ↓tn_nx, ↓tn_ct, ↓tn_bk, ↓tn_rt, ↓w_iOf, ↓w_iOfN, ↓seq_tup, ↓seq_lst, ↓seq_scr, ↓w_lc, ↓wipe_nil, ↓it_k, ↓w_yes, ↓fr_ok, ↓fr_ex, ↓ms_t, ↓ms_f, ↓ms_n, ↓out_nx, ↓out_v, ↓out_al, ↓mu_nil, ↓mu_t, ↓mu_f, ↓fr_run, ↓st_e, ↓lt_sh, ↓lt_ow, ↓lt_lo, ↓lt_ob, ↓lt_lb, ↓ot_ow, ↓ot_ob, ↓le_nil, ↓le_f, ↓le_t, ↓alf_nil, ↓alf_nil2, ↓alf_v, ↓alf_ff, ↓alf_al, ↓oa_nil, ↓oa_v, ↓oa_al, ↓okr_sh, ↓okr_no, ↓okr_ow, ↓okr_sh1, ↓okr_no1, ↓okr_ow1, ↓okr_sh2, ↓pu_nil, ↓pu_f, ↓pu_al, ↓pu_v, ↓w_call, ↓w_dcall, ↓w_dmeth, ↓mk_k, ↓mk_x, ↓w_make, ↓w_dmake, ↓w_chk_v, ↓w_dBM, ↓w_dBM0, ↓isl_n, ↓isk_n, ↓isl_1, ↓isl_2, ↓isl_3, ↓isl_4, ↓isk_1, ↓isk_2, ↓isk_3, ↓isk_4, ↓isk_5, ↓isk_6, ↓ow_k, ↓w_mutS, ↓w_mutR, ↓f_app, ↓f_pop, ↓f_ext, ↓f_extT, ↓w_rdm, ↓str_k, ↓w_isStr, ↓w_strM, ↓w_fld, ↓ft_sh, ↓ft_ow, ↓ft_lo, ↓fa_sh, ↓fa_lo, ↓ft_al, ↓ob_k, ↓w_setFld, ↓w_fldSet, ↓w_setZ, ↓w_gSub, ↓fow_k, ↓w_gFSub, ↓int_k, ↓w_aug, ↓ch_t, ↓ch_f, ↓w_catch, ↓w_try, ↓w_tryKeep, ↓w_give, ↓w_no, ↓w_dict, ↓w_dictT, ↓w_chain, ↓is_b, ↓w_get2, ↓gz_s, ↓gz_n, ↓w_getZ, ↓o_addI, ↓o_addS, ↓o_addT, ↓o_addL, ↓o_sub, ↓o_mulI, ↓o_mulS, ↓o_mulL, ↓o_fdv, ↓o_mod, ↓o_neg, ↓o_lt, ↓o_le, ↓o_gt, ↓o_ge, ↓b_lt, ↓b_le, ↓o_is, ↓isn_t, ↓isn_1, ↓isn_2, ↓isn_3, ↓isn_4, ↓isn_5, ↓o_eqI, ↓o_eqS, ↓o_ixT, ↓o_ixL, ↓o_ixC, ↓o_ixS, ↓o_ixD, ↓o_slS, ↓o_slT, ↓o_slL, ↓o_slC, ↓o_inD, ↓o_tup, ↓o_lst, ↓o_lenT, ↓o_lenL, ↓o_lenC, ↓o_lenD, ↓o_lenS, ↓o_min, ↓o_max, ↓o_intI, ↓o_intB, ↓o_listT, ↓o_listL, ↓o_listC, ↓o_tupleT, ↓o_tupleL, ↓o_dict, ↓o_rev, ↓o_revT, ↓o_isi, ↓ty_1, ↓ty_2, ↓ty_3, ↓ty_4, ↓ty_5, ↓ty_6, ↓ty_7, ↓tr_b, ↓tr_n, ↓tr_i, ↓tr_t, ↓tr_l, w_chk_al isl_n, w_chk_al isk_n, Bool.false_eq_true, if_true, if_false, true_and, and_true, Bool.bne_false, Bool.bne_true, Bool.not_true, Bool.not_false, decide_true, decide_false, Bool.and_true, Bool.true_and, Bool.or_false, Bool.false_or, Bool.or_true, Bool.true_or, Bool.and_false, Bool.false_and, Bool.or_self, Bool.and_self, List.getElem?_cons_zero, List.getElem?_cons_succ, List.getElem?_nil, List.length_cons, List.length_nil, List.cons_append, List.nil_append, Nat.reduceAdd, Nat.reduceSub, List.replicate_succ, List.replicate_zero, Nat.reduceEqDiff, Int.reduceEq, Int.reduceLT, Int.reduceLE, Nat.reduceLT, Nat.reduceLeDiff, reduceCtorEq, Nat.zero_add, this]
    · have em : l.map (fun e => exD (fill m e)) = exDs (fills m l) := by
        rw [exDs_map, fills_map, List.map_map]
        rfl
      simp -implicitDefEqProofs only [wipeE, List.set_cons_succ, List.set_cons_zero, ↓k_some, ↓an_some, ↓g_0, ↓g_s, ↓s_0, ↓s_s, ↓td_sh, ↓td_ow, ↓td_lo, ↓rd_v, ↓rd_al, ↓rds_nil, ↓rds_cons, ↓shs_nil, ↓shs_v, ↓shk, ↓shs_al, ↓gt_v, ↓gt_al, ↓if_tt, ↓if_ff, ↓w_ret, ↓w_stk, ↓w_rse, ↓w_bnd, ↓nz_sh, ↓nz_ow, ↓nz_lo, ↓nz_ob, ↓nz_lb, ↓w_var, ↓w_c, ↓w_ans, ↓w_rd, ↓w_rds, ↓w_d2, ↓w_d1, ↓w_dN, ↓w_dS, ↓w_nil, ↓w_cons, ↓gv_sh, ↓gv_ow, ↓gv_ob, ↓fg_nil, ↓gi_v, ↓gi_al, ↓w_giv, ↓w_rdO, ↓w_opT, ↓w_tru, ↓w_bl, ↓bl_d, ↓w_not, ↓w_if, ↓w_and, ↓w_or, ↓w_dNot, ↓w_dAnd, ↓w_dOr, ↓w_oNone, ↓w_oSome, ↓o_int, ↓w_sl, ↓sq_nx, ↓sq_rt, ↓sq_bk, ↓sq_ct, ↓w_seq, ↓w_skip, ↓w_dret, ↓w_retN, ↓w_expr, ↓w_dif, ↓w_brk, ↓w_raise, ↓w_dasg, ↓w_dset, ↓al_sh, ↓al_lo, ↓al_lb, ↓w_asg_v, ↓w_asg_al, ↓w_gsNil, ↓w_gsCons, ↓tp_k, ↓w_gTp, ↓w_for, ↓w_loop_nil, ↓tn_nx, ↓tn_ct, ↓tn_bk, ↓tn_rt, ↓w_iOf, ↓w_iOfN, ↓seq_tup, ↓seq_lst, ↓seq_scr, ↓w_lc, ↓wipe_nil, ↓it_k, ↓w_yes, ↓fr_ok, ↓fr_ex, ↓ms_t, ↓ms_f, ↓ms_n, ↓out_nx, ↓out_v, ↓out_al, ↓mu_nil, ↓mu_t, ↓mu_f, ↓fr_run, ↓st_e, ↓lt_sh, ↓lt_ow, ↓lt_lo, ↓lt_ob, ↓lt_lb, ↓ot_ow, ↓ot_ob, ↓le_nil, ↓le_f, ↓le_t, ↓alf_nil, ↓alf_nil2, ↓alf_v, ↓alf_ff, ↓alf_al, ↓oa_nil, ↓oa_v, ↓oa_al, ↓okr_sh, ↓okr_no, ↓okr_ow, ↓okr_sh1, ↓okr_no1, ↓okr_ow1, ↓okr_sh2, ↓pu_nil, ↓pu_f, ↓pu_al, ↓pu_v, ↓w_call, ↓w_dcall, ↓w_dmeth, ↓mk_k, ↓mk_x, ↓w_make, ↓w_dmake, ↓w_chk_v, ↓w_dBM, ↓w_dBM0, ↓isl_n, ↓isk_n, ↓isl_1, ↓isl_2, ↓isl_3, ↓isl_4, ↓isk_1, ↓isk_2, ↓isk_3, ↓isk_4, ↓isk_5, ↓isk_6, ↓ow_k, ↓w_mutS, ↓w_mutR, ↓f_app, ↓f_pop, ↓f_ext, ↓f_extT, ↓w_rdm, ↓str_k, ↓w_isStr, ↓w_strM, ↓w_fld, ↓ft_sh, ↓ft_ow, ↓ft_lo, ↓fa_sh, ↓fa_lo, ↓ft_al, ↓ob_k, ↓w_setFld, ↓w_fldSet, ↓w_setZ, ↓w_gSub, ↓fow_k, ↓w_gFSub, ↓int_k, ↓w_aug, ↓ch_t, ↓ch_f, ↓w_catch, ↓w_try, ↓w_tryKeep, ↓w_give, ↓w_no, ↓w_dict, ↓w_dictT, ↓w_chain, ↓is_b, ↓w_get2, ↓gz_s, ↓gz_n, ↓w_getZ, ↓o_addI, ↓o_addS, ↓o_addT, ↓o_addL, ↓o_sub, ↓o_mulI, ↓o_mulS, ↓o_mulL, ↓o_fdv, ↓o_mod, ↓o_neg, ↓o_lt, ↓o_le, ↓o_gt, ↓o_ge, ↓b_lt, ↓b_le, ↓o_is, ↓isn_t, ↓isn_1, ↓isn_2, ↓isn_3, ↓isn_4, ↓isn_5, ↓o_eqI, ↓o_eqS, ↓o_ixT, ↓o_ixL, ↓o_ixC, ↓o_ixS, ↓o_ixD, ↓o_slS, ↓o_slT, ↓o_slL, ↓o_slC, ↓o_inD, ↓o_tup, ↓o_lst, ↓o_lenT, ↓o_lenL, ↓o_lenC, ↓o_lenD, ↓o_lenS, ↓o_min, ↓o_max, ↓o_intI, ↓o_intB, ↓o_listT, ↓o_listL, ↓o_listC, ↓o_tupleT, ↓o_tupleL, ↓o_dict, ↓o_rev, ↓o_revT, ↓o_isi, ↓ty_1, ↓ty_2, ↓ty_3, ↓ty_4, ↓ty_5, ↓ty_6, ↓ty_7, ↓tr_b, ↓tr_n, ↓tr_i, ↓tr_t, ↓tr_l, w_chk_al isl_n, w_chk_al isk_n, Bool.false_eq_true, if_true, if_false, true_and, and_true, Bool.bne_false, Bool.bne_true, Bool.not_true, Bool.not_false, decide_true, decide_false, Bool.and_true, Bool.true_and, Bool.or_false, Bool.false_or, Bool.or_true, Bool.true_or, Bool.and_false, Bool.false_and, Bool.or_self, Bool.and_self, List.getElem?_cons_zero, List.getElem?_cons_succ, List.getElem?_nil, List.length_cons, List.length_nil, List.cons_append, List.nil_append, Nat.reduceAdd, Nat.reduceSub, List.replicate_succ, List.replicate_zero, Nat.reduceEqDiff, Int.reduceEq, Int.reduceLT, Int.reduceLE, Nat.reduceLT, Nat.reduceLeDiff, reduceCtorEq, Nat.zero_add, sz, em]
      rw [fill, exD]
theorem e_law_filled {m : List SE} (hm : ∀ p ∈ m, Nm p.1) : ∀ {k d : Nat} {e : Ex}, Ew d e → d < k → F__law_filled k [.sh (exD e), .sh (dkE m)] = .ok (.sh (exD (fill m e))) []
  | k + 1, d, _, .nm (s := s) hs, _ => by
    refine FrK.eq ?_
    unfold F__law_filled d__law_filled
    have e1 : exD (.nm s) = .tup [.str "name", .str s] := by rw [exD]
    rw [fill]
    simp -implicitDefEqProofs only [e1, ↓k_some, ↓an_some, ↓g_0, ↓g_s, ↓s_0, ↓s_s, ↓td_sh, ↓td_ow, ↓td_lo, ↓rd_v, ↓rd_al, ↓rds_nil, ↓rds_cons, ↓shs_nil, ↓shs_v, ↓shk, ↓shs_al, ↓gt_v, ↓gt_al, ↓if_tt, ↓if_ff, ↓w_ret, ↓w_stk, ↓w_rse, ↓w_bnd, ↓nz_sh, ↓nz_ow, ↓nz_lo, ↓nz_ob, ↓nz_lb, ↓w_var, ↓w_c, ↓w_ans, ↓w_rd, ↓w_rds, ↓w_d2, ↓w_d1, ↓w_dN, ↓w_dS, ↓w_nil, ↓w_cons, ↓gv_sh, ↓gv_ow, ↓gv_ob, ↓fg_nil, ↓gi_v, ↓gi_al, ↓w_giv, ↓w_rdO, ↓w_opT, ↓w_tru, ↓w_bl, ↓bl_d, ↓w_not, ↓w_if, ↓w_and, ↓w_or, ↓w_dNot, ↓w_dAnd, ↓w_dOr, ↓w_oNone, ↓w_oSome, ↓o_int, ↓w_sl, ↓sq_nx, ↓sq_rt, ↓sq_bk, ↓sq_ct, ↓w_seq, ↓w_skip, ↓w_dret, ↓w_retN, ↓w_expr, ↓w_dif, ↓w_brk, ↓w_raise, ↓w_dasg, ↓w_dset, ↓al_sh, ↓al_lo, ↓al_lb, ↓w_asg_v, ↓w_asg_al, ↓w_gsNil, ↓w_gsCons, ↓tp_k, ↓w_gTp, ↓w_for, ↓w_loop_nil, ↓tn_nx, ↓tn_ct, ↓tn_bk, ↓tn_rt, ↓w_iOf, ↓w_iOfN, ↓seq_tup, ↓seq_lst, ↓seq_scr, ↓w_lc, ↓wipe_nil, ↓it_k, ↓w_yes, ↓fr_ok, ↓fr_ex, ↓ms_t, ↓ms_f, ↓ms_n, ↓out_nx, ↓out_v, ↓out_al, ↓mu_nil, ↓mu_t, ↓mu_f, ↓fr_run, ↓st_e, ↓lt_sh, ↓lt_ow, ↓lt_lo, ↓lt_ob, ↓lt_lb, ↓ot_ow, ↓ot_ob, ↓le_nil, ↓le_f, ↓le_t, ↓alf_nil, ↓alf_nil2, ↓alf_v, ↓alf_ff, ↓alf_al, ↓oa_nil, ↓oa_v, ↓oa_al, ↓okr_sh, ↓okr_no, ↓okr_ow, ↓okr_sh1, ↓okr_no1, ↓okr_ow1, ↓okr_sh2, ↓pu_nil, ↓pu_f, ↓pu_al, ↓pu_v, ↓w_call, ↓w_dcall, ↓w_dmeth, ↓mk_k, ↓mk_x, ↓w_make, ↓w_dmake, ↓w_chk_v, ↓w_dBM, ↓w_dBM0, ↓isl_n, ↓isk_n, ↓isl_1, ↓isl_2, ↓isl_3, ↓isl_4, ↓isk_1, ↓isk_2, ↓isk_3, ↓isk_4, ↓isk_5, ↓isk_6, ↓ow_k, ↓w_mutS, ↓w_mutR, ↓f_app, ↓f_pop, ↓f_ext, ↓f_extT, ↓w_rdm, ↓str_k, ↓w_isStr, ↓w_strM, ↓w_fld, ↓ft_sh, ↓ft_ow, ↓ft_lo, ↓fa_sh, ↓fa_lo, ↓ft_al, ↓ob_k, ↓w_setFld, ↓w_fldSet, ↓w_setZ, ↓w_gSub, ↓fow_k, ↓w_gFSub, ↓int_k, ↓w_aug, ↓ch_t, ↓ch_f, ↓w_catch, ↓w_try, ↓w_tryKeep, ↓w_give, ↓w_no, ↓w_dict, ↓w_dictT, ↓w_chain, ↓is_b, ↓w_get2, ↓gz_s, ↓gz_n, ↓w_getZ, ↓o_addI, ↓o_addS, ↓o_addT, ↓o_addL, ↓o_sub, ↓o_mulI, ↓o_mulS, ↓o_mulL, ↓o_fdv, ↓o_mod, ↓o_neg, ↓o_lt, ↓o_le, ↓o_gt, ↓o_ge, ↓b_lt, ↓b_le, ↓o_is, ↓isn_t, ↓isn_1, ↓isn_2, ↓isn_3, ↓isn_4, ↓isn_5, ↓o_eqI, ↓o_eqS, ↓o_ixT, ↓o_ixL, ↓o_ixC, ↓o_ixS, ↓o_ixD, ↓o_slS, ↓o_slT, ↓o_slL, ↓o_slC, ↓o_inD, ↓o_tup, ↓o_lst, ↓o_lenT, ↓o_lenL, ↓o_lenC, ↓o_lenD, ↓o_lenS, ↓o_min, ↓o_max, ↓o_intI, ↓o_intB, ↓o_listT, ↓o_listL, ↓o_listC, ↓o_tupleT, ↓o_tupleL, ↓o_dict, ↓o_rev, ↓o_revT, ↓o_isi, ↓ty_1, ↓ty_2, ↓ty_3, ↓ty_4, ↓ty_5, ↓ty_6, ↓ty_7, ↓tr_b, ↓tr_n, ↓tr_i, ↓tr_t, ↓tr_l, w_chk_al isl_n, w_chk_al isk_n, Bool.false_eq_true, if_true, if_false, true_and, and_true, Bool.bne_false, Bool.bne_true, Bool.not_true, Bool.not_false, decide_true, decide_false, Bool.and_true, Bool.true_and, Bool.or_false, Bool.false_or, Bool.or_true, Bool.true_or, Bool.and_false, Bool.false_and, Bool.or_self, Bool.and_self, List.getElem?_cons_zero, List.getElem?_cons_succ, List.getElem?_nil, List.length_cons, List.length_nil, List.cons_append, List.nil_append, Nat.reduceAdd, Nat.reduceSub, List.replicate_succ, List.replicate_zero, Nat.reduceEqDiff, Int.reduceEq, Int.reduceLT, Int.reduceLE, Nat.reduceLT, Nat.reduceLeDiff, reduceCtorEq, Nat.zero_add, at0, at1, ok_nm, nm_eq, w_forK, keys_e]
    refine wp_loop (fun p : SE => D.str p.1) (fun rest ρ => ∃ (pre : List SE) (t2 : V.T), m = pre ++ rest ∧ lk rest s = lk m s ∧ ρ = [.sh (.tup [.str "name", .str s]), .sh (dkE m), t2, .no]) ⟨[], _, rfl, rfl, rfl⟩ ?_ ?_
    · rintro p rest ρ ⟨pre, t2, hp, hlk, rfl⟩
      have hpm : p ∈ m := by rw [hp]; simp
      have hpo := (hm p hpm).ok
      rw [lk] at hlk
      by_cases z : p.1 = s
      · rw [if_pos z] at hlk
        rw [← hlk]
        have ix := fun (K : V.T → Prop) => ix_e (hlk.symm) (K := K)
        simp -implicitDefEqProofs only [b1__law_filled, ↓k_some, ↓an_some, ↓g_0, ↓g_s, ↓s_0, ↓s_s, ↓td_sh, ↓td_ow, ↓td_lo, ↓rd_v, ↓rd_al, ↓rds_nil, ↓rds_cons, ↓shs_nil, ↓shs_v, ↓shk, ↓shs_al, ↓gt_v, ↓gt_al, ↓if_tt, ↓if_ff, ↓w_ret, ↓w_stk, ↓w_rse, ↓w_bnd, ↓nz_sh, ↓nz_ow, ↓nz_lo, ↓nz_ob, ↓nz_lb, ↓w_var, ↓w_c, ↓w_ans, ↓w_rd, ↓w_rds, ↓w_d2, ↓w_d1, ↓w_dN, ↓w_dS, ↓w_nil, ↓w_cons, ↓gv_sh, ↓gv_ow, ↓gv_ob, ↓fg_nil, ↓gi_v, ↓gi_al, ↓w_giv, ↓w_rdO, ↓w_opT, ↓w_tru, ↓w_bl, ↓bl_d, ↓w_not, ↓w_if, ↓w_and, ↓w_or, ↓w_dNot, ↓w_dAnd, ↓w_dOr, ↓w_oNone, ↓w_oSome, ↓o_int, ↓w_sl, ↓sq_nx, ↓sq_rt, ↓sq_bk, ↓sq_ct, ↓w_seq, ↓w_skip, ↓w_dret, ↓w_retN, ↓w_expr, ↓w_dif, ↓w_brk, ↓w_raise, ↓w_dasg, ↓w_dset, ↓al_sh, ↓al_lo, ↓al_lb, ↓w_asg_v, ↓w_asg_al, ↓w_gsNil, ↓w_gsCons, ↓tp_k, ↓w_gTp, ↓w_for, ↓w_loop_nil, ↓tn_nx, ↓tn_ct, ↓tn_bk, ↓tn_rt, ↓w_iOf, ↓w_iOfN, ↓seq_tup, ↓seq_lst, ↓seq_scr, ↓w_lc, ↓wipe_nil, ↓it_k, ↓w_yes, ↓fr_ok, ↓fr_ex, ↓ms_t, ↓ms_f, ↓ms_n, ↓out_nx, ↓out_v, ↓out_al, ↓mu_nil, ↓mu_t, ↓mu_f, ↓fr_run, ↓st_e, ↓lt_sh, ↓lt_ow, ↓lt_lo, ↓lt_ob, ↓lt_lb, ↓ot_ow, ↓ot_ob, ↓le_nil, ↓le_f, ↓le_t, ↓alf_nil, ↓alf_nil2, ↓alf_v, ↓alf_ff, ↓alf_al, ↓oa_nil, ↓oa_v, ↓oa_al, ↓okr_sh, ↓okr_no, ↓okr_ow, ↓okr_sh1, ↓okr_no1, ↓okr_ow1, ↓okr_sh2, ↓pu_nil, ↓pu_f, ↓pu_al, ↓pu_v, ↓w_call, ↓w_dcall, ↓w_dmeth, ↓mk_k, ↓mk_x, ↓w_make, ↓w_dmake, ↓w_chk_v, ↓w_dBM, ↓w_dBM0, ↓isl_n, ↓isk_n, ↓isl_1, ↓isl_2, ↓isl_3, ↓isl_4, ↓isk_1, ↓isk_2, ↓isk_3, ↓isk_4, ↓isk_5, ↓isk_6, ↓ow_k, ↓w_mutS, ↓w_mutR, ↓f_app, ↓f_pop, ↓f_ext, ↓f_extT, ↓w_rdm, ↓str_k, ↓w_isStr, ↓w_strM, ↓w_fld, ↓ft_sh, ↓ft_ow, ↓ft_lo, ↓fa_sh, ↓fa_lo, ↓ft_al, ↓ob_k, ↓w_setFld, ↓w_fldSet, ↓w_setZ, ↓w_gSub, ↓fow_k, ↓w_gFSub, ↓int_k, ↓w_aug, ↓ch_t, ↓ch_f, ↓w_catch, ↓w_try, ↓w_tryKeep, ↓w_give, ↓w_no, ↓w_dict, ↓w_dictT, ↓w_chain, ↓is_b, ↓w_get2, ↓gz_s, ↓gz_n, ↓w_getZ, ↓o_addI, ↓o_addS, ↓o_addT, ↓o_addL, ↓o_sub, ↓o_mulI, ↓o_mulS, ↓o_mulL, ↓o_fdv, ↓o_mod, ↓o_neg, ↓o_lt, ↓o_le, ↓o_gt, ↓o_ge, ↓b_lt, ↓b_le, ↓o_is, ↓isn_t, ↓isn_1, ↓isn_2, ↓isn_3, ↓isn_4, ↓isn_5, ↓o_eqI, ↓o_eqS, ↓o_ixT, ↓o_ixL, ↓o_ixC, ↓o_ixS, ↓o_ixD, ↓o_slS, ↓o_slT, ↓o_slL, ↓o_slC, ↓o_inD, ↓o_tup, ↓o_lst, ↓o_lenT, ↓o_lenL, ↓o_lenC, ↓o_lenD, ↓o_lenS, ↓o_min, ↓o_max, ↓o_intI, ↓o_intB, ↓o_listT, ↓o_listL, ↓o_listC, ↓o_tupleT, ↓o_tupleL, ↓o_dict, ↓o_rev, ↓o_revT, ↓o_isi, ↓ty_1, ↓ty_2, ↓ty_3, ↓ty_4, ↓ty_5, ↓ty_6, ↓ty_7, ↓tr_b, ↓tr_n, ↓tr_i, ↓tr_t, ↓tr_l, w_chk_al isl_n, w_chk_al isk_n, Bool.false_eq_true, if_true, if_false, true_and, and_true, Bool.bne_false, Bool.bne_true, Bool.not_true, Bool.not_false, decide_true, decide_false, Bool.and_true, Bool.true_and, Bool.or_false, Bool.false_or, Bool.or_true, Bool.true_or, Bool.and_false, Bool.false_and, Bool.or_self, Bool.and_self, List.getElem?_cons_zero, List.getElem?_cons_succ, List.getElem?_nil, List.length_cons, List.length_nil, List.cons_append, List.nil_append, Nat.reduceAdd, Nat.reduceSub, List.replicate_succ, List.replicate_zero, Nat.reduceEqDiff, Int.reduceEq, Int.reduceLT, Int.reduceLE, Nat.reduceLT, Nat.reduceLeDiff, reduceCtorEq, Nat.zero_add, at1, hpo, hs.ok, decide_eq_true z, z, ix, Option.getD_some]
      · rw [if_neg z] at hlk
        simp -implicitDefEqProofs only [b1__law_filled, ↓k_some, ↓an_some, ↓g_0, ↓g_s, ↓s_0, ↓s_s, ↓td_sh, ↓td_ow, ↓td_lo, ↓rd_v, ↓rd_al, ↓rds_nil, ↓rds_cons, ↓shs_nil, ↓shs_v, ↓shk, ↓shs_al, ↓gt_v, ↓gt_al, ↓if_tt, ↓if_ff, ↓w_ret, ↓w_stk, ↓w_rse, ↓w_bnd, ↓nz_sh, ↓nz_ow, ↓nz_lo, ↓nz_ob, ↓nz_lb, ↓w_var, ↓w_c, ↓w_ans, ↓w_rd, ↓w_rds, ↓w_d2, ↓w_d1, ↓w_dN, ↓w_dS, ↓w_nil, ↓w_cons, ↓gv_sh, ↓gv_ow, ↓gv_ob, ↓fg_nil, ↓gi_v, ↓gi_al, ↓w_giv, ↓w_rdO, ↓w_opT, ↓w_tru, ↓w_bl, ↓bl_d, ↓w_not, ↓w_if, ↓w_and, ↓w_or, ↓w_dNot, ↓w_dAnd, ↓w_dOr, ↓w_oNone, ↓w_oSome, ↓o_int, ↓w_sl, ↓sq_nx, ↓sq_rt, ↓sq_bk, ↓sq_ct, ↓w_seq, ↓w_skip, ↓w_dret, ↓w_retN, ↓w_expr, ↓w_dif, ↓w_brk, ↓w_raise, ↓w_dasg, ↓w_dset, ↓al_sh, ↓al_lo, ↓al_lb, ↓w_asg_v, ↓w_asg_al, ↓w_gsNil, ↓w_gsCons, ↓tp_k, ↓w_gTp, ↓w_for, ↓w_loop_nil, ↓tn_nx, ↓tn_ct, ↓tn_bk, ↓tn_rt, ↓w_iOf, ↓w_iOfN, ↓seq_tup, ↓seq_lst, ↓seq_scr, ↓w_lc, ↓wipe_nil, ↓it_k, ↓w_yes, ↓fr_ok, ↓fr_ex, ↓ms_t, ↓ms_f, ↓ms_n, ↓out_nx, ↓out_v, ↓out_al, ↓mu_nil, ↓mu_t, ↓mu_f, ↓fr_run, ↓st_e, ↓lt_sh, ↓lt_ow, ↓lt_lo, ↓lt_ob, ↓lt_lb, ↓ot_ow, ↓ot_ob, ↓le_nil, ↓le_f, ↓le_t, ↓alf_nil, ↓alf_nil2, ↓alf_v, ↓alf_ff, ↓alf_al, ↓oa_nil, ↓oa_v, ↓oa_al, ↓okr_sh, ↓okr_no, ↓okr_ow, ↓okr_sh1, ↓okr_no1, ↓okr_ow1, ↓okr_sh2, ↓pu_nil, ↓pu_f, ↓pu_al, ↓pu_v, ↓w_call, ↓w_dcall, ↓w_dmeth, ↓mk_k, ↓mk_x, ↓w_make, ↓w_dmake, ↓w_chk_v, ↓w_dBM, ↓w_dBM0, ↓isl_n, ↓isk_n, ↓isl_1, ↓isl_2, ↓isl_3, ↓isl_4, ↓isk_1, ↓isk_2, ↓isk_3, ↓isk_4, ↓isk_5, ↓isk_6, ↓ow_k, ↓w_mutS, ↓w_mutR, ↓f_app, ↓f_pop, ↓f_ext, ↓f_extT, ↓w_rdm, ↓str_k, ↓w_isStr, ↓w_strM, ↓w_fld, ↓ft_sh, ↓ft_ow, ↓ft_lo, ↓fa_sh, ↓fa_lo, ↓ft_al, ↓ob_k, ↓w_setFld, ↓w_fldSet, ↓w_setZ, ↓w_gSub, ↓fow_k, ↓w_gFSub, ↓int_k, ↓w_aug, ↓ch_t, ↓ch_f, ↓w_catch, ↓w_try, ↓w_tryKeep, ↓w_give, ↓w_no, ↓w_dict, ↓w_dictT, ↓w_chain, ↓is_b, ↓w_get2, ↓gz_s, ↓gz_n, ↓w_getZ, ↓o_addI, ↓o_addS, ↓o_addT, ↓o_addL, ↓o_sub, ↓o_mulI, ↓o_mulS, ↓o_mulL, ↓o_fdv, ↓o_mod, ↓o_neg, ↓o_lt, ↓o_le, ↓o_gt, ↓o_ge, ↓b_lt, ↓b_le, ↓o_is, ↓isn_t, ↓isn_1, ↓isn_2, ↓isn_3, ↓isn_4, ↓isn_5, ↓o_eqI, ↓o_eqS, ↓o_ixT, ↓o_ixL, ↓o_ixC, ↓o_ixS, ↓o_ixD, ↓o_slS, ↓o_slT, ↓o_slL, ↓o_slC, ↓o_inD, ↓o_tup, ↓o_lst, ↓o_lenT, ↓o_lenL, ↓o_lenC, ↓o_lenD, ↓o_lenS, ↓o_min, ↓o_max, ↓o_intI, ↓o_intB, ↓o_listT, ↓o_listL, ↓o_listC, ↓o_tupleT, ↓o_tupleL, ↓o_dict, ↓o_rev, ↓o_revT, ↓o_isi, ↓ty_1, ↓ty_2, ↓ty_3, ↓ty_4, ↓ty_5, ↓ty_6, ↓ty_7, ↓tr_b, ↓tr_n, ↓tr_i, ↓tr_t, ↓tr_l, w_chk_al isl_n, w_chk_al isk_n, Bool.false_eq_true, if_true, if_false, true_and, and_true, Bool.bne_false, Bool.bne_true, Bool.not_true, Bool.not_false, decide_true, decide_false, Bool.and_true, Bool.true_and, Bool.or_false, Bool.false_or, Bool.or_true, Bool.true_or, Bool.and_false, Bool.false_and, Bool.or_self, Bool.and_self, List.getElem?_cons_zero, List.getElem?_cons_succ, List.getElem?_nil, List.length_cons, List.length_nil, List.cons_append, List.nil_append, Nat.reduceAdd, Nat.reduceSub, List.replicate_succ, List.replicate_zero, Nat.reduceEqDiff, Int.reduceEq, Int.reduceLT, Int.reduceLE, Nat.reduceLT, Nat.reduceLeDiff, reduceCtorEq, Nat.zero_add, at1, hpo, hs.ok, decide_eq_false z]
        exact ⟨pre ++ [p], _, by rw [hp]; simp, hlk, rfl⟩
    · rintro ρ ⟨pre, t2, hp, hlk, rfl⟩
      rw [lk] at hlk
      rw [← hlk]
      simp -implicitDefEqProofs only [↓k_some, ↓an_some, ↓g_0, ↓g_s, ↓s_0, ↓s_s, ↓td_sh, ↓td_ow, ↓td_lo, ↓rd_v, ↓rd_al, ↓rds_nil, ↓rds_cons, ↓shs_nil, ↓shs_v, ↓shk, ↓shs_al, ↓gt_v, ↓gt_al, ↓if_tt, ↓if_ff, ↓w_ret, ↓w_stk, ↓w_rse, ↓w_bnd, ↓nz_sh, ↓nz_ow, ↓nz_lo, ↓nz_ob, ↓nz_lb, ↓w_var, ↓w_c, ↓w_ans, ↓w_rd, ↓w_rds, ↓w_d2, ↓w_d1, ↓w_dN, ↓w_dS, ↓w_nil, ↓w_cons, ↓gv_sh, ↓gv_ow, ↓gv_ob, ↓fg_nil, ↓gi_v, ↓gi_al, ↓w_giv, ↓w_rdO, ↓w_opT, ↓w_tru, ↓w_bl, ↓bl_d, ↓w_not, ↓w_if, ↓w_and, ↓w_or, ↓w_dNot, ↓w_dAnd, ↓w_dOr, ↓w_oNone, ↓w_oSome, ↓o_int, ↓w_sl, ↓sq_nx, ↓sq_rt, ↓sq_bk, ↓sq_ct, ↓w_seq, ↓w_skip, ↓w_dret, ↓w_retN, ↓w_expr, ↓w_dif, ↓w_brk, ↓w_raise, ↓w_dasg, ↓w_dset, ↓al_sh, ↓al_lo, ↓al_lb, ↓w_asg_v, ↓w_asg_al, ↓w_gsNil, ↓w_gsCons, ↓tp_k, ↓w_gTp, ↓w_for, ↓w_loop_nil, ↓tn_nx, ↓tn_ct, ↓tn_bk, ↓tn_rt, ↓w_iOf, ↓w_iOfN, ↓seq_tup, ↓seq_lst, ↓seq_scr, ↓w_lc, ↓wipe_nil, ↓it_k, ↓w_yes, ↓fr_ok, ↓fr_ex, ↓ms_t, ↓ms_f, ↓ms_n, ↓out_nx, ↓out_v, ↓out_al, ↓mu_nil, ↓mu_t, ↓mu_f, ↓fr_run, ↓st_e, ↓lt_sh, ↓lt_ow, ↓lt_lo, ↓lt_ob, ↓lt_lb, ↓ot_ow, ↓ot_ob, ↓le_nil, ↓le_f, ↓le_t, ↓alf_nil, ↓alf_nil2, ↓alf_v, ↓alf_ff, ↓alf_al, ↓oa_nil, ↓oa_v, ↓oa_al, ↓okr_sh, ↓okr_no, ↓okr_ow, ↓okr_sh1, ↓okr_no1, ↓okr_ow1, ↓okr_sh2, ↓pu_nil, ↓pu_f, ↓pu_al, ↓pu_v, ↓w_call, ↓w_dcall, ↓w_dmeth, ↓mk_k, ↓mk_x, ↓w_make, ↓w_dmake, ↓w_chk_v, ↓w_dBM, ↓w_dBM0, ↓isl_n, ↓isk_n, ↓isl_1, ↓isl_2, ↓isl_3, ↓isl_4, ↓isk_1, ↓isk_2, ↓isk_3, ↓isk_4, ↓isk_5, ↓isk_6, ↓ow_k, ↓w_mutS, ↓w_mutR, ↓f_app, ↓f_pop, ↓f_ext, ↓f_extT, ↓w_rdm, ↓str_k, ↓w_isStr, ↓w_strM, ↓w_fld, ↓ft_sh, ↓ft_ow, ↓ft_lo, ↓fa_sh, ↓fa_lo, ↓ft_al, ↓ob_k, ↓w_setFld, ↓w_fldSet, ↓w_setZ, ↓w_gSub, ↓fow_k, ↓w_gFSub, ↓int_k, ↓w_aug, ↓ch_t, ↓ch_f, ↓w_catch, ↓w_try, ↓w_tryKeep, ↓w_give, ↓w_no, ↓w_dict, ↓w_dictT, ↓w_chain, ↓is_b, ↓w_get2, ↓gz_s, ↓gz_n, ↓w_getZ, ↓o_addI, ↓o_addS, ↓o_addT, ↓o_addL, ↓o_sub, ↓o_mulI, ↓o_mulS, ↓o_mulL, ↓o_fdv, ↓o_mod, ↓o_neg, ↓o_lt, ↓o_le, ↓o_gt, ↓o_ge, ↓b_lt, ↓b_le, ↓o_is, ↓isn_t, ↓isn_1, ↓isn_2, ↓isn_3, ↓isn_4, ↓isn_5, ↓o_eqI, ↓o_eqS, ↓o_ixT, ↓o_ixL, ↓o_ixC, ↓o_ixS, ↓o_ixD, ↓o_slS, ↓o_slT, ↓o_slL, ↓o_slC, ↓o_inD, ↓o_tup, ↓o_lst, ↓o_lenT, ↓o_lenL, ↓o_lenC, ↓o_lenD, ↓o_lenS, ↓o_min, ↓o_max, ↓o_intI, ↓o_intB, ↓o_listT, ↓o_listL, ↓o_listC, ↓o_tupleT, ↓o_tupleL, ↓o_dict, ↓o_rev, ↓o_revT, ↓o_isi, ↓ty_1, ↓ty_2, ↓ty_3, ↓ty_4, ↓ty_5, ↓ty_6, ↓ty_7, ↓tr_b, ↓tr_n, ↓tr_i, ↓tr_t, ↓tr_l, w_chk_al isl_n, w_chk_al isk_n, Bool.false_eq_true, if_true, if_false, true_and, and_true, Bool.bne_false, Bool.bne_true, Bool.not_true, Bool.not_false, decide_true, decide_false, Bool.and_true, Bool.true_and, Bool.or_false, Bool.false_or, Bool.or_true, Bool.true_or, Bool.and_false, Bool.false_and, Bool.or_self, Bool.and_self, List.getElem?_cons_zero, List.getElem?_cons_succ, List.getElem?_nil, List.length_cons, List.length_nil, List.cons_append, List.nil_append, Nat.reduceAdd, Nat.reduceSub, List.replicate_succ, List.replicate_zero, Nat.reduceEqDiff, Int.reduceEq, Int.reduceLT, Int.reduceLE, Nat.reduceLT, Nat.reduceLeDiff, reduceCtorEq, Nat.zero_add, Option.getD_none, e1]
  | k + 1, d + 1, _, .ap (b := b) (s := s) (l := l) hs hl ha, hk => by
    refine FrK.eq ?_
    unfold F__law_filled d__law_filled
    simp -implicitDefEqProofs only [exD, ↓k_some, ↓an_some, ↓g_0, ↓g_s, ↓s_0, ↓s_s, ↓td_sh, ↓td_ow, ↓td_lo, ↓rd_v, ↓rd_al, ↓rds_nil, ↓rds_cons, ↓shs_nil, ↓shs_v, ↓shk, ↓shs_al, ↓gt_v, ↓gt_al, ↓if_tt, ↓if_ff, ↓w_ret, ↓w_stk, ↓w_rse, ↓w_bnd, ↓nz_sh, ↓nz_ow, ↓nz_lo, ↓nz_ob, ↓nz_lb, ↓w_var, ↓w_c, ↓w_ans, ↓w_rd, ↓w_rds, ↓w_d2, ↓w_d1, ↓w_dN, ↓w_dS, ↓w_nil, ↓w_cons, ↓gv_sh, ↓gv_ow, ↓gv_ob, ↓fg_nil, ↓gi_v, ↓gi_al, ↓w_giv, ↓w_rdO, ↓w_opT, ↓w_tru, ↓w_bl, ↓bl_d, ↓w_not, ↓w_if, ↓w_and, ↓w_or, ↓w_dNot, ↓w_dAnd, ↓w_dOr, ↓w_oNone, ↓w_oSome, ↓o_int, ↓w_sl, ↓sq_nx, ↓sq_rt, ↓sq_bk, ↓sq_ct, ↓w_seq, ↓w_skip, ↓w_dret, ↓w_retN, ↓w_expr, ↓w_dif, ↓w_brk, ↓w_raise, ↓w_dasg, ↓w_dset, ↓al_sh, ↓al_lo, ↓al_lb, ↓w_asg_v, ↓w_asg_al, ↓w_gsNil, ↓w_gsCons, ↓tp_k, ↓w_gTp, ↓w_for, ↓w_loop_nil, ↓tn_nx, ↓tn_ct, ↓tn_bk, ↓tn_rt, ↓w_iOf, ↓w_iOfN, ↓seq_tup, ↓seq_lst, ↓seq_scr, ↓w_lc, ↓wipe_nil, ↓it_k, ↓w_yes, ↓fr_ok, ↓fr_ex, ↓ms_t, ↓ms_f, ↓ms_n, ↓out_nx, ↓out_v, ↓out_al, ↓mu_nil, ↓mu_t, ↓mu_f, ↓fr_run, ↓st_e, ↓lt_sh, ↓lt_ow, ↓lt_lo, ↓lt_ob, ↓lt_lb, ↓ot_ow, ↓ot_ob, ↓le_nil, ↓le_f, ↓le_t, ↓alf_nil, ↓alf_nil2, ↓alf_v, ↓alf_ff, ↓alf_al, ↓oa_nil, ↓oa_v, ↓oa_al, ↓okr_sh, ↓okr_no, ↓okr_ow, ↓okr_sh1, ↓okr_no1, ↓okr_ow1, ↓okr_sh2, ↓pu_nil, ↓pu_f, ↓pu_al, ↓pu_v, ↓w_call, ↓w_dcall, ↓w_dmeth, ↓mk_k, ↓mk_x, ↓w_make, ↓w_dmake, ↓w_chk_v, ↓w_dBM, ↓w_dBM0, ↓isl_n, ↓isk_n, ↓isl_1, ↓isl_2, ↓isl_3, ↓isl_4, ↓isk_1, ↓isk_2, ↓isk_3, ↓isk_4, ↓isk_5, ↓isk_6, ↓ow_k, ↓w_mutS, ↓w_mutR, ↓f_app, ↓f_pop, ↓f_ext, ↓f_extT, ↓w_rdm, ↓str_k, ↓w_isStr, ↓w_strM, ↓w_fld, ↓ft_sh, ↓ft_ow, ↓ft_lo, ↓fa_sh, ↓fa_lo, ↓ft_al, ↓ob_k, ↓w_setFld, ↓w_fldSet, ↓w_setZ, ↓w_gSub, ↓fow_k, ↓w_gFSub, ↓int_k, ↓w_aug, ↓ch_t, ↓ch_f, ↓w_catch, ↓w_try, ↓w_tryKeep, ↓w_give, ↓w_no, ↓w_dict, ↓w_dictT, ↓w_chain, ↓is_b, ↓w_get2, ↓gz_s, ↓gz_n, ↓w_getZ, ↓o_addI, ↓o_addS, ↓o_addT, ↓o_addL, ↓o_sub, ↓o_mulI, ↓o_mulS, ↓o_mulL, ↓o_fdv, ↓o_mod, ↓o_neg, ↓o_lt, ↓o_le, ↓o_gt, ↓o_ge, ↓b_lt, ↓b_le, ↓o_is, ↓isn_t, ↓isn_1, ↓isn_2, ↓isn_3, ↓isn_4, ↓isn_5, ↓o_eqI, ↓o_eqS, ↓o_ixT, ↓o_ixL, ↓o_ixC, ↓o_ixS, ↓o_ixD, ↓o_slS, ↓o_slT, ↓o_slL, ↓o_slC, ↓o_inD, ↓o_tup, ↓o_lst, ↓o_lenT, ↓o_lenL, ↓o_lenC, ↓o_lenD, ↓o_lenS, ↓o_min, ↓o_max, ↓o_intI, ↓o_intB, ↓o_listT, ↓o_listL, ↓o_listC, ↓o_tupleT, ↓o_tupleL, ↓o_dict, ↓o_rev, ↓o_revT, ↓o_isi, ↓ty_1, ↓ty_2, ↓ty_3, ↓ty_4, ↓ty_5, ↓ty_6, ↓ty_7, ↓tr_b, ↓tr_n, ↓tr_i, ↓tr_t, ↓tr_l, w_chk_al isl_n, w_chk_al isk_n, Bool.false_eq_true, if_true, if_false, true_and, and_true, Bool.bne_false, Bool.bne_true, Bool.not_true, Bool.not_false, decide_true, decide_false, Bool.and_true, Bool.true_and, Bool.or_false, Bool.false_or, Bool.or_true, Bool.true_or, Bool.and_false, Bool.false_and, Bool.or_self, Bool.and_self, List.getElem?_cons_zero, List.getElem?_cons_succ, List.getElem?_nil, List.length_cons, List.length_nil, List.cons_append, List.nil_append, Nat.reduceAdd, Nat.reduceSub, List.replicate_succ, List.replicate_zero, Nat.reduceEqDiff, Int.reduceEq, Int.reduceLT, Int.reduceLE, Nat.reduceLT, Nat.reduceLeDiff, reduceCtorEq, Nat.zero_add, at0, at1, at2, ok_nm, ok_ap, ap_ne, exDs_map, sz]
    refine wp_all exD (fun e => exD (fill m e)) (by omega) ?_ ?_
    · intro x hx
      have := e_law_filled hm (k := k) (ha x hx) (by omega)
      simp -implicitDefEqProofs only [wipeE, List.set_cons_succ, List.set_cons_zero, ↓k_some, ↓an_some, ↓g_0, ↓g_s, ↓s_0, ↓s_s, ↓td_sh, ↓td_ow, ↓td_lo, ↓rd_v, ↓rd_al, ↓rds_nil, ↓rds_cons, ↓shs_nil, ↓shs_v, ↓shk, ↓shs_al, ↓gt_v, ↓gt_al, ↓if_tt, ↓if_ff, ↓w_ret, ↓w_stk, ↓w_rse, ↓w_bnd, ↓nz_sh, ↓nz_ow, ↓nz_lo, ↓nz_ob, ↓nz_lb, ↓w_var, ↓w_c, ↓w_ans, ↓w_rd, ↓w_rds, ↓w_d2, ↓w_d1, ↓w_dN, ↓w_dS, ↓w_nil, ↓w_cons, ↓gv_sh, ↓gv_ow, ↓gv_ob, ↓fg_nil, ↓gi_v, ↓gi_al, ↓w_giv, ↓w_rdO, ↓w_opT, ↓w_tru, ↓w_bl, ↓bl_d, ↓w_not, ↓w_if, ↓w_and, ↓w_or, ↓w_dNot, ↓w_dAnd, ↓w_dOr, ↓w_oNone, ↓w_oSome, ↓o_int, ↓w_sl, ↓sq_nx, ↓sq_rt, ↓sq_bk, ↓sq_ct, ↓w_seq, ↓w_skip, ↓w_dret, ↓w_retN, ↓w_expr, ↓w_dif, ↓w_brk, ↓w_raise, ↓w_dasg, ↓w_dset, ↓al_sh, ↓al_lo, ↓al_lb, ↓w_asg_v, ↓w_asg_al, ↓w_gsNil, ↓w_gsCons, ↓tp_k, ↓w_gTp, ↓w_for, ↓w_loop_nil, ↓tn_nx, ↓tn_ct, ↓tn_bk, ↓tn_rt, ↓w_iOf, ↓w_iOfN, ↓seq_tup, ↓seq_lst, ↓seq_scr, ↓w_lc, ↓wipe_nil, ↓it_k, ↓w_yes, ↓fr_ok, ↓fr_ex, ↓ms_t, ↓ms_f, ↓ms_n, ↓out_nx, ↓out_v, ↓out_al, ↓mu_nil, ↓mu_t, ↓mu_f, ↓fr_run, ↓st_e, ↓lt_sh, ↓lt_ow, ↓lt_lo, ↓lt_ob, ↓lt_lb, ↓ot_ow, ↓ot_ob, ↓le_nil, ↓le_f, ↓le_t, ↓alf_nil, ↓alf_nil2, ↓alf_v, ↓alf_ff, ↓alf_al, ↓oa_nil, ↓oa_v, ↓oa_al, ↓okr_sh, ↓okr_no, ↓okr_ow, ↓okr_sh1, ↓okr_no1, ↓okr_ow1, ↓okr_sh2, ↓pu_nil, ↓pu_f, ↓pu_al, ↓pu_v, ↓w_call, ↓w_dcall, ↓w_dmeth, ↓mk_k, ↓mk_x, ↓w_make, ↓w_dmake, ↓w_chk_v, ↓w_dBM, ↓w_dBM0, ↓isl_n, ↓isk_n, ↓isl_1, ↓isl_2, ↓isl_3, ↓isl_4, ↓isk_1, ↓isk_2, ↓isk_3, ↓isk_4, ↓isk_5, ↓isk_6, ↓ow_k, ↓w_mutS, ↓w_mutR, ↓f_app, ↓f_pop, ↓f_ext, ↓f_extT, ↓w_rdm, ↓str_k, ↓w_isStr, ↓w_strM, ↓w_fld, ↓ft_sh, ↓ft_ow, ↓ft_lo, ↓fa_sh, ↓fa_lo, ↓ft_al, ↓ob_k, ↓w_setFld, ↓w_fldSet, ↓w_setZ, ↓w_gSub, ↓fow_k, ↓w_gFSub, ↓int_k, ↓w_aug, ↓ch_t, ↓ch_f, ↓w_catch, ↓w_try, ↓w_tryKeep, ↓w_give, ↓w_no, ↓w_dict, ↓w_dictT, ↓w_chain, ↓is_b, ↓w_get2, ↓gz_s, ↓gz_n, ↓w_getZ, ↓o_addI, ↓o_addS, ↓o_addT, ↓o_addL, ↓o_sub, ↓o_mulI, ↓o_mulS, ↓o_mulL, ↓o_fdv, ↓o_mod, ↓o_neg, ↓o_lt, ↓o_le, ↓o_gt, ↓o_ge, ↓b_lt, ↓b_le, ↓o_is, ↓isn_t, ↓isn_1, ↓isn_2, ↓isn_3, ↓isn_4, ↓isn_5, ↓o_eqI, ↓o_eqS, ↓o_ixT, ↓o_ixL, ↓o_ixC, ↓o_ixS, ↓o_ixD, ↓o_slS, ↓o_slT, ↓o_slL, ↓o_slC, ↓o_inD, ↓o_tup, ↓o_lst, ↓o_lenT, ↓o_lenL, ↓o_lenC, ↓o_lenD, ↓o_lenS, ↓o_min, ↓o_max, ↓o_intI, ↓o_intB, ↓o_listT, ↓o_listL, ↓o_listC, ↓o_tupleT, ↓o_tupleL, ↓o_dict, ↓o_rev, ↓o_revT, ↓o_isi, ↓ty_1, ↓ty_2, ↓ty_3, ↓ty_4, ↓ty_5, ↓ty_6, ↓ty_7, ↓tr_b, ↓tr_n, ↓tr_i, ↓tr_t, ↓tr_l, w_chk_al isl_n, w_chk_al isk_n, Bool.false_eq_true, if_true, if_false, true_and, and_true, Bool.bne_false, Bool.bne_true, Bool.not_true, Bool.not_false, decide_true, decide_false, Bool.and_true, Bool.true_and, Bool.or_false, Bool.false_or, Bool.or_true, Bool.true_or, Bool.and_false, Bool.false_and, Bool.or_self, Bool.and_self, List.getElem?_cons_zero, List.getElem?_cons_succ, List.getElem?_nil, List.length_cons, List.length_nil, List.cons_append, List.nil_append, Nat.reduceAdd, Nat.reduceSub, List.replicate_succ, List.replicate_zero, Nat.reduceEqDiff, Int.reduceEq, Int.reduceLT, Int.reduceLE, Nat.reduceLT, Nat.reduceLeDiff, reduceCtorEq, Nat.zero_add, this]
    · have em : l.map (fun e => exD (fill m e)) = exDs (fills m l) := by
        rw [exDs_map, fills_map, List.map_map]
        rfl
      simp -implicitDefEqProofs only [wipeE, List.set_cons_succ, List.set_cons_zero, ↓k_some, ↓an_some, ↓g_0, ↓g_s, ↓s_0, ↓s_s, ↓td_sh, ↓td_ow, ↓td_lo, ↓rd_v, ↓rd_al, ↓rds_nil, ↓rds_cons, ↓shs_nil, ↓shs_v, ↓shk, ↓shs_al, ↓gt_v, ↓gt_al, ↓if_tt, ↓if_ff, ↓w_ret, ↓w_stk, ↓w_rse, ↓w_bnd, ↓nz_sh, ↓nz_ow, ↓nz_lo, ↓nz_ob, ↓nz_lb, ↓w_var, ↓w_c, ↓w_ans, ↓w_rd, ↓w_rds, ↓w_d2, ↓w_d1, ↓w_dN, ↓w_dS, ↓w_nil, ↓w_cons, ↓gv_sh, ↓gv_ow, ↓gv_ob, ↓fg_nil, ↓gi_v, ↓gi_al, ↓w_giv, ↓w_rdO, ↓w_opT, ↓w_tru, ↓w_bl, ↓bl_d, ↓w_not, ↓w_if, ↓w_and, ↓w_or, ↓w_dNot, ↓w_dAnd, ↓w_dOr, ↓w_oNone, ↓w_oSome, ↓o_int, ↓w_sl, ↓sq_nx, ↓sq_rt, ↓sq_bk, ↓sq_ct, ↓w_seq, ↓w_skip, ↓w_dret, ↓w_retN, ↓w_expr, ↓w_dif, ↓w_brk, ↓w_raise, ↓w_dasg, ↓w_dset, ↓al_sh, ↓al_lo, ↓al_lb, ↓w_asg_v, ↓w_asg_al, ↓w_gsNil, ↓w_gsCons, ↓tp_k, ↓w_gTp, ↓w_for, ↓w_loop_nil, ↓tn_nx, ↓tn_ct, ↓tn_bk, ↓tn_rt, ↓w_iOf, ↓w_iOfN, ↓seq_tup, ↓seq_lst, ↓seq_scr, ↓w_lc, ↓wipe_nil, ↓it_k, ↓w_yes, ↓fr_ok, ↓fr_ex, ↓ms_t, ↓ms_f, ↓ms_n, ↓out_nx, ↓out_v, ↓out_al, ↓mu_nil, ↓mu_t, ↓mu_f, ↓fr_run, ↓st_e, ↓lt_sh, ↓lt_ow, ↓lt_lo, ↓lt_ob, ↓lt_lb, ↓ot_ow, ↓ot_ob, ↓le_nil, ↓le_f, ↓le_t, ↓alf_nil, ↓alf_nil2, ↓alf_v, ↓alf_ff, ↓alf_al, ↓oa_nil, ↓oa_v, ↓oa_al, ↓okr_sh, ↓okr_no, ↓okr_ow, ↓okr_sh1, ↓okr_no1, ↓okr_ow1, ↓okr_sh2, ↓pu_nil, ↓pu_f, ↓pu_al, ↓pu_v, ↓w_call, ↓w_dcall, ↓w_dmeth, ↓mk_k, ↓mk_x, ↓w_make, ↓w_dmake, ↓w_chk_v, ↓w_dBM, ↓w_dBM0, ↓isl_n, ↓isk_n, ↓isl_1, ↓isl_2, ↓isl_3, ↓isl_4, ↓isk_1, ↓isk_2, ↓isk_3, ↓isk_4, ↓isk_5, ↓isk_6, ↓ow_k, ↓w_mutS, ↓w_mutR, ↓f_app, ↓f_pop, ↓f_ext, ↓f_extT, ↓w_rdm, ↓str_k, ↓w_isStr, ↓w_strM, ↓w_fld, ↓ft_sh, ↓ft_ow, ↓ft_lo, ↓fa_sh, ↓fa_lo, ↓ft_al, ↓ob_k, ↓w_setFld, ↓w_fldSet, ↓w_setZ, ↓w_gSub, ↓fow_k, ↓w_gFSub, ↓int_k, ↓w_aug, ↓ch_t, ↓ch_f, ↓w_catch, ↓w_try, ↓w_tryKeep, ↓w_give, ↓w_no, ↓w_dict, ↓w_dictT, ↓w_chain, ↓is_b, ↓w_get2, ↓gz_s, ↓gz_n, ↓w_getZ, ↓o_addI, ↓o_addS, ↓o_addT, ↓o_addL, ↓o_sub, ↓o_mulI, ↓o_mulS, ↓o_mulL, ↓o_fdv, ↓o_mod, ↓o_neg, ↓o_lt, ↓o_le, ↓o_gt, ↓o_ge, ↓b_lt, ↓b_le, ↓o_is, ↓isn_t, ↓isn_1, ↓isn_2, ↓isn_3, ↓isn_4, ↓isn_5, ↓o_eqI, ↓o_eqS, ↓o_ixT, ↓o_ixL, ↓o_ixC, ↓o_ixS, ↓o_ixD, ↓o_slS, ↓o_slT, ↓o_slL, ↓o_slC, ↓o_inD, ↓o_tup, ↓o_lst, ↓o_lenT, ↓o_lenL, ↓o_lenC, ↓o_lenD, ↓o_lenS, ↓o_min, ↓o_max, ↓o_intI, ↓o_intB, ↓o_listT, ↓o_listL, ↓o_listC, ↓o_tupleT, ↓o_tupleL, ↓o_dict, ↓o_rev, ↓o_revT, ↓o_isi, ↓ty_1, ↓ty_2, ↓ty_3, ↓ty_4, ↓ty_5, ↓ty_6, ↓ty_7, ↓tr_b, ↓tr_n, ↓tr_i, ↓tr_t, ↓tr_l, w_chk_al isl_n, w_chk_al isk_n, Bool.false_eq_true, if_true, if_false, true_and, and_true, Bool.bne_false, Bool.bne_true, Bool.not_true, Bool.not_false, decide_true, decide_false, Bool.and_true, Bool.true_and, Bool.or_false, Bool.false_or, Bool.or_true, Bool.true_or, Bool.and_false, Bool.false_and, Bool.or_self, Bool.and_self, List.getElem?_cons_zero, List.getElem?_cons_succ, List.getElem?_nil, List.length_cons, List.length_nil, List.cons_append, List.nil_append, Nat.reduceAdd, Nat.reduceSub, List.replicate_succ, List.replicate_zero, Nat.reduceEqDiff, Int.reduceEq, Int.reduceLT, Int.reduceLE, Nat.reduceLT, Nat.reduceLeDiff, reduceCtorEq, Nat.zero_add, sz, em]
      rw [fill, exD]
/-! names put in for themselves -/
mutual
theorem fill_own (m : List SE) (h : ∀ p ∈ m, p.2 = .nm p.1) : ∀ e : Ex, fill m e = e
  | .nm s => by
    rw [fill]
    cases hl : lk m s with
    | none => rfl
    | some x =>
      have h1 := lk_mem hl
      have h2 := h _ h1
      rw [Option.getD_some]
      exact h2
  | .ap b s l => by rw [fill, fills_own m h l]
theorem fills_own (m : List SE) (h : ∀ p ∈ m, p.2 = .nm p.1) : ∀ l : List Ex, fills m l = l
  | [] => by rw [fills]
  | e :: l => by rw [fills, fill_own m h e, fills_own m h l]
end
/-! dicts compared -/
theorem pys_e (l : List SE) : pys (l.map fun p => exD p.2) = some (l.map fun p => pyE p.2) := by
  induction l with
  | nil => rfl
  | cons p l ih => rw [List.map_cons, pys, py_ex, ih]; rfl
theorem getP_in {v : SE → PyData} : ∀ {st : List SE}, (st.map (·.1)).Nodup → ∀ p ∈ st, getP (st.map fun p => (.inr p.1 : Key)) (st.map v) (.inr p.1) = some (v p)
  | q :: st, hn, p, hp => by
    rw [List.map_cons, List.nodup_cons] at hn
    rw [List.map_cons, List.map_cons, getP]
    rcases List.mem_cons.mp hp with rfl | hp
    · rw [if_pos rfl]
    · rw [if_neg fun z => hn.1 (by rw [Sum.inr.inj z]; exact List.mem_map_of_mem hp)]
      exact getP_in hn.2 p hp
theorem eqD_same {d : Nat} {st : List SE} (h : StE d st) (hd : d ≤ 20) {n : Bool} {K : V.T → Prop} : AnK (wEqD n (dkE st) (dkE st)) K = K (.sh (.bl (true != n))) := by
  have e1 := pys_e st
  have hw : ∀ p ∈ st, (pyE p.2).canLay0 = true ∧ (pyE p.2).depth ≤ 2 * d + 1 := fun p hp => pd_py (pd_ex (h.ew p hp))
  have e2 : PyData.canLayAll0 (st.map fun p => pyE p.2) = true := by
    clear e1 h
    induction st with
    | nil => rfl
    | cons p st ih => rw [List.map_cons, PyData.canLayAll0, ih fun q hq => hw q (List.mem_cons_of_mem _ hq), (hw p (List.mem_cons_self ..)).1]; rfl
  have e3 : PyData.depthAll (st.map fun p => pyE p.2) ≤ 190 := by
    clear e1 e2 h
    induction st with
    | nil => exact Nat.zero_le _
    | cons p st ih =>
      rw [List.map_cons, PyData.depthAll]
      have h1 := (hw p (List.mem_cons_self ..)).2
      have h2 := ih fun q hq => hw q (List.mem_cons_of_mem _ hq)
      omega
  have e4 : ∀ l : List SE, (∀ p ∈ l, p ∈ st) → dkEq (l.map fun p => (.inr p.1 : Key)) (l.map fun p => pyE p.2) (st.map fun p => (.inr p.1 : Key)) (st.map fun p => pyE p.2) = true := by
    intro l
    induction l with
    | nil => intro _; rfl
    | cons p l ih =>
      intro hl
      have hp := hl p (List.mem_cons_self ..)
      rw [List.map_cons, List.map_cons, dkEq, getP_in h.nd p hp, ih fun q hq => hl q (List.mem_cons_of_mem _ hq), hitP, eqv_refl _ (hw p hp).1]
      rfl
  unfold dkE wEqD
  simp only [e1, e2, e3, decide_true, Bool.and_self, if_true, e4 st (fun p h => h), beq_self_eq_true]
  rfl
end Lk32

set_option Elab.async false
set_option linter.all false
set_option maxRecDepth 100000
set_option maxHeartbeats 4000000
namespace Lk32
open PySem L2 V
theorem seq_assoc (a b c : DS) : dSeq (dSeq a b) c = dSeq a (dSeq b c) := by
  funext ρ
  unfold dSeq bnd
  cases a ρ with
  | stk => rfl
  | ex n ρ' => rfl
  | ok o ρ' => cases o <;> rfl
theorem wp_seqI {ρ : V.Env} {QO : O → V.Env → Prop} {E : Str → V.Env → Prop} {a b : DS} (I : V.Env → Prop) (h1 : Wp a ρ (fun o ρ' => o = .nx ∧ I ρ') E) (h2 : ∀ ρ', I ρ' → Wp b ρ' QO E) : Wp (dSeq a b) ρ QO E := by
  rw [w_seq]
  refine h1.mono (fun o ρ' ⟨ho, hρ⟩ => ?_) fun _ _ h => h
  subst ho
  exact h2 ρ' hρ
theorem cut5 {l : List D} : cut l none (some 5) = l.take 5 := cut_take (k := 5)
theorem eq_nms {l : List Str} (h : ∀ s ∈ l, Nm s) {n : Bool} {K : V.T → Prop} : AnK (wEq n (nmD l) (nmD l)) K = K (.sh (.bl (true != n))) := by
  refine p_eq_same (n := 1) (pd_lst (n := 0) fun d hd => ?_) (by omega)
  obtain ⟨s, hs, rfl⟩ := List.mem_map.mp hd
  exact pd_str (h s hs).ok
theorem e_law {ns : List Int} (hns : ns.length ≤ 63) (hb : ∀ z ∈ ns, Bd 1048576 z) : F_law [.sh (.scr (ns.map .int))] = .ok (.sh (.bl true)) [] := by
  have hbc : Bd 1048576 (ns.getD 0 0) := by
    rw [List.getD_eq_getElem?_getD]
    cases e : ns[0]? with
    | none => exact Bd.mono (bd_lit (b := 1) (n := 0) (by omega)) (by omega)
    | some z => exact hb z (List.mem_of_getElem? e)
  have c0 : F__law_cell_at [.sh (.scr (ns.map .int)), .sh (.int 0)] = .ok (.sh (.int (ns.getD 0 0))) [] := e_cell ns 0
  have c2 : F__law_cell_at [.sh (.scr (ns.map .int)), .sh (.int 2)] = .ok (.sh (.int (ns.getD 2 0))) [] := e_cell ns 2
  have en : F__law_names [.sh (.int (ns.getD 0 0)), .sh (.int 6)] = .ok (.ow (.lst ((nms (ns.getD 0 0) 6).map .str))) [] := e_names (n := 6) hbc (by omega)
  have l6 := nms_len (ns.getD 0 0) 6
  have hnm := nms_nm (ns.getD 0 0) 6
  have hnd := nms_nodup (ns.getD 0 0) (n := 6) (by omega)
  generalize nms (ns.getD 0 0) 6 = names at *
  generalize ns.getD 0 0 = x0 at *
  generalize ns.getD 2 0 = x2 at *
  obtain ⟨fl, hfl, fl1⟩ : ∃ fl : Nat, x2 % 2 = (fl : Int) ∧ fl ≤ 1 := by
    have : x2 % 2 = 0 ∨ x2 % 2 = 1 := by omega
    rcases this with h | h
    · exact ⟨0, by rw [h]; rfl, by omega⟩
    · exact ⟨1, by rw [h]; rfl, by omega⟩
  have f3 : (3 : Int) - (fl : Int) = ((3 - fl : Nat) : Int) := by omega
  have f1 : (1 : Int) + (fl : Int) = ((1 + fl : Nat) : Int) := by omega
  have n5 : ∀ s ∈ names.take 5, Nm s := fun s hs => hnm s (List.mem_of_mem_take hs)
  have l5 : (names.take 5).length = 5 := by rw [List.length_take]; omega
  have et5 : (names.map D.str).take 5 = (names.take 5).map .str := by rw [List.map_take]
  obtain ⟨xs, hx, hg, ed⟩ := e_digits (a := 1) (m := 3) hns hb (by omega) (by omega) (by omega)
  replace ed : F__law_digits [.sh (.scr (ns.map .int)), .sh (.int 1), .sh (.int 3)] = .ok (.ow (Pu xs)) [] := ed
  have cm : ∀ a b : Nat, a ≤ b → cost a ≤ cost b := fun a b h => by
    induction b with
    | zero => have : a = 0 := by omega
              subst this; exact Nat.le_refl _
    | succ b ih =>
      by_cases z : a = b + 1
      · rw [z]; exact Nat.le_refl _
      · have := ih (by omega)
        simp only [cost]
        omega
  have c3 : cost 3 = 40 := rfl
  obtain ⟨P, ys, hP, _, _, eP⟩ := e_wild n5 (by omega) (by omega) 12 (3 - fl) xs (by omega) (by have := cm (3 - fl) 3 (by omega); omega) hg
  have hP3 : Ew 3 P := hP.mono (by omega)
  have r6 := rng1_ok (n := 6) (by omega)
  replace r6 : rng1 [D.int 6] = some (upto 0 1 6) := r6
  have e0 : D.dk [] [] = dkE [] := rfl
  refine FrK.eq ?_
  unfold F_law d_law
  rw [fr_run, ← seq_assoc, ← seq_assoc, ← seq_assoc, ← seq_assoc]
  refine wp_seqI (fun ρ' => ∃ (st : List SE) (t5 t12 : V.T), StE 2 st ∧ st.length ≤ 6 ∧ ρ' = [.sh (.scr (ns.map .int)), .sh (.lst (names.map .str)), .sh (.int fl), .sh (exD P), .ow (dkE st), t5, .no, .no, .no, .no, .no, .no, t12]) ?_ ?_
  · simp -implicitDefEqProofs only [↓k_some, ↓an_some, ↓g_0, ↓g_s, ↓s_0, ↓s_s, ↓td_sh, ↓td_ow, ↓td_lo, ↓rd_v, ↓rd_al, ↓rds_nil, ↓rds_cons, ↓shs_nil, ↓shs_v, ↓shk, ↓shs_al, ↓gt_v, ↓gt_al, ↓if_tt, ↓if_ff, ↓w_ret, ↓w_stk, ↓w_rse, ↓w_bnd, ↓nz_sh, ↓nz_ow, ↓nz_lo, ↓nz_ob, ↓nz_lb, ↓w_var, ↓w_c, ↓w_ans, ↓w_rd, ↓w_rds, ↓w_d2, ↓w_d1, ↓w_dN, ↓w_dS, ↓w_nil, ↓w_cons, ↓gv_sh, ↓gv_ow, ↓gv_ob, ↓fg_nil, ↓gi_v, ↓gi_al, ↓w_giv, ↓w_rdO, ↓w_opT, ↓w_tru, ↓w_bl, ↓bl_d, ↓w_not, ↓w_if, ↓w_and, ↓w_or, ↓w_dNot, ↓w_dAnd, ↓w_dOr, ↓w_oNone, ↓w_oSome, ↓o_int, ↓w_sl, ↓sq_nx, ↓sq_rt, ↓sq_bk, ↓sq_ct, ↓w_seq, ↓w_skip, ↓w_dret, ↓w_retN, ↓w_expr, ↓w_dif, ↓w_brk, ↓w_raise, ↓w_dasg, ↓w_dset, ↓al_sh, ↓al_lo, ↓al_lb, ↓w_asg_v, ↓w_asg_al, ↓w_gsNil, ↓w_gsCons, ↓tp_k, ↓w_gTp, ↓w_for, ↓w_loop_nil, ↓tn_nx, ↓tn_ct, ↓tn_bk, ↓tn_rt, ↓w_iOf, ↓w_iOfN, ↓seq_tup, ↓seq_lst, ↓seq_scr, ↓w_lc, ↓wipe_nil, ↓it_k, ↓w_yes, ↓fr_ok, ↓fr_ex, ↓ms_t, ↓ms_f, ↓ms_n, ↓out_nx, ↓out_v, ↓out_al, ↓mu_nil, ↓mu_t, ↓mu_f, ↓fr_run, ↓st_e, ↓lt_sh, ↓lt_ow, ↓lt_lo, ↓lt_ob, ↓lt_lb, ↓ot_ow, ↓ot_ob, ↓le_nil, ↓le_f, ↓le_t, ↓alf_nil, ↓alf_nil2, ↓alf_v, ↓alf_ff, ↓alf_al, ↓oa_nil, ↓oa_v, ↓oa_al, ↓okr_sh, ↓okr_no, ↓okr_ow, ↓okr_sh1, ↓okr_no1, ↓okr_ow1, ↓okr_sh2, ↓pu_nil, ↓pu_f, ↓pu_al, ↓pu_v, ↓w_call, ↓w_dcall, ↓w_dmeth, ↓mk_k, ↓mk_x, ↓w_make, ↓w_dmake, ↓w_chk_v, ↓w_dBM, ↓w_dBM0, ↓isl_n, ↓isk_n, ↓isl_1, ↓isl_2, ↓isl_3, ↓isl_4, ↓isk_1, ↓isk_2, ↓isk_3, ↓isk_4, ↓isk_5, ↓isk_6, ↓ow_k, ↓w_mutS, ↓w_mutR, ↓f_app, ↓f_pop, ↓f_ext, ↓f_extT, ↓w_rdm, ↓str_k, ↓w_isStr, ↓w_strM, ↓w_fld, ↓ft_sh, ↓ft_ow, ↓ft_lo, ↓fa_sh, ↓fa_lo, ↓ft_al, ↓ob_k, ↓w_setFld, ↓w_fldSet, ↓w_setZ, ↓w_gSub, ↓fow_k, ↓w_gFSub, ↓int_k, ↓w_aug, ↓ch_t, ↓ch_f, ↓w_catch, ↓w_try, ↓w_tryKeep, ↓w_give, ↓w_no, ↓w_dict, ↓w_dictT, ↓w_chain, ↓is_b, ↓w_get2, ↓gz_s, ↓gz_n, ↓w_getZ, ↓o_addI, ↓o_addS, ↓o_addT, ↓o_addL, ↓o_sub, ↓o_mulI, ↓o_mulS, ↓o_mulL, ↓o_fdv, ↓o_mod, ↓o_neg, ↓o_lt, ↓o_le, ↓o_gt, ↓o_ge, ↓b_lt, ↓b_le, ↓o_is, ↓isn_t, ↓isn_1, ↓isn_2, ↓isn_3, ↓isn_4, ↓isn_5, ↓o_eqI, ↓o_eqS, ↓o_ixT, ↓o_ixL, ↓o_ixC, ↓o_ixS, ↓o_ixD, ↓o_slS, ↓o_slT, ↓o_slL, ↓o_slC, ↓o_inD, ↓o_tup, ↓o_lst, ↓o_lenT, ↓o_lenL, ↓o_lenC, ↓o_lenD, ↓o_lenS, ↓o_min, ↓o_max, ↓o_intI, ↓o_intB, ↓o_listT, ↓o_listL, ↓o_listC, ↓o_tupleT, ↓o_tupleL, ↓o_dict, ↓o_rev, ↓o_revT, ↓o_isi, ↓ty_1, ↓ty_2, ↓ty_3, ↓ty_4, ↓ty_5, ↓ty_6, ↓ty_7, ↓tr_b, ↓tr_n, ↓tr_i, ↓tr_t, ↓tr_l, w_chk_al isl_n, w_chk_al isk_n, Bool.false_eq_true, if_true, if_false, true_and, and_true, Bool.bne_false, Bool.bne_true, Bool.not_true, Bool.not_false, decide_true, decide_false, Bool.and_true, Bool.true_and, Bool.or_false, Bool.false_or, Bool.or_true, Bool.true_or, Bool.and_false, Bool.false_and, Bool.or_self, Bool.and_self, List.getElem?_cons_zero, List.getElem?_cons_succ, List.getElem?_nil, List.length_cons, List.length_nil, List.cons_append, List.nil_append, Nat.reduceAdd, Nat.reduceSub, List.replicate_succ, List.replicate_zero, Nat.reduceEqDiff, Int.reduceEq, Int.reduceLT, Int.reduceLE, Nat.reduceLT, Nat.reduceLeDiff, reduceCtorEq, Nat.zero_add, c0, en, c2, hfl, cut5, et5, ed, f3, eP, r6, e0, okr_nl]
    refine wp_range (fun k ρ => ∃ (st : List SE) (t5 t12 : V.T), StE 2 st ∧ st.length ≤ k ∧ (∀ p ∈ st, ∃ j, j < k ∧ names[(j + 2) % 6]? = some p.1) ∧ ρ = [.sh (.scr (ns.map .int)), .sh (.lst (names.map .str)), .sh (.int fl), .sh (exD P), .ow (dkE st), t5, .no, .no, .no, .no, .no, .no, t12]) ⟨[], _, _, ⟨by simp, fun p h => absurd h List.not_mem_nil, fun p h => absurd h List.not_mem_nil, by simp⟩, by simp, by simp, rfl⟩ ?_ ?_
    · rintro k ρ hk ⟨st, t5, t12, hS, hl, hin, rfl⟩
      obtain ⟨zs, hzx, hzg, edk⟩ := e_digits (a := k) (m := 7) hns hb (by omega) (by omega) (by omega)
      replace edk : F__law_digits [.sh (.scr (ns.map .int)), .sh (.int k), .sh (.int 7)] = .ok (.ow (Pu zs)) [] := edk
      obtain ⟨q, qs', rfl⟩ : ∃ q qs', zs = q :: qs' := by
        match zs, hzx with
        | q :: qs', _ => exact ⟨q, qs', rfl⟩
      rw [List.length_cons] at hzx
      have hzg2 : Dg qs' := fun y hy => hzg y (List.mem_cons_of_mem _ hy)
      obtain ⟨W, ws, hW, _, _, eW⟩ := e_wild hnm (by omega) (by omega) 12 (1 + fl) qs' (by omega) (by have := cm (1 + fl) 3 (by omega); omega) hzg2
      have hm6 : (k + 2) % 6 < names.length := by omega
      have ak : atI (names.map D.str) (((k : Int) + 2) % 6) = some (.str names[(k + 2) % 6]) := by
        have e1 : ((k : Int) + 2) % 6 = (((k + 2) % 6 : Nat) : Int) := by omega
        rw [e1, atI_nat (names.map D.str) _ (by rw [List.length_map]; omega), List.getElem_map]
      have hkn : names[(k + 2) % 6] ∉ st.map (·.1) := by
        intro z
        obtain ⟨p, hp, e⟩ := List.mem_map.mp z
        obtain ⟨j, hj, e2⟩ := hin p hp
        have hj6 : (j + 2) % 6 < names.length := by omega
        rw [List.getElem?_eq_getElem hj6] at e2
        have e3 : names[(j + 2) % 6] = names[(k + 2) % 6] := by rw [Option.some.inj e2, e]
        have := List.getElem_inj hnd (h₀ := hj6) (h₁ := hm6) |>.mp e3
        omega
      have hs := fun (K : D → Prop) => set_e hS (e := W) hkn (by omega) (K := K)
      simp -implicitDefEqProofs only [b1_law, ↓k_some, ↓an_some, ↓g_0, ↓g_s, ↓s_0, ↓s_s, ↓td_sh, ↓td_ow, ↓td_lo, ↓rd_v, ↓rd_al, ↓rds_nil, ↓rds_cons, ↓shs_nil, ↓shs_v, ↓shk, ↓shs_al, ↓gt_v, ↓gt_al, ↓if_tt, ↓if_ff, ↓w_ret, ↓w_stk, ↓w_rse, ↓w_bnd, ↓nz_sh, ↓nz_ow, ↓nz_lo, ↓nz_ob, ↓nz_lb, ↓w_var, ↓w_c, ↓w_ans, ↓w_rd, ↓w_rds, ↓w_d2, ↓w_d1, ↓w_dN, ↓w_dS, ↓w_nil, ↓w_cons, ↓gv_sh, ↓gv_ow, ↓gv_ob, ↓fg_nil, ↓gi_v, ↓gi_al, ↓w_giv, ↓w_rdO, ↓w_opT, ↓w_tru, ↓w_bl, ↓bl_d, ↓w_not, ↓w_if, ↓w_and, ↓w_or, ↓w_dNot, ↓w_dAnd, ↓w_dOr, ↓w_oNone, ↓w_oSome, ↓o_int, ↓w_sl, ↓sq_nx, ↓sq_rt, ↓sq_bk, ↓sq_ct, ↓w_seq, ↓w_skip, ↓w_dret, ↓w_retN, ↓w_expr, ↓w_dif, ↓w_brk, ↓w_raise, ↓w_dasg, ↓w_dset, ↓al_sh, ↓al_lo, ↓al_lb, ↓w_asg_v, ↓w_asg_al, ↓w_gsNil, ↓w_gsCons, ↓tp_k, ↓w_gTp, ↓w_for, ↓w_loop_nil, ↓tn_nx, ↓tn_ct, ↓tn_bk, ↓tn_rt, ↓w_iOf, ↓w_iOfN, ↓seq_tup, ↓seq_lst, ↓seq_scr, ↓w_lc, ↓wipe_nil, ↓it_k, ↓w_yes, ↓fr_ok, ↓fr_ex, ↓ms_t, ↓ms_f, ↓ms_n, ↓out_nx, ↓out_v, ↓out_al, ↓mu_nil, ↓mu_t, ↓mu_f, ↓fr_run, ↓st_e, ↓lt_sh, ↓lt_ow, ↓lt_lo, ↓lt_ob, ↓lt_lb, ↓ot_ow, ↓ot_ob, ↓le_nil, ↓le_f, ↓le_t, ↓alf_nil, ↓alf_nil2, ↓alf_v, ↓alf_ff, ↓alf_al, ↓oa_nil, ↓oa_v, ↓oa_al, ↓okr_sh, ↓okr_no, ↓okr_ow, ↓okr_sh1, ↓okr_no1, ↓okr_ow1, ↓okr_sh2, ↓pu_nil, ↓pu_f, ↓pu_al, ↓pu_v, ↓w_call, ↓w_dcall, ↓w_dmeth, ↓mk_k, ↓mk_x, ↓w_make, ↓w_dmake, ↓w_chk_v, ↓w_dBM, ↓w_dBM0, ↓isl_n, ↓isk_n, ↓isl_1, ↓isl_2, ↓isl_3, ↓isl_4, ↓isk_1, ↓isk_2, ↓isk_3, ↓isk_4, ↓isk_5, ↓isk_6, ↓ow_k, ↓w_mutS, ↓w_mutR, ↓f_app, ↓f_pop, ↓f_ext, ↓f_extT, ↓w_rdm, ↓str_k, ↓w_isStr, ↓w_strM, ↓w_fld, ↓ft_sh, ↓ft_ow, ↓ft_lo, ↓fa_sh, ↓fa_lo, ↓ft_al, ↓ob_k, ↓w_setFld, ↓w_fldSet, ↓w_setZ, ↓w_gSub, ↓fow_k, ↓w_gFSub, ↓int_k, ↓w_aug, ↓ch_t, ↓ch_f, ↓w_catch, ↓w_try, ↓w_tryKeep, ↓w_give, ↓w_no, ↓w_dict, ↓w_dictT, ↓w_chain, ↓is_b, ↓w_get2, ↓gz_s, ↓gz_n, ↓w_getZ, ↓o_addI, ↓o_addS, ↓o_addT, ↓o_addL, ↓o_sub, ↓o_mulI, ↓o_mulS, ↓o_mulL, ↓o_fdv, ↓o_mod, ↓o_neg, ↓o_lt, ↓o_le, ↓o_gt, ↓o_ge, ↓b_lt, ↓b_le, ↓o_is, ↓isn_t, ↓isn_1, ↓isn_2, ↓isn_3, ↓isn_4, ↓isn_5, ↓o_eqI, ↓o_eqS, ↓o_ixT, ↓o_ixL, ↓o_ixC, ↓o_ixS, ↓o_ixD, ↓o_slS, ↓o_slT, ↓o_slL, ↓o_slC, ↓o_inD, ↓o_tup, ↓o_lst, ↓o_lenT, ↓o_lenL, ↓o_lenC, ↓o_lenD, ↓o_lenS, ↓o_min, ↓o_max, ↓o_intI, ↓o_intB, ↓o_listT, ↓o_listL, ↓o_listC, ↓o_tupleT, ↓o_tupleL, ↓o_dict, ↓o_rev, ↓o_revT, ↓o_isi, ↓ty_1, ↓ty_2, ↓ty_3, ↓ty_4, ↓ty_5, ↓ty_6, ↓ty_7, ↓tr_b, ↓tr_n, ↓tr_i, ↓tr_t, ↓tr_l, w_chk_al isl_n, w_chk_al isk_n, Bool.false_eq_true, if_true, if_false, true_and, and_true, Bool.bne_false, Bool.bne_true, Bool.not_true, Bool.not_false, decide_true, decide_false, Bool.and_true, Bool.true_and, Bool.or_false, Bool.false_or, Bool.or_true, Bool.true_or, Bool.and_false, Bool.false_and, Bool.or_self, Bool.and_self, List.getElem?_cons_zero, List.getElem?_cons_succ, List.getElem?_nil, List.length_cons, List.length_nil, List.cons_append, List.nil_append, Nat.reduceAdd, Nat.reduceSub, List.replicate_succ, List.replicate_zero, Nat.reduceEqDiff, Int.reduceEq, Int.reduceLT, Int.reduceLE, Nat.reduceLT, Nat.reduceLeDiff, reduceCtorEq, Nat.zero_add, edk, pu_pop, isl_pu]
      refine ⟨fun hz => ?_, fun hz => ?_⟩
      · simp -implicitDefEqProofs only [↓k_some, ↓an_some, ↓g_0, ↓g_s, ↓s_0, ↓s_s, ↓td_sh, ↓td_ow, ↓td_lo, ↓rd_v, ↓rd_al, ↓rds_nil, ↓rds_cons, ↓shs_nil, ↓shs_v, ↓shk, ↓shs_al, ↓gt_v, ↓gt_al, ↓if_tt, ↓if_ff, ↓w_ret, ↓w_stk, ↓w_rse, ↓w_bnd, ↓nz_sh, ↓nz_ow, ↓nz_lo, ↓nz_ob, ↓nz_lb, ↓w_var, ↓w_c, ↓w_ans, ↓w_rd, ↓w_rds, ↓w_d2, ↓w_d1, ↓w_dN, ↓w_dS, ↓w_nil, ↓w_cons, ↓gv_sh, ↓gv_ow, ↓gv_ob, ↓fg_nil, ↓gi_v, ↓gi_al, ↓w_giv, ↓w_rdO, ↓w_opT, ↓w_tru, ↓w_bl, ↓bl_d, ↓w_not, ↓w_if, ↓w_and, ↓w_or, ↓w_dNot, ↓w_dAnd, ↓w_dOr, ↓w_oNone, ↓w_oSome, ↓o_int, ↓w_sl, ↓sq_nx, ↓sq_rt, ↓sq_bk, ↓sq_ct, ↓w_seq, ↓w_skip, ↓w_dret, ↓w_retN, ↓w_expr, ↓w_dif, ↓w_brk, ↓w_raise, ↓w_dasg, ↓w_dset, ↓al_sh, ↓al_lo, ↓al_lb, ↓w_asg_v, ↓w_asg_al, ↓w_gsNil, ↓w_gsCons, ↓tp_k, ↓w_gTp, ↓w_for, ↓w_loop_nil, ↓tn_nx, ↓tn_ct, ↓tn_bk, ↓tn_rt, ↓w_iOf, ↓w_iOfN, ↓seq_tup, ↓seq_lst, ↓seq_scr, ↓w_lc, ↓wipe_nil, ↓it_k, ↓w_yes, ↓fr_ok, ↓fr_ex, ↓ms_t, ↓ms_f, ↓ms_n, ↓out_nx, ↓out_v, ↓out_al, ↓mu_nil, ↓mu_t, ↓mu_f, ↓fr_run, ↓st_e, ↓lt_sh, ↓lt_ow, ↓lt_lo, ↓lt_ob, ↓lt_lb, ↓ot_ow, ↓ot_ob, ↓le_nil, ↓le_f, ↓le_t, ↓alf_nil, ↓alf_nil2, ↓alf_v, ↓alf_ff, ↓alf_al, ↓oa_nil, ↓oa_v, ↓oa_al, ↓okr_sh, ↓okr_no, ↓okr_ow, ↓okr_sh1, ↓okr_no1, ↓okr_ow1, ↓okr_sh2, ↓pu_nil, ↓pu_f, ↓pu_al, ↓pu_v, ↓w_call, ↓w_dcall, ↓w_dmeth, ↓mk_k, ↓mk_x, ↓w_make, ↓w_dmake, ↓w_chk_v, ↓w_dBM, ↓w_dBM0, ↓isl_n, ↓isk_n, ↓isl_1, ↓isl_2, ↓isl_3, ↓isl_4, ↓isk_1, ↓isk_2, ↓isk_3, ↓isk_4, ↓isk_5, ↓isk_6, ↓ow_k, ↓w_mutS, ↓w_mutR, ↓f_app, ↓f_pop, ↓f_ext, ↓f_extT, ↓w_rdm, ↓str_k, ↓w_isStr, ↓w_strM, ↓w_fld, ↓ft_sh, ↓ft_ow, ↓ft_lo, ↓fa_sh, ↓fa_lo, ↓ft_al, ↓ob_k, ↓w_setFld, ↓w_fldSet, ↓w_setZ, ↓w_gSub, ↓fow_k, ↓w_gFSub, ↓int_k, ↓w_aug, ↓ch_t, ↓ch_f, ↓w_catch, ↓w_try, ↓w_tryKeep, ↓w_give, ↓w_no, ↓w_dict, ↓w_dictT, ↓w_chain, ↓is_b, ↓w_get2, ↓gz_s, ↓gz_n, ↓w_getZ, ↓o_addI, ↓o_addS, ↓o_addT, ↓o_addL, ↓o_sub, ↓o_mulI, ↓o_mulS, ↓o_mulL, ↓o_fdv, ↓o_mod, ↓o_neg, ↓o_lt, ↓o_le, ↓o_gt, ↓o_ge, ↓b_lt, ↓b_le, ↓o_is, ↓isn_t, ↓isn_1, ↓isn_2, ↓isn_3, ↓isn_4, ↓isn_5, ↓o_eqI, ↓o_eqS, ↓o_ixT, ↓o_ixL, ↓o_ixC, ↓o_ixS, ↓o_ixD, ↓o_slS, ↓o_slT, ↓o_slL, ↓o_slC, ↓o_inD, ↓o_tup, ↓o_lst, ↓o_lenT, ↓o_lenL, ↓o_lenC, ↓o_lenD, ↓o_lenS, ↓o_min, ↓o_max, ↓o_intI, ↓o_intB, ↓o_listT, ↓o_listL, ↓o_listC, ↓o_tupleT, ↓o_tupleL, ↓o_dict, ↓o_rev, ↓o_revT, ↓o_isi, ↓ty_1, ↓ty_2, ↓ty_3, ↓ty_4, ↓ty_5, ↓ty_6, ↓ty_7, ↓tr_b, ↓tr_n, ↓tr_i, ↓tr_t, ↓tr_l, w_chk_al isl_n, w_chk_al isk_n, Bool.false_eq_true, if_true, if_false, true_and, and_true, Bool.bne_false, Bool.bne_true, Bool.not_true, Bool.not_false, decide_true, decide_false, Bool.and_true, Bool.true_and, Bool.or_false, Bool.false_or, Bool.or_true, Bool.true_or, Bool.and_false, Bool.false_and, Bool.or_self, Bool.and_self, List.getElem?_cons_zero, List.getElem?_cons_succ, List.getElem?_nil, List.length_cons, List.length_nil, List.cons_append, List.nil_append, Nat.reduceAdd, Nat.reduceSub, List.replicate_succ, List.replicate_zero, Nat.reduceEqDiff, Int.reduceEq, Int.reduceLT, Int.reduceLE, Nat.reduceLT, Nat.reduceLeDiff, reduceCtorEq, Nat.zero_add, f1, eW, ak, hs]
        refine ⟨st ++ [(names[(k + 2) % 6], W)], _, _, hS.snoc hkn (hnm _ (List.getElem_mem _)) (hW.mono (by omega)) (by omega), by rw [List.length_append, List.length_singleton]; omega, fun p hp => ?_, rfl⟩
        rcases List.mem_append.mp hp with hp | hp
        · obtain ⟨j, hj, e⟩ := hin p hp
          exact ⟨j, by omega, e⟩
        · rw [List.mem_singleton.mp hp]
          exact ⟨k, by omega, List.getElem?_eq_getElem hm6⟩
      · exact ⟨st, _, _, hS, by omega, fun p hp => (hin p hp).imp fun j h => ⟨by omega, h.2⟩, rfl⟩
    · rintro ρ ⟨st, t5, t12, hS, hl, hin, rfl⟩
      simp -implicitDefEqProofs only [↓k_some, ↓an_some, ↓g_0, ↓g_s, ↓s_0, ↓s_s, ↓td_sh, ↓td_ow, ↓td_lo, ↓rd_v, ↓rd_al, ↓rds_nil, ↓rds_cons, ↓shs_nil, ↓shs_v, ↓shk, ↓shs_al, ↓gt_v, ↓gt_al, ↓if_tt, ↓if_ff, ↓w_ret, ↓w_stk, ↓w_rse, ↓w_bnd, ↓nz_sh, ↓nz_ow, ↓nz_lo, ↓nz_ob, ↓nz_lb, ↓w_var, ↓w_c, ↓w_ans, ↓w_rd, ↓w_rds, ↓w_d2, ↓w_d1, ↓w_dN, ↓w_dS, ↓w_nil, ↓w_cons, ↓gv_sh, ↓gv_ow, ↓gv_ob, ↓fg_nil, ↓gi_v, ↓gi_al, ↓w_giv, ↓w_rdO, ↓w_opT, ↓w_tru, ↓w_bl, ↓bl_d, ↓w_not, ↓w_if, ↓w_and, ↓w_or, ↓w_dNot, ↓w_dAnd, ↓w_dOr, ↓w_oNone, ↓w_oSome, ↓o_int, ↓w_sl, ↓sq_nx, ↓sq_rt, ↓sq_bk, ↓sq_ct, ↓w_seq, ↓w_skip, ↓w_dret, ↓w_retN, ↓w_expr, ↓w_dif, ↓w_brk, ↓w_raise, ↓w_dasg, ↓w_dset, ↓al_sh, ↓al_lo, ↓al_lb, ↓w_asg_v, ↓w_asg_al, ↓w_gsNil, ↓w_gsCons, ↓tp_k, ↓w_gTp, ↓w_for, ↓w_loop_nil, ↓tn_nx, ↓tn_ct, ↓tn_bk, ↓tn_rt, ↓w_iOf, ↓w_iOfN, ↓seq_tup, ↓seq_lst, ↓seq_scr, ↓w_lc, ↓wipe_nil, ↓it_k, ↓w_yes, ↓fr_ok, ↓fr_ex, ↓ms_t, ↓ms_f, ↓ms_n, ↓out_nx, ↓out_v, ↓out_al, ↓mu_nil, ↓mu_t, ↓mu_f, ↓fr_run, ↓st_e, ↓lt_sh, ↓lt_ow, ↓lt_lo, ↓lt_ob, ↓lt_lb, ↓ot_ow, ↓ot_ob, ↓le_nil, ↓le_f, ↓le_t, ↓alf_nil, ↓alf_nil2, ↓alf_v, ↓alf_ff, ↓alf_al, ↓oa_nil, ↓oa_v, ↓oa_al, ↓okr_sh, ↓okr_no, ↓okr_ow, ↓okr_sh1, ↓okr_no1, ↓okr_ow1, ↓okr_sh2, ↓pu_nil, ↓pu_f, ↓pu_al, ↓pu_v, ↓w_call, ↓w_dcall, ↓w_dmeth, ↓mk_k, ↓mk_x, ↓w_make, ↓w_dmake, ↓w_chk_v, ↓w_dBM, ↓w_dBM0, ↓isl_n, ↓isk_n, ↓isl_1, ↓isl_2, ↓isl_3, ↓isl_4, ↓isk_1, ↓isk_2, ↓isk_3, ↓isk_4, ↓isk_5, ↓isk_6, ↓ow_k, ↓w_mutS, ↓w_mutR, ↓f_app, ↓f_pop, ↓f_ext, ↓f_extT, ↓w_rdm, ↓str_k, ↓w_isStr, ↓w_strM, ↓w_fld, ↓ft_sh, ↓ft_ow, ↓ft_lo, ↓fa_sh, ↓fa_lo, ↓ft_al, ↓ob_k, ↓w_setFld, ↓w_fldSet, ↓w_setZ, ↓w_gSub, ↓fow_k, ↓w_gFSub, ↓int_k, ↓w_aug, ↓ch_t, ↓ch_f, ↓w_catch, ↓w_try, ↓w_tryKeep, ↓w_give, ↓w_no, ↓w_dict, ↓w_dictT, ↓w_chain, ↓is_b, ↓w_get2, ↓gz_s, ↓gz_n, ↓w_getZ, ↓o_addI, ↓o_addS, ↓o_addT, ↓o_addL, ↓o_sub, ↓o_mulI, ↓o_mulS, ↓o_mulL, ↓o_fdv, ↓o_mod, ↓o_neg, ↓o_lt, ↓o_le, ↓o_gt, ↓o_ge, ↓b_lt, ↓b_le, ↓o_is, ↓isn_t, ↓isn_1, ↓isn_2, ↓isn_3, ↓isn_4, ↓isn_5, ↓o_eqI, ↓o_eqS, ↓o_ixT, ↓o_ixL, ↓o_ixC, ↓o_ixS, ↓o_ixD, ↓o_slS, ↓o_slT, ↓o_slL, ↓o_slC, ↓o_inD, ↓o_tup, ↓o_lst, ↓o_lenT, ↓o_lenL, ↓o_lenC, ↓o_lenD, ↓o_lenS, ↓o_min, ↓o_max, ↓o_intI, ↓o_intB, ↓o_listT, ↓o_listL, ↓o_listC, ↓o_tupleT, ↓o_tupleL, ↓o_dict, ↓o_rev, ↓o_revT, ↓o_isi, ↓ty_1, ↓ty_2, ↓ty_3, ↓ty_4, ↓ty_5, ↓ty_6, ↓ty_7, ↓tr_b, ↓tr_n, ↓tr_i, ↓tr_t, ↓tr_l, w_chk_al isl_n, w_chk_al isk_n, Bool.false_eq_true, if_true, if_false, true_and, and_true, Bool.bne_false, Bool.bne_true, Bool.not_true, Bool.not_false, decide_true, decide_false, Bool.and_true, Bool.true_and, Bool.or_false, Bool.false_or, Bool.or_true, Bool.true_or, Bool.and_false, Bool.false_and, Bool.or_self, Bool.and_self, List.getElem?_cons_zero, List.getElem?_cons_succ, List.getElem?_nil, List.length_cons, List.length_nil, List.cons_append, List.nil_append, Nat.reduceAdd, Nat.reduceSub, List.replicate_succ, List.replicate_zero, Nat.reduceEqDiff, Int.reduceEq, Int.reduceLT, Int.reduceLE, Nat.reduceLT, Nat.reduceLeDiff, reduceCtorEq, Nat.zero_add]
      exact ⟨st, _, _, hS, hl, rfl⟩
  rintro ρ ⟨st, t5, t12, hS, hl, rfl⟩
  have g1 := e_standing hP3 (by omega)
  have g2 := e_names_in hP3 (by omega)
  obtain ⟨hgn, hgl⟩ := gat_ok hP3 (acc := []) (by simp)
  have g3 := e_filled st (k := 12) hP3 (by omega)
  have g4 := e_law_filled hS.nm (k := 12) hP3 (by omega)
  have hE : Ew (3 + 2) (fill st P) := fill_ew hS.ew hP3
  have g5 := e_shape (k := 12) hE (by omega)
  have gk : ∀ (K : D → Prop), GvK (.ow (dkE st)) K = K (dkE st) := fun K => rfl
  have gn : ∀ (K : D → Prop), GvK (.ow (nmD (gat P []))) K = K (nmD (gat P [])) := fun K => rfl
  have od : ∀ (K : V.T → Prop), AnK (wDict [dkE st]) K = K (.ow (dkE st)) := fun K => rfl
  have tyN : ∀ (K : Ty → Prop), OpK (tyD (nmD (gat P []))) K = K .lst := fun K => rfl
  have sll : Ty.sub .lst .lst = true := rfl
  have qn := fun (n : Bool) (K : V.T → Prop) => eq_nms hgn (n := n) (K := K)
  have qe := fun (n : Bool) (K : V.T → Prop) => eqD_same (n := n) (K := K) hS (by omega)
  have qx := fun (n : Bool) (K : V.T → Prop) => o_eqEx (n := n) (K := K) hE hE (by omega)
  have c43 : (4 : Nat) ^ 3 = 64 := rfl
  have lt : ltOk (gat P []).length = true := lt_ok (by rw [c43] at hgl; simp at hgl; omega)
  simp -implicitDefEqProofs only [↓k_some, ↓an_some, ↓g_0, ↓g_s, ↓s_0, ↓s_s, ↓td_sh, ↓td_ow, ↓td_lo, ↓rd_v, ↓rd_al, ↓rds_nil, ↓rds_cons, ↓shs_nil, ↓shs_v, ↓shk, ↓shs_al, ↓gt_v, ↓gt_al, ↓if_tt, ↓if_ff, ↓w_ret, ↓w_stk, ↓w_rse, ↓w_bnd, ↓nz_sh, ↓nz_ow, ↓nz_lo, ↓nz_ob, ↓nz_lb, ↓w_var, ↓w_c, ↓w_ans, ↓w_rd, ↓w_rds, ↓w_d2, ↓w_d1, ↓w_dN, ↓w_dS, ↓w_nil, ↓w_cons, ↓gv_sh, ↓gv_ow, ↓gv_ob, ↓fg_nil, ↓gi_v, ↓gi_al, ↓w_giv, ↓w_rdO, ↓w_opT, ↓w_tru, ↓w_bl, ↓bl_d, ↓w_not, ↓w_if, ↓w_and, ↓w_or, ↓w_dNot, ↓w_dAnd, ↓w_dOr, ↓w_oNone, ↓w_oSome, ↓o_int, ↓w_sl, ↓sq_nx, ↓sq_rt, ↓sq_bk, ↓sq_ct, ↓w_seq, ↓w_skip, ↓w_dret, ↓w_retN, ↓w_expr, ↓w_dif, ↓w_brk, ↓w_raise, ↓w_dasg, ↓w_dset, ↓al_sh, ↓al_lo, ↓al_lb, ↓w_asg_v, ↓w_asg_al, ↓w_gsNil, ↓w_gsCons, ↓tp_k, ↓w_gTp, ↓w_for, ↓w_loop_nil, ↓tn_nx, ↓tn_ct, ↓tn_bk, ↓tn_rt, ↓w_iOf, ↓w_iOfN, ↓seq_tup, ↓seq_lst, ↓seq_scr, ↓w_lc, ↓wipe_nil, ↓it_k, ↓w_yes, ↓fr_ok, ↓fr_ex, ↓ms_t, ↓ms_f, ↓ms_n, ↓out_nx, ↓out_v, ↓out_al, ↓mu_nil, ↓mu_t, ↓mu_f, ↓fr_run, ↓st_e, ↓lt_sh, ↓lt_ow, ↓lt_lo, ↓lt_ob, ↓lt_lb, ↓ot_ow, ↓ot_ob, ↓le_nil, ↓le_f, ↓le_t, ↓alf_nil, ↓alf_nil2, ↓alf_v, ↓alf_ff, ↓alf_al, ↓oa_nil, ↓oa_v, ↓oa_al, ↓okr_sh, ↓okr_no, ↓okr_ow, ↓okr_sh1, ↓okr_no1, ↓okr_ow1, ↓okr_sh2, ↓pu_nil, ↓pu_f, ↓pu_al, ↓pu_v, ↓w_call, ↓w_dcall, ↓w_dmeth, ↓mk_k, ↓mk_x, ↓w_make, ↓w_dmake, ↓w_chk_v, ↓w_dBM, ↓w_dBM0, ↓isl_n, ↓isk_n, ↓isl_1, ↓isl_2, ↓isl_3, ↓isl_4, ↓isk_1, ↓isk_2, ↓isk_3, ↓isk_4, ↓isk_5, ↓isk_6, ↓ow_k, ↓w_mutS, ↓w_mutR, ↓f_app, ↓f_pop, ↓f_ext, ↓f_extT, ↓w_rdm, ↓str_k, ↓w_isStr, ↓w_strM, ↓w_fld, ↓ft_sh, ↓ft_ow, ↓ft_lo, ↓fa_sh, ↓fa_lo, ↓ft_al, ↓ob_k, ↓w_setFld, ↓w_fldSet, ↓w_setZ, ↓w_gSub, ↓fow_k, ↓w_gFSub, ↓int_k, ↓w_aug, ↓ch_t, ↓ch_f, ↓w_catch, ↓w_try, ↓w_tryKeep, ↓w_give, ↓w_no, ↓w_dict, ↓w_dictT, ↓w_chain, ↓is_b, ↓w_get2, ↓gz_s, ↓gz_n, ↓w_getZ, ↓o_addI, ↓o_addS, ↓o_addT, ↓o_addL, ↓o_sub, ↓o_mulI, ↓o_mulS, ↓o_mulL, ↓o_fdv, ↓o_mod, ↓o_neg, ↓o_lt, ↓o_le, ↓o_gt, ↓o_ge, ↓b_lt, ↓b_le, ↓o_is, ↓isn_t, ↓isn_1, ↓isn_2, ↓isn_3, ↓isn_4, ↓isn_5, ↓o_eqI, ↓o_eqS, ↓o_ixT, ↓o_ixL, ↓o_ixC, ↓o_ixS, ↓o_ixD, ↓o_slS, ↓o_slT, ↓o_slL, ↓o_slC, ↓o_inD, ↓o_tup, ↓o_lst, ↓o_lenT, ↓o_lenL, ↓o_lenC, ↓o_lenD, ↓o_lenS, ↓o_min, ↓o_max, ↓o_intI, ↓o_intB, ↓o_listT, ↓o_listL, ↓o_listC, ↓o_tupleT, ↓o_tupleL, ↓o_dict, ↓o_rev, ↓o_revT, ↓o_isi, ↓ty_1, ↓ty_2, ↓ty_3, ↓ty_4, ↓ty_5, ↓ty_6, ↓ty_7, ↓tr_b, ↓tr_n, ↓tr_i, ↓tr_t, ↓tr_l, w_chk_al isl_n, w_chk_al isk_n, Bool.false_eq_true, if_true, if_false, true_and, and_true, Bool.bne_false, Bool.bne_true, Bool.not_true, Bool.not_false, decide_true, decide_false, Bool.and_true, Bool.true_and, Bool.or_false, Bool.false_or, Bool.or_true, Bool.true_or, Bool.and_false, Bool.false_and, Bool.or_self, Bool.and_self, List.getElem?_cons_zero, List.getElem?_cons_succ, List.getElem?_nil, List.length_cons, List.length_nil, List.cons_append, List.nil_append, Nat.reduceAdd, Nat.reduceSub, List.replicate_succ, List.replicate_zero, Nat.reduceEqDiff, Int.reduceEq, Int.reduceLT, Int.reduceLE, Nat.reduceLT, Nat.reduceLeDiff, reduceCtorEq, Nat.zero_add, g1, g2, g3, g4, g5, gk, gn, od, tyN, sll, qn, qe, qx, isl_nm, app_nm lt, e0]
  refine wp_loopA D.str (fun pre ρ => ∃ (t11 : V.T), ρ = [.sh (.scr (ns.map .int)), .sh (.lst (names.map .str)), .sh (.int fl), .sh (exD P), .sh (dkE st), t5, .sh (nmD (gat P [])), .sh (dkE st), .ow (nmD (gat P [] ++ [("z" : Str)])), .sh (exD (fill st P)), .ow (dkE (pre.map fun s => (s, Ex.nm s))), t11, t12]) ⟨_, rfl⟩ ?_ ?_
  · rintro pre s post ρ hx ⟨t11, rfl⟩
    have hnd2 := hnd
    rw [hx, List.nodup_append] at hnd2
    have hmm : (pre.map fun s => (s, Ex.nm s)).map (·.1) = pre := by rw [List.map_map]; exact (List.map_congr_left fun _ _ => rfl).trans (List.map_id pre)
    have hS2 : StE 1 (pre.map fun s => (s, Ex.nm s)) := ⟨by rw [hmm]; exact hnd2.1, fun p hp => by
      obtain ⟨z, hz, rfl⟩ := List.mem_map.mp hp
      exact hnm z (by rw [hx]; simp [hz]), fun p hp => by
      obtain ⟨z, hz, rfl⟩ := List.mem_map.mp hp
      exact .nm (hnm z (by rw [hx]; simp [hz])), by
      have := congrArg List.length hx
      rw [List.length_append, l6] at this
      rw [List.length_map]
      omega⟩
    have hs0 : s ∉ (pre.map fun s => (s, Ex.nm s)).map (·.1) := by
      rw [hmm]
      intro z
      exact hnd2.2.2 s z s (List.mem_cons_self ..) rfl
    have hll : (pre.map fun s => (s, Ex.nm s)).length < 1000000 := by
      have := congrArg List.length hx
      rw [List.length_append, l6] at this
      rw [List.length_map]
      omega
    have hs := fun (K : D → Prop) => set_e hS2 (e := Ex.nm s) hs0 hll (K := K)
    rw [show exD (.nm s) = .tup [.str "name", .str s] by rw [exD]] at hs
    simp -implicitDefEqProofs only [b2_law, ↓k_some, ↓an_some, ↓g_0, ↓g_s, ↓s_0, ↓s_s, ↓td_sh, ↓td_ow, ↓td_lo, ↓rd_v, ↓rd_al, ↓rds_nil, ↓rds_cons, ↓shs_nil, ↓shs_v, ↓shk, ↓shs_al, ↓gt_v, ↓gt_al, ↓if_tt, ↓if_ff, ↓w_ret, ↓w_stk, ↓w_rse, ↓w_bnd, ↓nz_sh, ↓nz_ow, ↓nz_lo, ↓nz_ob, ↓nz_lb, ↓w_var, ↓w_c, ↓w_ans, ↓w_rd, ↓w_rds, ↓w_d2, ↓w_d1, ↓w_dN, ↓w_dS, ↓w_nil, ↓w_cons, ↓gv_sh, ↓gv_ow, ↓gv_ob, ↓fg_nil, ↓gi_v, ↓gi_al, ↓w_giv, ↓w_rdO, ↓w_opT, ↓w_tru, ↓w_bl, ↓bl_d, ↓w_not, ↓w_if, ↓w_and, ↓w_or, ↓w_dNot, ↓w_dAnd, ↓w_dOr, ↓w_oNone, ↓w_oSome, ↓o_int, ↓w_sl, ↓sq_nx, ↓sq_rt, ↓sq_bk, ↓sq_ct, ↓w_seq, ↓w_skip, ↓w_dret, ↓w_retN, ↓w_expr, ↓w_dif, ↓w_brk, ↓w_raise, ↓w_dasg, ↓w_dset, ↓al_sh, ↓al_lo, ↓al_lb, ↓w_asg_v, ↓w_asg_al, ↓w_gsNil, ↓w_gsCons, ↓tp_k, ↓w_gTp, ↓w_for, ↓w_loop_nil, ↓tn_nx, ↓tn_ct, ↓tn_bk, ↓tn_rt, ↓w_iOf, ↓w_iOfN, ↓seq_tup, ↓seq_lst, ↓seq_scr, ↓w_lc, ↓wipe_nil, ↓it_k, ↓w_yes, ↓fr_ok, ↓fr_ex, ↓ms_t, ↓ms_f, ↓ms_n, ↓out_nx, ↓out_v, ↓out_al, ↓mu_nil, ↓mu_t, ↓mu_f, ↓fr_run, ↓st_e, ↓lt_sh, ↓lt_ow, ↓lt_lo, ↓lt_ob, ↓lt_lb, ↓ot_ow, ↓ot_ob, ↓le_nil, ↓le_f, ↓le_t, ↓alf_nil, ↓alf_nil2, ↓alf_v, ↓alf_ff, ↓alf_al, ↓oa_nil, ↓oa_v, ↓oa_al, ↓okr_sh, ↓okr_no, ↓okr_ow, ↓okr_sh1, ↓okr_no1, ↓okr_ow1, ↓okr_sh2, ↓pu_nil, ↓pu_f, ↓pu_al, ↓pu_v, ↓w_call, ↓w_dcall, ↓w_dmeth, ↓mk_k, ↓mk_x, ↓w_make, ↓w_dmake, ↓w_chk_v, ↓w_dBM, ↓w_dBM0, ↓isl_n, ↓isk_n, ↓isl_1, ↓isl_2, ↓isl_3, ↓isl_4, ↓isk_1, ↓isk_2, ↓isk_3, ↓isk_4, ↓isk_5, ↓isk_6, ↓ow_k, ↓w_mutS, ↓w_mutR, ↓f_app, ↓f_pop, ↓f_ext, ↓f_extT, ↓w_rdm, ↓str_k, ↓w_isStr, ↓w_strM, ↓w_fld, ↓ft_sh, ↓ft_ow, ↓ft_lo, ↓fa_sh, ↓fa_lo, ↓ft_al, ↓ob_k, ↓w_setFld, ↓w_fldSet, ↓w_setZ, ↓w_gSub, ↓fow_k, ↓w_gFSub, ↓int_k, ↓w_aug, ↓ch_t, ↓ch_f, ↓w_catch, ↓w_try, ↓w_tryKeep, ↓w_give, ↓w_no, ↓w_dict, ↓w_dictT, ↓w_chain, ↓is_b, ↓w_get2, ↓gz_s, ↓gz_n, ↓w_getZ, ↓o_addI, ↓o_addS, ↓o_addT, ↓o_addL, ↓o_sub, ↓o_mulI, ↓o_mulS, ↓o_mulL, ↓o_fdv, ↓o_mod, ↓o_neg, ↓o_lt, ↓o_le, ↓o_gt, ↓o_ge, ↓b_lt, ↓b_le, ↓o_is, ↓isn_t, ↓isn_1, ↓isn_2, ↓isn_3, ↓isn_4, ↓isn_5, ↓o_eqI, ↓o_eqS, ↓o_ixT, ↓o_ixL, ↓o_ixC, ↓o_ixS, ↓o_ixD, ↓o_slS, ↓o_slT, ↓o_slL, ↓o_slC, ↓o_inD, ↓o_tup, ↓o_lst, ↓o_lenT, ↓o_lenL, ↓o_lenC, ↓o_lenD, ↓o_lenS, ↓o_min, ↓o_max, ↓o_intI, ↓o_intB, ↓o_listT, ↓o_listL, ↓o_listC, ↓o_tupleT, ↓o_tupleL, ↓o_dict, ↓o_rev, ↓o_revT, ↓o_isi, ↓ty_1, ↓ty_2, ↓ty_3, ↓ty_4, ↓ty_5, ↓ty_6, ↓ty_7, ↓tr_b, ↓tr_n, ↓tr_i, ↓tr_t, ↓tr_l, w_chk_al isl_n, w_chk_al isk_n, Bool.false_eq_true, if_true, if_false, true_and, and_true, Bool.bne_false, Bool.bne_true, Bool.not_true, Bool.not_false, decide_true, decide_false, Bool.and_true, Bool.true_and, Bool.or_false, Bool.false_or, Bool.or_true, Bool.true_or, Bool.and_false, Bool.false_and, Bool.or_self, Bool.and_self, List.getElem?_cons_zero, List.getElem?_cons_succ, List.getElem?_nil, List.length_cons, List.length_nil, List.cons_append, List.nil_append, Nat.reduceAdd, Nat.reduceSub, List.replicate_succ, List.replicate_zero, Nat.reduceEqDiff, Int.reduceEq, Int.reduceLT, Int.reduceLE, Nat.reduceLT, Nat.reduceLeDiff, reduceCtorEq, Nat.zero_add, sz, hs]
    exact ⟨_, by rw [List.map_append]; rfl⟩
  · rintro ρ ⟨t11, rfl⟩
    have hown : ∀ p ∈ names.map (fun s => (s, Ex.nm s)), p.2 = .nm p.1 := fun p hp => by
      obtain ⟨z, hz, rfl⟩ := List.mem_map.mp hp
      rfl
    have g6 := e_filled [] (k := 12) hP3 (by omega)
    have g7 := e_filled (names.map fun s => (s, Ex.nm s)) (k := 12) hP3 (by omega)
    rw [fill_own _ (by simp)] at g6
    rw [fill_own _ hown] at g7
    have gk2 : ∀ (K : D → Prop), GvK (.ow (dkE (names.map fun s => (s, Ex.nm s)))) K = K (dkE (names.map fun s => (s, Ex.nm s))) := fun K => rfl
    have q3 := fun (n : Bool) (K : V.T → Prop) => o_eqEx (n := n) (K := K) hP3 hP3 (by omega)
    simp -implicitDefEqProofs only [↓k_some, ↓an_some, ↓g_0, ↓g_s, ↓s_0, ↓s_s, ↓td_sh, ↓td_ow, ↓td_lo, ↓rd_v, ↓rd_al, ↓rds_nil, ↓rds_cons, ↓shs_nil, ↓shs_v, ↓shk, ↓shs_al, ↓gt_v, ↓gt_al, ↓if_tt, ↓if_ff, ↓w_ret, ↓w_stk, ↓w_rse, ↓w_bnd, ↓nz_sh, ↓nz_ow, ↓nz_lo, ↓nz_ob, ↓nz_lb, ↓w_var, ↓w_c, ↓w_ans, ↓w_rd, ↓w_rds, ↓w_d2, ↓w_d1, ↓w_dN, ↓w_dS, ↓w_nil, ↓w_cons, ↓gv_sh, ↓gv_ow, ↓gv_ob, ↓fg_nil, ↓gi_v, ↓gi_al, ↓w_giv, ↓w_rdO, ↓w_opT, ↓w_tru, ↓w_bl, ↓bl_d, ↓w_not, ↓w_if, ↓w_and, ↓w_or, ↓w_dNot, ↓w_dAnd, ↓w_dOr, ↓w_oNone, ↓w_oSome, ↓o_int, ↓w_sl, ↓sq_nx, ↓sq_rt, ↓sq_bk, ↓sq_ct, ↓w_seq, ↓w_skip, ↓w_dret, ↓w_retN, ↓w_expr, ↓w_dif, ↓w_brk, ↓w_raise, ↓w_dasg, ↓w_dset, ↓al_sh, ↓al_lo, ↓al_lb, ↓w_asg_v, ↓w_asg_al, ↓w_gsNil, ↓w_gsCons, ↓tp_k, ↓w_gTp, ↓w_for, ↓w_loop_nil, ↓tn_nx, ↓tn_ct, ↓tn_bk, ↓tn_rt, ↓w_iOf, ↓w_iOfN, ↓seq_tup, ↓seq_lst, ↓seq_scr, ↓w_lc, ↓wipe_nil, ↓it_k, ↓w_yes, ↓fr_ok, ↓fr_ex, ↓ms_t, ↓ms_f, ↓ms_n, ↓out_nx, ↓out_v, ↓out_al, ↓mu_nil, ↓mu_t, ↓mu_f, ↓fr_run, ↓st_e, ↓lt_sh, ↓lt_ow, ↓lt_lo, ↓lt_ob, ↓lt_lb, ↓ot_ow, ↓ot_ob, ↓le_nil, ↓le_f, ↓le_t, ↓alf_nil, ↓alf_nil2, ↓alf_v, ↓alf_ff, ↓alf_al, ↓oa_nil, ↓oa_v, ↓oa_al, ↓okr_sh, ↓okr_no, ↓okr_ow, ↓okr_sh1, ↓okr_no1, ↓okr_ow1, ↓okr_sh2, ↓pu_nil, ↓pu_f, ↓pu_al, ↓pu_v, ↓w_call, ↓w_dcall, ↓w_dmeth, ↓mk_k, ↓mk_x, ↓w_make, ↓w_dmake, ↓w_chk_v, ↓w_dBM, ↓w_dBM0, ↓isl_n, ↓isk_n, ↓isl_1, ↓isl_2, ↓isl_3, ↓isl_4, ↓isk_1, ↓isk_2, ↓isk_3, ↓isk_4, ↓isk_5, ↓isk_6, ↓ow_k, ↓w_mutS, ↓w_mutR, ↓f_app, ↓f_pop, ↓f_ext, ↓f_extT, ↓w_rdm, ↓str_k, ↓w_isStr, ↓w_strM, ↓w_fld, ↓ft_sh, ↓ft_ow, ↓ft_lo, ↓fa_sh, ↓fa_lo, ↓ft_al, ↓ob_k, ↓w_setFld, ↓w_fldSet, ↓w_setZ, ↓w_gSub, ↓fow_k, ↓w_gFSub, ↓int_k, ↓w_aug, ↓ch_t, ↓ch_f, ↓w_catch, ↓w_try, ↓w_tryKeep, ↓w_give, ↓w_no, ↓w_dict, ↓w_dictT, ↓w_chain, ↓is_b, ↓w_get2, ↓gz_s, ↓gz_n, ↓w_getZ, ↓o_addI, ↓o_addS, ↓o_addT, ↓o_addL, ↓o_sub, ↓o_mulI, ↓o_mulS, ↓o_mulL, ↓o_fdv, ↓o_mod, ↓o_neg, ↓o_lt, ↓o_le, ↓o_gt, ↓o_ge, ↓b_lt, ↓b_le, ↓o_is, ↓isn_t, ↓isn_1, ↓isn_2, ↓isn_3, ↓isn_4, ↓isn_5, ↓o_eqI, ↓o_eqS, ↓o_ixT, ↓o_ixL, ↓o_ixC, ↓o_ixS, ↓o_ixD, ↓o_slS, ↓o_slT, ↓o_slL, ↓o_slC, ↓o_inD, ↓o_tup, ↓o_lst, ↓o_lenT, ↓o_lenL, ↓o_lenC, ↓o_lenD, ↓o_lenS, ↓o_min, ↓o_max, ↓o_intI, ↓o_intB, ↓o_listT, ↓o_listL, ↓o_listC, ↓o_tupleT, ↓o_tupleL, ↓o_dict, ↓o_rev, ↓o_revT, ↓o_isi, ↓ty_1, ↓ty_2, ↓ty_3, ↓ty_4, ↓ty_5, ↓ty_6, ↓ty_7, ↓tr_b, ↓tr_n, ↓tr_i, ↓tr_t, ↓tr_l, w_chk_al isl_n, w_chk_al isk_n, Bool.false_eq_true, if_true, if_false, true_and, and_true, Bool.bne_false, Bool.bne_true, Bool.not_true, Bool.not_false, decide_true, decide_false, Bool.and_true, Bool.true_and, Bool.or_false, Bool.false_or, Bool.or_true, Bool.true_or, Bool.and_false, Bool.false_and, Bool.or_self, Bool.and_self, List.getElem?_cons_zero, List.getElem?_cons_succ, List.getElem?_nil, List.length_cons, List.length_nil, List.cons_append, List.nil_append, Nat.reduceAdd, Nat.reduceSub, List.replicate_succ, List.replicate_zero, Nat.reduceEqDiff, Int.reduceEq, Int.reduceLT, Int.reduceLE, Nat.reduceLT, Nat.reduceLeDiff, reduceCtorEq, Nat.zero_add, g2, g6, g7, gk2, q3, qn]
end Lk32

set_option Elab.async false
set_option linter.all false
set_option maxRecDepth 100000
set_option maxHeartbeats 4000000
namespace Lk32
open PySem PySem.Spec PyProof.Rows L2 V
structure Top (K : PySem.W.Frag) (mg : Str → Option Value) : Prop where
  d__law_names : DefAt K mg "_law_names" s__law_names
  d__law_wild : DefAt K mg "_law_wild" s__law_wild
  d__law_spots : DefAt K mg "_law_spots" s__law_spots
  d__law_standing : DefAt K mg "_law_standing" s__law_standing
  d_arguments_of : DefAt K mg "arguments_of" s_arguments_of
  d_gather : DefAt K mg "gather" s_gather
  d_names_in : DefAt K mg "names_in" s_names_in
  d_filled : DefAt K mg "filled" s_filled
  d__law_cell_at : DefAt K mg "_law_cell_at" s__law_cell_at
  d__law_digits : DefAt K mg "_law_digits" s__law_digits
  d__law_shape : DefAt K mg "_law_shape" s__law_shape
  d__law_filled : DefAt K mg "_law_filled" s__law_filled
  f_dict : mg "dict" = none
  f_isinstance : mg "isinstance" = none
  f_len : mg "len" = none
  f_list : mg "list" = none
  f_min : mg "min" = none
  f_range : mg "range" = none
  f_reversed : mg "reversed" = none
  f_sorted : mg "sorted" = none
  f_str : mg "str" = none
  f_sum : mg "sum" = none
  f_tuple : mg "tuple" = none
section
variable {P : Program} {w : World} {K : PySem.W.Frag} {mg : Str → Option Value} {base : Heap}
theorem fn__law_names (T : Top K mg) : Cal P w K mg base (1) "_law_names" [false, false] F__law_names :=
  cal_of (st := s__law_names) T.d__law_names fun f fd F => fn_body [false, false] rfl (by decide) F sc__law_names (F.binds (ps := ["_law_cell", "_law_count"]) fun _ _ _ _ _ _ us hl => match us, hl with | [_, _], _ => rfl) fun cdv A outer s H E hr tk =>
    (qss_cons (qs_set sc__law_names.nd rfl rfl (Or.inr rfl) q_str)
    (qss_cons (qs_set sc__law_names.nd rfl rfl (Or.inr rfl) (q_giv (q_op op2_mul op_mulA (q_op op2_add op_addA (q_op op2_add op_addA (q_op op2_mul op_mulA (q_var 0) (q_var 0)) (q_var 0)) q_int) q_int)))
    (qss_cons (qs_set sc__law_names.nd rfl rfl (Or.inl rfl) (q_op op2_add op_addA q_int (q_op op2_mod op_mod (q_var 3) q_int)))
    (qss_cons (qs_set sc__law_names.nd rfl rfl (Or.inl rfl) (q_op op2_mod op_mod (q_op op2_fdv op_fdivW (q_var 3) q_int) (q_var 4)))
    (qss_cons (qs_setLcG (own := [("_law_k", 9)]) rfl rfl sc__law_names.nd rfl rfl (sw_true rfl rfl rfl (by decide +kernel)) (qi_range1 rfl T.f_range (qa_cons (q_var 4) qa_nil)) (blkOk_by (own := [("_law_k", 9)]) (N := ["_law_cell", "_law_count", "_law_letters", "_law_mixed", "_law_wide", "_law_at", "_law_base", "_law_step", "_law_got", "_law_k", "_law_turned_on"]) (sc := defScope s__law_names) (by decide +kernel)) (tg_name (by decide)) (fun _ _ _ _ _ => (pg_name sc__law_names.nd rfl (Or.inl rfl))) (fun _ _ _ _ _ => (q_giv (q_ix op2_ix (ix_all (hu_q hr)) (q_var 2) (q_op op2_mod op_mod (q_op op2_add op_addA (q_op op2_fdv op_fdivW (q_var 3) (q_op op2_add op_addA (q_var 9) q_int)) (q_op op2_mul op_mulA (q_var 9) (q_var 9))) q_int)))))
    (qss_cons (qs_set sc__law_names.nd rfl rfl (Or.inl rfl) (q_ix op2_ix (ix_all (hu_q hr)) (q_lst (qa_cons q_int (qa_cons q_int (qa_cons q_int (qa_cons q_int (qa_cons q_int (qa_cons q_int qa_nil))))))) (q_op op2_mod op_mod (q_op op2_fdv op_fdivW (q_var 3) q_int) q_int)))
    (qss_cons (qs_set sc__law_names.nd rfl rfl (Or.inl rfl) (q_lst qa_nil))
    (qss_cons (qs_for own_cx rfl (qi_range1 rfl T.f_range (qa_cons (q_var 1) qa_nil)) (qg_name sc__law_names.nd rfl rfl (Or.inl rfl))
    (qss_cons (qs_set sc__law_names.nd rfl rfl (Or.inl rfl) (q_ix op2_ix (ix_all (hu_q hr)) (q_var 2) (q_op op2_mod op_mod (q_op op2_add op_addA (q_op op2_fdv op_fdivW (q_var 3) q_int) (q_op op2_mul op_mulA (q_var 9) (q_var 7))) q_int)))
    (qss_one (qs_if (qt_cmp op2_eq (op_eqQ (hu_q hr)) rfl (q_op op2_mod op_mod (q_op op2_fdv op_fdivW (q_var 3) q_int) q_int) q_int)
    (qss_one (qs_expr (m_append (q_var 8) (qa_cons (q_op op2_mul op_mulA (q_ix op2_ix (ix_all (hu_q hr)) (q_var 6) q_int) (q_op op2_add op_addA (q_op op2_mod op_mod (q_op op2_add op_addA (q_var 9) (q_op op2_fdv op_fdivW (q_var 3) q_int)) q_int) q_int)) qa_nil))))
    (qss_one (qs_expr (m_append (q_var 8) (qa_cons (q_op op2_add op_addA (q_op op2_add op_addA (q_join q_str (q_slice (q_var 6) qo_none (qo_some (q_var 5)))) (q_var 10)) (q_join q_str (q_slice (q_var 6) (qo_some (q_op op2_add op_addA (q_var 5) q_int)) qo_none))) qa_nil))))))))
    (qss_one (qs_ret (q_var 8)))))))))))
theorem fn__law_wild (T : Top K mg) : ∀ k, Cal P w K mg base (0 + k) "_law_wild" [false, true, false] (F__law_wild k)
  | 0 => cal_of (st := s__law_wild) T.d__law_wild fun f fd F => Fn.never (F.binds (ps := ["_law_names_here", "_law_purse", "_law_down"]) fun _ _ _ _ _ _ us hl => match us, hl with | [_, _, _], _ => rfl) F.kp
  | k + 1 => cal_of (st := s__law_wild) T.d__law_wild fun f fd F => have ih := fn__law_wild T k
    fn_body [false, true, false] rfl (by decide) F sc__law_wild (F.binds (ps := ["_law_names_here", "_law_purse", "_law_down"]) fun _ _ _ _ _ _ us hl => match us, hl with | [_, _, _], _ => rfl) fun cdv A outer s H E hr tk =>
    (qss_cons (qs_set sc__law_wild.nd rfl rfl (Or.inl rfl) (m_pop (q_var 1)))
    (qss_cons (qs_if (qt_w (qw_or (qt_cmp op2_eq (op_eqQ (hu_q hr)) rfl (q_var 2) q_int) (qw_or1 (qt_cmp op2_eq (op_eqQ (hu_q hr)) rfl (q_op op2_mod op_mod (q_var 3) q_int) q_int))))
    (qss_one (qs_ret (q_tup (qa_cons q_str (qa_cons (q_ix op2_ix (ix_all (hu_q hr)) (q_var 0) (q_op op2_mod op_mod (q_op op2_fdv op_fdivW (q_var 3) q_int) (q_callB opN_len call_lenA rfl T.f_len (by decide +kernel) (qa_cons (q_var 0) qa_nil)))) qa_nil)))))
    qss_nil)
    (qss_cons (qs_set sc__law_wild.nd rfl rfl (Or.inl rfl) (q_lst qa_nil))
    (qss_cons (qs_for own_cx rfl (qi_range1 rfl T.f_range (qa_cons (q_ix op2_ix (ix_all (hu_q hr)) (q_lst (qa_cons q_int (qa_cons q_int (qa_cons q_int (qa_cons q_int (qa_cons q_int (qa_cons q_int qa_nil))))))) (q_op op2_mod op_mod (q_op op2_fdv op_fdivW (q_var 3) q_int) q_int)) qa_nil)) (qg_name sc__law_wild.nd rfl rfl (Or.inl rfl))
    (qss_one (qs_expr (m_append (q_var 4) (qa_cons (q_giv (q_call ih hr (by first | omega | (simp only [Nat.add_eq]; omega)) rfl tk (qa_cons (q_var 0) (qa_cons (q_var 1) (qa_cons (q_op op2_sub op_sub (q_var 2) q_int) qa_nil))))) qa_nil)))))
    (qss_one (qs_ret (q_tup (qa_cons (q_ix op2_ix (ix_all (hu_q hr)) (q_lst (qa_cons q_str (qa_cons q_str qa_nil))) (q_op op2_mod op_mod (q_op op2_fdv op_fdivW (q_var 3) q_int) q_int)) (qa_cons (q_ix op2_ix (ix_all (hu_q hr)) (q_var 0) (q_op op2_mod op_mod (q_op op2_fdv op_fdivW (q_var 3) q_int) (q_callB opN_len call_lenA rfl T.f_len (by decide +kernel) (qa_cons (q_var 0) qa_nil)))) (qa_cons (q_callTy opN_tuple call_tuple_of rfl T.f_tuple (by decide +kernel) (qa_cons (q_var 4) qa_nil)) qa_nil))))))))))
theorem fn__law_spots (T : Top K mg) : ∀ k, Cal P w K mg base (0 + k) "_law_spots" [false] (F__law_spots k)
  | 0 => cal_of (st := s__law_spots) T.d__law_spots fun f fd F => Fn.never (F.binds (ps := ["_law_expression"]) fun _ _ _ _ _ _ us hl => match us, hl with | [_], _ => rfl) F.kp
  | k + 1 => cal_of (st := s__law_spots) T.d__law_spots fun f fd F => have ih := fn__law_spots T k
    fn_body [false] rfl (by decide) F sc__law_spots (F.binds (ps := ["_law_expression"]) fun _ _ _ _ _ _ us hl => match us, hl with | [_], _ => rfl) fun cdv A outer s H E hr tk =>
    (qss_cons (qs_set sc__law_spots.nd rfl rfl (Or.inl rfl) (q_giv (q_lst (qa_cons (q_tup qa_nil) qa_nil))))
    (qss_cons (qs_if (qt_cmp op2_eq (op_neQ (hu_q hr)) rfl (q_ix op2_ix (ix_all (hu_q hr)) (q_var 0) q_int) q_str)
    (qss_one (qs_for own_cx rfl (qi_range1 rfl T.f_range (qa_cons (q_callB opN_len call_lenA rfl T.f_len (by decide +kernel) (qa_cons (q_ix op2_ix (ix_all (hu_q hr)) (q_var 0) q_int) qa_nil)) qa_nil)) (qg_name sc__law_spots.nd rfl rfl (Or.inr rfl))
    (qss_one (qs_set sc__law_spots.nd rfl rfl (Or.inl rfl) (q_giv (q_op op2_add op_addA (q_var 1) (q_lc (own := [("_law_one", 3)]) rfl sc__law_spots.nd (qi_seq (q_giv (q_call ih hr (by first | omega | (simp only [Nat.add_eq]; omega)) rfl tk (qa_cons (q_ix op2_ix (ix_all (hu_q hr)) (q_ix op2_ix (ix_all (hu_q hr)) (q_var 0) q_int) (q_var 2)) qa_nil)))) (blkOk_by (own := [("_law_one", 3)]) (N := ["_law_expression", "_law_got", "_law_k", "_law_one"]) (sc := defScope s__law_spots) (by decide +kernel)) (tg_name (by decide)) (fun _ _ _ _ _ => (pg_name sc__law_spots.nd rfl (Or.inl rfl))) (fun _ _ _ _ _ => (q_giv (q_op op2_add op_addA (q_tup (qa_cons (q_var 2) qa_nil)) (q_var 3)))))))))))
    qss_nil)
    (qss_one (qs_ret (q_var 1)))))
theorem fn__law_standing (T : Top K mg) : Cal P w K mg base (13) "_law_standing" [false] F__law_standing :=
  cal_of (st := s__law_standing) T.d__law_standing fun f fd F => fn_body [false] rfl (by decide) F sc__law_standing (F.binds (ps := ["_law_expression"]) fun _ _ _ _ _ _ us hl => match us, hl with | [_], _ => rfl) fun cdv A outer s H E hr tk =>
    (qss_cons (qs_set sc__law_standing.nd rfl rfl (Or.inl rfl) (q_lst qa_nil))
    (qss_cons (qs_for own_cx rfl (qi_seq (q_giv (q_callB opN_sortTI (cr_sortedTI (hu64 (hu_q hr))) rfl T.f_sorted (by decide +kernel) (qa_cons (q_call (fn__law_spots T 12) hr (by first | omega | (simp only [Nat.add_eq]; omega)) rfl tk (qa_cons (q_var 0) qa_nil)) qa_nil)))) (qg_name sc__law_standing.nd rfl rfl (Or.inl rfl))
    (qss_cons (qs_set sc__law_standing.nd rfl rfl (Or.inl rfl) (q_var 0))
    (qss_cons (qs_for own_cx rfl (qi_seq (q_var 2)) (qg_name sc__law_standing.nd rfl rfl (Or.inl rfl))
    (qss_one (qs_set sc__law_standing.nd rfl rfl (Or.inl rfl) (q_ix op2_ix (ix_all (hu_q hr)) (q_ix op2_ix (ix_all (hu_q hr)) (q_var 3) q_int) (q_var 4)))))
    (qss_one (qs_if (qt_w (qw_and (qt_cmp op2_eq (op_eqQ (hu_q hr)) rfl (q_ix op2_ix (ix_all (hu_q hr)) (q_var 3) q_int) q_str) (qw_and1 (qt_cmp op2_in (op_notInA (hu_q hr)) rfl (q_ix op2_ix (ix_all (hu_q hr)) (q_var 3) q_int) (q_var 1)))))
    (qss_one (qs_expr (m_append (q_var 1) (qa_cons (q_ix op2_ix (ix_all (hu_q hr)) (q_var 3) q_int) qa_nil))))
    qss_nil)))))
    (qss_one (qs_ret (q_var 1)))))
theorem fn_arguments_of (T : Top K mg) : Cal P w K mg base (1) "arguments_of" [false] F_arguments_of :=
  cal_of (st := s_arguments_of) T.d_arguments_of fun f fd F => fn_body [false] rfl (by decide) F sc_arguments_of (F.binds (ps := ["expression"]) fun _ _ _ _ _ _ us hl => match us, hl with | [_], _ => rfl) fun cdv A outer s H E hr tk =>
    (qss_cons (qs_if (qt_cmp op2_eq (op_eqQ (hu_q hr)) rfl (q_ix op2_ix (ix_all (hu_q hr)) (q_var 0) q_int) q_str)
    (qss_one (qs_ret (q_tup qa_nil)))
    qss_nil)
    (qss_one (qs_ret (q_ix op2_ix (ix_all (hu_q hr)) (q_var 0) q_int))))
theorem fn_gather (T : Top K mg) : ∀ k, Cal P w K mg base (1 + k) "gather" [false, true] (F_gather k)
  | 0 => cal_of (st := s_gather) T.d_gather fun f fd F => Fn.never (F.binds (ps := ["expression", "names"]) fun _ _ _ _ _ _ us hl => match us, hl with | [_, _], _ => rfl) F.kp
  | k + 1 => cal_of (st := s_gather) T.d_gather fun f fd F => have ih := fn_gather T k
    fn_body [false, true] rfl (by decide) F sc_gather (F.binds (ps := ["expression", "names"]) fun _ _ _ _ _ _ us hl => match us, hl with | [_, _], _ => rfl) fun cdv A outer s H E hr tk =>
    (qss_cons (qs_if (qt_w (qw_and (qt_cmp op2_eq (op_eqQ (hu_q hr)) rfl (q_ix op2_ix (ix_all (hu_q hr)) (q_var 0) q_int) q_str) (qw_and1 (qt_cmp op2_in (op_notInA (hu_q hr)) rfl (q_ix op2_ix (ix_all (hu_q hr)) (q_var 0) q_int) (q_var 1)))))
    (qss_one (qs_expr (m_append (q_var 1) (qa_cons (q_ix op2_ix (ix_all (hu_q hr)) (q_var 0) q_int) qa_nil))))
    qss_nil)
    (qss_one (qs_for own_cx rfl (qi_seq (q_giv (q_call (fn_arguments_of T) hr (by first | omega | (simp only [Nat.add_eq]; omega)) rfl tk (qa_cons (q_var 0) qa_nil)))) (qg_name sc_gather.nd rfl rfl (Or.inl rfl))
    (qss_one (qs_expr (q_call ih hr (by first | omega | (simp only [Nat.add_eq]; omega)) rfl tk (qa_cons (q_var 2) (qa_cons (q_var 1) qa_nil))))))))
theorem fn_names_in (T : Top K mg) : Cal P w K mg base (14) "names_in" [false] F_names_in :=
  cal_of (st := s_names_in) T.d_names_in fun f fd F => fn_body [false] rfl (by decide) F sc_names_in (F.binds (ps := ["expression"]) fun _ _ _ _ _ _ us hl => match us, hl with | [_], _ => rfl) fun cdv A outer s H E hr tk =>
    (qss_cons (qs_set sc_names_in.nd rfl rfl (Or.inl rfl) (q_lst qa_nil))
    (qss_cons (qs_expr (q_call (fn_gather T 12) hr (by first | omega | (simp only [Nat.add_eq]; omega)) rfl tk (qa_cons (q_var 0) (qa_cons (q_var 1) qa_nil))))
    (qss_one (qs_ret (q_var 1)))))
theorem fn_filled (T : Top K mg) : ∀ k, Cal P w K mg base (0 + k) "filled" [false, false] (F_filled k)
  | 0 => cal_of (st := s_filled) T.d_filled fun f fd F => Fn.never (F.binds (ps := ["expression", "put_ins"]) fun _ _ _ _ _ _ us hl => match us, hl with | [_, _], _ => rfl) F.kp
  | k + 1 => cal_of (st := s_filled) T.d_filled fun f fd F => have ih := fn_filled T k
    fn_body [false, false] rfl (by decide) F sc_filled (F.binds (ps := ["expression", "put_ins"]) fun _ _ _ _ _ _ us hl => match us, hl with | [_, _], _ => rfl) fun cdv A outer s H E hr tk =>
    (qss_cons (qs_if (qt_cmp op2_eq (op_eqQ (hu_q hr)) rfl (q_ix op2_ix (ix_all (hu_q hr)) (q_var 0) q_int) q_str)
    (qss_one (qs_ret (q_get2 (hu_q hr) (q_var 1) (q_ix op2_ix (ix_all (hu_q hr)) (q_var 0) q_int) (q_var 0))))
    qss_nil)
    (qss_cons (qs_asg (q_var 0) (qg_tup rfl (qgs_cons (qg_name sc_filled.nd rfl rfl (Or.inl rfl)) (qgs_cons (qg_name sc_filled.nd rfl rfl (Or.inl rfl)) (qgs_cons (qg_name sc_filled.nd rfl rfl (Or.inl rfl)) qgs_nil)))))
    (qss_one (qs_ret (q_tup (qa_cons (q_var 2) (qa_cons (q_var 3) (qa_cons (q_callTy opN_tuple call_tuple_of rfl T.f_tuple (by decide +kernel) (qa_cons (q_lc (own := [("one", 5)]) rfl sc_filled.nd (qi_seq (q_var 4)) (blkOk_by (own := [("one", 5)]) (N := ["expression", "put_ins", "word", "name", "arguments", "one"]) (sc := defScope s_filled) (by decide +kernel)) (tg_name (by decide)) (fun _ _ _ _ _ => (pg_name sc_filled.nd rfl (Or.inl rfl))) (fun _ _ _ _ _ => (q_giv (q_call ih hr (by first | omega | (simp only [Nat.add_eq]; omega)) rfl tk0 (qa_cons (q_var 5) (qa_cons (q_var 1) qa_nil)))))) qa_nil)) qa_nil))))))))
theorem fn__law_cell_at (T : Top K mg) : Cal P w K mg base (1) "_law_cell_at" [false, false] F__law_cell_at :=
  cal_of (st := s__law_cell_at) T.d__law_cell_at fun f fd F => fn_body [false, false] rfl (by decide) F sc__law_cell_at (F.binds (ps := ["_law_script", "_law_k"]) fun _ _ _ _ _ _ us hl => match us, hl with | [_, _], _ => rfl) fun cdv A outer s H E hr tk =>
    (qss_cons (qs_if (qt_cmp op2_lt op_lt rfl (q_var 1) (q_callB opN_len call_lenA rfl T.f_len (by decide +kernel) (qa_cons (q_var 0) qa_nil)))
    (qss_one (qs_ret (q_ix op2_ix (ix_all (hu_q hr)) (q_var 0) (q_var 1))))
    qss_nil)
    (qss_one (qs_ret q_int)))
theorem fn__law_digits (T : Top K mg) : Cal P w K mg base (1) "_law_digits" [false, false, false] F__law_digits :=
  cal_of (st := s__law_digits) T.d__law_digits fun f fd F => fn_body [false, false, false] rfl (by decide) F sc__law_digits (F.binds (ps := ["_law_script", "_law_at", "_law_parts"]) fun _ _ _ _ _ _ us hl => match us, hl with | [_, _, _], _ => rfl) fun cdv A outer s H E hr tk =>
    (qss_cons (qs_set sc__law_digits.nd rfl rfl (Or.inl rfl) (q_callB opN_sum (cr_sum rfl) rfl T.f_sum (by decide +kernel) (qa_cons (q_lc (own := [("_law_k", 7)]) rfl sc__law_digits.nd (qi_range3 rfl T.f_range (qa_cons (q_var 1) (qa_cons (q_callB opN_min (call_min2 rfl) rfl T.f_min (by decide +kernel) (qa_cons (q_callB opN_len call_lenA rfl T.f_len (by decide +kernel) (qa_cons (q_var 0) qa_nil)) (qa_cons q_int qa_nil))) (qa_cons (q_var 2) qa_nil)))) (blkOk_by (own := [("_law_k", 7)]) (N := ["_law_script", "_law_at", "_law_parts", "_law_drawn", "_law_got", "_law_first", "_law_rest", "_law_k"]) (sc := defScope s__law_digits) (by decide +kernel)) (tg_name (by decide)) (fun _ _ _ _ _ => (pg_name sc__law_digits.nd rfl (Or.inl rfl))) (fun _ _ _ _ _ => (q_giv (q_ix op2_ix (ix_all (hu_q hr)) (q_var 0) (q_var 7))))) qa_nil)))
    (qss_cons (qs_set sc__law_digits.nd rfl rfl (Or.inl rfl) (q_lst qa_nil))
    (qss_cons (qs_set sc__law_digits.nd rfl rfl (Or.inl rfl) (q_op op2_mod op_mod (q_var 3) q_int))
    (qss_cons (qs_set sc__law_digits.nd rfl rfl (Or.inl rfl) (q_op op2_fdv op_fdivW (q_var 3) q_int))
    (qss_cons (qs_for own_cx rfl (qi_range1 rfl T.f_range (qa_cons q_int qa_nil)) (qg_name sc__law_digits.nd rfl rfl (Or.inl rfl))
    (qss_cons (qs_set sc__law_digits.nd rfl rfl (Or.inl rfl) (q_op op2_mod op_mod (q_op op2_add op_addA (q_op op2_add op_addA (q_op op2_mul op_mulA (q_var 5) (q_var 5)) (q_var 3)) (q_var 7)) q_int))
    (qss_cons (qs_expr (m_append (q_var 4) (qa_cons (q_op op2_mod op_mod (q_ix op2_ix (ix_all (hu_q hr)) (q_lst (qa_cons (q_var 6) (qa_cons (q_op op2_mod op_mod (q_op op2_mul op_mulA (q_var 5) (q_var 5)) q_int) qa_nil))) (q_op op2_mod op_mod (q_var 3) q_int)) q_int) qa_nil)))
    (qss_one (qs_set sc__law_digits.nd rfl rfl (Or.inl rfl) (q_op op2_fdv op_fdivW (q_var 6) q_int))))))
    (qss_one (qs_ret (q_lstRev rfl rfl rfl T.f_list rfl T.f_reversed (q_var 4)))))))))
theorem fn__law_shape (T : Top K mg) : ∀ k, Cal P w K mg base (0 + k) "_law_shape" [false] (F__law_shape k)
  | 0 => cal_of (st := s__law_shape) T.d__law_shape fun f fd F => Fn.never (F.binds (ps := ["_law_got"]) fun _ _ _ _ _ _ us hl => match us, hl with | [_], _ => rfl) F.kp
  | k + 1 => cal_of (st := s__law_shape) T.d__law_shape fun f fd F => have ih := fn__law_shape T k
    fn_body [false] rfl (by decide) F sc__law_shape (F.binds (ps := ["_law_got"]) fun _ _ _ _ _ _ us hl => match us, hl with | [_], _ => rfl) fun cdv A outer s H E hr tk =>
    (qss_cons (qs_if (qt_w (qw_or (qt_not (qt_of (q_isi .tup rfl T.f_isinstance rfl T.f_tuple (by decide +kernel) (q_var 0)))) (qw_or (qt_cmp op2_lt op_lt rfl (q_callB opN_len call_lenA rfl T.f_len (by decide +kernel) (qa_cons (q_var 0) qa_nil)) q_int) (qw_or1 (qt_cmp op2_eq (op_neQ (hu_q hr)) rfl (q_lcIf (own := [("_law_one", 1)]) rfl sc__law_shape.nd (qi_seq (q_giv (q_slice (q_var 0) qo_none (qo_some q_int)))) (blkOk_by (own := [("_law_one", 1)]) (N := ["_law_got", "_law_one"]) (sc := defScope s__law_shape) (by decide +kernel)) (tg_name (by decide)) (fun _ _ _ _ _ => (pg_name sc__law_shape.nd rfl (Or.inl rfl))) (fun _ _ _ _ _ => (qt_not (qt_of (q_isi .str rfl T.f_isinstance rfl T.f_str (by decide +kernel) (q_var 1))))) (fun _ _ _ _ _ => (q_giv (q_var 1)))) (q_lst qa_nil))))))
    (qss_one (qs_ret q_bl))
    qss_nil)
    (qss_cons (qs_if (qt_cmp op2_eq (op_eqQ (hu_q hr)) rfl (q_ix op2_ix (ix_all (hu_q hr)) (q_var 0) q_int) q_str)
    (qss_one (qs_ret (q_cmp op2_eq (op_eqQ (hu_q hr)) rfl (q_callB opN_len call_lenA rfl T.f_len (by decide +kernel) (qa_cons (q_var 0) qa_nil)) q_int)))
    qss_nil)
    (qss_cons (qs_if (qt_w (qw_or (qt_cmp op2_eq (op_neQ (hu_q hr)) rfl (q_callB opN_len call_lenA rfl T.f_len (by decide +kernel) (qa_cons (q_var 0) qa_nil)) q_int) (qw_or1 (qt_not (qt_of (q_isi .tup rfl T.f_isinstance rfl T.f_tuple (by decide +kernel) (q_ix op2_ix (ix_all (hu_q hr)) (q_var 0) q_int)))))))
    (qss_one (qs_ret q_bl))
    qss_nil)
    (qss_one (qs_ret (q_cmp op2_eq (op_eqQ (hu_q hr)) rfl (q_lcIf (own := [("_law_one", 1)]) rfl sc__law_shape.nd (qi_seq (q_ix op2_ix (ix_all (hu_q hr)) (q_var 0) q_int)) (blkOk_by (own := [("_law_one", 1)]) (N := ["_law_got", "_law_one"]) (sc := defScope s__law_shape) (by decide +kernel)) (tg_name (by decide)) (fun _ _ _ _ _ => (pg_name sc__law_shape.nd rfl (Or.inl rfl))) (fun _ _ _ _ _ => (qt_not (qt_of (q_call ih hr (by first | omega | (simp only [Nat.add_eq]; omega)) rfl tk0 (qa_cons (q_var 1) qa_nil))))) (fun _ _ _ _ _ => (q_giv (q_var 1)))) (q_lst qa_nil)))))))
theorem fn__law_filled (T : Top K mg) : ∀ k, Cal P w K mg base (0 + k) "_law_filled" [false, false] (F__law_filled k)
  | 0 => cal_of (st := s__law_filled) T.d__law_filled fun f fd F => Fn.never (F.binds (ps := ["_law_expression", "_law_puts"]) fun _ _ _ _ _ _ us hl => match us, hl with | [_, _], _ => rfl) F.kp
  | k + 1 => cal_of (st := s__law_filled) T.d__law_filled fun f fd F => have ih := fn__law_filled T k
    fn_body [false, false] rfl (by decide) F sc__law_filled (F.binds (ps := ["_law_expression", "_law_puts"]) fun _ _ _ _ _ _ us hl => match us, hl with | [_, _], _ => rfl) fun cdv A outer s H E hr tk =>
    (qss_cons (qs_if (qt_cmp op2_eq (op_eqQ (hu_q hr)) rfl (q_ix op2_ix (ix_all (hu_q hr)) (q_var 0) q_int) q_str)
    (qss_cons (qs_forK own_cx rfl (q_var 1) (qg_name sc__law_filled.nd rfl rfl (Or.inl rfl))
    (qss_one (qs_if (qt_cmp op2_eq (op_eqQ (hu_q hr)) rfl (q_var 2) (q_ix op2_ix (ix_all (hu_q hr)) (q_var 0) q_int))
    (qss_one (qs_ret (q_ix op2_ix (ix_all (hu_q hr)) (q_var 1) (q_var 2))))
    qss_nil)))
    (qss_one (qs_ret (q_var 0))))
    qss_nil)
    (qss_one (qs_ret (q_tup (qa_cons (q_ix op2_ix (ix_all (hu_q hr)) (q_var 0) q_int) (qa_cons (q_ix op2_ix (ix_all (hu_q hr)) (q_var 0) q_int) (qa_cons (q_callTy opN_tuple call_tuple_of rfl T.f_tuple (by decide +kernel) (qa_cons (q_lc (own := [("_law_one", 3)]) rfl sc__law_filled.nd (qi_seq (q_ix op2_ix (ix_all (hu_q hr)) (q_var 0) q_int)) (blkOk_by (own := [("_law_one", 3)]) (N := ["_law_expression", "_law_puts", "_law_name", "_law_one"]) (sc := defScope s__law_filled) (by decide +kernel)) (tg_name (by decide)) (fun _ _ _ _ _ => (pg_name sc__law_filled.nd rfl (Or.inl rfl))) (fun _ _ _ _ _ => (q_giv (q_call ih hr (by first | omega | (simp only [Nat.add_eq]; omega)) rfl tk0 (qa_cons (q_var 3) (qa_cons (q_var 1) qa_nil)))))) qa_nil)) qa_nil)))))))
theorem ok_law (T : Top K mg) {f : Addr} {fd : FuncData} (F : Fun K "law" "law" s_law f fd) : FnOk P w K mg base (L2.CX P w) 15 f fd ["_law_script"] (SpD K mg [false] F_law) :=
  fn_ok [false] rfl (by decide) F sc_law fun cdv A outer s H E hr tk =>
    (qss_cons (qs_set sc_law.nd rfl rfl (Or.inl rfl) (q_giv (q_call (fn__law_names T) hr (by first | omega | (simp only [Nat.add_eq]; omega)) rfl tk (qa_cons (q_giv (q_call (fn__law_cell_at T) hr (by first | omega | (simp only [Nat.add_eq]; omega)) rfl tk (qa_cons (q_var 0) (qa_cons q_int qa_nil)))) (qa_cons q_int qa_nil)))))
    (qss_cons (qs_set sc_law.nd rfl rfl (Or.inl rfl) (q_op op2_mod op_mod (q_call (fn__law_cell_at T) hr (by first | omega | (simp only [Nat.add_eq]; omega)) rfl tk (qa_cons (q_var 0) (qa_cons q_int qa_nil))) q_int))
    (qss_cons (qs_set sc_law.nd rfl rfl (Or.inl rfl) (q_giv (q_call (fn__law_wild T 12) hr (by first | omega | (simp only [Nat.add_eq]; omega)) rfl tk (qa_cons (q_giv (q_slice (q_var 1) qo_none (qo_some q_int))) (qa_cons (q_call (fn__law_digits T) hr (by first | omega | (simp only [Nat.add_eq]; omega)) rfl tk (qa_cons (q_var 0) (qa_cons q_int (qa_cons q_int qa_nil)))) (qa_cons (q_op op2_sub op_sub q_int (q_var 2)) qa_nil))))))
    (qss_cons (qs_set sc_law.nd rfl rfl (Or.inl rfl) q_dict)
    (qss_cons (qs_for own_cx rfl (qi_range1 rfl T.f_range (qa_cons q_int qa_nil)) (qg_name sc_law.nd rfl rfl (Or.inl rfl))
    (qss_cons (qs_set sc_law.nd rfl rfl (Or.inl rfl) (q_call (fn__law_digits T) hr (by first | omega | (simp only [Nat.add_eq]; omega)) rfl tk (qa_cons (q_var 0) (qa_cons (q_var 5) (qa_cons q_int qa_nil)))))
    (qss_one (qs_if (qt_cmp op2_gt op_gt rfl (q_op op2_mod op_mod (m_pop (q_var 12)) q_int) q_int)
    (qss_one (qs_asg (q_giv (q_call (fn__law_wild T 12) hr (by first | omega | (simp only [Nat.add_eq]; omega)) rfl tk (qa_cons (q_var 1) (qa_cons (q_var 12) (qa_cons (q_op op2_add op_addA q_int (q_var 2)) qa_nil))))) (qg_sub (hu_q hr) (q_var 4) (q_ix op2_ix (ix_all (hu_q hr)) (q_var 1) (q_op op2_mod op_mod (q_op op2_add op_addA (q_var 5) q_int) q_int)))))
    qss_nil))))
    (qss_cons (qs_set sc_law.nd rfl rfl (Or.inl rfl) (q_giv (q_call (fn__law_standing T) hr (by first | omega | (simp only [Nat.add_eq]; omega)) rfl tk (qa_cons (q_var 3) qa_nil))))
    (qss_cons (qs_set sc_law.nd rfl rfl (Or.inl rfl) (q_giv (q_callTy opN_dict call_dictD rfl T.f_dict (by decide +kernel) (qa_cons (q_var 4) qa_nil))))
    (qss_cons (qs_set sc_law.nd rfl rfl (Or.inl rfl) (q_call (fn_names_in T) hr (by first | omega | (simp only [Nat.add_eq]; omega)) rfl tk (qa_cons (q_var 3) qa_nil)))
    (qss_cons (qs_if (qt_w (qw_or (qt_not (qt_of (q_isi .lst rfl T.f_isinstance rfl T.f_list (by decide +kernel) (q_var 8)))) (qw_or1 (qt_cmp op2_eq (op_neQ (hu_q hr)) rfl (q_var 8) (q_var 6)))))
    (qss_one (qs_ret q_bl))
    qss_nil)
    (qss_cons (qs_expr (m_append (q_var 8) (qa_cons q_str qa_nil)))
    (qss_cons (qs_set sc_law.nd rfl rfl (Or.inl rfl) (q_giv (q_call (fn_filled T 12) hr (by first | omega | (simp only [Nat.add_eq]; omega)) rfl tk (qa_cons (q_var 3) (qa_cons (q_var 7) qa_nil)))))
    (qss_cons (qs_if (qt_w (qw_or (qt_not (qt_of (q_call (fn__law_shape T 12) hr (by first | omega | (simp only [Nat.add_eq]; omega)) rfl tk (qa_cons (q_var 9) qa_nil)))) (qw_or (qt_cmp op2_eq (op_neQ (hu_q hr)) rfl (q_var 9) (q_call (fn__law_filled T 12) hr (by first | omega | (simp only [Nat.add_eq]; omega)) rfl tk (qa_cons (q_var 3) (qa_cons (q_giv (q_var 4)) qa_nil)))) (qw_or1 (qt_cmp op2_eqD (op_neDD (hu_q hr)) rfl (q_var 7) (q_var 4))))))
    (qss_one (qs_ret q_bl))
    qss_nil)
    (qss_cons (qs_set sc_law.nd rfl rfl (Or.inl rfl) q_dict)
    (qss_cons (qs_for own_cx rfl (qi_seq (q_var 1)) (qg_name sc_law.nd rfl rfl (Or.inl rfl))
    (qss_one (qs_asg (q_tup (qa_cons q_str (qa_cons (q_var 11) qa_nil))) (qg_sub (hu_q hr) (q_var 10) (q_var 11)))))
    (qss_cons (qs_if (qt_w (qw_or (qt_cmp op2_eq (op_neQ (hu_q hr)) rfl (q_call (fn_filled T 12) hr (by first | omega | (simp only [Nat.add_eq]; omega)) rfl tk (qa_cons (q_var 3) (qa_cons (q_giv q_dict) qa_nil))) (q_var 3)) (qw_or1 (qt_cmp op2_eq (op_neQ (hu_q hr)) rfl (q_call (fn_filled T 12) hr (by first | omega | (simp only [Nat.add_eq]; omega)) rfl tk (qa_cons (q_var 3) (qa_cons (q_giv (q_var 10)) qa_nil))) (q_var 3)))))
    (qss_one (qs_ret q_bl))
    qss_nil)
    (qss_one (qs_ret (q_cmp op2_eq (op_eqQ (hu_q hr)) rfl (q_call (fn_names_in T) hr (by first | omega | (simp only [Nat.add_eq]; omega)) rfl tk (qa_cons (q_var 3) qa_nil)) (q_var 6)))))))))))))))))))
end
end Lk32

set_option Elab.async false
set_option linter.all false
set_option maxRecDepth 100000
set_option maxHeartbeats 4000000
namespace Lk32
open PySem PySem.Spec PyProof.Rows L2 V
def fnl : List He.DefD := ([defD "law" s_law, defD "_law_names" s__law_names, defD "_law_wild" s__law_wild, defD "_law_spots" s__law_spots, defD "_law_standing" s__law_standing, defD "arguments_of" s_arguments_of, defD "gather" s_gather, defD "names_in" s_names_in, defD "filled" s_filled, defD "_law_cell_at" s__law_cell_at, defD "_law_digits" s__law_digits, defD "_law_shape" s__law_shape, defD "_law_filled" s__law_filled] : List He.DefD)
def fx : List Fx := ([.he (.glo "law"), .he (.glo "_law_names"), .he (.glo "_law_wild"), .he (.glo "_law_spots"), .he (.glo "_law_standing"), .he (.glo "arguments_of"), .he (.glo "gather"), .he (.glo "names_in"), .he (.glo "filled"), .he (.glo "_law_cell_at"), .he (.glo "_law_digits"), .he (.glo "_law_shape"), .he (.glo "_law_filled"), .he (.free "dict"), .he (.free "isinstance"), .he (.free "len"), .he (.free "list"), .he (.free "min"), .he (.free "range"), .he (.free "reversed"), .he (.free "sorted"), .he (.free "str"), .he (.free "sum"), .he (.free "tuple")] : List Fx)
theorem facts {K : PySem.W.Frag} {mg : Str → Option Value} {h : Heap} (X : K.In h) (G : h.Ns mainGlobals mg) (c : SaysQ fx fnl K) : Top K mg where
  d__law_names := c.defAt X G 1 1 rfl rfl
  d__law_wild := c.defAt X G 2 2 rfl rfl
  d__law_spots := c.defAt X G 3 3 rfl rfl
  d__law_standing := c.defAt X G 4 4 rfl rfl
  d_arguments_of := c.defAt X G 5 5 rfl rfl
  d_gather := c.defAt X G 6 6 rfl rfl
  d_names_in := c.defAt X G 7 7 rfl rfl
  d_filled := c.defAt X G 8 8 rfl rfl
  d__law_cell_at := c.defAt X G 9 9 rfl rfl
  d__law_digits := c.defAt X G 10 10 rfl rfl
  d__law_shape := c.defAt X G 11 11 rfl rfl
  d__law_filled := c.defAt X G 12 12 rfl rfl
  f_dict := c.free X G 13 rfl
  f_isinstance := c.free X G 14 rfl
  f_len := c.free X G 15 rfl
  f_list := c.free X G 16 rfl
  f_min := c.free X G 17 rfl
  f_range := c.free X G 18 rfl
  f_reversed := c.free X G 19 rfl
  f_sorted := c.free X G 20 rfl
  f_str := c.free X G 21 rfl
  f_sum := c.free X G 22 rfl
  f_tuple := c.free X G 23 rfl
def loose : List Str := (["arguments_of", "filled", "gather", "names_in", "_law_cell_at", "_law_whole", "_law_digits", "_law_names", "_law_wild", "_law_spots", "_law_shape", "_law_filled", "_law_standing"] : List Str)
abbrev R : PySem.W.OpenRow := PySem.W.OpenLaw.row PySem.Challenge.rw_stairsay_k32_put_ins
abbrev hk : PySem.W.Hook := hookQ 4 fx fnl
def ob (s : PySem.W.SharedT) : He.AlD := obsQG 4 fx fnl (HandSHeadRun.getT s)
theorem ob_eq (s : PySem.W.SharedT) : ob s = hk.obs s.abs := obsQG_eq (HandSHeadRun.getT_eq s)
set_option maxHeartbeats 0 in
theorem run (w : World) : HandSHeadRun.RunEq R (PySem.W.view R.prog [15]) hk ob 60000 loose w := by
  intro os
  kernel_rfl
def Answers : Prop := ∀ ns : List Int, ns.length ≤ 63 → (∀ z ∈ ns, Builtin.Int.intBits z ≤ 1048576) → F_law [.sh (.scr (ns.map V.D.int))] = .ok (.sh (.bl true)) []
end Lk32
open PySem PySem.W PySem.Calls PyProof.Rows
set_option maxHeartbeats 0 in
theorem Lk32.close (hA : Lk32.Answers) : PySem.Challenge.rw_stairsay_k32_put_ins.Holds := by
  w_on; o_law
  refine HandSHeadRun.head_any (r := Lk32.R) (q := view Lk32.R.prog [15]) (H := Lk32.hk) (ob := Lk32.ob) (M := 60000) (loose := Lk32.loose) (d := HandSHeadRun.topDef Lk32.R.prog 15) (kwd := []) Lk32.ob_eq
    (by kernel_rfl) (fun s => by kernel_rfl) Lk32.run (by kernel_rfl) (by kernel_rfl) (by kernel_rfl) (by rfl) (by first | assumption | decide +kernel) (by decide +kernel) ⟨rfl, rfl, rfl, rfl, rfl, by decide +kernel⟩ ?hw ?hc
  case hw => w_witness2
  case hc =>
    refine V.law_end (l := PySem.Challenge.rw_stairsay_k32_put_ins) (k := 15) (x := "_law_script") (F := Lk32.F_law) rfl (by kernel_rfl) ⟨rfl, by decide, by decide⟩ ?F hA
    intro w mg fa h K KX G c hmg0
    have hmg : mg ("law" : PySem.Str) = some (.ref fa) := by
      have e : (HandSHeadRun.topDef Lk32.R.prog 15).name = ("law" : PySem.Str) := by kernel_rfl
      rw [← e]
      exact hmg0
    obtain ⟨fd, F0⟩ := c.fun_ 0 (d := V.defD "law" Lk32.s_law) rfl
    have e := hmg.symm.trans (He.glo_ok KX G (c.fact 0 (f := .he (.glo "law")) rfl))
    cases e
    have b := L2.FunD.bindsA (ps := ["_law_script"]) F0 fun _ _ _ _ _ _ us hl => match us, hl with | [_], _ => rfl
    exact ⟨fd, fun s v => b s [v] rfl, fun base => Lk32.ok_law (Lk32.facts KX G c) (V.fun_of F0)⟩

set_option Elab.async false
set_option linter.all false
set_option maxRecDepth 100000
set_option maxHeartbeats 4000000
namespace Lk32
open PySem L2 V
theorem answers : Answers := fun ns h1 h2 => e_law h1 fun z hz => bd_of (h2 z hz)
end Lk32
theorem PySem.Challenge.cw_stairsay_k32_put_ins_holds : PySem.Challenge.rw_stairsay_k32_put_ins.Holds := by
  exact Lk32.close Lk32.answers
