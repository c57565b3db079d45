import PyProof.Rows.All
import Wide.All
import OpenK.AllK
import Wide.FinOn
import HandS.ForMost
import HandS.ForExc
import HandS.OwnEq
import HandS.Property
import HandS.IsInst
import HandS.Defaults
import HandS.MakeKw
import HandS.Lambda
import HandS.DictComp
import HandS.Flow
import HandS.More
import HandS.TupAny
import HandS.WideBits
import HandS.Deep
import HandS.Star
import HandS.Conv
import HandS.Style
import KE.KDictKeyed
import KE.SortData
import HandS.TupMul
import HandS.SortInts
import KE.KDictCopyH
import HandS.ListItems
import HandS.MakeKwOnly
import HandS.EndBits
import KE.GoesEnum
import PySem.Challenge.RW_unheard_k08_draws
set_option Elab.async false
set_option linter.all false
set_option maxRecDepth 100000
set_option maxHeartbeats 4000000
/-! Layer A, part 1: plain values, objects, results; how they lie in the abstract heap. -/
namespace U
open PySem L2

/-- a plain value: tuples are values, lists, dicts, instances lie in the plain heap -/
inductive Val where
  | non | bl (b : Bool) | int (i : Int) | str (x : Str) | tup (vs : List Val) | ref (n : Nat) | ty (n : String) | gl (x : Str)

/-- an object of the plain heap -/
inductive Ob where
  | lst (vs : List Val)
  | fro (vs : List Val)
  | dct (kvs : List (Val × Val))
  | fdc (kvs : List (Val × Val))
  | ins (C : Str) (fs : List (Str × Val))
  | dead

abbrev Hh := List Ob
abbrev Loc := List (Option Val)

/-- an exception: its class, its one attribute -/
structure Xc where
  C : Str
  at? : Option (Str × Val)

inductive Res (α : Type) where
  | ok (a : α) (h : Hh)
  | rs (x : Xc) (h : Hh)
  | no

def Res.bind {α β : Type} (r : Res α) (k : α → Hh → Res β) : Res β := match r with
  | .ok a h => k a h
  | .rs x h => .rs x h
  | .no => .no
@[simp] theorem bind_ok {α β : Type} (a : α) (h : Hh) (k : α → Hh → Res β) : (Res.ok a h).bind k = k a h := rfl
@[simp] theorem bind_rs {α β : Type} (x : Xc) (h : Hh) (k : α → Hh → Res β) : (Res.rs x h : Res α).bind k = .rs x h := rfl
@[simp] theorem bind_no {α β : Type} (k : α → Hh → Res β) : (Res.no : Res α).bind k = .no := rfl

abbrev ME := Loc → Hh → Res Val
abbrev Fn := List Val → Hh → Res Val

/-- where tuples lie -/
def TupAt (K : PySem.W.Frag) (H : Hp) (a : Addr) (ws : List V) : Prop :=
  H a = some (.tup ws) ∨ ∃ (o : Obj) (its : Array Value) (n : Nat), K.lookup a = some o ∧ o.cls = .type "tuple" ∧ o.data = .seq its n ∧ its.size ≤ sizeLine ∧ Vals ws its.toList
theorem TupAt.sq {K : PySem.W.Frag} {H : Hp} {a : Addr} {ws : List V} (t : TupAt K H a ws) : SqT K H a ws := by
  rcases t with t | t
  · exact .inl (.inl t)
  · exact .inr t

/-- tuples stay -/
def Et (H H' : Hp) : Prop := ∀ a ws, H a = some (.tup ws) → H' a = some (.tup ws)
theorem Et.new {H : Hp} {p : Addr} {o : HO} (hp : H p = none) : Et H (upd H p o) := fun a ws e => by
  rw [upd_ne (ne_of_none e hp)]; exact e
theorem Et.put {H : Hp} {p : Addr} {u o : HO} (hp : H p = some u) (hu : ∀ ws, u ≠ .tup ws) : Et H (upd H p o) := fun a ws e => by
  rw [upd_ne (ne_of e hp fun z => hu ws z.symm)]; exact e
/-- tuples stay, and what is locked stays -/
structure Ex (H H' : Hp) : Prop where
  et : Et H H'
  fz : ∀ a o u, H a = some (.frz o u) → H' a = some (.frz o u)
instance {H H' : Hp} : CoeOut (Ex H H') (Et H H') := ⟨Ex.et⟩
theorem Ex.refl (H : Hp) : Ex H H := ⟨fun _ _ e => e, fun _ _ _ e => e⟩
theorem Ex.trans {H H1 H2 : Hp} (a : Ex H H1) (b : Ex H1 H2) : Ex H H2 := ⟨fun c ws e => b.et c ws (a.et c ws e), fun c o u e => b.fz c o u (a.fz c o u e)⟩
theorem Ex.new {H : Hp} {p : Addr} {o : HO} (hp : H p = none) : Ex H (upd H p o) := ⟨Et.new hp, fun a x u e => by rw [upd_ne (ne_of_none e hp)]; exact e⟩
theorem Ex.put {H : Hp} {p : Addr} {u o : HO} (hp : H p = some u) (hu : ∀ ws, u ≠ .tup ws) (hf : ∀ x y, u ≠ .frz x y) : Ex H (upd H p o) := ⟨Et.put hp hu, fun a x y e => by rw [upd_ne (ne_of e hp fun z => hf x y z.symm)]; exact e⟩

/-- what the module tells: the written part and the names -/
structure Gm where
  K : PySem.W.Frag
  mg : Str → Option Value

mutual
/-- a plain value and a value of the layer -/
inductive RV (G : Gm) (μ : List Addr) (H : Hp) : Val → V → Prop
  | non : RV G μ H .non .non
  | bl (b : Bool) : RV G μ H (.bl b) (.bl b)
  | int (i : Int) : RV G μ H (.int i) (.int i)
  | str (x : Str) : RV G μ H (.str x) (.str x)
  | tup {vs : List Val} {ws : List V} {a : Addr} : TupAt G.K H a ws → RVs G μ H vs ws → RV G μ H (.tup vs) (.ref a)
  | ref {n : Nat} {a : Addr} : μ[n]? = some a → RV G μ H (.ref n) (.ref a)
  | ty (n : String) : RV G μ H (.ty n) (.ty n)
  | gl {x : Str} {a : Addr} : G.mg x = some (.ref a) → RV G μ H (.gl x) (.ref a)
inductive RVs (G : Gm) (μ : List Addr) (H : Hp) : List Val → List V → Prop
  | nil : RVs G μ H [] []
  | cons {v : Val} {w : V} {vs : List Val} {ws : List V} : RV G μ H v w → RVs G μ H vs ws → RVs G μ H (v :: vs) (w :: ws)
end

section
variable {G : Gm} {μ μ' : List Addr} {H H' : Hp}
theorem TupAt.mono {K : PySem.W.Frag} {a : Addr} {ws : List V} (t : TupAt K H a ws) (e : Et H H') : TupAt K H' a ws := by
  rcases t with t | t
  · exact .inl (e _ _ t)
  · exact .inr t
theorem pre_get {n : Nat} {a : Addr} (p : μ <+: μ') (e : μ[n]? = some a) : μ'[n]? = some a := by
  obtain ⟨t, rfl⟩ := p
  rw [List.getElem?_append_left (List.getElem?_eq_some_iff.mp e).1]; exact e
mutual
theorem RV.mono (p : μ <+: μ') (e : Et H H') : ∀ {v : Val} {w : V}, RV G μ H v w → RV G μ' H' v w
  | _, _, .non => .non
  | _, _, .bl b => .bl b
  | _, _, .int i => .int i
  | _, _, .str x => .str x
  | _, _, .tup t r => .tup (t.mono e) (RVs.mono p e r)
  | _, _, .ref q => .ref (pre_get p q)
  | _, _, .ty n => .ty n
  | _, _, .gl q => .gl q
theorem RVs.mono (p : μ <+: μ') (e : Et H H') : ∀ {vs : List Val} {ws : List V}, RVs G μ H vs ws → RVs G μ' H' vs ws
  | _, _, .nil => .nil
  | _, _, .cons r t => .cons (RV.mono p e r) (RVs.mono p e t)
end
theorem RVs.length : ∀ {vs : List Val} {ws : List V}, RVs G μ H vs ws → vs.length = ws.length
  | _, _, .nil => rfl
  | _, _, .cons _ t => by simp [RVs.length t]
theorem RVs.get : ∀ {vs : List Val} {ws : List V} {i : Nat} {v : Val}, RVs G μ H vs ws → vs[i]? = some v → ∃ w, ws[i]? = some w ∧ RV G μ H v w
  | _, _, _, _, .nil, e => by simp at e
  | _, _, 0, _, .cons r _, e => by simp at e; subst e; exact ⟨_, rfl, r⟩
  | _, _, i + 1, v, .cons _ t, e => by
    obtain ⟨w, h1, h2⟩ := RVs.get (i := i) (v := v) t (by simpa using e)
    exact ⟨w, by simpa using h1, h2⟩
theorem RVs.append : ∀ {vs vs' : List Val} {ws ws' : List V}, RVs G μ H vs ws → RVs G μ H vs' ws' → RVs G μ H (vs ++ vs') (ws ++ ws')
  | _, _, _, _, .nil, s => s
  | _, _, _, _, .cons r t, s => .cons r (RVs.append t s)
theorem RVs.take : ∀ {vs : List Val} {ws : List V} (n : Nat), RVs G μ H vs ws → RVs G μ H (vs.take n) (ws.take n)
  | _, _, 0, _ => .nil
  | _, _, _ + 1, .nil => .nil
  | _, _, n + 1, .cons r t => .cons r (RVs.take n t)
theorem RVs.drop : ∀ {vs : List Val} {ws : List V} (n : Nat), RVs G μ H vs ws → RVs G μ H (vs.drop n) (ws.drop n)
  | _, _, 0, r => r
  | _, _, _ + 1, .nil => .nil
  | _, _, n + 1, .cons _ t => RVs.drop n t
theorem RVs.reverse : ∀ {vs : List Val} {ws : List V}, RVs G μ H vs ws → RVs G μ H vs.reverse ws.reverse
  | _, _, .nil => .nil
  | _, _, .cons r t => by
    rw [List.reverse_cons, List.reverse_cons]
    exact RVs.append (RVs.reverse t) (.cons r .nil)
theorem RVs.set {v : Val} {w : V} (r : RV G μ H v w) : ∀ {vs : List Val} {ws : List V} (i : Nat), RVs G μ H vs ws → RVs G μ H (vs.set i v) (ws.set i w)
  | _, _, _, .nil => .nil
  | _, _, 0, .cons _ t => .cons r t
  | _, _, i + 1, .cons q t => .cons q (RVs.set r i t)
theorem RVs.eraseIdx : ∀ {vs : List Val} {ws : List V} (i : Nat), RVs G μ H vs ws → RVs G μ H (vs.eraseIdx i) (ws.eraseIdx i)
  | _, _, _, .nil => .nil
  | _, _, 0, .cons _ t => t
  | _, _, i + 1, .cons q t => .cons q (RVs.eraseIdx i t)
theorem RVs.ints : ∀ {ns : List Int} {ws : List V}, RVs G μ H (ns.map Val.int) ws → ws = ns.map V.int
  | [], _, h => by cases h; rfl
  | n :: ns, _, h => by
    cases h with
    | cons r t => cases r; rw [RVs.ints t]; rfl
theorem RVs.ofInts : ∀ (ns : List Int), RVs G μ H (ns.map Val.int) (ns.map V.int)
  | [] => .nil
  | n :: ns => .cons (.int n) (RVs.ofInts ns)
theorem RVs.strs : ∀ {ns : List Str} {ws : List V}, RVs G μ H (ns.map Val.str) ws → ws = ns.map V.str
  | [], _, h => by cases h; rfl
  | n :: ns, _, h => by
    cases h with
    | cons r t => cases r; rw [RVs.strs t]; rfl
theorem RVs.ofStrs : ∀ (ns : List Str), RVs G μ H (ns.map Val.str) (ns.map V.str)
  | [] => .nil
  | n :: ns => .cons (.str n) (RVs.ofStrs ns)
theorem RVs.bls : ∀ {ns : List Bool} {ws : List V}, RVs G μ H (ns.map Val.bl) ws → ws = ns.map V.bl
  | [], _, h => by cases h; rfl
  | n :: ns, _, h => by
    cases h with
    | cons r t => cases r; rw [RVs.bls t]; rfl
end

/-- a key of a plain dict -/
def keyOf : Val → Option Key
  | .int i => some (.inl i)
  | .str x => some (.inr x)
  | _ => none
/-- the pairs of a plain dict and of a dict of the layer -/
inductive RKs (G : Gm) (μ : List Addr) (H : Hp) : List (Val × Val) → List (Key × V) → Prop
  | nil : RKs G μ H [] []
  | cons {k v : Val} {k' : Key} {w : V} {kvs : List (Val × Val)} {kws : List (Key × V)} : keyOf k = some k' → RV G μ H v w → RKs G μ H kvs kws → RKs G μ H ((k, v) :: kvs) ((k', w) :: kws)
/-- the attributes -/
inductive RFs (G : Gm) (μ : List Addr) (H : Hp) : List (Str × Val) → List (Str × V) → Prop
  | nil : RFs G μ H [] []
  | cons {f : Str} {v : Val} {w : V} {fs : List (Str × Val)} {gs : List (Str × V)} : RV G μ H v w → RFs G μ H fs gs → RFs G μ H ((f, v) :: fs) ((f, w) :: gs)

/-- what stands at an address of a plain object -/
def RO (G : Gm) (μ : List Addr) (H : Hp) (a : Addr) : Ob → Prop
  | .lst vs => ∃ ws, H a = some (.lst ws) ∧ RVs G μ H vs ws
  | .fro vs => ∃ o ws, H a = some (.frz o (.lst ws)) ∧ RVs G μ H vs ws
  | .dct kvs => ∃ kws, H a = some (.dK kws) ∧ RKs G μ H kvs kws
  | .fdc kvs => ∃ o kws, H a = some (.frz o (.dK kws)) ∧ RKs G μ H kvs kws
  | .ins C fs => ∃ Ca dx gs, G.mg C = some (.ref Ca) ∧ H a = some (.ins Ca dx gs) ∧ RFs G μ H fs gs
  | .dead => ∃ o, H a = some o ∧ ∀ ws, o ≠ .tup ws

section
variable {G : Gm} {μ μ' : List Addr} {H H' : Hp}
theorem RKs.mono (p : μ <+: μ') (e : Et H H') : ∀ {kvs : List (Val × Val)} {kws : List (Key × V)}, RKs G μ H kvs kws → RKs G μ' H' kvs kws
  | _, _, .nil => .nil
  | _, _, .cons q r t => .cons q (r.mono p e) (RKs.mono p e t)
theorem RFs.mono (p : μ <+: μ') (e : Et H H') : ∀ {fs : List (Str × Val)} {gs : List (Str × V)}, RFs G μ H fs gs → RFs G μ' H' fs gs
  | _, _, .nil => .nil
  | _, _, .cons r t => .cons (r.mono p e) (RFs.mono p e t)
theorem RKs.length : ∀ {kvs : List (Val × Val)} {kws : List (Key × V)}, RKs G μ H kvs kws → kvs.length = kws.length
  | _, _, .nil => rfl
  | _, _, .cons _ _ t => by simp [RKs.length t]
theorem RFs.length : ∀ {fs : List (Str × Val)} {gs : List (Str × V)}, RFs G μ H fs gs → fs.length = gs.length
  | _, _, .nil => rfl
  | _, _, .cons _ t => by simp [RFs.length t]
/-- an object's own place has not changed -/
theorem RO.mono {a : Addr} {o : Ob} (p : μ <+: μ') (e : Et H H') (s : H' a = H a) (r : RO G μ H a o) : RO G μ' H' a o := by
  cases o with
  | lst vs => obtain ⟨ws, h1, h2⟩ := r; exact ⟨ws, s.trans h1, h2.mono p e⟩
  | fro vs => obtain ⟨o, ws, h1, h2⟩ := r; exact ⟨o, ws, s.trans h1, h2.mono p e⟩
  | dct vs => obtain ⟨ws, h1, h2⟩ := r; exact ⟨ws, s.trans h1, h2.mono p e⟩
  | fdc vs => obtain ⟨o, ws, h1, h2⟩ := r; exact ⟨o, ws, s.trans h1, h2.mono p e⟩
  | ins C fs => obtain ⟨Ca, dx, gs, h0, h1, h2⟩ := r; exact ⟨Ca, dx, gs, h0, s.trans h1, h2.mono p e⟩
  | dead => obtain ⟨o, h1, h2⟩ := r; exact ⟨o, s.trans h1, h2⟩
theorem RO.some {a : Addr} {o : Ob} (r : RO G μ H a o) : ∃ u, H a = some u ∧ ∀ ws, u ≠ .tup ws := by
  cases o with
  | lst vs => obtain ⟨ws, h1, h2⟩ := r; exact ⟨_, h1, fun _ z => nomatch z⟩
  | fro vs => obtain ⟨o, ws, h1, h2⟩ := r; exact ⟨_, h1, fun _ z => nomatch z⟩
  | dct vs => obtain ⟨ws, h1, h2⟩ := r; exact ⟨_, h1, fun _ z => nomatch z⟩
  | fdc vs => obtain ⟨o, ws, h1, h2⟩ := r; exact ⟨_, h1, fun _ z => nomatch z⟩
  | ins C fs => obtain ⟨Ca, dx, gs, h0, h1, h2⟩ := r; exact ⟨_, h1, fun _ z => nomatch z⟩
  | dead => exact r
end

/-- the plain heap lies in the abstract heap: the i-th object at μ[i] -/
structure HR (G : Gm) (μ : List Addr) (h : Hh) (H : Hp) : Prop where
  len : μ.length = h.length
  nd : μ.Nodup
  ob : ∀ (i : Nat) (o : Ob) (a : Addr), h[i]? = some o → μ[i]? = some a → RO G μ H a o

section
variable {G : Gm} {μ μ' : List Addr} {h : Hh} {H H' : Hp}
theorem HR.addr (r : HR G μ h H) {i : Nat} {o : Ob} (e : h[i]? = some o) : ∃ a, μ[i]? = some a ∧ RO G μ H a o := by
  have hi : i < μ.length := by rw [r.len]; exact (List.getElem?_eq_some_iff.mp e).1
  exact ⟨μ[i], List.getElem?_eq_getElem hi, r.ob i o _ e (List.getElem?_eq_getElem hi)⟩
theorem HR.obj (r : HR G μ h H) {i : Nat} {a : Addr} (e : μ[i]? = some a) : ∃ o, h[i]? = some o ∧ RO G μ H a o := by
  have hi : i < h.length := by rw [← r.len]; exact (List.getElem?_eq_some_iff.mp e).1
  exact ⟨h[i], List.getElem?_eq_getElem hi, r.ob i _ a (List.getElem?_eq_getElem hi) e⟩
/-- the same plain heap in another abstract one that keeps its places -/
theorem HR.keep (r : HR G μ h H) (e : Et H H') (s : ∀ a ∈ μ, H' a = H a) : HR G μ h H' :=
  ⟨r.len, r.nd, fun i o a e1 e2 => (r.ob i o a e1 e2).mono (List.prefix_refl μ) e (s a (List.mem_of_getElem? e2))⟩
theorem HR.none (r : HR G μ h H) {p : Addr} (hp : H p = none) : p ∉ μ := fun m => by
  obtain ⟨i, hi⟩ := List.getElem?_of_mem m
  obtain ⟨o, _, z⟩ := r.obj hi
  obtain ⟨u, q, _⟩ := z.some
  rw [hp] at q; cases q
theorem HR.tup (r : HR G μ h H) {p : Addr} {ws : List V} (hp : H p = .some (.tup ws)) : p ∉ μ := fun m => by
  obtain ⟨i, hi⟩ := List.getElem?_of_mem m
  obtain ⟨o, _, z⟩ := r.obj hi
  obtain ⟨u, q, n⟩ := z.some
  rw [hp] at q; cases q; exact n ws rfl
/-- a tuple (or another thing that the plain heap does not know) is laid -/
theorem HR.laidT (r : HR G μ h H) {p : Addr} {o : HO} (hp : H p = .none) : HR G μ h (upd H p o) :=
  r.keep (Et.new hp) fun a ha => upd_ne fun z => r.none hp (z ▸ ha)
/-- a new plain object -/
theorem HR.laid (r : HR G μ h H) {p : Addr} {u : HO} {o : Ob} (hp : H p = .none) (ho : RO G (μ ++ [p]) (upd H p u) p o) : HR G (μ ++ [p]) (h ++ [o]) (upd H p u) where
  len := by simp [r.len]
  nd := List.nodup_append.mpr ⟨r.nd, by simp, fun a ha b hb => by
    have : b = p := by simpa using hb
    subst this
    exact fun z => r.none hp (z ▸ ha)⟩
  ob := fun i o' a e1 e2 => by
    by_cases hi : i < μ.length
    · rw [List.getElem?_append_left hi] at e2
      rw [List.getElem?_append_left (by rw [← r.len]; exact hi)] at e1
      have hm : a ∈ μ := List.mem_of_getElem? e2
      exact (r.ob i o' a e1 e2).mono (List.prefix_append μ [p]) (Et.new hp) (upd_ne fun z => r.none hp (z ▸ hm))
    · have hlt : i < (μ ++ [p]).length := (List.getElem?_eq_some_iff.mp e2).1
      rw [List.length_append, List.length_singleton] at hlt
      have : i = μ.length := by omega
      subst this
      rw [List.getElem?_append_right (Nat.le_refl _), Nat.sub_self] at e2
      rw [r.len, List.getElem?_append_right (Nat.le_refl _), Nat.sub_self] at e1
      simp at e1 e2
      subst e1; subst e2
      exact ho
/-- a plain object is changed -/
theorem HR.put (r : HR G μ h H) {n : Nat} {p : Addr} {u u' : HO} {o : Ob} (hn : μ[n]? = some p) (hp : H p = .some u) (hu : ∀ ws, u ≠ .tup ws) (ho : RO G μ (upd H p u') p o) : HR G μ (h.set n o) (upd H p u') where
  len := by simp [r.len]
  nd := r.nd
  ob := fun i o' a e1 e2 => by
    by_cases hi : i = n
    · subst hi
      rw [hn] at e2; cases e2
      have hl : i < h.length := by rw [← r.len]; exact (List.getElem?_eq_some_iff.mp hn).1
      rw [List.getElem?_set_self hl] at e1
      cases e1
      exact ho
    · rw [List.getElem?_set_ne (Ne.symm hi)] at e1
      have hne : a ≠ p := fun z => by
        subst z
        obtain ⟨h1, q1⟩ := List.getElem?_eq_some_iff.mp e2
        obtain ⟨h2, q2⟩ := List.getElem?_eq_some_iff.mp hn
        exact hi ((List.getElem_inj r.nd).mp (q1.trans q2.symm))
      exact (r.ob i o' a e1 e2).mono (List.prefix_refl μ) (Et.put hp hu) (upd_ne hne)
/-- later objects are forgotten -/
theorem HR.cut (r : HR G μ h H) {n : Nat} (hn : ∀ (i : Nat) (o : Ob), i < n → h[i]? = some o → ∀ (a : Addr), μ[i]? = some a → RO G (μ.take n) H a o) : HR G (μ.take n) (h.take n) H where
  len := by simp [r.len]
  nd := r.nd.sublist (List.take_sublist _ _)
  ob := fun i o a e1 e2 => by
    have hi : i < n := by
      have := (List.getElem?_eq_some_iff.mp e1).1
      rw [List.length_take] at this; omega
    rw [List.getElem?_take_of_lt hi] at e1 e2
    exact hn i o hi e1 a e2
end

/-- the locals -/
def LR (G : Gm) (μ : List Addr) (H : Hp) (σ : Loc) (τ : St) : Prop :=
  σ.length = τ.length ∧ ∀ (i : Nat) (v : Val), σ[i]? = some (some v) → ∃ w, τ[i]? = some (some w) ∧ RV G μ H v w
theorem LR.mono {G : Gm} {μ μ' : List Addr} {H H' : Hp} {σ : Loc} {τ : St} (p : μ <+: μ') (e : Et H H') (l : LR G μ H σ τ) : LR G μ' H' σ τ :=
  ⟨l.1, fun i v q => let ⟨w, q1, q2⟩ := l.2 i v q; ⟨w, q1, q2.mono p e⟩⟩
theorem LR.set {G : Gm} {μ : List Addr} {H : Hp} {σ : Loc} {τ : St} {v : Val} {w : V} (l : LR G μ H σ τ) (i : Nat) (r : RV G μ H v w) : LR G μ H (σ.set i (some v)) (τ.set i (some w)) := by
  refine ⟨by simp [l.1], fun j v' e => ?_⟩
  by_cases hj : j = i
  · subst hj
    have hl : j < σ.length := by
      have := (List.getElem?_eq_some_iff.mp e).1
      simpa using this
    rw [List.getElem?_set_self hl] at e
    cases e
    exact ⟨w, by rw [List.getElem?_set_self (by rw [← l.1]; exact hl)], r⟩
  · rw [List.getElem?_set_ne (Ne.symm hj)] at e
    obtain ⟨w', q1, q2⟩ := l.2 j v' e
    exact ⟨w', by rw [List.getElem?_set_ne (Ne.symm hj)]; exact q1, q2⟩

end U
/-! Layer A, part 2: what is computed (results) and the judgements: expressions, arguments, tests. -/
namespace U
open PySem L2

/-- an exception lies so -/
def RX (G : Gm) (μ : List Addr) (H : Hp) (x : Xc) (cls : Value) (d : Option Addr) : Prop :=
  G.mg x.C = some cls ∧ match x.at? with
    | none => d = none
    | some (f, v) => ∃ da w, d = some da ∧ H da = some (.xd [(f, w)]) ∧ RV G μ H v w

/-- what a result promises -/
def Ps {α : Type} (G : Gm) (W : XK) (μ : List Addr) (H : Hp) (r : Res α) (Q : α → List Addr → Hh → Hp → Prop) : Prop := match r with
  | .ok a h => ∀ μ' H', μ <+: μ' → Ex H H' → HR G μ' h H' → Q a μ' h H'
  | .rs x h => ∀ μ' H' cls d, μ <+: μ' → Ex H H' → HR G μ' h H' → RX G μ' H' x cls d → W cls d H'
  | .no => False

section
variable {α β : Type} {G : Gm} {W : XK} {μ μ' : List Addr} {H H' : Hp} {r : Res α} {Q Q' : α → List Addr → Hh → Hp → Prop}
theorem Ps.mono (p : μ <+: μ') (e : Ex H H') (h : Ps G W μ H r Q) : Ps G W μ' H' r Q := by
  cases r with
  | ok a k => exact fun μ2 H2 p2 e2 r2 => h μ2 H2 (p.trans p2) (e.trans e2) r2
  | rs x k => exact fun μ2 H2 c d p2 e2 r2 rx => h μ2 H2 c d (p.trans p2) (e.trans e2) r2 rx
  | no => exact h
theorem Ps.imp (h : Ps G W μ H r Q) (k : ∀ a μ' h' H', μ <+: μ' → Ex H H' → HR G μ' h' H' → Q a μ' h' H' → Q' a μ' h' H') : Ps G W μ H r Q' := by
  cases r with
  | ok a k' => exact fun μ2 H2 p2 e2 r2 => k _ _ _ _ p2 e2 r2 (h μ2 H2 p2 e2 r2)
  | rs x k' => exact h
  | no => exact h
theorem Ps.bind {f : α → Hh → Res β} {R : β → List Addr → Hh → Hp → Prop} (h : Ps G W μ H (r.bind f) R) : Ps G W μ H r (fun a μ' h' H' => Ps G W μ' H' (f a h') R) := by
  cases r with
  | ok a k => exact fun μ2 H2 p2 e2 r2 => Ps.mono p2 e2 h
  | rs x k => exact h
  | no => exact h
theorem Ps.at {a : α} {h : Hh} (p : Ps G W μ H (.ok a h) Q) (r : HR G μ h H) : Q a μ h H := p μ H (List.prefix_refl μ) (Ex.refl H) r
end

/-- the module as a context sees it -/
abbrev gm (X : Cx) : Gm := ⟨X.K, X.mg⟩
/-- the value's end -/
abbrev qV (G : Gm) (Q : VK) : Val → List Addr → Hh → Hp → Prop := fun v μ _ H => ∀ w, RV G μ H v w → Q w H

abbrev MA := Loc → Hh → Res (List Val)
abbrev MT := Loc → Hh → Res Bool

/-- the readings -/
def tM (G : Gm) (W : WX) (m : ME) : TE := fun τ H Q => ∃ μ σ h, LR G μ H σ τ ∧ HR G μ h H ∧ Ps G (WE W τ) μ H (m σ h) (qV G Q)
def tMA (G : Gm) (W : WX) (m : MA) : TA := fun τ H Q => ∃ μ σ h, LR G μ H σ τ ∧ HR G μ h H ∧ Ps G (WE W τ) μ H (m σ h) (fun vs μ' _ H' => ∀ ws, RVs G μ' H' vs ws → Q ws H')
def tMT (G : Gm) (W : WX) (m : MT) : TT := fun τ H Q => ∃ μ σ h, LR G μ H σ τ ∧ HR G μ h H ∧ Ps G (WE W τ) μ H (m σ h) (fun b _ _ H' => Q b H')

/-- the judgements -/
abbrev CE (X : Cx) (W : WX) (e : Expr) (m : ME) : Prop := PE X e (tM (gm X) W m)
abbrev CA (X : Cx) (W : WX) (es : List Expr) (m : MA) : Prop := PA X es (tMA (gm X) W m)
abbrev CT (X : Cx) (W : WX) (e : Expr) (m : MT) : Prop := PT X e (tMT (gm X) W m)
abbrev CWt (X : Cx) (W : WX) (e : Expr) (m : MT) : Prop := PW X e (tMT (gm X) W m)
abbrev CK (X : Cx) (W : WX) (ks : List Keyword) (m : MA) : Prop := PK X ks (tMA (gm X) W m)

theorem peI {X : Cx} {e : Expr} {t t' : TE} (h : PE X e t) (k : ∀ τ H Q, t' τ H Q → t τ H Q) : PE X e t' := ⟨fun pins s σ H Q I q => h.run pins s σ H Q I (k _ _ _ q)⟩
theorem ptI {X : Cx} {e : Expr} {t t' : TT} (h : PT X e t) (k : ∀ τ H Q, t' τ H Q → t τ H Q) : PT X e t' := ⟨fun pins s σ H Q I q => h.run pins s σ H Q I (k _ _ _ q)⟩
theorem pwI {X : Cx} {e : Expr} {t t' : TT} (h : PW X e t) (k : ∀ τ H Q, t' τ H Q → t τ H Q) : PW X e t' := ⟨fun wh pins s σ H Q I q => h.run wh pins s σ H Q I (k _ _ _ q)⟩
theorem paI {X : Cx} {es : List Expr} {t t' : TA} (h : PA X es t) (k : ∀ τ H Q, t' τ H Q → t τ H Q) : PA X es t' := ⟨fun pos pins s σ H Q I q => h.run pos pins s σ H Q I (k _ _ _ q)⟩
theorem pkI {X : Cx} {es : List Keyword} {t t' : TA} (h : PK X es t) (k : ∀ τ H Q, t' τ H Q → t τ H Q) : PK X es t' := ⟨fun pos pins s σ H Q I q => h.run pos pins s σ H Q I (k _ _ _ q)⟩

/-! ### what is computed -/
def mVar (i : Nat) : ME := fun σ h => match σ[i]? with
  | some (some v) => .ok v h
  | _ => .no
def mC (v : Val) : ME := fun _ h => .ok v h
def mOp (f : Val → Val → Hh → Res Val) (a b : ME) : ME := fun σ h => (a σ h).bind fun x h1 => (b σ h1).bind fun y h2 => f x y h2
def mUn (f : Val → Hh → Res Val) (a : ME) : ME := fun σ h => (a σ h).bind fun x h1 => f x h1
def maNil : MA := fun _ h => .ok [] h
def maCons (a : ME) (r : MA) : MA := fun σ h => (a σ h).bind fun x h1 => (r σ h1).bind fun xs h2 => .ok (x :: xs) h2
def mApp (f : Fn) (a : MA) : ME := fun σ h => (a σ h).bind fun vs h1 => f vs h1
/-- two comparisons in a row -/
def mChain (f g : Val → Val → Hh → Res Val) (a b c : ME) : ME := fun σ h => (a σ h).bind fun x h1 => (b σ h1).bind fun y h2 => (f x y h2).bind fun z h3 => match z with
  | .bl true => (c σ h3).bind fun w h4 => g y w h4
  | .bl false => .ok (.bl false) h3
  | _ => .no
def asB : Val → Option Bool
  | .bl b => some b
  | _ => none
def mAnd (a b : ME) : ME := fun σ h => (a σ h).bind fun x h1 => match x with
  | .bl true => b σ h1
  | .bl false => .ok (.bl false) h1
  | _ => .no
def mOr (a b : ME) : ME := fun σ h => (a σ h).bind fun x h1 => match x with
  | .bl true => .ok (.bl true) h1
  | .bl false => b σ h1
  | _ => .no
def truth (v : Val) (h : Hh) : Option Bool := match v with
  | .non => some false
  | .bl b => some b
  | .int i => some (i != 0)
  | .str y => if y.length ≤ sizeLine then some ((y.length : Int) != 0) else none
  | .tup vs => some !vs.isEmpty
  | .ref n => match h[n]? with
    | some (.lst vs) => some !vs.isEmpty
    | some (.fro vs) => some !vs.isEmpty
    | some (.dct vs) => some !vs.isEmpty
    | _ => none
  | _ => none
def mNot (a : ME) : ME := fun σ h => (a σ h).bind fun x h1 => match truth x h1 with
  | some b => .ok (.bl !b) h1
  | none => .no
def mIf (t : MT) (a b : ME) : ME := fun σ h => (t σ h).bind fun c h1 => if c = true then a σ h1 else b σ h1
def tVal (a : ME) : MT := fun σ h => (a σ h).bind fun x h1 => match truth x h1 with
  | some b => .ok b h1
  | none => .no
def tAnd2 (a b : MT) : MT := fun σ h => (a σ h).bind fun c h1 => if c = true then b σ h1 else .ok false h1
def tOr2 (a b : MT) : MT := fun σ h => (a σ h).bind fun c h1 => if c = true then .ok true h1 else b σ h1
def tNot1 (a : MT) : MT := fun σ h => (a σ h).bind fun c h1 => .ok (!c) h1
def tBl (a : ME) : MT := fun σ h => (a σ h).bind fun x h1 => match x with
  | .bl b => .ok b h1
  | _ => .no

/-- operations on values -/
def rM2 (G : Gm) (W : XK) (f : Val → Val → Hh → Res Val) : R2 := fun x' y' H Q => ∃ μ h x y, HR G μ h H ∧ RV G μ H x x' ∧ RV G μ H y y' ∧ Ps G W μ H (f x y h) (qV G Q)
def rM1 (G : Gm) (W : XK) (f : Val → Hh → Res Val) : V → Hp → VK → Prop := fun x' H Q => ∃ μ h x, HR G μ h H ∧ RV G μ H x x' ∧ Ps G W μ H (f x h) (qV G Q)
def rMs (G : Gm) (W : XK) (f : Fn) : List V → Hp → VK → Prop := fun xs' H Q => ∃ μ h xs, HR G μ h H ∧ RVs G μ H xs xs' ∧ Ps G W μ H (f xs h) (qV G Q)
/-- nothing is raised -/
abbrev W0 : XK := fun _ _ _ => False

section
variable {X : Cx} {W : WX} {a b c e : Expr} {ma mb mc : ME} {pos : Pos}
theorem ps_nv {G : Gm} {W : XK} {μ : List Addr} {H : Hp} {r : Res Val} {Q : VK} (h : Ps G W μ H r (qV G Q)) (hn : ∀ x k, r ≠ .rs x k) : Ps G W0 μ H r (qV G Q) := by
  cases r with
  | ok a k => exact h
  | rs x k => exact absurd rfl (hn x k)
  | no => exact h
theorem s_var (i : Nat) {x : Str} (hN : X.N[i]? = some x := by rfl) (hv : Vis X.env.scope x := by first | exact Or.inl rfl | exact Or.inr (Or.inl rfl) | exact Or.inr (Or.inr rfl)) (hd : (x == ("__debug__" : Str)) = false := by decide)
    (hcd : (x == ("__classdict__" : Str)) = false := by decide) : CE X W (.Name x pos) (mVar i) := by
  refine peI (pe_var hN hv hd hcd) fun τ H Q ⟨μ, σ, h, l, r, p⟩ => ?_
  unfold mVar at p
  cases e : σ[i]? with
  | none => rw [e] at p; exact p.elim
  | some o =>
    cases o with
    | none => rw [e] at p; exact p.elim
    | some v =>
      rw [e] at p
      obtain ⟨w, q1, q2⟩ := l.2 i v e
      exact ⟨w, q1, (p.at r) w q2⟩
theorem s_cst {v : Val} {w : V} (h : PE X e (tC w)) (r : ∀ μ H, RV (gm X) μ H v w) : CE X W e (mC v) :=
  peI h fun τ H Q ⟨μ, σ, h, l, r1, p⟩ => (p.at r1) w (r μ H)
theorem s_int {i j} : CE X W (.Constant (.int i) j pos) (mC (.int i)) := s_cst pe_int fun _ _ => .int i
theorem s_bl {i j} : CE X W (.Constant (.bool i) j pos) (mC (.bl i)) := s_cst pe_bl fun _ _ => .bl i
theorem s_non {j} : CE X W (.Constant .none j pos) (mC .non) := s_cst pe_non fun _ _ => .non
theorem s_str {i j} : CE X W (.Constant (.str i) j pos) (mC (.str i)) := s_cst pe_str fun _ _ => .str i
/-- a class, a function of the module -/
theorem s_gl {x : Str} {f : Addr} (hm : X.mg x = some (.ref f)) (hg : Gl X x := by rfl) (hd : (x == ("__debug__" : Str)) = false := by decide) : CE X W (.Name x pos) (mC (.gl x)) :=
  s_cst (pe_glob hg hm (v := .ref f) rfl hd) fun _ _ => .gl hm
/-- a constant of the module -/
theorem s_glI {x : Str} {i : Int} {t : Tok} (hm : X.mg x = some (.int i t)) (hg : Gl X x := by rfl) (hd : (x == ("__debug__" : Str)) = false := by decide) : CE X W (.Name x pos) (mC (.int i)) :=
  s_cst (pe_glob hg hm (v := .int i) ⟨t, rfl⟩ hd) fun _ _ => .int i
theorem s_glS {x : Str} {i : Str} {t : Tok} (hm : X.mg x = some (.str i t)) (hg : Gl X x := by rfl) (hd : (x == ("__debug__" : Str)) = false := by decide) : CE X W (.Name x pos) (mC (.str i)) :=
  s_cst (pe_glob hg hm (v := .str i) ⟨t, rfl⟩ hd) fun _ _ => .str i
/-- a built-in class as a value -/
theorem s_ty {x : Str} {T : String} (hm : X.mg x = none) (hv : bootBuiltins x = some (.type T)) (hg : Gl X x := by rfl) (hn : x ≠ "__name__" := by decide) (hd : (x == ("__debug__" : Str)) = false := by decide) : CE X W (.Name x pos) (mC (.ty T)) :=
  s_cst (pe_bltn hg hm hv (v := .ty T) rfl hn hd) fun _ _ => .ty T

theorem s_two {r : R2} {f : Val → Val → Hh → Res Val} (h : PE X e (tOp r (tM (gm X) W ma) (tM (gm X) W mb))) (hr : ∀ τ x y H Q, rM2 (gm X) (WE W τ) f x y H Q → r x y H Q) : CE X W e (mOp f ma mb) := by
  refine peI h fun τ H Q ⟨μ, σ, h, l, r, p⟩ => ⟨μ, σ, h, l, r, ?_⟩
  refine (Ps.bind p).imp fun x μ1 h1 H1 p1 e1 r1 q1 w1 rw1 => ?_
  refine ⟨μ1, σ, h1, l.mono p1 e1, r1, ?_⟩
  refine (Ps.bind q1).imp fun y μ2 h2 H2 p2 e2 r2 q2 w2 rw2 => ?_
  exact hr τ w1 w2 H2 Q ⟨μ2, h2, x, y, r2, rw1.mono p2 e2, rw2, q2⟩
theorem s_op {op : Operator} {f : Val → Val → Hh → Res Val} (ho : OpR X (binaryOp op) (rM2 (gm X) W0 f)) (hn : ∀ x y h z k, f x y h ≠ .rs z k) (ha : CE X W a ma) (hb : CE X W b mb) : CE X W (.BinOp a op b pos) (mOp f ma mb) :=
  s_two (pe_op ho ha hb) fun τ x y H Q ⟨μ, h, u, v, r1, r2, r3, p⟩ => ⟨μ, h, u, v, r1, r2, r3, ps_nv p (hn u v h)⟩
theorem s_cmp {op : CmpOp} {f : Val → Val → Hh → Res Val} (ho : OpR X (compareOp op) (rM2 (gm X) W0 f)) (hn : ∀ x y h z k, f x y h ≠ .rs z k) (ha : CE X W a ma) (hb : CE X W b mb) (hm : behindInMarks op b = false := by rfl) : CE X W (.Compare a [op] [b] pos) (mOp f ma mb) :=
  s_two (pe_cmpR ho ha hb hm) fun τ x y H Q ⟨μ, h, u, v, r1, r2, r3, p⟩ => ⟨μ, h, u, v, r1, r2, r3, ps_nv p (hn u v h)⟩
theorem s_un {op : UnaryOp} {f : Val → Hh → Res Val} (ho : UnR X (unaryOp op) (rM1 (gm X) W0 f)) (hn : ∀ x h z k, f x h ≠ .rs z k) (ha : CE X W a ma) : CE X W (.UnaryOp op a pos) (mUn f ma) := by
  refine peI (pe_un ho ha) fun τ H Q ⟨μ, σ, h, l, r, p⟩ => ⟨μ, σ, h, l, r, ?_⟩
  refine (Ps.bind p).imp fun x μ1 h1 H1 p1 e1 r1 q1 w1 rw1 => ?_
  exact ⟨μ1, h1, x, r1, rw1, ps_nv q1 (hn x h1)⟩
theorem s_chain {op op' : CmpOp} {f g : Val → Val → Hh → Res Val} (ho : OpR X (compareOp op) (rM2 (gm X) W0 f)) (hn : ∀ x y h z k, f x y h ≠ .rs z k) (ho' : OpR X (compareOp op') (rM2 (gm X) W0 g)) (hn' : ∀ x y h z k, g x y h ≠ .rs z k)
    (ha : CE X W a ma) (hb : CE X W b mb) (hc : CE X W c mc) (hm : lastMarks [op, op'] [b, c] = false := by with_unfolding_all rfl) : CE X W (.Compare a [op, op'] [b, c] pos) (mChain f g ma mb mc) := by
  refine peI (pe_chain ho ho' ha hb hc hm) fun τ H Q ⟨μ, σ, h, l, r, p⟩ => ⟨μ, σ, h, l, r, ?_⟩
  refine (Ps.bind p).imp fun x μ1 h1 H1 p1 e1 r1 q1 w1 rw1 => ?_
  refine ⟨μ1, σ, h1, l.mono p1 e1, r1, ?_⟩
  refine (Ps.bind q1).imp fun y μ2 h2 H2 p2 e2 r2 q2 w2 rw2 => ?_
  refine ⟨μ2, h2, x, y, r2, rw1.mono p2 e2, rw2, ?_⟩
  cases e : f x y h2 with
  | no => rw [e] at q2; exact q2
  | rs z k => exact absurd e (hn x y h2 z k)
  | ok z h3 =>
    rw [e] at q2
    intro μ3 H3 p3 e3 r3 w3 rw3
    have q3 := Ps.mono p3 e3 q2
    cases z with
    | bl k =>
      cases rw3
      refine ⟨k, rfl, ?_⟩
      cases k with
      | false => exact iteF ((Ps.at q3 r3) _ (.bl false))
      | true =>
        refine iteT ⟨μ3, σ, h3, l.mono ((p1.trans p2).trans p3) ((e1.trans e2).trans e3), r3, ?_⟩
        have q3' : Ps (gm X) (WE W τ) μ3 H3 ((mc σ h3).bind fun w h4 => g y w h4) (qV (gm X) Q) := q3
        refine (Ps.bind q3').imp fun z μ4 h4 H4 p4 e4 r4 q4 w4 rw4 => ?_
        exact ⟨μ4, h4, y, z, r4, rw2.mono (p3.trans p4) (e3.trans e4), rw4, ps_nv q4 (hn' y z h4)⟩
    | _ => exact q3.elim
/-! ### tests -/
theorem truth_ok {G : Gm} {μ : List Addr} {h : Hh} {H : Hp} {v : Val} {w : V} {k : Bool} (r : HR G μ h H) (rv : RV G μ H v w) (e : truth v h = some k) : TruV G.K w H k := by
  cases rv with
  | non => cases e; rfl
  | bl b => cases e; rfl
  | int i => cases e; rfl
  | str x =>
    unfold truth at e
    dsimp only at e
    split at e
    · cases e; exact ⟨by assumption, rfl⟩
    · cases e
  | tup t rs =>
    cases e
    refine .inr (.inl ⟨_, t.sq, ?_⟩)
    cases rs <;> rfl
  | @ref n a q =>
    obtain ⟨o, ho, ro⟩ := r.obj q
    unfold truth at e
    dsimp only at e
    rw [ho] at e
    cases o with
    | lst vs => obtain ⟨ws, h1, h2⟩ := ro; cases e; exact .inl ⟨ws, .inl (.inl h1), by cases h2 <;> rfl⟩
    | fro vs => obtain ⟨o, ws, h1, h2⟩ := ro; cases e; exact .inl ⟨ws, .inl (.inr ⟨o, h1⟩), by cases h2 <;> rfl⟩
    | dct vs => obtain ⟨ws, h1, h2⟩ := ro; cases e; exact .inr (.inr ⟨ws, h1, by cases h2 <;> rfl⟩)
    | fdc vs => cases e
    | ins C fs => cases e
    | dead => cases e
  | ty n => cases e
  | gl q => cases e
theorem c_val (ha : CE X W a ma) (he : ∀ whole, isTrue a X.env whole = (do let v ← whole; standAt a.pos; holding [v] (truthy v)) := by intro _; rfl) : CT X W a (tVal ma) := by
  refine ptI (pt_truth ha he) fun τ H Q ⟨μ, σ, h, l, r, p⟩ => ⟨μ, σ, h, l, r, ?_⟩
  refine (Ps.bind p).imp fun x μ1 h1 H1 p1 e1 r1 q1 w1 rw1 => ?_
  cases e : truth x h1 with
  | none => rw [e] at q1; exact q1.elim
  | some k =>
    rw [e] at q1
    exact ⟨k, truth_ok r1 rw1 e, Ps.at q1 r1⟩
theorem c_cmp {op : CmpOp} {f : Val → Val → Hh → Res Val} (ho : OpR X (compareOp op) (rM2 (gm X) W0 f)) (hn : ∀ x y h z k, f x y h ≠ .rs z k) (ha : CE X W a ma) (hb : CE X W b mb) (hm : behindInMarks op b = false := by rfl) : CT X W (.Compare a [op] [b] pos) (tBl (mOp f ma mb)) := by
  refine ptI (pt_cmpR ho ha hb hm) fun τ H Q ⟨μ, σ, h, l, r, p⟩ => ⟨μ, σ, h, l, r, ?_⟩
  refine (Ps.bind (Ps.bind p)).imp fun x μ1 h1 H1 p1 e1 r1 q1 w1 rw1 => ?_
  refine ⟨μ1, σ, h1, l.mono p1 e1, r1, ?_⟩
  refine (Ps.bind q1).imp fun y μ2 h2 H2 p2 e2 r2 q2 w2 rw2 => ?_
  refine ⟨μ2, h2, x, y, r2, rw1.mono p2 e2, rw2, ?_⟩
  cases e : f x y h2 with
  | no => rw [e] at q2; exact q2
  | rs z k => exact absurd e (hn x y h2 z k)
  | ok z h3 =>
    rw [e] at q2
    intro μ3 H3 p3 e3 r3 w3 rw3
    have q3 := q2 μ3 H3 p3 e3 r3
    cases z with
    | bl k => cases rw3; exact ⟨k, rfl, Ps.at q3 r3⟩
    | _ => exact q3.elim
theorem c_not {m : MT} (ha : CT X W a m) : CT X W (.UnaryOp .Not a pos) (tNot1 m) := by
  refine ptI (pt_not ha) fun τ H Q ⟨μ, σ, h, l, r, p⟩ => ⟨μ, σ, h, l, r, ?_⟩
  exact (Ps.bind p).imp fun x μ1 h1 H1 p1 e1 r1 q1 => Ps.at q1 r1
theorem c_and1 {m : MT} (ha : CT X W a m) : CWt X W (.BoolOp .And [a] pos) m := pw_and1 ha
theorem c_or1 {m : MT} (ha : CT X W a m) : CWt X W (.BoolOp .Or [a] pos) m := pw_or1 ha
theorem c_and {m n : MT} {rest : List Expr} (ha : CT X W a m) (hb : CWt X W (.BoolOp .And (b :: rest) pos) n) : CWt X W (.BoolOp .And (a :: b :: rest) pos) (tAnd2 m n) := by
  refine pwI (pw_and ha hb) fun τ H Q ⟨μ, σ, h, l, r, p⟩ => ⟨μ, σ, h, l, r, ?_⟩
  refine (Ps.bind p).imp fun x μ1 h1 H1 p1 e1 r1 q1 => ?_
  cases x with
  | true => exact iteT ⟨μ1, σ, h1, l.mono p1 e1, r1, q1⟩
  | false => exact iteF (Ps.at q1 r1)
theorem c_or {m n : MT} {rest : List Expr} (ha : CT X W a m) (hb : CWt X W (.BoolOp .Or (b :: rest) pos) n) : CWt X W (.BoolOp .Or (a :: b :: rest) pos) (tOr2 m n) := by
  refine pwI (pw_or ha hb) fun τ H Q ⟨μ, σ, h, l, r, p⟩ => ⟨μ, σ, h, l, r, ?_⟩
  refine (Ps.bind p).imp fun x μ1 h1 H1 p1 e1 r1 q1 => ?_
  cases x with
  | true => exact iteT (Ps.at q1 r1)
  | false => exact iteF ⟨μ1, σ, h1, l.mono p1 e1, r1, q1⟩
/-! ### and, or, not, if as values -/
theorem s_one {op : BoolOp} (ha : CE X W a ma) : CE X W (.BoolOp op [a] pos) ma := pe_one ha
theorem s_and {rest : List Expr} (ha : CE X W a ma) (hb : CE X W (.BoolOp .And (b :: rest) pos) mb) : CE X W (.BoolOp .And (a :: b :: rest) pos) (mAnd ma mb) := by
  refine peI (pe_and ha hb) fun τ H Q ⟨μ, σ, h, l, r, p⟩ => ⟨μ, σ, h, l, r, ?_⟩
  refine (Ps.bind p).imp fun x μ1 h1 H1 p1 e1 r1 q1 w1 rw1 => ?_
  cases x with
  | bl k =>
    cases rw1
    cases k with
    | true => exact ⟨true, rfl, iteT ⟨μ1, σ, h1, l.mono p1 e1, r1, q1⟩⟩
    | false => exact ⟨false, rfl, iteF ((Ps.at q1 r1) _ (.bl false))⟩
  | _ => exact q1.elim
theorem s_or {rest : List Expr} (ha : CE X W a ma) (hb : CE X W (.BoolOp .Or (b :: rest) pos) mb) : CE X W (.BoolOp .Or (a :: b :: rest) pos) (mOr ma mb) := by
  refine peI (pe_or ha hb) fun τ H Q ⟨μ, σ, h, l, r, p⟩ => ⟨μ, σ, h, l, r, ?_⟩
  refine (Ps.bind p).imp fun x μ1 h1 H1 p1 e1 r1 q1 w1 rw1 => ?_
  cases x with
  | bl k =>
    cases rw1
    cases k with
    | false => exact ⟨false, rfl, iteF ⟨μ1, σ, h1, l.mono p1 e1, r1, q1⟩⟩
    | true => exact ⟨true, rfl, iteT ((Ps.at q1 r1) _ (.bl true))⟩
  | _ => exact q1.elim
theorem s_not (ha : CE X W a ma) : CE X W (.UnaryOp .Not a pos) (mNot ma) := by
  refine peI (pe_notT ha) fun τ H Q ⟨μ, σ, h, l, r, p⟩ => ⟨μ, σ, h, l, r, ?_⟩
  refine (Ps.bind p).imp fun x μ1 h1 H1 p1 e1 r1 q1 w1 rw1 => ?_
  cases e : truth x h1 with
  | none => rw [e] at q1; exact q1.elim
  | some k =>
    rw [e] at q1
    exact ⟨k, truth_ok r1 rw1 e, (Ps.at q1 r1) _ (.bl _)⟩
theorem s_if {m : MT} (hc : CT X W c m) (ha : CE X W a ma) (hb : CE X W b mb) : CE X W (.IfExp c a b pos) (mIf m ma mb) := by
  refine peI (pe_ifExp hc ha hb) fun τ H Q ⟨μ, σ, h, l, r, p⟩ => ⟨μ, σ, h, l, r, ?_⟩
  refine (Ps.bind p).imp fun x μ1 h1 H1 p1 e1 r1 q1 => ?_
  cases x with
  | true => exact iteT ⟨μ1, σ, h1, l.mono p1 e1, r1, q1⟩
  | false => exact iteF ⟨μ1, σ, h1, l.mono p1 e1, r1, q1⟩
/-! ### arguments -/
theorem a_nil : CA X W [] maNil := paI pa_nil fun τ H Q ⟨μ, σ, h, l, r, p⟩ => (p.at r) [] .nil
theorem a_cons {es : List Expr} {m : MA} (ha : CE X W e ma) (hr : CA X W es m) (hs : starEach (e :: es) X.env = (false, eval e X.env) :: starEach es X.env := by rfl) : CA X W (e :: es) (maCons ma m) := by
  refine paI (pa_cons ha hr hs) fun τ H Q ⟨μ, σ, h, l, r, p⟩ => ⟨μ, σ, h, l, r, ?_⟩
  refine (Ps.bind p).imp fun x μ1 h1 H1 p1 e1 r1 q1 w1 rw1 => ?_
  refine ⟨μ1, σ, h1, l.mono p1 e1, r1, ?_⟩
  refine (Ps.bind q1).imp fun xs μ2 h2 H2 p2 e2 r2 q2 ws rws => ?_
  exact (Ps.at q2 r2) _ (.cons (rw1.mono p2 e2) rws)
theorem k_nil : CK X W [] maNil := pkI pk_nil fun τ H Q ⟨μ, σ, h, l, r, p⟩ => (p.at r) [] .nil
theorem k_cons {ks : List Keyword} {m : MA} {nm : Option Str} {kpos : Pos} (ha : CE X W e ma) (hr : CK X W ks m) : CK X W (⟨nm, e, kpos⟩ :: ks) (maCons ma m) := by
  refine pkI (pk_cons ha hr) fun τ H Q ⟨μ, σ, h, l, r, p⟩ => ⟨μ, σ, h, l, r, ?_⟩
  refine (Ps.bind p).imp fun x μ1 h1 H1 p1 e1 r1 q1 w1 rw1 => ?_
  refine ⟨μ1, σ, h1, l.mono p1 e1, r1, ?_⟩
  refine (Ps.bind q1).imp fun xs μ2 h2 H2 p2 e2 r2 q2 ws rws => ?_
  exact (Ps.at q2 r2) _ (.cons (rw1.mono p2 e2) rws)
/-! ### displays -/
def vTup : Fn := fun vs h => if vs.length ≤ sizeLine then .ok (.tup vs) h else .no
def vLst : Fn := fun vs h => if vs.length ≤ sizeLine then .ok (.ref h.length) (h ++ [.lst vs]) else .no
theorem lay_tup {G : Gm} {μ : List Addr} {h : Hh} {H : Hp} {vs : List Val} {ws : List V} (r : HR G μ h H) (rv : RVs G μ H vs ws) {Q : VK} {W : XK} (p : Ps G W μ H (.ok (.tup vs) h) (qV G Q)) : ∀ a, H a = none → Q (.ref a) (upd H a (.tup ws)) := fun a ha =>
  p μ _ (List.prefix_refl μ) (Ex.new ha) (r.laidT ha) _ (.tup (.inl upd_same) (rv.mono (List.prefix_refl μ) (Et.new ha)))
theorem lay_lst {G : Gm} {μ : List Addr} {h : Hh} {H : Hp} {vs : List Val} {ws : List V} (r : HR G μ h H) (rv : RVs G μ H vs ws) {Q : VK} {W : XK} (p : Ps G W μ H (.ok (.ref h.length) (h ++ [.lst vs])) (qV G Q)) : ∀ a, H a = none → Q (.ref a) (upd H a (.lst ws)) := fun a ha =>
  p (μ ++ [a]) _ (List.prefix_append μ [a]) (Ex.new ha) (r.laid ha ⟨ws, upd_same, rv.mono (List.prefix_append μ [a]) (Et.new ha)⟩) _ (.ref (by rw [← r.len]; simp))
theorem s_tup {es : List Expr} {m : MA} {x1} (h : CA X W es m) : CE X W (.Tuple es x1 pos) (mApp vTup m) := by
  refine peI (pe_tup h) fun τ H Q ⟨μ, σ, h, l, r, p⟩ => ⟨μ, σ, h, l, r, ?_⟩
  refine (Ps.bind p).imp fun xs μ1 h1 H1 p1 e1 r1 q1 ws rws => ?_
  unfold vTup at q1
  split at q1
  · rename_i hz
    exact ⟨by rw [← rws.length]; exact hz, lay_tup r1 rws q1⟩
  · exact q1.elim
theorem s_lst {es : List Expr} {m : MA} (h : CA X W es m) : CE X W (.List es pos) (mApp vLst m) := by
  refine peI (pe_lst h) fun τ H Q ⟨μ, σ, h, l, r, p⟩ => ⟨μ, σ, h, l, r, ?_⟩
  refine (Ps.bind p).imp fun xs μ1 h1 H1 p1 e1 r1 q1 ws rws => ?_
  unfold vLst at q1
  split at q1
  · rename_i hz
    exact ⟨by rw [← rws.length]; exact hz, lay_lst r1 rws q1⟩
  · exact q1.elim
end
end U
/-! Layer A, part 3: statements, defs and their calls. -/
namespace U
open PySem L2
open PyProof.Rows (envOfC)

/-! ### the context -/
structure Cok (X : Cx) (W : WX) (k : Nat) : Prop where
  tk : Takes X W
  rm : Room k X.A
  gu : X.A.guards = some []
  po : PassesOwn (model X.prog X.w) X.A X.env X.xe
  calm : X.calm = true
  nd : X.N.Nodup
abbrev WN : WX := fun _ _ _ _ => False
theorem Cok.mono {X : Cx} {W : WX} {j k : Nat} (c : Cok X W k) (h : j ≤ k) : Cok X W j := ⟨c.tk, c.rm.mono h, c.gu, c.po, c.calm, c.nd⟩
theorem Cok.hu {X : Cx} {W : WX} {k : Nat} (c : Cok X W k) : X.A.units + 1 < cLine := hu_of c.rm
theorem Cok.u64 {X : Cx} {W : WX} {k : Nat} (c : Cok X W k) : X.A.units + 64 < cLine := c.rm.units
theorem Cok.u65 {X : Cx} {W : WX} {k : Nat} (c : Cok X W k) : X.A.units + 65 < cLine := by have := c.rm.un; omega
theorem Cok.u0 {X : Cx} {W : WX} {k : Nat} (c : Cok X W k) : X.A.units < cLine := c.rm.units0
/-- within a comprehension's block nothing may be raised -/
theorem Cok.blk {X : Cx} {W : WX} {k : Nat} (c : Cok X W k) (s : Shared) (H : Hp) (scope : Scope) (cenv : Env) (fp : List Addr) : Cok (X.blk s H scope cenv fp) WN k :=
  ⟨takes0, c.rm, c.gu, PassesOwn.never, c.calm, c.nd⟩

/-! ### statements -/
inductive Fl where
  | nx (σ : Loc) (h : Hh)
  | rt (v : Val) (h : Hh)
  | bk (σ : Loc) (h : Hh)
  | ct (σ : Loc) (h : Hh)
  | rs (x : Xc) (σ : Loc) (h : Hh)
  | no
abbrev MS := Loc → Hh → Fl
def PsF (G : Gm) (W : WX) (μ : List Addr) (H : Hp) (r : Fl) (D : Ends) : Prop := match r with
  | .nx σ h => ∀ μ' H' τ, μ <+: μ' → Ex H H' → HR G μ' h H' → LR G μ' H' σ τ → D.nx τ H'
  | .rt v h => ∀ μ' H' w, μ <+: μ' → Ex H H' → HR G μ' h H' → RV G μ' H' v w → D.rt w H'
  | .bk σ h => ∀ μ' H' τ, μ <+: μ' → Ex H H' → HR G μ' h H' → LR G μ' H' σ τ → D.bk τ H'
  | .ct σ h => ∀ μ' H' τ, μ <+: μ' → Ex H H' → HR G μ' h H' → LR G μ' H' σ τ → D.ct τ H'
  | .rs x σ h => ∀ μ' H' τ cls d, μ <+: μ' → Ex H H' → HR G μ' h H' → LR G μ' H' σ τ → RX G μ' H' x cls d → W cls d τ H'
  | .no => False
def tMS (G : Gm) (W : WX) (m : MS) : TS := fun D τ H => ∃ μ σ h, LR G μ H σ τ ∧ HR G μ h H ∧ PsF G W μ H (m σ h) D
abbrev CS (X : Cx) (W : WX) (st : Stmt) (m : MS) : Prop := PS X st (tMS (gm X) W m)
abbrev CB (X : Cx) (W : WX) (sts : List Stmt) (m : MS) : Prop := PSs X sts (tMS (gm X) W m)
theorem psI {X : Cx} {st : Stmt} {t t' : TS} (h : PS X st t) (k : ∀ D τ H, t' D τ H → t D τ H) : PS X st t' := ⟨fun pins s σ H D I q => h.run pins s σ H D I (k _ _ _ q)⟩
theorem pssI {X : Cx} {st : List Stmt} {t t' : TS} (h : PSs X st t) (k : ∀ D τ H, t' D τ H → t D τ H) : PSs X st t' := ⟨fun pins s σ H D I q => h.run pins s σ H D I (k _ _ _ q)⟩

section
variable {G : Gm} {W : WX} {μ μ' : List Addr} {H H' : Hp} {r : Fl} {D : Ends} {h : Hh} {σ : Loc} {τ : St}
theorem PsF.mono (p : μ <+: μ') (e : Ex H H') (h : PsF G W μ H r D) : PsF G W μ' H' r D := by
  cases r with
  | nx σ k => exact fun μ2 H2 t p2 e2 => h μ2 H2 t (p.trans p2) (e.trans e2)
  | rt σ k => exact fun μ2 H2 t p2 e2 => h μ2 H2 t (p.trans p2) (e.trans e2)
  | bk σ k => exact fun μ2 H2 t p2 e2 => h μ2 H2 t (p.trans p2) (e.trans e2)
  | ct σ k => exact fun μ2 H2 t p2 e2 => h μ2 H2 t (p.trans p2) (e.trans e2)
  | rs x σ k => exact fun μ2 H2 t c d p2 e2 => h μ2 H2 t c d (p.trans p2) (e.trans e2)
  | no => exact h
theorem PsF.atN (p : PsF G W μ H (.nx σ h) D) (l : LR G μ H σ τ) (r : HR G μ h H) : D.nx τ H := p μ H τ (List.prefix_refl μ) (Ex.refl H) r l
end

/-- an expression's result, then a statement's -/
def Res.fl {α : Type} (r : Res α) (σ : Loc) (k : α → Hh → Fl) : Fl := match r with
  | .ok a h => k a h
  | .rs x h => .rs x σ h
  | .no => .no
@[simp] theorem fl_ok {α : Type} (a : α) (h : Hh) (σ : Loc) (k : α → Hh → Fl) : (Res.ok a h).fl σ k = k a h := rfl
@[simp] theorem fl_rs {α : Type} (x : Xc) (h : Hh) (σ : Loc) (k : α → Hh → Fl) : (Res.rs x h : Res α).fl σ k = .rs x σ h := rfl
@[simp] theorem fl_no {α : Type} (σ : Loc) (k : α → Hh → Fl) : (Res.no : Res α).fl σ k = .no := rfl
theorem PsF.bind {α : Type} {G : Gm} {W : WX} {μ : List Addr} {H : Hp} {r : Res α} {σ : Loc} {τ : St} {k : α → Hh → Fl} {D : Ends} (l : LR G μ H σ τ) (h : PsF G W μ H (r.fl σ k) D) :
    Ps G (WE W τ) μ H r (fun a μ' h' H' => PsF G W μ' H' (k a h') D) := by
  cases r with
  | ok a k' => exact fun μ2 H2 p2 e2 r2 => PsF.mono p2 e2 h
  | rs x k' => exact fun μ2 H2 c d p2 e2 r2 rx => h μ2 H2 τ c d p2 e2 r2 (l.mono p2 e2) rx
  | no => exact h
/-- a statement's result, then another's -/
def Fl.next (r : Fl) (k : MS) : Fl := match r with
  | .nx σ h => k σ h
  | r => r
@[simp] theorem next_nx (σ : Loc) (h : Hh) (k : MS) : (Fl.nx σ h).next k = k σ h := rfl
@[simp] theorem next_rt (v : Val) (h : Hh) (k : MS) : (Fl.rt v h).next k = .rt v h := rfl
@[simp] theorem next_bk (σ : Loc) (h : Hh) (k : MS) : (Fl.bk σ h).next k = .bk σ h := rfl
@[simp] theorem next_ct (σ : Loc) (h : Hh) (k : MS) : (Fl.ct σ h).next k = .ct σ h := rfl
@[simp] theorem next_rs (x : Xc) (σ : Loc) (h : Hh) (k : MS) : (Fl.rs x σ h).next k = .rs x σ h := rfl
@[simp] theorem next_no (k : MS) : Fl.no.next k = .no := rfl

def msNil : MS := fun σ h => .nx σ h
def msSeq (a b : MS) : MS := fun σ h => (a σ h).next b
def msIf (t : MT) (a b : MS) : MS := fun σ h => (t σ h).fl σ fun c h1 => if c = true then a σ h1 else b σ h1
def msRet (a : ME) : MS := fun σ h => (a σ h).fl σ fun v h1 => .rt v h1
def msRetN : MS := fun _ h => .rt .non h
def msExpr (a : ME) : MS := fun σ h => (a σ h).fl σ fun _ h1 => .nx σ h1
def msNo : MS := fun _ _ => .no
def msBrk : MS := fun σ h => .bk σ h
def msCnt : MS := fun σ h => .ct σ h
/-- targets -/
abbrev MG := Val → Loc → Hh → Fl
def mgName (i : Nat) : MG := fun v σ h => .nx (σ.set i (some v)) h
def msAsg (a : ME) (g : MG) : MS := fun σ h => (a σ h).fl σ fun v h1 => g v σ h1
abbrev MGs := List Val → Loc → Hh → Fl
def mgNil : MGs := fun vs σ h => match vs with
  | [] => .nx σ h
  | _ => .no
def mgCons (g : MG) (gs : MGs) : MGs := fun vs σ h => match vs with
  | v :: r => (g v σ h).next (gs r)
  | [] => .no
def mgTup (n : Nat) (gs : MGs) : MG := fun v σ h => match v with
  | .tup vs => if vs.length = n then gs vs σ h else .no
  | _ => .no
/-- a target's reading: it goes on, or is not claimed -/
def tMG (G : Gm) (g : MG) : TG := fun w τ H Q => ∃ μ σ h v, LR G μ H σ τ ∧ HR G μ h H ∧ RV G μ H v w ∧ PsF G WN μ H (g v σ h) { nx := Q, rt := fun _ _ => False }
def tMGs (G : Gm) (g : MGs) : TGs := fun ws τ H Q => ∃ μ σ h vs, LR G μ H σ τ ∧ HR G μ h H ∧ RVs G μ H vs ws ∧ PsF G WN μ H (g vs σ h) { nx := Q, rt := fun _ _ => False }
abbrev CG (X : Cx) (tg : Expr) (g : MG) : Prop := PG X tg (tMG (gm X) g)
abbrev CGs (X : Cx) (tg : List Expr) (g : MGs) : Prop := PGs X tg (tMGs (gm X) g)
theorem pgI {X : Cx} {e : Expr} {t t' : TG} (h : PG X e t) (k : ∀ v τ H Q, t' v τ H Q → t v τ H Q) : PG X e t' := ⟨fun pins s σ H v u Q I r q => h.run pins s σ H v u Q I r (k _ _ _ _ q)⟩
theorem pgsI {X : Cx} {e : List Expr} {t t' : TGs} (h : PGs X e t) (k : ∀ v τ H Q, t' v τ H Q → t v τ H Q) : PGs X e t' := ⟨fun pins s σ H v u Q I r q => h.run pins s σ H v u Q I r (k _ _ _ _ q)⟩
/-- a plain target: nothing but nx or no -/
def Plain (g : MG) : Prop := ∀ v σ h, (∃ σ' h', g v σ h = .nx σ' h') ∨ g v σ h = .no
def Plains (g : MGs) : Prop := ∀ v σ h, (∃ σ' h', g v σ h = .nx σ' h') ∨ g v σ h = .no
theorem plain_name (i : Nat) : Plain (mgName i) := fun v σ h => .inl ⟨_, _, rfl⟩
theorem plains_nil : Plains mgNil := fun v σ h => by
  cases v with
  | nil => exact .inl ⟨_, _, rfl⟩
  | cons a b => exact .inr rfl
theorem plains_cons {g : MG} {gs : MGs} (a : Plain g) (b : Plains gs) : Plains (mgCons g gs) := fun v σ h => by
  cases v with
  | nil => exact .inr rfl
  | cons x r =>
    rcases a x σ h with ⟨σ', h', e⟩ | e
    · show (∃ σ' h', (g x σ h).next (gs r) = .nx σ' h') ∨ (g x σ h).next (gs r) = .no
      rw [e]; exact b r σ' h'
    · refine .inr ?_
      show (g x σ h).next (gs r) = .no
      rw [e]; rfl
theorem plain_tup {n : Nat} {gs : MGs} (b : Plains gs) : Plain (mgTup n gs) := fun v σ h => by
  cases v with
  | tup vs =>
    show (∃ σ' h', (if vs.length = n then gs vs σ h else .no) = .nx σ' h') ∨ (if vs.length = n then gs vs σ h else .no) = .no
    split
    · exact b vs σ h
    · exact .inr rfl
  | _ => exact .inr rfl
theorem plain_ps {G : Gm} {W W' : WX} {μ : List Addr} {H : Hp} {g : MG} {v : Val} {σ : Loc} {h : Hh} {D D' : Ends} (pl : Plain g) (p : PsF G W μ H (g v σ h) D) (e : D'.nx = D.nx) : PsF G W' μ H (g v σ h) D' := by
  rcases pl v σ h with ⟨σ', h', q⟩ | q
  · rw [q] at p ⊢
    intro μ2 H2 t p2 e2 r2 l2
    rw [e]
    exact p μ2 H2 t p2 e2 r2 l2
  · rw [q] at p; exact p.elim

section
variable {X : Cx} {W : WX} {k : Nat} {pos : Pos} {e c : Expr} {m : ME} {st : Stmt} {rest a b : List Stmt} {ms mr ma mb : MS} {t : MT} {g : MG} {gs : MGs}
theorem b_nil : CB X W [] msNil := pssI pss_nil fun D τ H ⟨μ, σ, h, l, r, p⟩ => p.atN l r
theorem b_cons (h1 : CS X W st ms) (h2 : CB X W rest mr) : CB X W (st :: rest) (msSeq ms mr) := by
  refine pssI (pss_cons h1 h2) fun D τ H ⟨μ, σ, h, l, r, p⟩ => ⟨μ, σ, h, l, r, ?_⟩
  unfold msSeq at p
  cases e : ms σ h with
  | nx σ' h' =>
    rw [e] at p
    exact fun μ2 H2 t p2 e2 r2 l2 => ⟨μ2, σ', h', l2, r2, PsF.mono p2 e2 p⟩
  | rt v h' => rw [e] at p; exact p
  | bk v h' => rw [e] at p; exact p
  | ct v h' => rw [e] at p; exact p
  | rs x v h' => rw [e] at p; exact p
  | no => rw [e] at p; exact p
theorem b_one (h1 : CS X W st ms) : CB X W [st] ms := pss_one h1
theorem t_if (hc : CT X W c t) (ha : CB X W a ma) (hb : CB X W b mb) : CS X W (.If c a b pos) (msIf t ma mb) := by
  refine psI (ps_if hc ha hb) fun D τ H ⟨μ, σ, h, l, r, p⟩ => ⟨μ, σ, h, l, r, ?_⟩
  refine (PsF.bind l p).imp fun x μ1 h1 H1 p1 e1 r1 q1 => ?_
  cases x with
  | true => exact iteT ⟨μ1, σ, h1, l.mono p1 e1, r1, q1⟩
  | false => exact iteF ⟨μ1, σ, h1, l.mono p1 e1, r1, q1⟩
theorem t_ret (he : CE X W e m) : CS X W (.Return (some e) pos) (msRet m) := by
  refine psI (ps_ret he) fun D τ H ⟨μ, σ, h, l, r, p⟩ => ⟨μ, σ, h, l, r, ?_⟩
  exact (PsF.bind l p).imp fun x μ1 h1 H1 p1 e1 r1 q1 w rw1 => q1 μ1 H1 w (List.prefix_refl _) (Ex.refl _) r1 rw1
theorem t_retN : CS X W (.Return none pos) msRetN := by
  refine psI ps_retN fun D τ H ⟨μ, σ, h, l, r, p⟩ => ?_
  exact p μ H .non (List.prefix_refl _) (Ex.refl _) r .non
theorem t_expr (he : CE X W e m) (hs : swapsWith e none pos.line X.env = pure false := by rfl) : CS X W (.Expr e pos) (msExpr m) := by
  refine psI (ps_expr he hs) fun D τ H ⟨μ, σ, h, l, r, p⟩ => ⟨μ, σ, h, l, r, ?_⟩
  exact (PsF.bind l p).imp fun x μ1 h1 H1 p1 e1 r1 q1 w rw1 => PsF.atN q1 (l.mono p1 e1) r1
theorem t_pass : CS X W (.Pass pos) msNil := psI ps_pass fun D τ H ⟨μ, σ, h, l, r, p⟩ => p.atN l r
theorem t_brk : CS X W (.Break pos) msBrk := psI ps_break fun D τ H ⟨μ, σ, h, l, r, p⟩ => p μ H τ (List.prefix_refl _) (Ex.refl _) r l
theorem t_cnt : CS X W (.Continue pos) msCnt := psI ps_continue fun D τ H ⟨μ, σ, h, l, r, p⟩ => p μ H τ (List.prefix_refl _) (Ex.refl _) r l
/-- a statement that is not claimed -/
theorem t_no : CS X W st msNo := psI ps_never fun D τ H ⟨μ, σ, h, l, r, p⟩ => p
/-! targets -/
theorem g_name (i : Nat) {x : Str} (hN : X.N.Nodup) (hi : X.N[i]? = some x := by rfl) (hx : L2.Loc X.env.scope x := by first | exact Or.inl rfl | exact Or.inr rfl) (hf : X.fn x = true ∨ X.env.scope.names.lookup x = some .local := by first | exact .inl rfl | exact .inr rfl | assumption) : CG X (.Name x pos) (mgName i) := by
  refine pgI (pg_name hN hi hx hf) fun w τ H Q ⟨μ, σ, h, v, l, r, rv, p⟩ => ?_
  exact p μ H _ (List.prefix_refl _) (Ex.refl _) r (l.set i rv)
theorem gs_nil : CGs X [] mgNil := by
  refine pgsI pgs_nil fun ws τ H Q ⟨μ, σ, h, vs, l, r, rv, p⟩ => ?_
  cases rv with
  | nil => exact ⟨rfl, p.atN l r⟩
  | cons a b => exact p.elim
theorem gs_cons {es : List Expr} (h1 : CG X e g) (h2 : CGs X es gs) (pl : Plain g) (hs : (assignEach (e :: es) X.env).map (·.2) = assign e X.env :: (assignEach es X.env).map (·.2) := by rfl) : CGs X (e :: es) (mgCons g gs) := by
  refine pgsI (pgs_cons h1 h2 hs) fun ws τ H Q ⟨μ, σ, h, vs, l, r, rv, p⟩ => ?_
  cases rv with
  | nil => exact p.elim
  | @cons v w vr wr a b =>
    refine ⟨w, wr, rfl, μ, σ, h, v, l, r, a, ?_⟩
    have p' : PsF (gm X) WN μ H ((g v σ h).next (gs vr)) { nx := Q, rt := fun _ _ => False } := p
    rcases pl v σ h with ⟨σ', h', q⟩ | q
    · rw [q] at p' ⊢
      exact fun μ2 H2 t p2 e2 r2 l2 => ⟨μ2, σ', h', vr, l2, r2, b.mono p2 e2, PsF.mono p2 e2 p'⟩
    · rw [q] at p'; exact p'.elim
theorem g_tup {es : List Expr} {k : Nat} {n : Nat} (hc : X.calm = true) (h : CGs X es gs) (hn : (assignEach es X.env).length = n := by rfl) (hst : (assignEach es X.env).findIdx? (·.1) = none := by rfl) : CG X (.Tuple es k pos) (mgTup n gs) := by
  refine pgI (pg_tup hc h hn hst) fun w τ H Q ⟨μ, σ, h, v, l, r, rv, p⟩ => ?_
  cases rv with
  | @tup vs ws a ta rs =>
    have p' : PsF (gm X) WN μ H (if vs.length = n then gs vs σ h else .no) { nx := Q, rt := fun _ _ => False } := p
    split at p'
    · rename_i hl
      exact ⟨a, ws, rfl, ta.sq, by rw [← rs.length]; exact hl, μ, σ, h, vs, l, r, rs, p'⟩
    · exact p'.elim
  | _ => exact p.elim
theorem t_asg {tg : Expr} (he : CE X W e m) (hg : CG X tg g) (pl : Plain g) (hs : swapsWithSole [tg] e pos.line X.env = pure false := by rfl) (hw : swappedStores [tg] e X.env = pure none := by rfl)
    (h1 : (assignEach [tg] X.env).map (·.2) = [assign tg X.env] := by rfl) : CS X W (.Assign [tg] e pos) (msAsg m g) := by
  refine psI (ps_asg he hg hs hw h1) fun D τ H ⟨μ, σ, h, l, r, p⟩ => ⟨μ, σ, h, l, r, ?_⟩
  exact (PsF.bind l p).imp fun x μ1 h1 H1 p1 e1 r1 q1 w rw1 => ⟨μ1, σ, h1, x, l.mono p1 e1, r1, rw1, plain_ps pl q1 rfl⟩
theorem t_set (i : Nat) {x : Str} {pos' : Pos} (he : CE X W e m) (hN : X.N.Nodup) (hi : X.N[i]? = some x := by rfl) (hx : L2.Loc X.env.scope x := by first | exact Or.inl rfl | exact Or.inr rfl) (hs : swapsWith e (some (.Name x pos')) pos.line X.env = pure false := by rfl)
    (hf : X.fn x = true ∨ X.env.scope.names.lookup x = some .local := by first | exact .inl rfl | exact .inr rfl | assumption) : CS X W (.Assign [.Name x pos'] e pos) (msAsg m (mgName i)) := by
  refine psI (ps_set (i := i) hN hi hx he hs hf) fun D τ H ⟨μ, σ, h, l, r, p⟩ => ⟨μ, σ, h, l, r, ?_⟩
  exact (PsF.bind l p).imp fun x μ1 h1 H1 p1 e1 r1 q1 w rw1 => q1 μ1 H1 _ (List.prefix_refl _) (Ex.refl _) r1 ((l.mono p1 e1).set i rw1)
/-- a, b = e1, e2 -/
def msPar (i j : Nat) (a : MA) : MS := fun σ h => (a σ h).fl σ fun vs h1 => match vs with
  | [v, w] => .nx ((σ.set i (some v)).set j (some w)) h1
  | _ => .no
theorem t_par (i j : Nat) {x y : Str} {e1 e2 : Expr} {ma : MA} {px py pt : Pos} {kt k2 pt2} (ha : CA X W [e1, e2] ma) (hN : X.N.Nodup) (hc : X.calm = true) (hi : X.N[i]? = some x := by rfl) (hj : X.N[j]? = some y := by rfl) (hij : i ≠ j := by decide)
    (hx : X.env.scope.names.lookup x = some .local := by rfl) (hy : X.env.scope.names.lookup y = some .local := by rfl)
    (hw : swappedStores [.Tuple [.Name x px, .Name y py] kt pt] (.Tuple [e1, e2] k2 pt2) X.env = pure (some [x, y]) := by rfl)
    (hs : swapsWithSole [.Tuple [.Name x px, .Name y py] kt pt] (.Tuple [e1, e2] k2 pt2) pos.line X.env = pure false := by rfl) : CS X W (.Assign [.Tuple [.Name x px, .Name y py] kt pt] (.Tuple [e1, e2] k2 pt2) pos) (msPar i j ma) := by
  refine psI (ps_par hc hN hi hj hij hx hy ha hw hs) fun D τ H ⟨μ, σ, h, l, r, p⟩ => ⟨μ, σ, h, l, r, ?_⟩
  refine (PsF.bind l p).imp fun xs μ1 h1 H1 p1 e1 r1 q1 ws rws => ?_
  cases rws with
  | nil => exact q1.elim
  | cons a1 b1 =>
    cases b1 with
    | nil => exact q1.elim
    | cons a2 b2 =>
      cases b2 with
      | nil => exact ⟨_, _, rfl, q1 μ1 H1 _ (List.prefix_refl _) (Ex.refl _) r1 (((l.mono p1 e1).set i a1).set j a2)⟩
      | cons _ _ => exact q1.elim
end

/-! ### defs -/
/-- what a def promises: it computes F -/
def spF (G : Gm) (F : Fn) (n : Nat) : Sp := fun ws H Q E => ws.length = n ∧ ∃ μ h vs, HR G μ h H ∧ RVs G μ H vs ws ∧ Ps G E μ H (F vs h) (qV G Q)
structure FK (P : Program) (w : World) (K : PySem.W.Frag) (mg : Str → Option Value) (base : Heap) (k : Nat) (f : Addr) (fd : FuncData) (ps : List Str) (sp : Sp) : Prop where
  len : ∀ vs H Q E, sp vs H Q E → vs.length = ps.length
  run : ∀ (A : Around) (outer : List Env) (s : Shared) (H : Hp) (args : Args) (us : List Value) (vs : List V) (Q : VK) (E : XK), Room k A → A.guards = some [] → Env0 P w K mg base A outer s H → BindsTo s fd args (ps.zip us) → Vals vs us → sp vs H Q E →
    codeAny (model P w) A (.call (.ref f) args) (CR (L2.CX P w) outer P w H s Q E) s
theorem FK.mono {P : Program} {w : World} {K : PySem.W.Frag} {mg : Str → Option Value} {base : Heap} {j k : Nat} {f : Addr} {fd : FuncData} {ps : List Str} {sp : Sp} (F : FK P w K mg base j f fd ps sp) (h : j ≤ k) : FK P w K mg base k f fd ps sp :=
  ⟨F.len, fun A outer s H args us vs Q E hr => F.run A outer s H args us vs Q E (hr.mono h)⟩

theorem guards_deeper (A : Around) (env : Env) : (A.deeper env).guards = A.guards := rfl
theorem guards_make (A : Around) (C : Addr) (us : List Value) (kw : List (Str × Value)) : (A.under (.builtin "type.__call__" ⟨.ref C :: us, kw⟩)).guards = A.guards := by
  first | rfl | simp [Around.under, Code.guards, Code.isGuard, guardIds, pushGuards]

/-- a def by its body -/
theorem fk_of {P : Program} {w : World} {K : PySem.W.Frag} {mg : Str → Option Value} {base : Heap} {k : Nat} {f : Addr} {name qual : Str} {params : Arguments} {body : List Stmt} {scope : Scope} {dV kV doc pm cdv ct oc : Value} {an od : Option Addr}
    {osl : Array (Option Value)} {N ps : List Str} {sp : Sp} (lk : K.lookup f = some ⟨oc, od, .func (PySem.W.fnOf name qual params body scope dV kV doc pm an cdv ct), osl⟩) (hcd : PySem.W.codeIn K cdv qual = true) (S : FnScope N ps scope)
    (len : ∀ vs H Q E, sp vs H Q E → vs.length = ps.length)
    (hbody : ∀ (A : Around) (outer : List Env) (s : Shared) (H : Hp) (vs : List V) (Q : VK) (E : XK), Room k (A.deeper (envOfC qual scope s.heap.objs.size f cdv)) → A.guards = some [] → sp vs H Q E →
      ∃ t, PSs (cxOf (L2.CX P w) P w K mg base N qual scope f cdv A outer s H E) body t ∧ t { nx := fun _ H' => Q .non H', rt := Q } (start N vs) H) :
    FK P w K mg base (k + 1) f (PySem.W.fnOf name qual params body scope dV kV doc pm an cdv ct) ps sp := by
  refine ⟨len, fun A outer s H args us vs Q E room gu env0 binds rel prom => ?_⟩
  have kin : K.In s.heap := env0.mod.kin.keeps fun b o e => (env0.bs b o e).1
  have nolim : s.heap.NoLimit := env0.mod.nolimit.keeps fun b o e => (env0.bs b o e).1
  have kinds : ∀ y ∈ ps.zip us, scope.names.lookup y.1 = some .local ∨ (scope.names.lookup y.1 = some .cell ∧ ((cellsFrom (s.heap.objs.size + 1) scope.names []).lookup y.1).isSome = true) := by
    rintro ⟨n, v⟩ hy
    exact (S.par n (List.of_mem_zip hy).1).imp id fun q => ⟨q, PySem.W.cellsFrom_some _ _ _ (.inl q)⟩
  refine codeAny_call_function room.depth (kin _ _ lk) rfl S.co S.gen rfl (PySem.W.codeRec_of kin hcd) (binds _ _ _ _ ?_)
  refine wpAny_newFunctionEnv_cells S.kind kinds fun env he s1 x => ?_
  subst he
  refine ⟨nolim.keeps x.toInCall.keep, codeAny_func ?_⟩
  obtain ⟨t, ht, hq⟩ := hbody A outer s H vs Q E (room.deeper _) gu prom
  have inv : Inv (cxOf (L2.CX P w) P w K mg base N qual scope f cdv A outer s H E) [] (start N vs) H s1 := inv_start S room.hd env0 (len _ _ _ _ prom) rel x
  refine wpAny_mono (ht.run [] s1 (start N vs) H _ inv hq) (fun fl s' ends => ?_) fun e s' hs => hs
  have done : ∀ {σ' : St} {H' : Hp} {v : V} {u : Value}, Inv (cxOf (L2.CX P w) P w K mg base N qual scope f cdv A outer s H E) [] σ' H' s' → RelV v u → Q v H' → L2.CE outer P w H s Q u s' := fun J rv q => ⟨_, _, J.os, J.bare, J.base, J.hok, rv, q⟩
  cases fl with
  | ret u => obtain ⟨v, σ', H', J, rv, q⟩ := ends; exact done J rv q
  | next => obtain ⟨σ', H', J, q⟩ := ends; exact done (v := V.non) (u := Value.none) J rfl q
  | brk => obtain ⟨_, _, _, q⟩ := ends; exact q.elim
  | cont => obtain ⟨_, _, _, q⟩ := ends; exact q.elim

/-- the plain function of a body -/
def mkFn (n : Nat) (body : MS) : Fn := fun vs h => match body (vs.map some ++ List.replicate (n - vs.length) none) h with
  | .nx _ h' => .ok .non h'
  | .rt v h' => .ok v h'
  | .rs x _ h' => .rs x h'
  | _ => .no
theorem lr_start {G : Gm} {μ : List Addr} {H : Hp} : ∀ {vs : List Val} {ws : List V} (n : Nat), RVs G μ H vs ws → LR G μ H (vs.map some ++ List.replicate n none) (ws.map some ++ List.replicate n none) := fun {vs ws} n r => by
  refine ⟨by simp [r.length], fun i v e => ?_⟩
  by_cases hi : i < vs.length
  · rw [List.getElem?_append_left (by simpa using hi), List.getElem?_map] at e
    cases q : vs[i]? with
    | none => rw [q] at e; cases e
    | some v' =>
      rw [q] at e
      have : v' = v := by simpa using e
      subst this
      obtain ⟨w, q1, q2⟩ := r.get q
      exact ⟨w, by rw [List.getElem?_append_left (by rw [List.length_map, ← r.length]; exact hi), List.getElem?_map, q1]; rfl, q2⟩
  · rw [List.getElem?_append_right (by simpa using hi)] at e
    rw [List.getElem?_replicate] at e
    split at e
    · cases e
    · cases e
/-- what is wanted of an exception that leaves a def -/
abbrev wOf (E : XK) : WX := fun cls d _ H => E cls d H
/-- the context of a def's body -/
abbrev bx (P : Program) (w : World) (K : PySem.W.Frag) (mg : Str → Option Value) (base : Heap) (N : List Str) (qual : Str) (st : Stmt) (f : Addr) (cdv : Value) (A : Around) (outer : List Env) (s : Shared) (H : Hp) (E : XK) : Cx :=
  cxOf (L2.CX P w) P w K mg base N qual (defScope st) f cdv A outer s H E
/-- a body computes -/
def Bd (P : Program) (w : World) (K : PySem.W.Frag) (mg : Str → Option Value) (base : Heap) (N : List Str) (qual : Str) (st : Stmt) (k : Nat) (body : MS) : Prop :=
  ∀ (f : Addr) (cdv : Value) (A : Around) (outer : List Env) (s : Shared) (H : Hp) (E : XK), Cok (bx P w K mg base N qual st f cdv A outer s H E) (wOf E) k → CB (bx P w K mg base N qual st f cdv A outer s H E) (wOf E) (defBody st) body
/-- a def computes the function of its body -/
theorem fk_fn {P : Program} {w : World} {K : PySem.W.Frag} {mg : Str → Option Value} {base : Heap} {k : Nat} {f : Addr} {x qual : Str} {st : Stmt} {fd : FuncData} {N ps : List Str} {body : MS} (F : Fun K x qual st f fd) (S : FnScope N ps (defScope st)) {n : Nat} (hn : ps.length = n)
    (hbody : Bd P w K mg base N qual st k body) : FK P w K mg base (k + 1) f fd ps (spF ⟨K, mg⟩ (mkFn N.length body) n) := by
  obtain ⟨oc, od, kV, doc, pm, an, cdv, ct, osl, rfl, lk, hcd⟩ := F.ex
  refine fk_of lk hcd S (fun vs H Q E h => h.1.trans hn.symm) fun A outer s H vs Q E hr gu h => ?_
  obtain ⟨hl, μ, hh, us, r, rv, p⟩ := h
  refine ⟨_, hbody f cdv A outer s H E ⟨takes_of rfl rfl rfl rfl, hr, gu, PassesOwn.leaving, rfl, S.nd⟩, ?_⟩
  have e : us.length = vs.length := rv.length
  have hs : start N vs = vs.map some ++ List.replicate (N.length - us.length) none := by rw [e]; rfl
  refine ⟨μ, us.map some ++ List.replicate (N.length - us.length) none, hh, by rw [hs]; exact lr_start _ rv, r, ?_⟩
  unfold mkFn at p
  cases q : body (us.map some ++ List.replicate (N.length - us.length) none) hh with
  | nx σ h' => rw [q] at p; exact fun μ2 H2 t p2 e2 r2 l2 => p μ2 H2 p2 e2 r2 .non .non
  | rt v h' => rw [q] at p; exact fun μ2 H2 w2 p2 e2 r2 rv2 => p μ2 H2 p2 e2 r2 w2 rv2
  | bk σ h' => rw [q] at p; exact p.elim
  | ct σ h' => rw [q] at p; exact p.elim
  | rs x σ h' => rw [q] at p; exact fun μ2 H2 t c d p2 e2 r2 l2 rx => p μ2 H2 c d p2 e2 r2 rx
  | no => rw [q] at p; exact p.elim

/-! ### calls -/
section
variable {X : Cx} {W : WX} {j k : Nat} {f C : Addr} {fd : FuncData} {ps ks : List Str} {sp : Sp} {x m : Str} {p pos apos : Pos} {e o : Expr} {es : List Expr} {F : Fn} {n : Nat} {ma : ME} {mm mk : MA}
/-- the callee runs -/
theorem run_fk {pins : List (Addr × Obj)} {τ : St} {H : Hp} {s : Shared} {Q : VK} {ws : List Value} {vs : List V} {args : Args} (c : Cok X W k) (T : FK X.prog X.w X.K X.mg X.base k f fd ps sp) (hb : BindsTo s fd args (ps.zip ws))
    (I : Inv X pins τ H s) (r : Vals vs ws) (h : sp vs H Q (WE W τ)) : codeAny (model X.prog X.w) X.A (.call (.ref f) args) (fun r s' => match r with
      | .error e => X.xe e s'
      | .ok (.ret u) => EP X pins τ Q u s'
      | .ok _ => False) s := by
  refine codeAny_mono (T.run X.A X.stack s H args ws vs Q (WE W τ) c.rm c.gu I.env0 hb r h) fun r s' hq => ?_
  cases r with
  | error e => exact passAt c.tk τ pins H s e s' I hq
  | ok fl =>
    cases fl with
    | ret u => exact I.after hq
    | next => exact hq.elim
    | brk => exact hq.elim
    | cont => exact hq.elim
/-- a def that stands at a name -/
structure FnAt (P : Program) (w : World) (K : PySem.W.Frag) (mg : Str → Option Value) (base : Heap) (x : Str) (k n : Nat) (F : Fn) : Prop where
  ex : ∃ f fd ps, mg x = some (.ref f) ∧ PySem.W.keepIn K (.ref f) = true ∧ Binds K fd ps [] ∧ FK P w K mg base k f fd ps (spF ⟨K, mg⟩ F n)
theorem spF_of {G : Gm} {μ : List Addr} {h : Hh} {H : Hp} {vs : List Val} {ws : List V} {Q : VK} {E : XK} (r : HR G μ h H) (rv : RVs G μ H vs ws) (hl : vs.length = n) (p : Ps G E μ H (F vs h) (qV G Q)) : spF G F n ws H Q E :=
  ⟨by rw [← rv.length]; exact hl, μ, h, vs, r, rv, p⟩
/-- f called with n arguments -/
def callF (n : Nat) (F : Fn) : Fn := fun vs h => if vs.length = n then F vs h else .no
theorem run_call {pins : List (Addr × Obj)} {τ : St} {H : Hp} {s : Shared} {Q : VK} {us : List Value} {vs : List V} (c : Cok X W k) (T : FK X.prog X.w X.K X.mg X.base k f fd ps sp) (hb : Binds X.K fd ps [])
    (I : Inv X pins τ H s) (r : Vals vs us) (h : sp vs H Q (WE W τ)) : wpAny (model X.prog X.w) X.A (call (.ref f) us) (EP X pins τ Q) X.xe s := by
  have hl : us.length = ps.length := by rw [← r.length]; exact T.len _ _ _ _ h
  have b := hb s us I.kIn (by rw [List.append_nil]; exact hl)
  rw [List.append_nil] at b
  refine wpAny_call (codeAny_mono (run_fk c T b I r h) fun r s' hq => ?_)
  cases r with
  | error e => exact hq
  | ok fl => cases fl <;> exact hq
theorem s_call (c : Cok X W k) (T : FnAt X.prog X.w X.K X.mg X.base x j n F) (hj : j ≤ k) (ha : CA X W (e :: es) mm) (hg : Gl X x := by rfl) (hdb : (x == ("__debug__" : Str)) = false := by decide)
    (he : starEach (e :: es) X.env = (false, eval e X.env) :: starEach es X.env := by rfl) (hpl : (backTo pos (starEach es X.env)).any (·.1) = false := by rfl) : CE X W (.Call (.Name x p) (e :: es) [] pos) (mApp (callF n F) mm) := by
  obtain ⟨f, fd, ps, hm, kp, hb, T⟩ := T.ex
  refine ⟨fun pins s τ H Q I h => ?_⟩
  refine wpAny_Call_Name_kw (ld_glob I hg hm ?_ hdb)
  obtain ⟨μ, σ, hh, l, r, pp⟩ := h
  refine PySem.W.callWith_K (h₀ := X.base) I.ok.mod.kin kp (thn (ha.run pos pins s τ H (fun ws H' => spF (gm X) F n ws H' Q (WE W τ)) I ⟨μ, σ, hh, l, r, ?_⟩) fun us s1 ⟨vs, H1, I1, rr, q⟩ => ⟨I1.kIn, run_call (c.mono hj) T hb I1 rr q⟩) he hpl
  refine (Ps.bind pp).imp fun vs μ1 h1 H1 p1 e1 r1 q1 ws rws => ?_
  unfold callF at q1
  split at q1
  · rename_i hl; exact spF_of r1 rws hl q1
  · exact q1.elim
theorem s_call0 (c : Cok X W k) (T : FnAt X.prog X.w X.K X.mg X.base x j 0 F) (hj : j ≤ k) (hg : Gl X x := by rfl) (hdb : (x == ("__debug__" : Str)) = false := by decide) : CE X W (.Call (.Name x p) [] [] pos) (mApp F maNil) := by
  obtain ⟨f, fd, ps, hm, kp, hb, T⟩ := T.ex
  refine ⟨fun pins s τ H Q I h => ?_⟩
  refine wpAny_Call_Name_kw (ld_glob I hg hm ?_ hdb)
  obtain ⟨μ, σ, hh, l, r, pp⟩ := h
  exact PySem.W.callWith_K0 I.kIn kp (run_call (us := []) (c.mono hj) T hb I .nil (spF_of r .nil rfl pp))
end
end U
/-! Layer A, part 4: what is walked; for, while, comprehensions. -/
namespace U
open PySem L2
open Classical

/-- what a loop walks: the items, what must stay while it does, the dict that is locked -/
structure Itb where
  items : List Val
  src : Hh → Prop
  lk : Option Nat
abbrev MI := Loc → Hh → Res Itb
def ItOk (G : Gm) (μ : List Addr) (H : Hp) (J : It) (it : Itb) : Prop := ∀ μ2 h2 H2, μ <+: μ2 → Ex H H2 → HR G μ2 h2 H2 → it.src h2 →
  (∀ i v, it.items[i]? = some v → J.go i H2 ∧ ∀ x H3, J.yld i H2 x H3 → Ex H2 H3 ∧ HR G μ2 h2 H3 ∧ RV G μ2 H3 v x) ∧ ∀ i, it.items.length ≤ i → J.stop i H2
/-- the locked dict was not locked at the entry, nor ahead -/
def LkOk (H0 Hb : Hp) (μ : List Addr) (it : Itb) : Prop := ∀ n a, it.lk = some n → μ[n]? = some a → ∀ o' u', H0 a ≠ some (.frz o' u') ∧ Hb a ≠ some (.frz o' u')
def tMI (H0 : Hp) (G : Gm) (W : WX) (m : MI) : TI := fun τ H R => ∃ μ σ h, LR G μ H σ τ ∧ HR G μ h H ∧ Ps G (WE W τ) μ H (m σ h) (fun it μ' h' H' => ∀ J, ItOk G μ' H' J it → LkOk H0 H μ' it → R J H')
abbrev CI (X : Cx) (W : WX) (tg iter : Expr) (m : MI) : Prop := PI X tg iter (tMI X.H_0 (gm X) W m)
theorem piI {X : Cx} {tg e : Expr} {t t' : TI} (h : PI X tg e t) (k : ∀ τ H R, t' τ H R → t τ H R) : PI X tg e t' := ⟨fun pins s σ H Q I q => h.run pins s σ H Q I (k _ _ _ q)⟩

/-- a lock taken behind an expression -/
def tLk (H0 : Hp) (t : TE) : TE := fun σ H Q => t σ H fun x H1 => Q x H1 ∨ ∃ d u, x = .ref d ∧ H1 d = some u ∧ Mut (some u) ∧ ∀ od, (∀ o' u', H0 d ≠ some (.frz o' u')) → Q x (upd H1 d (.frz od u))
theorem pe_lk {X : Cx} {e : Expr} {t : TE} (h : PE X e t) : PE X e (tLk X.H_0 t) := by
  refine ⟨fun pins s σ H Q I q => thn (h.run pins s σ H _ I q) fun v s1 ⟨x, H1, I1, r, q1⟩ => ?_⟩
  rcases q1 with q1 | ⟨d, u, ex, hd, mu, q1⟩
  · exact ⟨x, H1, I1, r, q1⟩
  · obtain ⟨od, I2⟩ := I1.lock hd mu
    exact ⟨x, _, I2, r, q1 od (I1.nofrz hd mu)⟩
/-- .. and given back -/
def unl (H0 : Hp) (P : Hp → Prop) (H : Hp) : Prop := P H ∨ ∃ d od u, H d = some (.frz od u) ∧ (∀ o' u', H0 d ≠ some (.frz o' u')) ∧ P (upd H d u)
def unlD (H0 : Hp) (D : Ends) : Ends := ⟨fun τ => unl H0 (D.nx τ), fun v => unl H0 (D.rt v), fun τ => unl H0 (D.bk τ), fun τ => unl H0 (D.ct τ)⟩
theorem inv_unl {X : Cx} {pins : List (Addr × Obj)} {σ : St} {H : Hp} {s : Shared} {P : Hp → Prop} (I : L2.Inv X pins σ H s) (h : unl X.H_0 P H) : ∃ H', L2.Inv X pins σ H' s ∧ P H' := by
  rcases h with h | ⟨d, od, u, hd, hn, p⟩
  · exact ⟨H, I, h⟩
  · exact ⟨_, I.unlock hd hn, p⟩
theorem ps_unl {X : Cx} {st : Stmt} {t : TS} (h : PS X st t) : PS X st (fun D τ H => t (unlD X.H_0 D) τ H) := by
  refine ⟨fun pins s σ H D I hw => thn (h.run pins s σ H _ I hw) fun f s1 q => ?_⟩
  cases f with
  | next => obtain ⟨σ', H', I2, q⟩ := q; obtain ⟨H3, I3, q3⟩ := inv_unl I2 q; exact ⟨σ', H3, I3, q3⟩
  | brk => obtain ⟨σ', H', I2, q⟩ := q; obtain ⟨H3, I3, q3⟩ := inv_unl I2 q; exact ⟨σ', H3, I3, q3⟩
  | cont => obtain ⟨σ', H', I2, q⟩ := q; obtain ⟨H3, I3, q3⟩ := inv_unl I2 q; exact ⟨σ', H3, I3, q3⟩
  | ret v => obtain ⟨x, σ', H', I2, r, q⟩ := q; obtain ⟨H3, I3, q3⟩ := inv_unl I2 q; exact ⟨x, σ', H3, I3, r, q3⟩
theorem pe_unl {X : Cx} {e : Expr} {t : TE} (h : PE X e t) : PE X e (fun τ H Q => t τ H (fun v => unl X.H_0 (Q v))) := by
  refine ⟨fun pins s σ H Q I hw => thn (h.run pins s σ H _ I hw) fun v s1 ⟨x, H1, I1, r, q⟩ => ?_⟩
  obtain ⟨H3, I3, q3⟩ := inv_unl I1 q
  exact ⟨x, H3, I3, r, q3⟩

/-! ### what is computed -/
noncomputable def forV (src : Hh → Prop) (body : Val → MS) : List Val → MS
  | [], σ, h => if src h then .nx σ h else .no
  | v :: vs, σ, h => if src h then (match body v σ h with
      | .nx σ' h' => forV src body vs σ' h'
      | .ct σ' h' => forV src body vs σ' h'
      | .bk σ' h' => .nx σ' h'
      | .rt w h' => .rt w h'
      | .rs x σ' h' => .rs x σ' h'
      | .no => .no) else .no
def unlH (lk : Option Nat) (h : Hh) : Option Hh := match lk with
  | none => some h
  | some n => match h[n]? with
    | some (.fdc kvs) => some (h.set n (.dct kvs))
    | _ => none
def unlF (lk : Option Nat) (r : Fl) : Fl := match lk with
  | none => r
  | some n => match r with
    | .nx σ h => (match unlH (some n) h with | some h' => .nx σ h' | none => .no)
    | .rt v h => (match unlH (some n) h with | some h' => .rt v h' | none => .no)
    | _ => .no
noncomputable def msFor (it : MI) (g : MG) (b : MS) : MS := fun σ h => (it σ h).fl σ fun it h1 => unlF it.lk (forV it.src (fun v σ h => (g v σ h).next b) it.items σ h1)

theorem unlH_ok {G : Gm} {μ : List Addr} {h h' : Hh} {H Hb H0 : Hp} {n : Nat} (r : HR G μ h H) (ex : Ex Hb H) (e : unlH (some n) h = some h') (lk : ∀ a, μ[n]? = some a → ∀ o' u', H0 a ≠ some (.frz o' u') ∧ Hb a ≠ some (.frz o' u')) {P : Hp → Prop} (k : ∀ H', Ex Hb H' → Et H H' → HR G μ h' H' → P H') : unl H0 P H := by
  unfold unlH at e
  dsimp only at e
  cases q : h[n]? with
  | none => rw [q] at e; cases e
  | some o =>
    rw [q] at e
    obtain ⟨a, ha, ro⟩ := r.addr q
    cases o with
    | fdc kvs =>
      cases e
      obtain ⟨o, kws, h1, h2⟩ := ro
      have et : Et H (upd H a (.dK kws)) := Et.put h1 fun _ z => nomatch z
      refine .inr ⟨a, o, .dK kws, h1, fun o' u' => (lk a ha o' u').1, k _ ⟨fun b ws z => et b ws (ex.et b ws z), fun b x y z => ?_⟩ et (r.put ha h1 (fun _ z => nomatch z) ⟨kws, upd_same, h2.mono (List.prefix_refl _) et⟩)⟩
      rw [upd_ne (fun w => (lk a ha x y).2 (by rw [← w]; exact z))]
      exact ex.fz b x y z
    | _ => cases e
theorem unlF_ps {G : Gm} {W : WX} {μ μ1 : List Addr} {H1 Hb H0 : Hp} {it : Itb} {r : Fl} {D : Ends} (p1 : μ <+: μ1) (e1 : Ex Hb H1) (lk : LkOk H0 Hb μ1 it) (hn : ∀ n, it.lk = some n → n < μ1.length) (p : PsF G W μ Hb (unlF it.lk r) D) : PsF G W μ1 H1 r (unlD H0 D) := by
  cases e : it.lk with
  | none =>
    rw [e] at p
    cases r with
    | nx σ h => exact fun μ2 H2 t p2 e2 r2 l2 => .inl (p μ2 H2 t (p1.trans p2) (e1.trans e2) r2 l2)
    | rt σ h => exact fun μ2 H2 t p2 e2 r2 l2 => .inl (p μ2 H2 t (p1.trans p2) (e1.trans e2) r2 l2)
    | bk σ h => exact fun μ2 H2 t p2 e2 r2 l2 => .inl (p μ2 H2 t (p1.trans p2) (e1.trans e2) r2 l2)
    | ct σ h => exact fun μ2 H2 t p2 e2 r2 l2 => .inl (p μ2 H2 t (p1.trans p2) (e1.trans e2) r2 l2)
    | rs x σ h => exact fun μ2 H2 t c d p2 e2 r2 l2 rx => p μ2 H2 t c d (p1.trans p2) (e1.trans e2) r2 l2 rx
    | no => exact p
  | some n =>
    rw [e] at p
    have lk' : ∀ {μ2 : List Addr}, μ1 <+: μ2 → ∀ a, μ2[n]? = some a → ∀ o' u', H0 a ≠ some (.frz o' u') ∧ Hb a ≠ some (.frz o' u') := fun {μ2} p2 a ha => by
      have hi := hn n e
      refine lk n a e ?_
      obtain ⟨t, rfl⟩ := p2
      rw [List.getElem?_append_left hi] at ha; exact ha
    cases r with
    | nx σ h =>
      intro μ2 H2 t p2 e2 r2 l2
      cases q : unlH (some n) h with
      | none => simp only [unlF, q] at p; exact p.elim
      | some h' =>
        simp only [unlF, q] at p
        exact unlH_ok r2 (e1.trans e2) q (lk' p2) fun H3 e3 t3 r3 => p μ2 H3 t (p1.trans p2) e3 r3 (l2.mono (List.prefix_refl _) t3)
    | rt v h =>
      intro μ2 H2 t p2 e2 r2 l2
      cases q : unlH (some n) h with
      | none => simp only [unlF, q] at p; exact p.elim
      | some h' =>
        simp only [unlF, q] at p
        exact unlH_ok r2 (e1.trans e2) q (lk' p2) fun H3 e3 t3 r3 => p μ2 H3 t (p1.trans p2) e3 r3 (l2.mono (List.prefix_refl _) t3)
    | bk σ h => exact p.elim
    | ct σ h => exact p.elim
    | rs x σ h => exact p.elim
    | no => exact p.elim

section
variable {X : Cx} {W : WX} {k : Nat} {tg iter : Expr} {body : List Stmt} {mi : MI} {g : MG} {mb : MS} {pos : Pos}
/-- a locked dict lies in the heap -/
def LkIn (mi : MI) : Prop := ∀ σ h it h', mi σ h = .ok it h' → ∀ n, it.lk = some n → n < h'.length
theorem t_for (c : Cok X W k) (hi : CI X W tg iter mi) (li : LkIn mi) (hg : CG X tg g) (pl : Plain g) (hb : CB X W body mb) (hs : ∀ x, foldedSetIterable iter X.env x = pure x := by intro _; rfl) : CS X W (.For tg iter body [] pos) (msFor mi g mb) := by
  refine psI (ps_unl (ps_for c.po c.calm hi hg hb hs)) fun D τ H ⟨μ, σ, h, l, r, p⟩ => ⟨μ, σ, h, l, r, ?_⟩
  have lin : ∀ it h', mi σ h = .ok it h' → ∀ n, it.lk = some n → n < h'.length := li σ h
  unfold msFor at p
  cases em : mi σ h with
  | no => rw [em] at p; exact p
  | rs x h' => rw [em] at p; exact fun μ2 H2 c d p2 e2 r2 rx => p μ2 H2 τ c d p2 e2 r2 (l.mono p2 e2) rx
  | ok it h' =>
  rw [em] at p
  intro μ1 H1 p1 e1 r1 J ok lk
  have pf := unlF_ps (W := W) (H1 := H1) (r := forV it.src (fun v σ h => (g v σ h).next mb) it.items σ h') (D := D) p1 e1 lk (fun n hn => by rw [r1.len]; exact lin it h' em n hn) p
  refine ⟨fun i m τ' H' => m + i = it.items.length ∧ ∃ μ' σ' hh, μ1 <+: μ' ∧ Ex H1 H' ∧ LR (gm X) μ' H' σ' τ' ∧ HR (gm X) μ' hh H' ∧ PsF (gm X) W μ' H' (forV it.src (fun v σ h => (g v σ h).next mb) (it.items.drop i) σ' hh) (unlD X.H_0 D),
    ⟨it.items.length, rfl, μ1, σ, h', List.prefix_refl _, Ex.refl _, l.mono p1 e1, r1, pf⟩, ?_⟩
  rintro i m τ' H' ⟨hm, μ', σ', hh, p2, e2, l2, r2, q2⟩
  cases ed : it.items.drop i with
  | nil =>
    rw [ed] at q2
    have hl : it.items.length ≤ i := by
      have := congrArg List.length ed
      rw [List.length_drop] at this
      simpa using Nat.le_of_sub_eq_zero this
    unfold forV at q2
    split at q2
    · rename_i hsrc
      exact .inl ⟨(ok μ' hh H' p2 e2 r2 hsrc).2 i hl, q2.atN l2 r2⟩
    · exact q2.elim
  | cons v vs =>
    rw [ed] at q2
    have hv : it.items[i]? = some v := by
      have : (it.items.drop i)[0]? = some v := by rw [ed]; rfl
      rw [List.getElem?_drop] at this; simpa using this
    have hr : it.items.drop (i + 1) = vs := by
      have := congrArg (List.drop 1) ed
      rw [List.drop_drop] at this
      simpa using this
    have hi' : i < it.items.length := (List.getElem?_eq_some_iff.mp hv).1
    unfold forV at q2
    split at q2
    · rename_i hsrc
      obtain ⟨go, yl⟩ := (ok μ' hh H' p2 e2 r2 hsrc).1 i v hv
      refine .inr ⟨go, fun τ3 H3 => ∃ μ3 σ3 h3, μ1 <+: μ3 ∧ Ex H1 H3 ∧ LR (gm X) μ3 H3 σ3 τ3 ∧ HR (gm X) μ3 h3 H3 ∧ PsF (gm X) W μ3 H3 (forV it.src (fun v σ h => (g v σ h).next mb) vs σ3 h3) (unlD X.H_0 D), ?_, fun x H3 y3 => ?_⟩
      · rintro τ3 H3 ⟨μ3, σ3, h3, q⟩
        refine ⟨m - 1, by omega, by omega, μ3, σ3, h3, ?_⟩
        rw [hr]; exact q
      · obtain ⟨e3, r3, rv3⟩ := yl x H3 y3
        refine ⟨μ', σ', hh, v, l2.mono (List.prefix_refl _) e3, r3, rv3, ?_⟩
        rcases pl v σ' hh with ⟨σ4, h4, eg⟩ | eg
        · rw [eg] at q2 ⊢
          intro μ4 H4 τ4 p4 e4 r4 l4
          refine ⟨μ4, σ4, h4, l4, r4, ?_⟩
          have q4 := PsF.mono (p4) (e3.trans e4) q2
          have pa : μ1 <+: μ4 := p2.trans p4
          have ea : Ex H1 H4 := e2.trans (e3.trans e4)
          simp only [next_nx] at q4
          cases em' : mb σ4 h4 with
          | nx σ5 h5 => rw [em'] at q4; exact fun μ5 H5 t5 p5 e5 r5 l5 => ⟨μ5, σ5, h5, pa.trans p5, ea.trans e5, l5, r5, PsF.mono p5 e5 q4⟩
          | ct σ5 h5 => rw [em'] at q4; exact fun μ5 H5 t5 p5 e5 r5 l5 => ⟨μ5, σ5, h5, pa.trans p5, ea.trans e5, l5, r5, PsF.mono p5 e5 q4⟩
          | bk σ5 h5 => rw [em'] at q4; exact q4
          | rt v5 h5 => rw [em'] at q4; exact q4
          | rs x5 σ5 h5 => rw [em'] at q4; exact q4
          | no => rw [em'] at q4; exact q4
        · rw [eg] at q2; exact q2.elim
    · exact q2.elim

/-! ### while -/
noncomputable def whN (t : MT) (b : MS) : Nat → MS
  | 0, _, _ => .no
  | n + 1, σ, h => (t σ h).fl σ fun c h1 => if c = true then (match b σ h1 with
      | .nx σ' h' => whN t b n σ' h'
      | .ct σ' h' => whN t b n σ' h'
      | .bk σ' h' => .nx σ' h'
      | .rt w h' => .rt w h'
      | .rs x σ' h' => .rs x σ' h'
      | .no => .no) else .nx σ h1
noncomputable def msWh (t : MT) (b : MS) : MS := fun σ h => if hx : ∃ n, whN t b n σ h ≠ .no then whN t b (Classical.choose hx) σ h else .no
theorem t_while {c : Expr} {t : MT} (ck : Cok X W k) (hc : CT X W c t) (hb : CB X W body mb) : CS X W (.While c body [] pos) (msWh t mb) := by
  refine psI (ps_while ck.po hc hb) fun D τ H ⟨μ, σ, h, l, r, p⟩ => ?_
  unfold msWh at p
  split at p
  · rename_i hx
    refine ⟨fun n τ' H' => ∃ μ' σ' h', LR (gm X) μ' H' σ' τ' ∧ HR (gm X) μ' h' H' ∧ PsF (gm X) W μ' H' (whN t mb n σ' h') D, ⟨_, μ, σ, h, l, r, p⟩, ?_⟩
    rintro n τ' H' ⟨μ', σ', h', l', r', q⟩
    cases n with
    | zero => exact q.elim
    | succ n =>
      refine ⟨μ', σ', h', l', r', ?_⟩
      refine (PsF.bind l' q).imp fun b μ1 h1 H1 p1 e1 r1 q1 => ?_
      cases b with
      | false =>
        rw [if_neg Bool.false_ne_true] at q1
        exact iteF (q1.atN (l'.mono p1 e1) r1)
      | true =>
        rw [if_pos rfl] at q1
        refine iteT ⟨fun τ2 H2 => ∃ μ2 σ2 h2, LR (gm X) μ2 H2 σ2 τ2 ∧ HR (gm X) μ2 h2 H2 ∧ PsF (gm X) W μ2 H2 (whN t mb n σ2 h2) D, fun τ2 H2 q2 => ⟨n, Nat.lt_succ_self n, q2⟩, μ1, σ', h1, l'.mono p1 e1, r1, ?_⟩
        cases em' : mb σ' h1 with
        | nx σ5 h5 => rw [em'] at q1; exact fun μ5 H5 t5 p5 e5 r5 l5 => ⟨μ5, σ5, h5, l5, r5, PsF.mono p5 e5 q1⟩
        | ct σ5 h5 => rw [em'] at q1; exact fun μ5 H5 t5 p5 e5 r5 l5 => ⟨μ5, σ5, h5, l5, r5, PsF.mono p5 e5 q1⟩
        | bk σ5 h5 => rw [em'] at q1; exact q1
        | rt v5 h5 => rw [em'] at q1; exact q1
        | rs x5 σ5 h5 => rw [em'] at q1; exact q1
        | no => rw [em'] at q1; exact q1
  · exact p.elim
end

/-! ### what may be walked -/
def asV (it : Itb) : Option Nat → Prop := fun _ => True
def miVal (m : ME) : MI := fun σ h => (m σ h).bind fun v h1 => match v with
  | .tup vs => .ok ⟨vs, fun _ => True, none⟩ h1
  | .str x => .ok ⟨x.cps.toList.map fun c => .str ⟨#[c]⟩, fun _ => True, none⟩ h1
  | .ref n => match h1[n]? with
    | some (.lst vs) => .ok ⟨vs, fun h => h[n]? = some (.lst vs), none⟩ h1
    | some (.fro vs) => .ok ⟨vs, fun h => h[n]? = some (.fro vs), none⟩ h1
    | some (.dct kvs) => .ok ⟨kvs.map (·.1), fun h => h[n]? = some (.fdc kvs), some n⟩ (h1.set n (.fdc kvs))
    | some (.fdc kvs) => .ok ⟨kvs.map (·.1), fun h => h[n]? = some (.fdc kvs), none⟩ h1
    | _ => .no
  | _ => .no
def miRng1 (m : ME) : MI := fun σ h => (m σ h).bind fun v h1 => match v with
  | .int j => if -(2 ^ 62) ≤ j ∧ j < 2 ^ 62 then .ok ⟨(List.range j.toNat).map fun i => .int ((i : Nat) : Int), fun _ => True, none⟩ h1 else .no
  | _ => .no
def miRng2 (m m' : ME) : MI := fun σ h => (m σ h).bind fun v h1 => (m' σ h1).bind fun w h2 => match v, w with
  | .int i, .int j => if -(2 ^ 62) ≤ i ∧ i < 2 ^ 62 ∧ -(2 ^ 62) ≤ j ∧ j < 2 ^ 62 then .ok ⟨(List.range (j - i).toNat).map fun t => .int (i + ((t : Nat) : Int)), fun _ => True, none⟩ h2 else .no
  | _, _ => .no
theorem li_val (m : ME) : LkIn (miVal m) := fun σ h it h' e n hn => by
  unfold miVal at e
  cases em : m σ h with
  | no => rw [em] at e; cases e
  | rs x k => rw [em] at e; cases e
  | ok v h1 =>
    rw [em] at e
    cases v with
    | ref q =>
      dsimp only [bind_ok] at e
      cases eo : h1[q]? with
      | none => rw [eo] at e; cases e
      | some o =>
        rw [eo] at e
        cases o with
        | dct kvs => cases e; cases hn; rw [List.length_set]; exact (List.getElem?_eq_some_iff.mp eo).1
        | lst vs => cases e; cases hn
        | fro vs => cases e; cases hn
        | fdc vs => cases e; cases hn
        | ins C fs => cases e
        | dead => cases e
    | tup vs => cases e; cases hn
    | str vs => cases e; cases hn
    | _ => cases e
theorem li_rng1 (m : ME) : LkIn (miRng1 m) := fun σ h it h' e n hn => by
  unfold miRng1 at e
  cases em : m σ h with
  | no => rw [em] at e; cases e
  | rs x k => rw [em] at e; cases e
  | ok v h1 =>
    rw [em] at e
    cases v with
    | int j =>
      dsimp only [bind_ok] at e
      split at e
      · cases e; cases hn
      · cases e
    | _ => cases e
theorem li_rng2 (m m' : ME) : LkIn (miRng2 m m') := fun σ h it h' e n hn => by
  unfold miRng2 at e
  cases em : m σ h with
  | no => rw [em] at e; cases e
  | rs x k => rw [em] at e; cases e
  | ok v h1 =>
    rw [em] at e
    dsimp only [bind_ok] at e
    cases em' : m' σ h1 with
    | no => rw [em'] at e; cases e
    | rs x k => rw [em'] at e; cases e
    | ok w h2 =>
      rw [em'] at e
      dsimp only [bind_ok] at e
      cases v <;> cases w <;> first | (dsimp only at e; split at e; (cases e; cases hn); cases e) | cases e

section
variable {X : Cx} {W : WX} {k : Nat} {tg e e2 : Expr} {m m' : ME} {p pos : Pos}
theorem keys_get {G : Gm} {μ : List Addr} {H : Hp} : ∀ {kvs : List (Val × Val)} {kws : List (Key × V)} {i : Nat} {v : Val}, RKs G μ H kvs kws → (kvs.map (·.1))[i]? = some v → ∃ kk w u, kws[i]? = some (kk, w) ∧ kvs[i]? = some (v, u) ∧ keyOf v = some kk ∧ RV G μ H u w
  | _, _, _, _, .nil, e => by simp at e
  | _, _, 0, _, .cons q r t, e => by simp at e; subst e; exact ⟨_, _, _, rfl, rfl, q, r⟩
  | _, _, i + 1, v, .cons q r t, e => by
    obtain ⟨kk, w, u, h1, h2, h3, h4⟩ := keys_get (i := i) (v := v) t (by simpa using e)
    exact ⟨kk, w, u, by simpa using h1, by simpa using h2, h3, h4⟩
theorem rv_key {G : Gm} {μ : List Addr} {H : Hp} {v : Val} {kk : Key} (e : keyOf v = some kk) : RV G μ H v (kV kk) := by
  cases v with
  | int i => cases e; exact .int i
  | str x => cases e; exact .str x
  | _ => cases e
theorem keys_it {G : Gm} {μ : List Addr} {H : Hp} {a : Addr} {od : Obj} {lk : Option Nat} {kvs : List (Val × Val)} {kws : List (Key × V)} (rk : RKs G μ H kvs kws) (ha : H a = some (.frz od (.dK kws))) {src : Hh → Prop} : ItOk G μ H (Itk a od kws) ⟨kvs.map (·.1), src, lk⟩ := fun μ2 h2 H2 p2 e2 r2 _ => by
  have g1 := e2.fz _ _ _ ha
  refine ⟨fun i v hv => ?_, fun i hi => ⟨g1, by rw [← rk.length]; simpa using hi⟩⟩
  obtain ⟨kk, w, u, q1, q2, q3, q4⟩ := keys_get rk hv
  refine ⟨⟨g1, (List.getElem?_eq_some_iff.mp q1).1⟩, fun x H3 y3 => ?_⟩
  obtain ⟨rfl, k', v', hk, rfl⟩ := y3
  rw [q1] at hk; cases hk
  exact ⟨Ex.refl _, r2, rv_key q3⟩
theorem i_val (he : CE X W e m) : CI X W tg e (miVal m) := by
  refine ⟨fun pins s τ H R I h => ?_⟩
  obtain ⟨μ, σ, hh, l, r, q⟩ := h
  unfold miVal at q
  cases em : m σ hh with
  | no => rw [em] at q; exact q.elim
  | rs x h1 =>
    refine (pi_list (tg := tg) he).run pins s τ H R I ⟨μ, σ, hh, l, r, ?_⟩
    rw [em] at q ⊢; exact q
  | ok v h1 =>
    rw [em] at q
    dsimp only [bind_ok] at q
    cases v with
    | tup vs =>
      refine (pi_tup (tg := tg) he).run pins s τ H R I ⟨μ, σ, hh, l, r, ?_⟩
      rw [em]
      intro μ1 H1 p1 e1 r1 w1 rw1
      cases rw1 with
      | @tup _ ws a ta rs =>
        refine ⟨a, rfl, ⟨ws, ta.sq⟩, q μ1 H1 p1 e1 r1 _ (fun μ2 h2 H2 p2 e2 r2 _ => ⟨fun i v hv => ?_, fun i hi => ?_⟩) fun n a hn => by cases hn⟩
        · obtain ⟨w, hw, rvw⟩ := rs.get hv
          refine ⟨⟨ws, w, (ta.mono e2).sq, hw⟩, fun x H3 y3 => ?_⟩
          obtain ⟨rfl, hy⟩ := y3
          have hx := hy ws (ta.mono e2).sq
          rw [hw] at hx; cases hx
          exact ⟨Ex.refl _, r2, rvw.mono p2 e2⟩
        · exact ⟨ws, (ta.mono e2).sq, by rw [← rs.length]; exact hi⟩
    | str x =>
      refine (pi_str (tg := tg) he).run pins s τ H R I ⟨μ, σ, hh, l, r, ?_⟩
      rw [em]
      intro μ1 H1 p1 e1 r1 w1 rw1
      cases rw1
      refine ⟨x, rfl, q μ1 H1 p1 e1 r1 _ (fun μ2 h2 H2 p2 e2 r2 _ => ⟨fun i v hv => ?_, fun i hi => ?_⟩) fun n a hn => by cases hn⟩
      · rw [List.getElem?_map] at hv
        cases ec : x.cps.toList[i]? with
        | none => rw [ec] at hv; cases hv
        | some cc =>
          rw [ec] at hv
          cases hv
          have hlt : i < x.cps.size := by
            have := (List.getElem?_eq_some_iff.mp ec).1
            simpa using this
          refine ⟨hlt, fun y H3 y3 => ?_⟩
          obtain ⟨rfl, c', hc', rfl⟩ := y3
          have : c' = cc := by
            rw [Array.getElem?_toList] at ec
            rw [ec] at hc'; cases hc'; rfl
          subst this
          exact ⟨Ex.refl _, r2, .str _⟩
      · show x.cps.size ≤ i
        simpa using hi
    | ref n =>
      dsimp only at q
      cases eo : h1[n]? with
      | none => rw [eo] at q; exact q.elim
      | some o =>
        rw [eo] at q
        cases o with
        | lst vs =>
          refine (pi_list (tg := tg) he).run pins s τ H R I ⟨μ, σ, hh, l, r, ?_⟩
          rw [em]
          intro μ1 H1 p1 e1 r1 w1 rw1
          cases rw1 with
          | @ref _ a ha =>
            obtain ⟨ws, h1', h2'⟩ := r1.ob n _ a eo ha
            refine ⟨a, rfl, ⟨ws, .inl (.inl h1')⟩, q μ1 H1 p1 e1 r1 _ (fun μ2 h2 H2 p2 e2 r2 hsrc => ?_) fun n a hn => by cases hn⟩
            obtain ⟨ws2, g1, g2⟩ := r2.ob n _ a hsrc (pre_get p2 ha)
            refine ⟨fun i v hv => ?_, fun i hi => ⟨ws2, .inl (.inl g1), by rw [← g2.length]; exact hi⟩⟩
            obtain ⟨w, hw, rvw⟩ := g2.get hv
            refine ⟨⟨ws2, w, .inl (.inl g1), hw⟩, fun x H3 y3 => ?_⟩
            obtain ⟨rfl, hy⟩ := y3
            have hx := hy ws2 (.inl (.inl g1))
            rw [hw] at hx; cases hx
            exact ⟨Ex.refl _, r2, rvw⟩
        | fro vs =>
          refine (pi_list (tg := tg) he).run pins s τ H R I ⟨μ, σ, hh, l, r, ?_⟩
          rw [em]
          intro μ1 H1 p1 e1 r1 w1 rw1
          cases rw1 with
          | @ref _ a ha =>
            obtain ⟨ob, ws, h1', h2'⟩ := r1.ob n _ a eo ha
            refine ⟨a, rfl, ⟨ws, .inl (.inr ⟨ob, h1'⟩)⟩, q μ1 H1 p1 e1 r1 _ (fun μ2 h2 H2 p2 e2 r2 hsrc => ?_) fun n a hn => by cases hn⟩
            obtain ⟨ob2, ws2, g1, g2⟩ := r2.ob n _ a hsrc (pre_get p2 ha)
            refine ⟨fun i v hv => ?_, fun i hi => ⟨ws2, .inl (.inr ⟨ob2, g1⟩), by rw [← g2.length]; exact hi⟩⟩
            obtain ⟨w, hw, rvw⟩ := g2.get hv
            refine ⟨⟨ws2, w, .inl (.inr ⟨ob2, g1⟩), hw⟩, fun x H3 y3 => ?_⟩
            obtain ⟨rfl, hy⟩ := y3
            have hx := hy ws2 (.inl (.inr ⟨ob2, g1⟩))
            rw [hw] at hx; cases hx
            exact ⟨Ex.refl _, r2, rvw⟩
        | dct kvs =>
          refine (pi_keys (tg := tg) (pe_lk he)).run pins s τ H R I ⟨μ, σ, hh, l, r, ?_⟩
          rw [em]
          intro μ1 H1 p1 e1 r1 w1 rw1
          cases rw1 with
          | @ref _ a ha =>
            obtain ⟨kws, h1', h2'⟩ := r1.ob n _ a eo ha
            refine .inr ⟨a, .dK kws, rfl, h1', trivial, fun od hnf => ⟨a, od, rfl, .inl ⟨kws, upd_same, ?_⟩⟩⟩
            have ex : Ex H1 (upd H1 a (.frz od (.dK kws))) := Ex.put h1' (fun _ z => nomatch z) fun _ _ z => nomatch z
            have rr : HR (gm X) μ1 (h1.set n (.fdc kvs)) (upd H1 a (.frz od (.dK kws))) := r1.put ha h1' (fun _ z => nomatch z) ⟨od, kws, upd_same, h2'.mono (List.prefix_refl _) ex⟩
            refine q μ1 _ p1 (e1.trans ex) rr _ (keys_it (h2'.mono (List.prefix_refl _) ex) upd_same) fun n' a' hn' ha' o' u' => ?_
            cases hn'
            rw [ha] at ha'; cases ha'
            exact ⟨hnf o' u', fun z => by have := e1.fz _ _ _ z; rw [h1'] at this; cases this⟩
        | fdc kvs =>
          refine (pi_keys (tg := tg) (pe_lk he)).run pins s τ H R I ⟨μ, σ, hh, l, r, ?_⟩
          rw [em]
          intro μ1 H1 p1 e1 r1 w1 rw1
          cases rw1 with
          | @ref _ a ha =>
            obtain ⟨od, kws, h1', h2'⟩ := r1.ob n _ a eo ha
            exact .inl ⟨a, od, rfl, .inl ⟨kws, h1', q μ1 H1 p1 e1 r1 _ (keys_it h2' h1') fun n' a' hn' => by cases hn'⟩⟩
        | ins C fs => exact q.elim
        | dead => exact q.elim
    | _ => exact q.elim
theorem rng_it {G : Gm} {μ : List Addr} {H : Hp} (lo : Int) (n : Nat) : ItOk G μ H (Itr lo n) ⟨(List.range n).map fun t => .int (lo + ((t : Nat) : Int)), fun _ => True, none⟩ := fun μ2 h2 H2 p2 e2 r2 _ => by
  refine ⟨fun i v hv => ?_, fun i hi => ?_⟩
  · rw [List.getElem?_map] at hv
    cases ec : (List.range n)[i]? with
    | none => rw [ec] at hv; cases hv
    | some t =>
      rw [ec] at hv
      obtain ⟨hlt, ht⟩ := List.getElem?_eq_some_iff.mp ec
      rw [List.getElem_range] at ht
      subst ht
      cases hv
      refine ⟨show i < n by simpa using hlt, fun x H3 y3 => ?_⟩
      obtain ⟨rfl, rfl⟩ := y3
      exact ⟨Ex.refl _, r2, .int _⟩
  · show n ≤ i
    simpa using hi
theorem i_rng1 (he : CE X W e m) (hm : X.mg "range" = none) (hg : Gl X "range" := by rfl) (hs1 : starEach [e] X.env = (false, eval e X.env) :: starEach [] X.env := by rfl) (hs2 : starEach [e] X.env = [(false, eval e X.env)] := by rfl) : CI X W tg (.Call (.Name "range" p) [e] [] pos) (miRng1 m) := by
  refine piI (pi_range1 hg hm (a_cons he a_nil hs1) hs2) fun τ H R ⟨μ, σ, hh, l, r, q⟩ => ⟨μ, σ, hh, l, r, ?_⟩
  unfold maCons maNil
  cases em : m σ hh with
  | no => unfold miRng1 at q; rw [em] at q; exact q.elim
  | rs x h1 => unfold miRng1 at q; rw [em] at q; exact q
  | ok v h1 =>
    unfold miRng1 at q
    rw [em] at q
    dsimp only [bind_ok] at q
    intro μ1 H1 p1 e1 r1 ws rws
    cases rws with
    | cons rv t =>
      cases t
      cases rv with
      | int j =>
        dsimp only at q
        split at q
        · rename_i hj
          refine ⟨j, rfl, hj.1, hj.2, q μ1 H1 p1 e1 r1 _ ?_ fun n a hn => by cases hn⟩
          have := rng_it (G := gm X) (μ := μ1) (H := H1) 0 j.toNat
          simpa using this
        · exact q.elim
      | _ => exact q.elim
theorem i_rng2 (he : CE X W e m) (he2 : CE X W e2 m') (hm : X.mg "range" = none) (hg : Gl X "range" := by rfl) (hs : starEach [e, e2] X.env = (false, eval e X.env) :: starEach [e2] X.env := by rfl) (hs1 : starEach [e2] X.env = (false, eval e2 X.env) :: starEach [] X.env := by rfl) (hs2 : starEach [e, e2] X.env = [(false, eval e X.env), (false, eval e2 X.env)] := by rfl) (hs3 : starEach [e2] X.env = [(false, eval e2 X.env)] := by rfl) : CI X W tg (.Call (.Name "range" p) [e, e2] [] pos) (miRng2 m m') := by
  refine piI (pi_range2 hg hm (a_cons he (a_cons he2 a_nil hs1) hs) hs2 hs3) fun τ H R ⟨μ, σ, hh, l, r, q⟩ => ⟨μ, σ, hh, l, r, ?_⟩
  unfold maCons maNil
  cases em : m σ hh with
  | no => unfold miRng2 at q; rw [em] at q; exact q.elim
  | rs x h1 => unfold miRng2 at q; rw [em] at q; exact q
  | ok v h1 =>
    unfold miRng2 at q
    rw [em] at q
    dsimp only [bind_ok] at q ⊢
    cases em' : m' σ h1 with
    | no => rw [em'] at q; exact q.elim
    | rs x h2 => rw [em'] at q; exact q
    | ok w h2 =>
    rw [em'] at q
    dsimp only [bind_ok] at q ⊢
    intro μ1 H1 p1 e1 r1 ws rws
    cases rws with
    | cons rv t =>
      cases t with
      | cons rv2 t =>
        cases t
        cases rv with
        | int i =>
          cases rv2 with
          | int j =>
            dsimp only at q
            split at q
            · rename_i hj
              exact ⟨i, j, rfl, hj, q μ1 H1 p1 e1 r1 _ (rng_it i _) fun n a hn => by cases hn⟩
            · exact q.elim
          | _ => exact q.elim
        | _ => exact q.elim
end
end U
/-! Layer A, part 5: list comprehensions. -/
namespace U
open PySem L2
open Classical

/-- a target of names -/
inductive Tg where
  | one (i : Nat)
  | many (is : List Nat)
def setAll : List Nat → List Val → Loc → Loc
  | i :: is, v :: vs, σ => setAll is vs (σ.set i (some v))
  | _, _, σ => σ
def Tg.bd (t : Tg) (v : Val) (σ : Loc) : Option Loc := match t with
  | .one i => some (σ.set i (some v))
  | .many is => match v with
    | .tup vs => if vs.length = is.length then some (setAll is vs σ) else none
    | _ => none
def Tg.slots : Tg → List Nat
  | .one i => [i]
  | .many is => is
def gNs : List Nat → TGs
  | [] => gNil
  | i :: is => gCons (gName i) (gNs is)
def tgT (K : PySem.W.Frag) : Tg → TG
  | .one i => gName i
  | .many is => gTup K is.length (gNs is)
def wipeL (σ : Loc) : List Nat → Loc
  | [] => σ
  | v :: vs => (wipeL σ vs).set v none

theorem LR.clr {G : Gm} {μ : List Addr} {H : Hp} {σ : Loc} {τ : St} (l : LR G μ H σ τ) (i : Nat) : LR G μ H (σ.set i none) (τ.set i none) := by
  refine ⟨by simp [l.1], fun j v e => ?_⟩
  by_cases hj : j = i
  · subst hj
    have hl : j < σ.length := by simpa using (List.getElem?_eq_some_iff.mp e).1
    rw [List.getElem?_set_self hl] at e; cases e
  · rw [List.getElem?_set_ne (Ne.symm hj)] at e
    obtain ⟨w, q1, q2⟩ := l.2 j v e
    exact ⟨w, by rw [List.getElem?_set_ne (Ne.symm hj)]; exact q1, q2⟩
theorem LR.wipe {G : Gm} {μ : List Addr} {H : Hp} {σ : Loc} {τ : St} (l : LR G μ H σ τ) : ∀ vs : List Nat, LR G μ H (wipeL σ vs) (L2.wipe τ vs)
  | [] => l
  | v :: vs => (LR.wipe l vs).clr v
theorem wipe_aux (σ : St) (i : Nat) (x : Option V) : ∀ vs : List Nat, (L2.wipe (σ.set i x) vs).set i none = (L2.wipe σ vs).set i none
  | [] => by simp [L2.wipe]
  | v :: vs => by
    unfold L2.wipe
    by_cases h : v = i
    · subst h; rw [List.set_set, List.set_set]; exact wipe_aux σ v x vs
    · rw [List.set_comm _ _ h, wipe_aux σ i x vs, List.set_comm _ _ (Ne.symm h)]
theorem wipe_set (σ : St) (i : Nat) (x : Option V) : ∀ {vs : List Nat}, i ∈ vs → L2.wipe (σ.set i x) vs = L2.wipe σ vs
  | v :: vs, h => by
    by_cases hv : i = v
    · subst hv; unfold L2.wipe; exact wipe_aux σ i x vs
    · have hm : i ∈ vs := by simpa [hv] using h
      unfold L2.wipe; rw [wipe_set σ i x hm]
theorem wipe_idem (τ : St) (vs : List Nat) : ∀ ks : List Nat, (∀ k ∈ ks, k ∈ vs) → L2.wipe (L2.wipe τ vs) ks = L2.wipe τ vs
  | [], _ => rfl
  | k :: ks, hk => by
    show (L2.wipe (L2.wipe τ vs) ks).set k none = L2.wipe τ vs
    rw [wipe_idem τ vs ks fun j hj => hk j (List.mem_cons_of_mem _ hj)]
    have hk' : k ∈ vs := hk k List.mem_cons_self
    apply List.ext_getElem?
    intro j
    by_cases hj : j = k
    · subst hj
      by_cases hlt : j < (L2.wipe τ vs).length
      · rw [List.getElem?_set_self hlt]
        cases ev : (L2.wipe τ vs)[j]? with
        | none => rw [List.getElem?_eq_none_iff] at ev; omega
        | some o =>
          cases o with
          | none => rfl
          | some y => exact absurd hk' (wipe_some ev).2
      · rw [List.getElem?_eq_none (by simpa using hlt), List.getElem?_eq_none (by simpa using hlt)]
    · rw [List.getElem?_set_ne (Ne.symm hj)]
theorem gNs_ok {G : Gm} {μ : List Addr} {H : Hp} {Q : St → Hp → Prop} : ∀ {is : List Nat} {vs : List Val} {ws : List V} {σ : Loc} {τ : St}, LR G μ H σ τ → RVs G μ H vs ws → vs.length = is.length →
    (∀ τ', LR G μ H (setAll is vs σ) τ' → (∀ ks : List Nat, (∀ i ∈ is, i ∈ ks) → L2.wipe τ' ks = L2.wipe τ ks) → Q τ' H) → gNs is ws τ H Q
  | [], _, _, σ, τ, l, .nil, _, k => ⟨rfl, k τ l fun _ _ => rfl⟩
  | [], _, _, σ, τ, l, .cons _ _, e, k => by simp at e
  | i :: is, _, _, σ, τ, l, .nil, e, k => by simp at e
  | i :: is, _, _, σ, τ, l, .cons (v := v) (w := w) r t, e, k => ⟨w, _, rfl, gNs_ok (is := is) (l.set i r) t (by simpa using e) fun τ' l' hw => k τ' l' fun ks hk => by
      rw [hw ks fun j hj => hk j (List.mem_cons_of_mem _ hj), wipe_set τ i (some w) (hk i List.mem_cons_self)]⟩
theorem tg_ok {G : Gm} {μ : List Addr} {H : Hp} {Q : St → Hp → Prop} {t : Tg} {v : Val} {w : V} {σ σ' : Loc} {τ : St} (l : LR G μ H σ τ) (rv : RV G μ H v w) (e : t.bd v σ = some σ')
    (k : ∀ τ', LR G μ H σ' τ' → (∀ ks : List Nat, (∀ i ∈ t.slots, i ∈ ks) → L2.wipe τ' ks = L2.wipe τ ks) → Q τ' H) : tgT G.K t w τ H Q := by
  cases t with
  | one i =>
    cases e
    exact k _ (l.set i rv) fun ks hk => wipe_set τ i _ (hk i (List.mem_singleton.mpr rfl))
  | many is =>
    cases rv with
    | @tup vs ws a ta rs =>
      unfold Tg.bd at e
      dsimp only at e
      split at e
      · rename_i hl
        cases e
        exact ⟨a, ws, rfl, ta.sq, by rw [← rs.length]; exact hl, gNs_ok l rs hl k⟩
      · cases e
    | _ => cases e

/-! ### what is computed -/
def Res.nr {α : Type} (r : Res α) : Res α := match r with
  | .rs _ _ => .no
  | r => r
@[simp] theorem nr_ok {α : Type} (a : α) (h : Hh) : (Res.ok a h).nr = .ok a h := rfl
@[simp] theorem nr_no {α : Type} : (Res.no : Res α).nr = .no := rfl
@[simp] theorem nr_rs {α : Type} (x : Xc) (h : Hh) : (Res.rs x h : Res α).nr = .no := rfl
def lcB (vs : List Nat) (t : Tg) (c : MT) (e : ME) (σ : Loc) (v : Val) (h : Hh) : Res (Option Val) := match t.bd v (wipeL σ vs) with
  | none => .no
  | some σ2 => (c σ2 h).nr.bind fun b h1 => if b = true then (e σ2 h1).nr.bind fun y h2 => .ok (some y) h2 else .ok none h1
/-- y goes to the list at n -/
def push1 (n : Nat) (y : Val) (h : Hh) : Option Hh := match h[n]? with
  | some (.lst acc) => if acc.length < sizeLine then some (h.set n (.lst (acc ++ [y]))) else none
  | _ => none
noncomputable def lcV (src : Hh → Prop) (n : Nat) (body : Val → Hh → Res (Option Val)) : List Val → Hh → Res Unit
  | [], h => if src h then .ok () h else .no
  | v :: vs, h => if src h then (match body v h with
      | .ok none h' => lcV src n body vs h'
      | .ok (some y) h' => (match push1 n y h' with
        | some h2 => lcV src n body vs h2
        | none => .no)
      | _ => .no) else .no
noncomputable def mLc (mi : MI) (vs : List Nat) (t : Tg) (c : MT) (e : ME) : ME := fun σ h => (mi σ h).bind fun it h1 => (lcV it.src h1.length (lcB vs t c e σ) it.items (h1 ++ [.lst []])).bind fun _ h2 => match unlH it.lk h2 with
  | some h3 => .ok (.ref h1.length) h3
  | none => .no
def tTrue : MT := fun _ h => .ok true h

theorem push_ok {G : Gm} {μ : List Addr} {h h' : Hh} {H : Hp} {n : Nat} {D : Addr} {y : Val} {w : V} (r : HR G μ h H) (hD : μ[n]? = some D) (rv : RV G μ H y w) (e : push1 n y h = some h') : ∃ acc, H D = some (.lst acc) ∧ acc.length < sizeLine ∧ Ex H (upd H D (.lst (acc ++ [w]))) ∧ HR G μ h' (upd H D (.lst (acc ++ [w]))) := by
  unfold push1 at e
  cases q : h[n]? with
  | none => rw [q] at e; cases e
  | some o =>
    rw [q] at e
    have ro := r.ob n o D q hD
    cases o with
    | lst vs =>
      dsimp only at e
      split at e
      · rename_i hl
        cases e
        obtain ⟨ws, h1, h2⟩ := ro
        have ex : Ex H (upd H D (.lst (ws ++ [w]))) := Ex.put h1 (fun _ z => nomatch z) fun _ _ z => nomatch z
        exact ⟨ws, h1, by rw [← h2.length]; exact hl, ex, r.put hD h1 (fun _ z => nomatch z) ⟨_, upd_same, (h2.append (.cons rv .nil)).mono (List.prefix_refl _) ex⟩⟩
      · cases e
    | _ => cases e

/-- the reading of a comprehension -/
theorem lcR {H0 : Hp} {G : Gm} {W : WX} {mi : MI} {vs : List Nat} {t : Tg} {c : MT} {e : ME} (li : LkIn mi) (hsl : ∀ i ∈ t.slots, i ∈ vs) {τ : St} {H : Hp} {Q : VK} (hh : tM G W (mLc mi vs t c e) τ H Q) :
    tLc (tMI H0 G W mi) (tgT G.K t) (tMT G WN c) (tM G WN e) vs τ H (fun v => unl H0 (Q v)) := by
  obtain ⟨μ, σ, h, l, r, p⟩ := hh
  refine ⟨μ, σ, h, l, r, ?_⟩
  have lin := li σ h
  unfold mLc at p
  cases em : mi σ h with
  | no => rw [em] at p; exact p
  | rs x h' => rw [em] at p; exact p
  | ok it h1 =>
  rw [em] at p
  simp only [bind_ok] at p
  cases el : lcV it.src h1.length (lcB vs t c e σ) it.items (h1 ++ [.lst []]) with
  | no => rw [el] at p; exact p.elim
  | rs x h' =>
    exfalso
    have key : ∀ (xs : List Val) (h : Hh) x h', lcV it.src h1.length (lcB vs t c e σ) xs h ≠ .rs x h' := by
      intro xs
      induction xs with
      | nil => intro h x h' z; unfold lcV at z; split at z <;> cases z
      | cons v xs ih =>
        intro h x h' z
        unfold lcV at z
        split at z
        · split at z
          · exact ih _ _ _ z
          · split at z
            · exact ih _ _ _ z
            · cases z
          · cases z
        · cases z
    exact key _ _ _ _ el
  | ok u h2 =>
  rw [el] at p
  simp only [bind_ok] at p
  intro μ1 H1 p1 e1 r1 J ok lk D hD
  have exD : Ex H1 (upd H1 D (.lst [])) := Ex.new hD
  have rD : HR G (μ1 ++ [D]) (h1 ++ [.lst []]) (upd H1 D (.lst [])) := r1.laid hD ⟨[], upd_same, .nil⟩
  have hDn : (μ1 ++ [D])[h1.length]? = some D := by rw [← r1.len]; simp
  refine ⟨fun i m H' => m + i = it.items.length ∧ ∃ μ' h', (μ1 ++ [D]) <+: μ' ∧ Ex (upd H1 D (.lst [])) H' ∧ HR G μ' h' H' ∧ lcV it.src h1.length (lcB vs t c e σ) (it.items.drop i) h' = .ok u h2,
    ⟨it.items.length, rfl, _, _, List.prefix_refl _, Ex.refl _, rD, el⟩, ?_⟩
  rintro i m H' ⟨hm, μ', h', p2, e2, r2, q2⟩
  have pa : μ1 <+: μ' := (List.prefix_append μ1 [D]).trans p2
  have ea : Ex H1 H' := exD.trans e2
  cases ed : it.items.drop i with
  | nil =>
    rw [ed] at q2
    have hl : it.items.length ≤ i := by
      have := congrArg List.length ed
      rw [List.length_drop] at this
      simpa using Nat.le_of_sub_eq_zero this
    unfold lcV at q2
    split at q2
    · rename_i hsrc
      cases q2
      refine .inl ⟨(ok μ' h2 H' pa ea r2 hsrc).2 i hl, ?_⟩
      cases ek : it.lk with
      | none =>
        rw [ek] at p
        exact .inl (p μ' H' (p1.trans pa) (e1.trans ea) r2 _ (.ref (pre_get p2 hDn)))
      | some n =>
        rw [ek] at p
        cases eu : unlH (some n) h2 with
        | none => rw [eu] at p; exact p.elim
        | some h3 =>
          rw [eu] at p
          refine unlH_ok r2 (e1.trans ea) eu (fun a ha => ?_) fun H3 e3 t3 r3 => p μ' H3 (p1.trans pa) e3 r3 _ (.ref (pre_get p2 hDn))
          refine lk n a ek ?_
          have hi : n < μ1.length := by rw [r1.len]; exact lin it h1 em n ek
          obtain ⟨t', rfl⟩ := pa
          rw [List.getElem?_append_left hi] at ha; exact ha
    · cases q2
  | cons v rest =>
    rw [ed] at q2
    have hv : it.items[i]? = some v := by
      have : (it.items.drop i)[0]? = some v := by rw [ed]; rfl
      rw [List.getElem?_drop] at this; simpa using this
    have hr : it.items.drop (i + 1) = rest := by
      have := congrArg (List.drop 1) ed
      rw [List.drop_drop] at this
      simpa using this
    have hi' : i < it.items.length := (List.getElem?_eq_some_iff.mp hv).1
    unfold lcV at q2
    split at q2
    · rename_i hsrc
      obtain ⟨go, yl⟩ := (ok μ' h' H' pa ea r2 hsrc).1 i v hv
      refine .inr ⟨go, fun H3 => ∃ μ3 h3, (μ1 ++ [D]) <+: μ3 ∧ Ex (upd H1 D (.lst [])) H3 ∧ HR G μ3 h3 H3 ∧ lcV it.src h1.length (lcB vs t c e σ) rest h3 = .ok u h2, ?_, fun x H3 y3 => ?_⟩
      · rintro H3 ⟨μ3, h3, q⟩
        refine ⟨m - 1, by omega, by omega, μ3, h3, ?_⟩
        rw [hr]; exact q
      · obtain ⟨e3, r3, rv3⟩ := yl x H3 y3
        have lw : LR G μ' H3 (wipeL σ vs) (L2.wipe τ vs) := ((l.mono p1 e1).mono pa (ea.trans e3).et).wipe vs
        cases eb : t.bd v (wipeL σ vs) with
        | none => simp only [lcB, eb] at q2; cases q2
        | some σ2 =>
          simp only [lcB, eb] at q2
          refine tg_ok lw rv3 eb fun τ2 l2 hw => ⟨?_, μ', σ2, h', l2, r3, ?_⟩
          · rw [hw vs hsl]
            exact wipe_idem τ vs vs fun _ h => h
          · cases ec : c σ2 h' with
            | no => rw [ec] at q2; cases q2
            | rs x hx => rw [ec] at q2; cases q2
            | ok b h3 =>
              rw [ec] at q2
              simp only [nr_ok, bind_ok] at q2
              intro μ3 H4 p4 e4 r4
              cases b with
              | false =>
                refine iteF ?_
                simp only [Bool.false_eq_true, if_false] at q2
                exact ⟨μ3, h3, p2.trans p4, e2.trans (e3.trans e4), r4, q2⟩
              | true =>
                refine iteT ⟨μ3, σ2, h3, l2.mono p4 e4, r4, ?_⟩
                simp only [if_true] at q2
                cases ee : e σ2 h3 with
                | no => rw [ee] at q2; cases q2
                | rs x hx => rw [ee] at q2; cases q2
                | ok y h4 =>
                  rw [ee] at q2
                  simp only [nr_ok, bind_ok] at q2
                  intro μ5 H5 p5 e5 r5 w5 rw5
                  cases epu : push1 h1.length y h4 with
                  | none => rw [epu] at q2; cases q2
                  | some h5 =>
                    rw [epu] at q2
                    obtain ⟨acc, a1, a2, a3, a4⟩ := push_ok r5 (pre_get p5 (pre_get p4 (pre_get p2 hDn))) rw5 epu
                    exact ⟨acc, a1, a2, μ5, h5, p2.trans (p4.trans p5), e2.trans (e3.trans (e4.trans (e5.trans a3))), a4, q2⟩
    · cases q2

section
variable {X : Cx} {W : WX} {k : Nat} {elt tg iter : Expr} {ifs : List Expr} {scope : Scope} {own : List (Str × Nat)} {pos : Pos} {mi : MI} {t : Tg} {c : MT} {e : ME}
abbrev CTs (X : Cx) (W : WX) (ifs : List Expr) (m : MT) : Prop := PTs X ifs (tMT (gm X) W m)
theorem ts_nil : CTs X W [] tTrue := ⟨fun pins s σ H Q I h => pts_nil.run pins s σ H Q I (by obtain ⟨μ, σ', h', l, r, p⟩ := h; exact p.at r)⟩
theorem ts_one {a : Expr} {m : MT} (h : CT X W a m) : CTs X W [a] m := pts_one h
/-- targets in a block -/
theorem lg_one {i : Nat} {x : Str} (hN : X.N.Nodup) (hi : X.N[i]? = some x := by rfl) (hx : L2.Loc X.env.scope x := by first | exact Or.inl rfl | exact Or.inr rfl) (hf : X.fn x = true ∨ X.env.scope.names.lookup x = some .local := by first | exact .inl rfl | exact .inr rfl | assumption) : PG X (.Name x pos) (tgT X.K (.one i)) := pg_name hN hi hx hf
theorem lgs_nil : PGs X [] (gNs []) := pgs_nil
theorem lgs_cons {i : Nat} {is : List Nat} {x : Str} {es : List Expr} (hN : X.N.Nodup) (h2 : PGs X es (gNs is)) (hi : X.N[i]? = some x := by rfl) (hx : L2.Loc X.env.scope x := by first | exact Or.inl rfl | exact Or.inr rfl) (hf : X.fn x = true ∨ X.env.scope.names.lookup x = some .local := by first | exact .inl rfl | exact .inr rfl | assumption)
    (hs : (assignEach (.Name x pos :: es) X.env).map (·.2) = assign (.Name x pos) X.env :: (assignEach es X.env).map (·.2) := by rfl) : PGs X (.Name x pos :: es) (gNs (i :: is)) := pgs_cons (pg_name hN hi hx hf) h2 hs
theorem lg_many {is : List Nat} {es : List Expr} {kk : Nat} (hc : X.calm = true) (h : PGs X es (gNs is)) (hn : (assignEach es X.env).length = is.length := by rfl) (hst : (assignEach es X.env).findIdx? (·.1) = none := by rfl) : PG X (.Tuple es kk pos) (tgT X.K (.many is)) := pg_tup hc h hn hst

theorem s_lc (ck : Cok X W k) (hi : CI X W tg iter mi) (li : LkIn mi) (ok : BlkOk X.N X.env.scope scope own) (hsl : ∀ i ∈ t.slots, i ∈ own.map (·.2))
    (hg : ∀ (s : Shared) (H : Hp) (C : Addr) (cl : List (Str × Addr)) (fp : List Addr), PG (X.blk s H scope (compEnvC scope cl C X.env) fp) tg (tgT X.K t))
    (ht : ∀ (s : Shared) (H : Hp) (C : Addr) (cl : List (Str × Addr)) (fp : List Addr), CTs (X.blk s H scope (compEnvC scope cl C X.env) fp) WN ifs c)
    (he : ∀ (s : Shared) (H : Hp) (C : Addr) (cl : List (Str × Addr)) (fp : List Addr), CE (X.blk s H scope (compEnvC scope cl C X.env) fp) WN elt e) (hs : ∀ x, foldedSetIterable iter X.env x = pure x := by intro _; rfl) :
    CE X W (.ListComp elt [⟨tg, iter, ifs, 0⟩] scope pos) (mLc mi (own.map (·.2)) t c e) :=
  peI (pe_unl (pe_lc (tt := tMT (gm X) WN c) (te := tM (gm X) WN e) ck.calm ck.nd hi ok hg ht he hs)) fun τ H Q h => lcR (G := gm X) li hsl h
/-- y = [..] on one row -/
theorem t_setLc (i : Nat) {y : Str} {py spos : Pos} (ck : Cok X W k) (hi : CI X W tg iter mi) (li : LkIn mi) (ok : BlkOk X.N X.env.scope scope own) (hsl : ∀ i ∈ t.slots, i ∈ own.map (·.2))
    (hg : ∀ (s : Shared) (H : Hp) (C : Addr) (cl : List (Str × Addr)) (fp : List Addr), PG (X.blk s H scope (compEnvC scope cl C X.env) fp) tg (tgT X.K t))
    (ht : ∀ (s : Shared) (H : Hp) (C : Addr) (cl : List (Str × Addr)) (fp : List Addr), CTs (X.blk s H scope (compEnvC scope cl C X.env) fp) WN ifs c)
    (he : ∀ (s : Shared) (H : Hp) (C : Addr) (cl : List (Str × Addr)) (fp : List Addr), CE (X.blk s H scope (compEnvC scope cl C X.env) fp) WN elt e)
    (hsw : swapsWith (.ListComp elt [⟨tg, iter, ifs, 0⟩] scope pos) (some (.Name y py)) spos.line X.env = pure true)
    (hy : X.N[i]? = some y := by rfl) (hyl : X.env.scope.names.lookup y = some .local := by rfl) (hs : ∀ x, foldedSetIterable iter X.env x = pure x := by intro _; rfl) :
    CS X W (.Assign [.Name y py] (.ListComp elt [⟨tg, iter, ifs, 0⟩] scope pos) spos) (msAsg (mLc mi (own.map (·.2)) t c e) (mgName i)) := by
  refine psI (ps_unl (ps_setLc (i := i) (tt := tMT (gm X) WN c) (te := tM (gm X) WN e) ck.calm ck.nd hy hyl hsw hi ok hg ht he hs)) fun D τ H ⟨μ, σ, h, l, r, p⟩ => ?_
  refine lcR (G := gm X) (Q := fun x H1 => D.nx (τ.set i (some x)) H1) li hsl ⟨μ, σ, h, l, r, ?_⟩
  exact (PsF.bind l p).imp fun x μ1 h1 H1 p1 e1 r1 q1 w rw1 => q1 μ1 H1 _ (List.prefix_refl _) (Ex.refl _) r1 ((l.mono p1 e1).set i rw1)
end
end U
/-! Layer A, part 6: operators by values. -/
namespace U
open PySem L2

theorem ps_ok {α : Type} {G : Gm} {W : XK} {μ : List Addr} {H : Hp} {a : α} {h : Hh} {Q : α → List Addr → Hh → Hp → Prop} (p : Ps G W μ H (.ok a h) Q) (r : HR G μ h H) : Q a μ h H := p.at r

/-! ### arithmetic -/
def vAdd (x y : Val) (h : Hh) : Res Val := match x, y with
  | .int i, .int j => .ok (.int (i + j)) h
  | .str i, .str j => if i.length + j.length ≤ sizeLine then .ok (.str (i ++ j)) h else .no
  | .tup xs, .tup ys => if xs.length + ys.length ≤ sizeLine then .ok (.tup (xs ++ ys)) h else .no
  | .ref m, .ref n => match h[m]?, h[n]? with
    | some (.lst xs), some (.lst ys) => if xs.length + ys.length ≤ sizeLine then .ok (.ref h.length) (h ++ [.lst (xs ++ ys)]) else .no
    | _, _ => .no
  | _, _ => .no
def vSub (x y : Val) (h : Hh) : Res Val := match x, y with
  | .int i, .int j => .ok (.int (i - j)) h
  | _, _ => .no
def vMulI (i j : Int) : Bool := (decide (-(2 ^ 64) < i) && decide (i < 2 ^ 64)) || (decide (-(2 ^ 64) < j) && decide (j < 2 ^ 64)) || decide (i.natAbs.log2 + j.natAbs.log2 < 1000000)
def vMul (x y : Val) (h : Hh) : Res Val := match x, y with
  | .int i, .int j => if vMulI i j = true then .ok (.int (i * j)) h else .no
  | .ref m, .int k => match h[m]? with
    | some (.lst xs) => if -(2 ^ 63) ≤ k ∧ k < 2 ^ 63 ∧ xs.length * k.toNat ≤ sizeLine then .ok (.ref h.length) (h ++ [.lst (List.replicate k.toNat xs).flatten]) else .no
    | _ => .no
  | _, _ => .no
def vMod (x y : Val) (h : Hh) : Res Val := match x, y with
  | .int i, .int j => if 0 < j then .ok (.int (i % j)) h else .no
  | _, _ => .no
def vDiv (x y : Val) (h : Hh) : Res Val := match x, y with
  | .int i, .int j => if 0 < j ∧ j.natAbs.log2 < 9000 then .ok (.int (i / j)) h else .no
  | _, _ => .no
def vPow (x y : Val) (h : Hh) : Res Val := match x, y with
  | .int i, .int j => if 0 ≤ j ∧ j ≤ 1000000 ∧ i.natAbs < 2 ^ 64 then .ok (.int (i ^ j.toNat)) h else .no
  | _, _ => .no
def vNeg (x : Val) (h : Hh) : Res Val := match x with
  | .int i => .ok (.int (-i)) h
  | _ => .no
section
variable {X : Cx}
/-- a two-place operation is shown by cases -/
theorem opr {f : Value → Value → Sem Value} {g : Val → Val → Hh → Res Val} (h : ∀ (pins : List (Addr × Obj)) (s : Shared) (τ : St) (H : Hp) (x y : V) (v u : Value) (Q : VK) (μ : List Addr) (hh : Hh) (a b : Val), L2.Inv X pins τ H s → RelV x v → RelV y u → HR (gm X) μ hh H → RV (gm X) μ H a x → RV (gm X) μ H b y → Ps (gm X) W0 μ H (g a b hh) (qV (gm X) Q) →
    wpAny (model X.prog X.w) X.A (f v u) (EP X pins τ Q) X.xe s) : OpR X f (rM2 (gm X) W0 g) :=
  fun pins s τ H x y v u Q I rx ry ⟨μ, hh, a, b, r, ra, rb, p⟩ => h pins s τ H x y v u Q μ hh a b I rx ry r ra rb p
theorem o_add : OpR X (binaryOp .Add) (rM2 (gm X) W0 vAdd) := opr fun pins s τ H x y v u Q μ hh a b I rx ry r ra rb p => by
  cases ra with
  | int i =>
    cases rb with
    | int j => exact op_add pins s τ H _ _ v u Q I rx ry ⟨i, j, rfl, rfl, p.at r _ (.int _)⟩
    | _ => exact p.elim
  | str i =>
    cases rb with
    | str j =>
      unfold vAdd at p; dsimp only at p
      split at p
      · exact op_add_str pins s τ H _ _ v u Q I rx ry ⟨i, j, rfl, rfl, by assumption, p.at r _ (.str _)⟩
      · exact p.elim
    | _ => exact p.elim
  | @tup xs ws a1 t1 rs1 =>
    cases rb with
    | @tup ys zs a2 t2 rs2 =>
      unfold vAdd at p; dsimp only at p
      split at p
      · rename_i hl
        refine op_catA pins s τ H _ _ v u Q I rx ry ⟨a1, a2, ws, zs, rfl, rfl, t1.sq, t2.sq, by rw [← rs1.length, ← rs2.length]; exact hl, fun e => ?_, fun _ e => ?_, fun _ _ => lay_tup r (rs1.append rs2) p⟩
        · subst e; cases rs1; exact p.at r _ (.tup t2 rs2)
        · subst e; cases rs2; rw [List.append_nil] at p; exact p.at r _ (.tup t1 rs1)
      · exact p.elim
    | _ => exact p.elim
  | @ref m a1 q1 =>
    cases rb with
    | @ref n a2 q2 =>
      unfold vAdd at p; dsimp only at p
      obtain ⟨o1, ho1, ro1⟩ := r.obj q1
      obtain ⟨o2, ho2, ro2⟩ := r.obj q2
      rw [ho1, ho2] at p
      cases o1 with
      | lst xs =>
        cases o2 with
        | lst ys =>
          dsimp only at p
          split at p
          · rename_i hl
            obtain ⟨ws, g1, g2⟩ := ro1
            obtain ⟨zs, g3, g4⟩ := ro2
            exact op_cat pins s τ H _ _ v u Q I rx ry ⟨a1, a2, ws, zs, rfl, rfl, g1, g3, by rw [← g2.length, ← g4.length]; exact hl, lay_lst r (g2.append g4) p⟩
          · exact p.elim
        | _ => exact p.elim
      | _ => exact p.elim
    | _ => exact p.elim
  | _ => exact p.elim
theorem o_sub : OpR X (binaryOp .Sub) (rM2 (gm X) W0 vSub) := opr fun pins s τ H x y v u Q μ hh a b I rx ry r ra rb p => by
  cases ra with
  | int i =>
    cases rb with
    | int j => exact op_sub pins s τ H _ _ v u Q I rx ry ⟨i, j, rfl, rfl, p.at r _ (.int _)⟩
    | _ => exact p.elim
  | _ => exact p.elim
theorem o_mul : OpR X (binaryOp .Mult) (rM2 (gm X) W0 vMul) := opr fun pins s τ H x y v u Q μ hh a b I rx ry r ra rb p => by
  cases ra with
  | int i =>
    cases rb with
    | int j =>
      unfold vMul at p; dsimp only at p
      split at p
      · rename_i hc
        have q := p.at r (.int (i * j)) (.int _)
        unfold vMulI at hc
        simp only [Bool.or_eq_true, Bool.and_eq_true, decide_eq_true_eq] at hc
        rcases hc with (hc | hc) | hc
        · exact op_mul pins s τ H _ _ v u Q I rx ry ⟨i, j, rfl, rfl, .inl hc, q⟩
        · exact op_mul pins s τ H _ _ v u Q I rx ry ⟨i, j, rfl, rfl, .inr hc, q⟩
        · exact op_mulW pins s τ H _ _ v u Q I rx ry ⟨i, j, rfl, rfl, hc, q⟩
      · exact p.elim
    | _ => exact p.elim
  | @ref m a1 q1 =>
    cases rb with
    | int k =>
      unfold vMul at p; dsimp only at p
      obtain ⟨o1, ho1, ro1⟩ := r.obj q1
      rw [ho1] at p
      cases o1 with
      | lst xs =>
        dsimp only at p
        split at p
        · rename_i hl
          obtain ⟨ws, g1, g2⟩ := ro1
          refine op_rep pins s τ H _ _ v u Q I rx ry ⟨a1, k, ws, rfl, rfl, g1, hl.1, hl.2.1, by rw [← g2.length]; exact hl.2.2, lay_lst r ?_ p⟩
          generalize k.toNat = n
          induction n with
          | zero => exact .nil
          | succ n ih => rw [List.replicate_succ, List.replicate_succ, List.flatten_cons, List.flatten_cons]; exact g2.append ih
        · exact p.elim
      | _ => exact p.elim
    | _ => exact p.elim
  | _ => exact p.elim
theorem o_mod : OpR X (binaryOp .Mod) (rM2 (gm X) W0 vMod) := opr fun pins s τ H x y v u Q μ hh a b I rx ry r ra rb p => by
  cases ra with
  | int i =>
    cases rb with
    | int j =>
      unfold vMod at p; dsimp only at p
      split at p
      · exact op_mod pins s τ H _ _ v u Q I rx ry ⟨i, j, rfl, rfl, by assumption, p.at r _ (.int _)⟩
      · exact p.elim
    | _ => exact p.elim
  | _ => exact p.elim
theorem o_div : OpR X (binaryOp .FloorDiv) (rM2 (gm X) W0 vDiv) := opr fun pins s τ H x y v u Q μ hh a b I rx ry r ra rb p => by
  cases ra with
  | int i =>
    cases rb with
    | int j =>
      unfold vDiv at p; dsimp only at p
      split at p
      · exact op_fdivW pins s τ H _ _ v u Q I rx ry ⟨i, j, rfl, rfl, by assumption, p.at r _ (.int _)⟩
      · exact p.elim
    | _ => exact p.elim
  | _ => exact p.elim
theorem o_pow : OpR X (binaryOp .Pow) (rM2 (gm X) W0 vPow) := opr fun pins s τ H x y v u Q μ hh a b I rx ry r ra rb p => by
  cases ra with
  | int i =>
    cases rb with
    | int j =>
      unfold vPow at p; dsimp only at p
      split at p
      · exact op_pow pins s τ H _ _ v u Q I rx ry ⟨i, j, rfl, rfl, by assumption, p.at r _ (.int _)⟩
      · exact p.elim
    | _ => exact p.elim
  | _ => exact p.elim
theorem o_neg : UnR X (unaryOp .USub) (rM1 (gm X) W0 vNeg) := fun pins s τ H x v Q I rx ⟨μ, hh, a, r, ra, p⟩ => by
  cases ra with
  | int i => exact un_neg pins s τ H _ v Q I rx ⟨i, rfl, p.at r _ (.int _)⟩
  | _ => exact p.elim
/-! ### order -/
def vOrd (fi : Int → Int → Bool) (fs : Str → Str → Bool) (x y : Val) (h : Hh) : Res Val := match x, y with
  | .int i, .int j => .ok (.bl (fi i j)) h
  | .str i, .str j => .ok (.bl (fs i j)) h
  | _, _ => .no
def strLt (i j : Str) : Bool := decide (i.cps.toList < j.cps.toList)
abbrev vLt := vOrd (fun i j => decide (i < j)) strLt
abbrev vLe := vOrd (fun i j => decide (i ≤ j)) (fun i j => !strLt j i)
abbrev vGt := vOrd (fun i j => decide (j < i)) (fun i j => strLt j i)
abbrev vGe := vOrd (fun i j => decide (j ≤ i)) (fun i j => !strLt i j)
theorem o_lt : OpR X (compareOp .Lt) (rM2 (gm X) W0 vLt) := opr fun pins s τ H x y v u Q μ hh a b I rx ry r ra rb p => by
  cases ra with
  | int i =>
    cases rb with
    | int j => exact op_lt pins s τ H _ _ v u Q I rx ry ⟨i, j, rfl, rfl, p.at r _ (.bl _)⟩
    | _ => exact p.elim
  | str i =>
    cases rb with
    | str j => exact op_lt_str pins s τ H _ _ v u Q I rx ry ⟨i, j, rfl, rfl, p.at r _ (.bl _)⟩
    | _ => exact p.elim
  | _ => exact p.elim
theorem o_le : OpR X (compareOp .LtE) (rM2 (gm X) W0 vLe) := opr fun pins s τ H x y v u Q μ hh a b I rx ry r ra rb p => by
  cases ra with
  | int i =>
    cases rb with
    | int j => exact op_le pins s τ H _ _ v u Q I rx ry ⟨i, j, rfl, rfl, p.at r _ (.bl _)⟩
    | _ => exact p.elim
  | str i =>
    cases rb with
    | str j => exact op_le_str pins s τ H _ _ v u Q I rx ry ⟨i, j, rfl, rfl, p.at r _ (.bl _)⟩
    | _ => exact p.elim
  | _ => exact p.elim
theorem o_gt : OpR X (compareOp .Gt) (rM2 (gm X) W0 vGt) := opr fun pins s τ H x y v u Q μ hh a b I rx ry r ra rb p => by
  cases ra with
  | int i =>
    cases rb with
    | int j => exact op_gt pins s τ H _ _ v u Q I rx ry ⟨i, j, rfl, rfl, p.at r _ (.bl _)⟩
    | _ => exact p.elim
  | str i =>
    cases rb with
    | str j => exact op_gt_str pins s τ H _ _ v u Q I rx ry ⟨i, j, rfl, rfl, p.at r _ (.bl _)⟩
    | _ => exact p.elim
  | _ => exact p.elim
theorem o_ge : OpR X (compareOp .GtE) (rM2 (gm X) W0 vGe) := opr fun pins s τ H x y v u Q μ hh a b I rx ry r ra rb p => by
  cases ra with
  | int i =>
    cases rb with
    | int j => exact op_ge pins s τ H _ _ v u Q I rx ry ⟨i, j, rfl, rfl, p.at r _ (.bl _)⟩
    | _ => exact p.elim
  | str i =>
    cases rb with
    | str j => exact op_ge_str pins s τ H _ _ v u Q I rx ry ⟨i, j, rfl, rfl, p.at r _ (.bl _)⟩
    | _ => exact p.elim
  | _ => exact p.elim
/-! ### data -/
mutual
/-- a value as data, to a depth -/
def toD : Nat → Hh → Val → Option PyData
  | 0, _, _ => none
  | _ + 1, _, .non => some .none
  | _ + 1, _, .bl b => some (.bool b)
  | _ + 1, _, .int i => some (.int i)
  | _ + 1, _, .str x => some (.str x)
  | n + 1, h, .tup vs => (toDs n h vs).map .tuple
  | n + 1, h, .ref i => match h[i]? with
    | some (.lst vs) => (toDs n h vs).map .list
    | some (.fro vs) => (toDs n h vs).map .list
    | some (.dct kvs) => (toDk n h kvs).map .dict
    | some (.fdc kvs) => (toDk n h kvs).map .dict
    | _ => none
  | _ + 1, _, _ => none
def toDs : Nat → Hh → List Val → Option (List PyData)
  | _, _, [] => some []
  | n, h, v :: vs => match toD n h v, toDs n h vs with
    | some d, some ds => some (d :: ds)
    | _, _ => none
def toDk : Nat → Hh → List (Val × Val) → Option (List (PyData × PyData))
  | _, _, [] => some []
  | n, h, (k, v) :: r => match toD n h k, toD n h v, toDk n h r with
    | some a, some b, some ds => some ((a, b) :: ds)
    | _, _, _ => none
end
mutual
def noD : PyData → Bool
  | .list xs => noDs xs
  | .tuple xs => noDs xs
  | .dict _ => false
  | _ => true
def noDs : List PyData → Bool
  | [] => true
  | x :: xs => noD x && noDs xs
end
mutual
theorem toD_dp {G : Gm} {μ : List Addr} {h : Hh} {H : Hp} (r : HR G μ h H) : ∀ (n : Nat) {v : Val} {w : V} {d : PyData}, RV G μ H v w → toD n h v = some d → noD d = true → Dp G.K H w d
  | 0, v, w, d, rv, e, nd => by simp [toD] at e
  | n + 1, v, w, d, rv, e, nd => by
    cases rv with
    | non => simp only [toD, Option.some.injEq] at e; subst e; exact .non
    | bl b => simp only [toD, Option.some.injEq] at e; subst e; exact .bl b
    | int b => simp only [toD, Option.some.injEq] at e; subst e; exact .int b
    | str b => simp only [toD, Option.some.injEq] at e; subst e; exact .str b
    | @tup vs ws a ta rs =>
      simp only [toD] at e
      cases q : toDs n h vs with
      | none => rw [q] at e; cases e
      | some ds =>
        rw [q] at e
        cases e
        exact .tup ta.sq (toDs_dp r n rs q (by simpa [noD] using nd))
    | @ref i a qa =>
      obtain ⟨o, ho, ro⟩ := r.obj qa
      simp only [toD, ho] at e
      cases o with
      | lst vs =>
        obtain ⟨ws, g1, g2⟩ := ro
        cases q : toDs n h vs with
        | none => simp only [q] at e; cases e
        | some ds =>
          simp only [q, Option.map_some, Option.some.injEq] at e
          subst e
          exact .lst (.inl (.inl g1)) (toDs_dp r n g2 q (by simpa [noD] using nd))
      | fro vs =>
        obtain ⟨ob, ws, g1, g2⟩ := ro
        cases q : toDs n h vs with
        | none => simp only [q] at e; cases e
        | some ds =>
          simp only [q, Option.map_some, Option.some.injEq] at e
          subst e
          exact .lst (.inl (.inr ⟨ob, g1⟩)) (toDs_dp r n g2 q (by simpa [noD] using nd))
      | dct kvs =>
        cases q : toDk n h kvs with
        | none => simp only [q] at e; cases e
        | some ds =>
          simp only [q, Option.map_some, Option.some.injEq] at e
          subst e
          simp [noD] at nd
      | fdc kvs =>
        cases q : toDk n h kvs with
        | none => simp only [q] at e; cases e
        | some ds =>
          simp only [q, Option.map_some, Option.some.injEq] at e
          subst e
          simp [noD] at nd
      | ins C fs => cases e
      | dead => cases e
    | ty m => simp [toD] at e
    | gl m => simp [toD] at e
theorem toDs_dp {G : Gm} {μ : List Addr} {h : Hh} {H : Hp} (r : HR G μ h H) : ∀ (n : Nat) {vs : List Val} {ws : List V} {ds : List PyData}, RVs G μ H vs ws → toDs n h vs = some ds → noDs ds = true → DpAll G.K H ws ds
  | n, _, _, ds, .nil, e, nd => by simp only [toDs, Option.some.injEq] at e; subst e; exact .nil
  | n, _, _, ds, .cons (v := v) (vs := vs) rv rs, e, nd => by
    simp only [toDs] at e
    cases q1 : toD n h v with
    | none => simp [q1] at e
    | some d =>
      cases q2 : toDs n h vs with
      | none => simp [q1, q2] at e
      | some ds' =>
        simp only [q1, q2, Option.some.injEq] at e
        subst e
        simp only [noDs, Bool.and_eq_true] at nd
        exact .cons (toD_dp r n rv q1 nd.1) (toDs_dp r n rs q2 nd.2)
end
/-- == of data -/
def vEqO (neg : Bool) (x y : Val) (h : Hh) : Res Val := match toD 30 h x, toD 30 h y with
  | some d, some e => if noD d && noD e && SeqAt.shaped d && SeqAt.shaped e then .ok (.bl (if neg then !PyData.eqv d e else PyData.eqv d e)) h else .no
  | _, _ => .no
theorem o_eqO (hu : X.A.units + 64 < cLine) : OpR X (compareOp .Eq) (rM2 (gm X) W0 (vEqO false)) := opr fun pins s τ H x y v u Q μ hh a b I rx ry r ra rb p => by
  unfold vEqO at p
  cases q1 : toD 30 hh a with
  | none => rw [q1] at p; exact p.elim
  | some d =>
    cases q2 : toD 30 hh b with
    | none => rw [q1, q2] at p; exact p.elim
    | some e =>
      rw [q1, q2] at p
      dsimp only at p
      split at p
      · rename_i hc
        simp only [Bool.and_eq_true] at hc
        exact op_eqD hu pins s τ H _ _ v u Q I rx ry ⟨d, e, toD_dp r 30 ra q1 hc.1.1.1, toD_dp r 30 rb q2 hc.1.1.2, hc.1.2, hc.2, p.at r _ (.bl _)⟩
      · exact p.elim
theorem o_neO (hu : X.A.units + 64 < cLine) : OpR X (compareOp .NotEq) (rM2 (gm X) W0 (vEqO true)) := opr fun pins s τ H x y v u Q μ hh a b I rx ry r ra rb p => by
  unfold vEqO at p
  cases q1 : toD 30 hh a with
  | none => rw [q1] at p; exact p.elim
  | some d =>
    cases q2 : toD 30 hh b with
    | none => rw [q1, q2] at p; exact p.elim
    | some e =>
      rw [q1, q2] at p
      dsimp only at p
      split at p
      · rename_i hc
        simp only [Bool.and_eq_true] at hc
        exact op_neD hu pins s τ H _ _ v u Q I rx ry ⟨d, e, toD_dp r 30 ra q1 hc.1.1.1, toD_dp r 30 rb q2 hc.1.1.2, hc.1.2, hc.2, p.at r _ (.bl _)⟩
      · exact p.elim
/-- == of two texts, else of data -/
def strs2 : Val → Val → Option Bool
  | .str a, .str b => some (decide (a = b))
  | _, _ => none
def vEqD (neg : Bool) (x y : Val) (h : Hh) : Res Val := match strs2 x y with
  | some b => .ok (.bl (if neg then !b else b)) h
  | none => vEqO neg x y h
theorem strs2_some {x y : Val} {b : Bool} (e : strs2 x y = some b) : ∃ i j, x = .str i ∧ y = .str j ∧ b = decide (i = j) := by
  cases x with
  | str i =>
    cases y with
    | str j => cases e; exact ⟨i, j, rfl, rfl, rfl⟩
    | _ => cases e
  | _ => cases y <;> cases e
theorem o_eq (hu : X.A.units + 64 < cLine) : OpR X (compareOp .Eq) (rM2 (gm X) W0 (vEqD false)) := opr fun pins s τ H x y v u Q μ hh a b I rx ry r ra rb p => by
  unfold vEqD at p
  cases q : strs2 a b with
  | none => rw [q] at p; exact o_eqO hu pins s τ H x y v u Q I rx ry ⟨μ, hh, a, b, r, ra, rb, p⟩
  | some k =>
    rw [q] at p
    obtain ⟨i, j, rfl, rfl, rfl⟩ := strs2_some q
    cases ra; cases rb
    refine op_eq pins s τ H _ _ v u Q I rx ry ⟨rfl, ?_⟩
    have e : decide (V.str i = V.str j) = decide (i = j) := by by_cases z : i = j <;> simp [z]
    rw [e]
    exact p.at r _ (.bl _)
theorem o_ne (hu : X.A.units + 64 < cLine) : OpR X (compareOp .NotEq) (rM2 (gm X) W0 (vEqD true)) := opr fun pins s τ H x y v u Q μ hh a b I rx ry r ra rb p => by
  unfold vEqD at p
  cases q : strs2 a b with
  | none => rw [q] at p; exact o_neO hu pins s τ H x y v u Q I rx ry ⟨μ, hh, a, b, r, ra, rb, p⟩
  | some k =>
    rw [q] at p
    obtain ⟨i, j, rfl, rfl, rfl⟩ := strs2_some q
    cases ra; cases rb
    refine op_ne pins s τ H _ _ v u Q I rx ry ⟨rfl, ?_⟩
    have e : (!decide (V.str i = V.str j)) = !decide (i = j) := by by_cases z : i = j <;> simp [z]
    rw [e]
    exact p.at r _ (.bl _)
/-! ### is None -/
def isNon : Val → Bool
  | .non => true
  | _ => false
theorem rv_non {G : Gm} {μ : List Addr} {H : Hp} {v : Val} {w : V} (r : RV G μ H v w) : decide (w = .non) = isNon v := by cases r <;> rfl
def vIs (neg : Bool) (x y : Val) (h : Hh) : Res Val := match y with
  | .non => .ok (.bl (if neg then !isNon x else isNon x)) h
  | _ => .no
theorem o_is : OpR X (compareOp .Is) (rM2 (gm X) W0 (vIs false)) := opr fun pins s τ H x y v u Q μ hh a b I rx ry r ra rb p => by
  cases rb with
  | non => exact op_isN pins s τ H _ _ v u Q I rx ry ⟨rfl, by rw [rv_non ra]; exact p.at r _ (.bl _)⟩
  | _ => exact p.elim
theorem o_isNot : OpR X (compareOp .IsNot) (rM2 (gm X) W0 (vIs true)) := opr fun pins s τ H x y v u Q μ hh a b I rx ry r ra rb p => by
  cases rb with
  | non => exact op_notN pins s τ H _ _ v u Q I rx ry ⟨rfl, by rw [rv_non ra]; exact p.at r _ (.bl _)⟩
  | _ => exact p.elim
end
theorem nr_add : ∀ x y h z k, vAdd x y h ≠ .rs z k := fun x y h z k => by unfold vAdd; (repeat' split) <;> simp
theorem nr_sub : ∀ x y h z k, vSub x y h ≠ .rs z k := fun x y h z k => by unfold vSub; (repeat' split) <;> simp
theorem nr_mul : ∀ x y h z k, vMul x y h ≠ .rs z k := fun x y h z k => by unfold vMul; (repeat' split) <;> simp
theorem nr_mod : ∀ x y h z k, vMod x y h ≠ .rs z k := fun x y h z k => by unfold vMod; (repeat' split) <;> simp
theorem nr_div : ∀ x y h z k, vDiv x y h ≠ .rs z k := fun x y h z k => by unfold vDiv; (repeat' split) <;> simp
theorem nr_pow : ∀ x y h z k, vPow x y h ≠ .rs z k := fun x y h z k => by unfold vPow; (repeat' split) <;> simp
theorem nr_neg : ∀ x h z k, vNeg x h ≠ .rs z k := fun x h z k => by unfold vNeg; (repeat' split) <;> simp
theorem nr_ord {fi fs} : ∀ x y h z k, vOrd fi fs x y h ≠ .rs z k := fun x y h z k => by unfold vOrd; (repeat' split) <;> simp
theorem nr_eqd {n} : ∀ x y h z k, vEqD n x y h ≠ .rs z k := fun x y h z k => by unfold vEqD vEqO; (repeat' split) <;> simp
theorem nr_is {n} : ∀ x y h z k, vIs n x y h ≠ .rs z k := fun x y h z k => by unfold vIs; (repeat' split) <;> simp
end U
/-! Layer A, part 7: dicts, subscripts, slices, in, stores, methods of lists and texts. -/
namespace U
open PySem L2

/-! ### dicts -/
def dGet : List (Val × Val) → Val → Option Val
  | [], _ => none
  | (k', v) :: r, k => if keyOf k' = keyOf k then some v else dGet r k
def dPut (kvs : List (Val × Val)) (k v : Val) : List (Val × Val) :=
  if kvs.any (fun kv => decide (keyOf kv.1 = keyOf k)) = true then kvs.map (fun kv => if keyOf kv.1 = keyOf k then (kv.1, v) else kv) else kvs ++ [(k, v)]
section
variable {G : Gm} {μ : List Addr} {H : Hp}
theorem dGet_ok {k : Val} {kk : Key} (hk : keyOf k = some kk) : ∀ {kvs : List (Val × Val)} {kws : List (Key × V)}, RKs G μ H kvs kws →
    (∀ v, dGet kvs k = some v → ∃ w, valV kws kk = some w ∧ RV G μ H v w) ∧ (dGet kvs k = none → valV kws kk = none)
  | _, _, .nil => ⟨fun v e => (nomatch e), fun _ => rfl⟩
  | _, _, .cons (k := k1) (v := v1) (k' := k1') (w := w1) q r t => by
    obtain ⟨i1, i2⟩ := dGet_ok hk t
    unfold dGet
    rw [q, hk]
    by_cases e : k1' = kk
    · subst e
      rw [if_pos rfl, valV_pos rfl]
      exact ⟨fun v z => by cases z; exact ⟨w1, rfl, r⟩, fun z => by cases z⟩
    · rw [if_neg (fun z => e (Option.some.inj z)), valV_neg e]
      exact ⟨i1, i2⟩
theorem dAny_ok {k : Val} {kk : Key} (hk : keyOf k = some kk) : ∀ {kvs : List (Val × Val)} {kws : List (Key × V)}, RKs G μ H kvs kws →
    (kvs.any fun kv => decide (keyOf kv.1 = keyOf k)) = (kws.any fun kv => decide (kv.1 = kk))
  | _, _, .nil => rfl
  | _, _, .cons q r t => by
    rw [List.any_cons, List.any_cons, dAny_ok hk t, q, hk]
    congr 1
    simp
theorem dMap_ok {k v : Val} {w : V} {kk : Key} (hk : keyOf k = some kk) (rv : RV G μ H v w) : ∀ {kvs : List (Val × Val)} {kws : List (Key × V)}, RKs G μ H kvs kws →
    RKs G μ H (kvs.map fun kv => if keyOf kv.1 = keyOf k then (kv.1, v) else kv) (kws.map fun kv => if kv.1 = kk then (kv.1, w) else kv)
  | _, _, .nil => .nil
  | _, _, .cons (k' := k1') q r t => by
    rw [List.map_cons, List.map_cons]
    dsimp only
    rw [q, hk]
    by_cases e : k1' = kk
    · subst e; rw [if_pos rfl, if_pos rfl]; exact .cons q rv (by rw [hk.symm]; exact dMap_ok hk rv t)
    · rw [if_neg (fun z => e (Option.some.inj z)), if_neg e]; exact .cons q r (by rw [hk.symm]; exact dMap_ok hk rv t)
theorem RKs.append : ∀ {a b : List (Val × Val)} {c d : List (Key × V)}, RKs G μ H a c → RKs G μ H b d → RKs G μ H (a ++ b) (c ++ d)
  | _, _, _, _, .nil, s => s
  | _, _, _, _, .cons q r t, s => .cons q r (RKs.append t s)
theorem dPut_ok {k v : Val} {w : V} {kk : Key} (hk : keyOf k = some kk) (rv : RV G μ H v w) {kvs : List (Val × Val)} {kws : List (Key × V)} (r : RKs G μ H kvs kws) : RKs G μ H (dPut kvs k v) (putK kws kk w) := by
  unfold dPut putK
  rw [dAny_ok hk r]
  split
  · exact dMap_ok hk rv r
  · exact r.append (.cons hk rv .nil)
end

/-! ### subscripts -/
def vIx (x y : Val) (h : Hh) : Res Val := match x with
  | .tup vs => (match y with
    | .int i => (match atI vs i with | some v => .ok v h | none => .no)
    | _ => .no)
  | .str z => (match y with
    | .int i => if z.length ≤ sizeLine then (match atI z.cps.toList i with | some c => .ok (.str ⟨#[c]⟩) h | none => .no) else .no
    | _ => .no)
  | .ref n => (match h[n]? with
    | some (.lst vs) => (match y with
      | .int i => (match atI vs i with | some v => .ok v h | none => .no)
      | _ => .no)
    | some (.fro vs) => (match y with
      | .int i => (match atI vs i with | some v => .ok v h | none => .no)
      | _ => .no)
    | some (.dct kvs) => (match keyOf y with
      | some _ => (match dGet kvs y with | some v => .ok v h | none => .no)
      | none => .no)
    | some (.fdc kvs) => (match keyOf y with
      | some _ => (match dGet kvs y with | some v => .ok v h | none => .no)
      | none => .no)
    | _ => .no)
  | _ => .no
theorem nr_ix : ∀ x y h z k, vIx x y h ≠ .rs z k := fun x y h z k => by unfold vIx; (repeat' split) <;> simp
theorem RVs.atI {G : Gm} {μ : List Addr} {H : Hp} {vs : List Val} {ws : List V} {i : Int} {v : Val} (r : RVs G μ H vs ws) (e : L2.atI vs i = some v) : ∃ w, L2.atI ws i = some w ∧ RV G μ H v w := by
  unfold L2.atI at e ⊢
  rw [← r.length]
  cases q : ixN vs.length i with
  | none => rw [q] at e; cases e
  | some j =>
    rw [q] at e
    exact r.get e
section
variable {X : Cx} {W : WX} {a b e : Expr} {ma mb : ME} {pos : Pos}
theorem ix_dict (hu : X.A.units + 1 < cLine) : IxR X (fun x y H Q => ∃ d v, x = .ref d ∧ DGet H d y (some v) ∧ Q v H) := by
  intro value slice pins s σ H x y v u Q I rx ry h hs
  obtain ⟨d, w, rfl, g, q⟩ := h
  cases rx
  exact PyProof.Rows.tail_any (dict_typeIs I g) PySem.F.slot_dict_getitem.lookup (d_getItem hu I g ry fun w' s' I' r' => ⟨w, H, I', r', q⟩) hs
theorem ix_any (hu : X.A.units + 1 < cLine) : IxR X (rM2 (gm X) W0 vIx) := by
  intro value slice pins s τ H x y v u Q I rx ry ⟨μ, hh, c, d, r, rc, rd, p⟩ hs
  unfold vIx at p
  cases rc with
  | @tup vs ws a1 t1 rs1 =>
    cases rd with
    | int i =>
      dsimp only at p
      cases q : atI vs i with
      | none => rw [q] at p; exact p.elim
      | some z =>
        rw [q] at p
        obtain ⟨w, q1, q2⟩ := rs1.atI q
        exact ix_tup value slice pins s τ H _ _ v u Q I rx ry ⟨a1, ws, i, w, rfl, rfl, t1.sq, q1, p.at r _ q2⟩ hs
    | _ => exact p.elim
  | str z =>
    cases rd with
    | int i =>
      dsimp only at p
      split at p
      · cases q : atI z.cps.toList i with
        | none => rw [q] at p; exact p.elim
        | some cc =>
          rw [q] at p
          exact ix_str value slice pins s τ H _ _ v u Q I rx ry ⟨z, i, cc, rfl, rfl, by assumption, q, p.at r _ (.str _)⟩ hs
      · exact p.elim
    | _ => exact p.elim
  | @ref n a1 q1 =>
    obtain ⟨o, ho, ro⟩ := r.obj q1
    dsimp only at p
    rw [ho] at p
    cases o with
    | lst vs =>
      obtain ⟨ws, g1, g2⟩ := ro
      cases rd with
      | int i =>
        dsimp only at p
        cases q : atI vs i with
        | none => rw [q] at p; exact p.elim
        | some z =>
          rw [q] at p
          obtain ⟨w, k1, k2⟩ := g2.atI q
          exact ix_list value slice pins s τ H _ _ v u Q I rx ry ⟨a1, ws, i, w, rfl, rfl, .inl (.inl g1), k1, p.at r _ k2⟩ hs
      | _ => exact p.elim
    | fro vs =>
      obtain ⟨ob, ws, g1, g2⟩ := ro
      cases rd with
      | int i =>
        dsimp only at p
        cases q : atI vs i with
        | none => rw [q] at p; exact p.elim
        | some z =>
          rw [q] at p
          obtain ⟨w, k1, k2⟩ := g2.atI q
          exact ix_list value slice pins s τ H _ _ v u Q I rx ry ⟨a1, ws, i, w, rfl, rfl, .inl (.inr ⟨ob, g1⟩), k1, p.at r _ k2⟩ hs
      | _ => exact p.elim
    | dct kvs =>
      obtain ⟨kws, g1, g2⟩ := ro
      dsimp only at p
      cases qk : keyOf d with
      | none => rw [qk] at p; exact p.elim
      | some kk =>
        rw [qk] at p
        dsimp only at p
        cases q : dGet kvs d with
        | none => rw [q] at p; exact p.elim
        | some z =>
          rw [q] at p
          obtain ⟨w, k1, k2⟩ := (dGet_ok qk g2).1 z q
          have ey : y = kV kk := by
            cases d with
            | int i => cases qk; cases rd; rfl
            | str i => cases qk; cases rd; rfl
            | _ => cases qk
          exact ix_dict hu value slice pins s τ H _ _ v u Q I rx ry ⟨a1, w, rfl, .inl ⟨kws, kk, .inl g1, ey, k1.symm⟩, p.at r _ k2⟩ hs
    | fdc kvs =>
      obtain ⟨ob, kws, g1, g2⟩ := ro
      dsimp only at p
      cases qk : keyOf d with
      | none => rw [qk] at p; exact p.elim
      | some kk =>
        rw [qk] at p
        dsimp only at p
        cases q : dGet kvs d with
        | none => rw [q] at p; exact p.elim
        | some z =>
          rw [q] at p
          obtain ⟨w, k1, k2⟩ := (dGet_ok qk g2).1 z q
          have ey : y = kV kk := by
            cases d with
            | int i => cases qk; cases rd; rfl
            | str i => cases qk; cases rd; rfl
            | _ => cases qk
          exact ix_dict hu value slice pins s τ H _ _ v u Q I rx ry ⟨a1, w, rfl, .inl ⟨kws, kk, .inr ⟨ob, g1⟩, ey, k1.symm⟩, p.at r _ k2⟩ hs
    | ins C fs => exact p.elim
    | dead => exact p.elim
  | _ => exact p.elim
theorem s_ix {k : Nat} (c : Cok X W k) (ha : CE X W a ma) (hb : CE X W b mb) (hs : PlainIx b := by exact fun _ _ => rfl) : CE X W (.Subscript a b pos) (mOp vIx ma mb) :=
  s_two (pe_ix (ix_any c.hu) ha hb hs) fun τ x y H Q ⟨μ, h, u, v, r1, r2, r3, p⟩ => ⟨μ, h, u, v, r1, r2, r3, ps_nv p (nr_ix u v h)⟩
/-! ### slices -/
abbrev MP := Loc → Hh → Res (Option Int)
def mpNo : MP := fun _ h => .ok none h
def mpE (m : ME) : MP := fun σ h => (m σ h).bind fun v h1 => match v with
  | .int i => .ok (some i) h1
  | _ => .no
def tMP (G : Gm) (W : WX) (m : MP) : St → Hp → (Option Int → Hp → Prop) → Prop := fun τ H Q => ∃ μ σ h, LR G μ H σ τ ∧ HR G μ h H ∧ Ps G (WE W τ) μ H (m σ h) (fun o _ _ H' => Q o H')
def cutL {α : Type} (xs : List α) (lo hi : Option Int) : List α := (xs.drop (HT.sIx xs.length 0 lo)).take (HT.sIx xs.length xs.length hi - HT.sIx xs.length 0 lo)
def vSl (x : Val) (lo hi : Option Int) (h : Hh) : Res Val := match x with
  | .tup vs => .ok (.tup (cutL vs lo hi)) h
  | .str z => if z.length ≤ sizeLine then .ok (.str (cutS z lo hi)) h else .no
  | .ref n => match h[n]? with
    | some (.lst vs) => .ok (.ref h.length) (h ++ [.lst (cutL vs lo hi)])
    | some (.fro vs) => .ok (.ref h.length) (h ++ [.lst (cutL vs lo hi)])
    | _ => .no
  | _ => .no
def mSl (a : ME) (lo hi : MP) : ME := fun σ h => (a σ h).bind fun x h1 => (lo σ h1).bind fun l h2 => (hi σ h2).bind fun u h3 => vSl x l u h3
theorem RVs.cut {G : Gm} {μ : List Addr} {H : Hp} {vs : List Val} {ws : List V} (r : RVs G μ H vs ws) (lo hi : Option Int) : RVs G μ H (cutL vs lo hi) (cutV ws lo hi) := by
  unfold cutL cutV; rw [r.length]; exact (r.drop _).take _
theorem sl_any : SlR X (fun x lo hi H Q => ∃ μ h v, HR (gm X) μ h H ∧ RV (gm X) μ H v x ∧ Ps (gm X) W0 μ H (vSl v lo hi h) (qV (gm X) Q)) := by
  intro pins s τ H x v vl vu lo hi sl Q I rx hs pl pu ⟨μ, hh, c, r, rc, p⟩
  unfold vSl at p
  cases rc with
  | @tup vs ws a1 t1 rs1 =>
    dsimp only at p
    refine sl_tupA pins s τ H _ v vl vu lo hi sl Q I rx hs pl pu ⟨a1, ws, rfl, t1.sq, fun hc => ?_, fun _ => lay_tup r (rs1.cut lo hi) p⟩
    have e : cutL vs lo hi = vs := by
      unfold cutL
      rw [rs1.length, hc.1, hc.2, ← rs1.length]; simp
    rw [e] at p
    exact p.at r _ (.tup t1 rs1)
  | str z =>
    dsimp only at p
    split at p
    · exact sl_str pins s τ H _ v vl vu lo hi sl Q I rx hs pl pu ⟨z, rfl, by assumption, p.at r _ (.str _)⟩
    · exact p.elim
  | @ref n a1 q1 =>
    obtain ⟨o, ho, ro⟩ := r.obj q1
    dsimp only at p
    rw [ho] at p
    cases o with
    | lst vs => obtain ⟨ws, g1, g2⟩ := ro; exact sl_list pins s τ H _ v vl vu lo hi sl Q I rx hs pl pu ⟨a1, ws, rfl, .inl (.inl g1), lay_lst r (g2.cut lo hi) p⟩
    | fro vs => obtain ⟨ob, ws, g1, g2⟩ := ro; exact sl_list pins s τ H _ v vl vu lo hi sl Q I rx hs pl pu ⟨a1, ws, rfl, .inl (.inr ⟨ob, g1⟩), lay_lst r (g2.cut lo hi) p⟩
    | _ => exact p.elim
  | _ => exact p.elim
theorem p_no : PO X none (tMP (gm X) W mpNo) := ⟨fun pins s τ H Q I ⟨μ, σ, h, l, r, p⟩ => po_none.run pins s τ H Q I (p.at r)⟩
theorem p_e (he : CE X W e ma) : PO X (some e) (tMP (gm X) W (mpE ma)) := ⟨fun pins s τ H Q I ⟨μ, σ, h, l, r, p⟩ => (po_some he).run pins s τ H Q I ⟨μ, σ, h, l, r, by
  refine (Ps.bind p).imp fun x μ1 h1 H1 p1 e1 r1 q1 w rw1 => ?_
  cases rw1 with
  | int i => exact ⟨i, rfl, q1.at r1⟩
  | _ => exact q1.elim⟩⟩
theorem s_sl {lo hi : Option Expr} {ml mh : MP} {p2 : Pos} (he : CE X W e ma) (hl : PO X lo (tMP (gm X) W ml)) (hu : PO X hi (tMP (gm X) W mh)) : CE X W (.Subscript e (.Slice lo hi none p2) pos) (mSl ma ml mh) := by
  refine peI (pe_slice sl_any he hl hu) fun τ H Q ⟨μ, σ, h, l, r, p⟩ => ⟨μ, σ, h, l, r, ?_⟩
  refine (Ps.bind p).imp fun x μ1 h1 H1 p1 e1 r1 q1 w1 rw1 => ⟨μ1, σ, h1, l.mono p1 e1, r1, ?_⟩
  refine (Ps.bind q1).imp fun lo μ2 h2 H2 p2 e2 r2 q2 => ⟨μ2, σ, h2, l.mono (p1.trans p2) (e1.trans e2).et, r2, ?_⟩
  refine (Ps.bind q2).imp fun hi μ3 h3 H3 p3 e3 r3 q3 => ⟨μ3, h3, x, r3, rw1.mono (p2.trans p3) (e2.trans e3).et, ps_nv q3 fun z k => ?_⟩
  unfold vSl; (repeat' split) <;> simp
/-! ### in -/
def flat : Val → Bool
  | .non => true
  | .bl _ => true
  | .int _ => true
  | .str _ => true
  | _ => false
def eqF : Val → Val → Bool
  | .non, .non => true
  | .bl a, .bl b => a == b
  | .bl a, .int b => (if a then 1 else 0) == b
  | .int a, .bl b => a == (if b then 1 else 0)
  | .int a, .int b => a == b
  | .str a, .str b => a == b
  | _, _ => false
def sign? (x : Str) : Option Nat := match x.cps.toList with
  | [c] => some c
  | _ => none
def inSeq (neg : Bool) (x : Val) (ys : List Val) (h : Hh) : Res Val := if flat x && ys.all flat then .ok (.bl (if neg then !(ys.any fun y => eqF y x) else ys.any fun y => eqF y x)) h else .no
def inDeep (neg : Bool) (x y : Val) (h : Hh) : Res Val := match toD 30 h x, toD 30 h y with
  | some d, some (.list ds) => if noD d && noDs ds && SeqAt.shaped d && SeqAt.shaped (.list ds) then .ok (.bl (if neg then !(ds.any fun z => PyData.eqv z d) else ds.any fun z => PyData.eqv z d)) h else .no
  | _, _ => .no
def vIn (neg : Bool) (x y : Val) (h : Hh) : Res Val := match y with
  | .tup ys => inSeq neg x ys h
  | .str z => (match x with
    | .str s => (match sign? s with
      | some c => .ok (.bl (if neg then !decide (c ∈ z.cps.toList) else decide (c ∈ z.cps.toList))) h
      | none => .no)
    | _ => .no)
  | .ref n => (match h[n]? with
    | some (.lst ys) => if flat x && ys.all flat then inSeq neg x ys h else inDeep neg x y h
    | some (.fro ys) => inSeq neg x ys h
    | some (.dct kvs) => (match keyOf x with
      | some _ => .ok (.bl (if neg then !(dGet kvs x).isSome else (dGet kvs x).isSome)) h
      | none => .no)
    | some (.fdc kvs) => (match keyOf x with
      | some _ => .ok (.bl (if neg then !(dGet kvs x).isSome else (dGet kvs x).isSome)) h
      | none => .no)
    | _ => .no)
  | _ => .no
theorem nr_in {n} : ∀ x y h z k, vIn n x y h ≠ .rs z k := fun x y h z k => by unfold vIn inSeq inDeep; (repeat' split) <;> simp
theorem flat_ok {G : Gm} {μ : List Addr} {H : Hp} {v : Val} {w : V} (r : RV G μ H v w) (f : flat v = true) : flatV w = true := by cases r <;> first | rfl | cases f
theorem flats_ok {G : Gm} {μ : List Addr} {H : Hp} : ∀ {vs : List Val} {ws : List V}, RVs G μ H vs ws → vs.all flat = true → ws.all flatV = true
  | _, _, .nil, _ => rfl
  | _, _, .cons r t, f => by
    rw [List.all_cons, Bool.and_eq_true] at f ⊢
    exact ⟨flat_ok r f.1, flats_ok t f.2⟩
theorem eqF_ok {G : Gm} {μ : List Addr} {H : Hp} {v v' : Val} {w w' : V} (r : RV G μ H v w) (r' : RV G μ H v' w') (f : flat v = true) (f' : flat v' = true) : eqV w w' = eqF v v' := by
  cases r <;> cases r' <;> first | rfl | cases f | cases f'
theorem any_ok {G : Gm} {μ : List Addr} {H : Hp} {x : Val} {x' : V} (rx : RV G μ H x x') (fx : flat x = true) : ∀ {vs : List Val} {ws : List V}, RVs G μ H vs ws → vs.all flat = true → inV x' ws = vs.any fun y => eqF y x
  | _, _, .nil, _ => rfl
  | _, _, .cons r t, f => by
    rw [List.all_cons, Bool.and_eq_true] at f
    show (eqV _ x' || inV x' _) = _
    rw [List.any_cons, any_ok rx fx t f.2, eqF_ok r rx f.1 fx]
theorem in_gen {op : CmpOp} {neg : Bool} (hseq : OpR X (compareOp op) (rIn X.K neg)) (hdeep : OpR X (compareOp op) (fun x y H Q => ∃ d ds, Dp X.K H x d ∧ Dp X.K H y (.list ds) ∧ SeqAt.shaped d = true ∧ SeqAt.shaped (.list ds) = true ∧ Q (.bl (if neg then !(ds.any fun z => PyData.eqv z d) else ds.any fun z => PyData.eqv z d)) H))
    (hsign : OpR X (compareOp op) (fun x y H Q => ∃ (c : Nat) (z : Str), x = .str ⟨#[c]⟩ ∧ y = .str z ∧ Q (.bl (if neg then !decide (c ∈ z.cps.toList) else decide (c ∈ z.cps.toList))) H))
    (hd : OpR X (compareOp op) (fun x y H Q => ∃ d o, y = .ref d ∧ DGet H d x o ∧ Q (.bl (if neg then !o.isSome else o.isSome)) H)) : OpR X (compareOp op) (rM2 (gm X) W0 (vIn neg)) := opr fun pins s τ H x y v u Q μ hh a b I rx ry r ra rb p => by
  have seqc : ∀ {ys : List Val} {ws : List V} {p1 : Addr}, RVs (gm X) μ H ys ws → (SqL X.K H p1 ws ∨ SqT X.K H p1 ws) → y = .ref p1 → Ps (gm X) W0 μ H (inSeq neg a ys hh) (qV (gm X) Q) → wpAny (model X.prog X.w) X.A (compareOp op v u) (EP X pins τ Q) X.xe s := fun {ys ws p1} rs sq ey p => by
    unfold inSeq at p
    split at p
    · rename_i hc
      rw [Bool.and_eq_true] at hc
      refine hseq pins s τ H x y v u Q I rx ry ⟨p1, ws, ey, sq, flat_ok ra hc.1, flats_ok rs hc.2, ?_⟩
      rw [any_ok ra hc.1 rs hc.2]
      exact p.at r _ (.bl _)
    · exact p.elim
  have dictc : ∀ {kvs : List (Val × Val)} {kws : List (Key × V)} {p1 : Addr}, RKs (gm X) μ H kvs kws → Rd H p1 (.dK kws) → y = .ref p1 → Ps (gm X) W0 μ H (match keyOf a with | some _ => .ok (.bl (if neg then !(dGet kvs a).isSome else (dGet kvs a).isSome)) hh | none => .no) (qV (gm X) Q) → wpAny (model X.prog X.w) X.A (compareOp op v u) (EP X pins τ Q) X.xe s := fun {kvs kws p1} rk rd ey p => by
    cases qk : keyOf a with
    | none => rw [qk] at p; exact p.elim
    | some kk =>
      rw [qk] at p
      have ex : x = kV kk := by
        cases a with
        | int i => cases qk; cases ra; rfl
        | str i => cases qk; cases ra; rfl
        | _ => cases qk
      refine hd pins s τ H x y v u Q I rx ry ⟨p1, valV kws kk, ey, .inl ⟨kws, kk, rd, ex, rfl⟩, ?_⟩
      have e : (valV kws kk).isSome = (dGet kvs a).isSome := by
        obtain ⟨i1, i2⟩ := dGet_ok qk rk
        cases q : dGet kvs a with
        | none => rw [i2 q]; rfl
        | some z => obtain ⟨w, k1, _⟩ := i1 z q; rw [k1]; rfl
      rw [e]
      exact p.at r _ (.bl _)
  unfold vIn at p
  cases rb with
  | @tup ys ws a1 t1 rs1 => exact seqc rs1 (.inr t1.sq) rfl p
  | str z =>
    cases ra with
    | str q =>
      dsimp only at p
      cases es : sign? q with
      | none => rw [es] at p; exact p.elim
      | some c =>
        rw [es] at p
        have eq : q = ⟨#[c]⟩ := by
          unfold sign? at es
          split at es
          · rename_i c' hq
            cases es
            cases q with
            | mk cps => simp at hq; congr 1; exact Array.toList_inj.mp hq
          · cases es
        exact hsign pins s τ H _ _ v u Q I rx ry ⟨c, z, by rw [eq], rfl, p.at r _ (.bl _)⟩
    | _ => exact p.elim
  | @ref n a1 q1 =>
    obtain ⟨o, ho, ro⟩ := r.obj q1
    dsimp only at p
    rw [ho] at p
    cases o with
    | lst vs =>
      obtain ⟨ws, g1, g2⟩ := ro
      dsimp only at p
      split at p
      · exact seqc g2 (.inl (.inl (.inl g1))) rfl p
      · unfold inDeep at p
        cases e1 : toD 30 hh a with
        | none => rw [e1] at p; exact p.elim
        | some d =>
          cases e2 : toD 30 hh (.ref n) with
          | none => rw [e1, e2] at p; exact p.elim
          | some dl =>
            rw [e1, e2] at p
            cases dl with
            | list ds =>
              dsimp only at p
              split at p
              · rename_i hc
                simp only [Bool.and_eq_true] at hc
                exact hdeep pins s τ H _ _ v u Q I rx ry ⟨d, ds, toD_dp r 30 ra e1 hc.1.1.1, toD_dp r 30 (.ref q1) e2 (by simpa [noD] using hc.1.1.2), hc.1.2, hc.2, p.at r _ (.bl _)⟩
              · exact p.elim
            | _ => exact p.elim
    | fro vs => obtain ⟨ob, ws, g1, g2⟩ := ro; exact seqc g2 (.inl (.inl (.inr ⟨ob, g1⟩))) rfl p
    | dct kvs => obtain ⟨kws, g1, g2⟩ := ro; exact dictc g2 (.inl g1) rfl p
    | fdc kvs => obtain ⟨ob, kws, g1, g2⟩ := ro; exact dictc g2 (.inr ⟨ob, g1⟩) rfl p
    | ins C fs => exact p.elim
    | dead => exact p.elim
  | _ => exact p.elim
theorem o_in (h1 : X.A.units + 1 < cLine) (hu : X.A.units + 65 < cLine) : OpR X (compareOp .In) (rM2 (gm X) W0 (vIn false)) :=
  in_gen op_in_seq (op_inD hu) op_in_sign (fun pins s σ H x y v u Q I rx ry ⟨d, o, ey, g, q⟩ => by subst ey; cases ry; exact d_in h1 I g rx fun s' I' => ⟨.bl o.isSome, H, I', rfl, q⟩)
theorem o_notIn (h1 : X.A.units + 1 < cLine) (hu : X.A.units + 65 < cLine) : OpR X (compareOp .NotIn) (rM2 (gm X) W0 (vIn true)) :=
  in_gen op_notIn_seq (op_notInD hu) op_notIn_sign (fun pins s σ H x y v u Q I rx ry ⟨d, o, ey, g, q⟩ => by subst ey; cases ry; exact d_notIn h1 I g rx fun s' I' => ⟨.bl (!o.isSome), H, I', rfl, q⟩)
end
end U
/-! Layer A, part 8: stores, displays of dicts, methods, built-in functions. -/
namespace U
open PySem L2

/-! ### o[i] = v -/
def vSet (o i v : Val) (h : Hh) : Option Hh := match o with
  | .ref n => (match h[n]? with
    | some (.dct kvs) => (match keyOf i with
      | some _ => if kvs.length < sizeLine then some (h.set n (.dct (dPut kvs i v))) else none
      | none => none)
    | some (.lst vs) => (match i with
      | .int k => (match ixN vs.length k with | some j => some (h.set n (.lst (vs.set j v))) | none => none)
      | _ => none)
    | _ => none)
  | _ => none
def mgSub (mo mi : ME) : MG := fun v σ h => match mo σ h with
  | .ok o h1 => (match mi σ h1 with
    | .ok i h2 => (match vSet o i v h2 with
      | some h3 => .nx σ h3
      | none => .no)
    | _ => .no)
  | _ => .no
theorem plain_sub (mo mi : ME) : Plain (mgSub mo mi) := fun v σ h => by
  unfold mgSub
  (repeat' split) <;> first | exact .inl ⟨_, _, rfl⟩ | exact .inr rfl
section
variable {X : Cx} {W : WX} {k : Nat} {o i e : Expr} {mo mi ma : ME} {mm : MA} {es : List Expr} {pos apos cpos p : Pos} {x : Str}
theorem set_any (hu : X.A.units + 1 < cLine) : PSet X (fun o i v H Q => ∃ μ h a b c h', HR (gm X) μ h H ∧ RV (gm X) μ H a o ∧ RV (gm X) μ H b i ∧ RV (gm X) μ H c v ∧ vSet a b c h = some h' ∧ ∀ H', Ex H H' → HR (gm X) μ h' H' → Q H') := by
  intro pins s τ H o i v ov iv u Q I ro ri rv ⟨μ, hh, a, b, c, h', r, ra, rb, rc, e, q⟩
  unfold vSet at e
  cases ra with
  | @ref n a1 q1 =>
    obtain ⟨ob, ho, rob⟩ := r.obj q1
    dsimp only at e
    rw [ho] at e
    cases ob with
    | dct kvs =>
      obtain ⟨kws, g1, g2⟩ := rob
      dsimp only at e
      cases qk : keyOf b with
      | none => rw [qk] at e; cases e
      | some kk =>
        rw [qk] at e
        dsimp only at e
        split at e
        · rename_i hl
          cases e
          have ei : i = kV kk := by
            cases b with
            | int i => cases qk; cases rb; rfl
            | str i => cases qk; cases rb; rfl
            | _ => cases qk
          cases ro
          have ex : Ex H (upd H a1 (.dK (putK kws kk v))) := Ex.put g1 (fun _ z => nomatch z) fun _ _ z => nomatch z
          refine d_setItem hu I (.inl ⟨kws, kk, g1, ei, by rw [← g2.length]; exact hl, rfl⟩) ri rv fun s' I' => ⟨_, I', q _ ex (r.put q1 g1 (fun _ z => nomatch z) ⟨_, upd_same, (dPut_ok qk rc g2).mono (List.prefix_refl _) ex⟩)⟩
        · cases e
    | lst vs =>
      obtain ⟨ws, g1, g2⟩ := rob
      cases rb with
      | int kk =>
        dsimp only at e
        cases qj : ixN vs.length kk with
        | none => rw [qj] at e; cases e
        | some j =>
          rw [qj] at e
          cases e
          have ex : Ex H (upd H a1 (.lst (ws.set j v))) := Ex.put g1 (fun _ z => nomatch z) fun _ _ z => nomatch z
          exact set_list pins s τ H _ _ _ ov iv u Q I ro ri rv ⟨a1, ws, kk, j, rfl, rfl, g1, by rw [← g2.length]; exact qj, q _ ex (r.put q1 g1 (fun _ z => nomatch z) ⟨_, upd_same, (g2.set rc j).mono (List.prefix_refl _) ex⟩)⟩
      | _ => cases e
    | _ => cases e
  | _ => cases e
theorem g_sub (c : Cok X W k) (ho : CE X WN o mo) (hi : CE X WN i mi) (ha : ∀ v, assign (.Subscript o i pos) X.env v = (do
      let ov ← holding [v] (eval o X.env)
      let iv ← holding [v, ov] (eval i X.env)
      standAt pos
      holding [v, ov, iv] (setItem ov iv v)
      release [v, ov, iv] []) := by intro _; rfl) : CG X (.Subscript o i pos) (mgSub mo mi) := by
  refine pgI (pg_sub ho hi (set_any c.hu) ha) fun w τ H Q ⟨μ, σ, h, v, l, r, rv, p⟩ => ⟨μ, σ, h, l, r, ?_⟩
  unfold mgSub at p
  cases e1 : mo σ h with
  | no => rw [e1] at p; exact p.elim
  | rs x h1 => rw [e1] at p; exact p.elim
  | ok a h1 =>
    rw [e1] at p
    dsimp only at p
    intro μ1 H1 p1 x1 r1 w1 rw1
    refine ⟨μ1, σ, h1, l.mono p1 x1, r1, ?_⟩
    cases e2 : mi σ h1 with
    | no => rw [e2] at p; exact p.elim
    | rs x h1 => rw [e2] at p; exact p.elim
    | ok b h2 =>
      rw [e2] at p
      dsimp only at p
      intro μ2 H2 p2 x2 r2 w2 rw2
      cases e3 : vSet a b v h2 with
      | none => rw [e3] at p; exact p.elim
      | some h3 =>
        rw [e3] at p
        exact ⟨μ2, h2, a, b, v, h3, r2, rw1.mono p2 x2, rw2, rv.mono (p1.trans p2) (x1.trans x2).et, e3, fun H' ex rr => p μ2 H' τ (p1.trans p2) ((x1.trans x2).trans ex) rr (l.mono (p1.trans p2) ((x1.trans x2).trans ex).et)⟩
/-- the context without exceptions: parts of targets -/
theorem Cok.wn (c : Cok X W k) : Cok X WN k := ⟨takes0, c.rm, c.gu, c.po, c.calm, c.nd⟩

/-! ### a call of a built-in -/
theorem s_blt {id : String} {F : Fn} (hc : CallR X (.builtin id) (rMs (gm X) W0 F)) (hn : ∀ vs h z k, F vs h ≠ .rs z k) (hm : X.mg x = none) (hv : bootBuiltins x = some (.builtin id)) (ha : CA X W (e :: es) mm) (hg : Gl X x := by rfl) (hnn : x ≠ "__name__" := by decide) (hdb : (x == ("__debug__" : Str)) = false := by decide)
    (he : starEach (e :: es) X.env = (false, eval e X.env) :: starEach es X.env := by rfl) (hpl : (backTo pos (starEach es X.env)).any (·.1) = false := by rfl) : CE X W (.Call (.Name x p) (e :: es) [] pos) (mApp F mm) := by
  refine peI (pe_callB hc hg hm hv ha hnn hdb he hpl) fun τ H Q ⟨μ, σ, h, l, r, p⟩ => ⟨μ, σ, h, l, r, ?_⟩
  exact (Ps.bind p).imp fun xs μ1 h1 H1 p1 e1 r1 q1 ws rws => ⟨μ1, h1, xs, r1, rws, ps_nv q1 (hn xs h1)⟩
theorem s_typ {T : String} {F : Fn} (hc : CallR X (.type T) (rMs (gm X) W0 F)) (hn : ∀ vs h z k, F vs h ≠ .rs z k) (hm : X.mg x = none) (hv : bootBuiltins x = some (.type T)) (ha : CA X W (e :: es) mm) (hg : Gl X x := by rfl) (hnn : x ≠ "__name__" := by decide) (hdb : (x == ("__debug__" : Str)) = false := by decide)
    (he : starEach (e :: es) X.env = (false, eval e X.env) :: starEach es X.env := by rfl) (hpl : (backTo pos (starEach es X.env)).any (·.1) = false := by rfl) : CE X W (.Call (.Name x p) (e :: es) [] pos) (mApp F mm) := by
  refine peI (pe_callTy hc hg hm hv ha hnn hdb he hpl) fun τ H Q ⟨μ, σ, h, l, r, p⟩ => ⟨μ, σ, h, l, r, ?_⟩
  exact (Ps.bind p).imp fun xs μ1 h1 H1 p1 e1 r1 q1 ws rws => ⟨μ1, h1, xs, r1, rws, ps_nv q1 (hn xs h1)⟩
theorem cr1 {f : Value} {F : Fn} (h : ∀ (pins : List (Addr × Obj)) (s : Shared) (τ : St) (H : Hp) (x : V) (us : List Value) (Q : VK) (μ : List Addr) (hh : Hh) (a : Val), L2.Inv X pins τ H s → Vals [x] us → HR (gm X) μ hh H → RV (gm X) μ H a x → Ps (gm X) W0 μ H (F [a] hh) (qV (gm X) Q) →
    wpAny (model X.prog X.w) X.A (call f us) (EP X pins τ Q) X.xe s) (h0 : ∀ hh, F [] hh = .no) (h2 : ∀ a b c hh, F (a :: b :: c) hh = .no) : CallR X f (rMs (gm X) W0 F) := fun pins s τ H xs us Q I rx ⟨μ, hh, vs, r, rv, p⟩ => by
  cases rv with
  | nil => rw [h0] at p; exact p.elim
  | cons a t =>
    cases t with
    | nil => exact h pins s τ H _ us Q μ hh _ I rx r a p
    | cons b t => rw [h2] at p; exact p.elim
theorem cr2 {f : Value} {F : Fn} (h : ∀ (pins : List (Addr × Obj)) (s : Shared) (τ : St) (H : Hp) (x y : V) (us : List Value) (Q : VK) (μ : List Addr) (hh : Hh) (a b : Val), L2.Inv X pins τ H s → Vals [x, y] us → HR (gm X) μ hh H → RV (gm X) μ H a x → RV (gm X) μ H b y → Ps (gm X) W0 μ H (F [a, b] hh) (qV (gm X) Q) →
    wpAny (model X.prog X.w) X.A (call f us) (EP X pins τ Q) X.xe s) (h0 : ∀ hh, F [] hh = .no) (h1 : ∀ a hh, F [a] hh = .no) (h2 : ∀ a b c d hh, F (a :: b :: c :: d) hh = .no) : CallR X f (rMs (gm X) W0 F) := fun pins s τ H xs us Q I rx ⟨μ, hh, vs, r, rv, p⟩ => by
  cases rv with
  | nil => rw [h0] at p; exact p.elim
  | cons a t =>
    cases t with
    | nil => rw [h1] at p; exact p.elim
    | cons b t =>
      cases t with
      | nil => exact h pins s τ H _ _ us Q μ hh _ _ I rx r a b p
      | cons c t => rw [h2] at p; exact p.elim
/-! len -/
def vLen : Fn := fun vs h => match vs with
  | [.str z] => if z.length ≤ sizeLine then .ok (.int (z.length : Nat)) h else .no
  | [.tup ws] => .ok (.int (ws.length : Nat)) h
  | [.ref n] => (match h[n]? with
    | some (.lst ws) => .ok (.int (ws.length : Nat)) h
    | some (.fro ws) => .ok (.int (ws.length : Nat)) h
    | some (.dct ws) => .ok (.int (ws.length : Nat)) h
    | _ => .no)
  | _ => .no
theorem nr_len : ∀ vs h z k, vLen vs h ≠ .rs z k := fun x h z k => by unfold vLen; (repeat' split) <;> simp
theorem c_len : CallR X (.builtin "len") (rMs (gm X) W0 vLen) := cr1 (fun pins s τ H x us Q μ hh a I rx r ra p => by
  unfold vLen at p
  cases ra with
  | str z =>
    dsimp only at p
    split at p
    · exact call_len pins s τ H _ us Q I rx ⟨_, _, rfl, ⟨by assumption, rfl⟩, p.at r _ (.int _)⟩
    · exact p.elim
  | @tup vs ws a1 t1 rs1 => exact call_len pins s τ H _ us Q I rx ⟨_, _, rfl, .inr ⟨ws, t1.sq, rfl⟩, by rw [← rs1.length]; exact p.at r _ (.int _)⟩
  | @ref n a1 q1 =>
    obtain ⟨o, ho, ro⟩ := r.obj q1
    dsimp only at p
    rw [ho] at p
    cases o with
    | lst vs => obtain ⟨ws, g1, g2⟩ := ro; exact call_len pins s τ H _ us Q I rx ⟨_, _, rfl, .inl ⟨ws, .inl (.inl g1), rfl⟩, by rw [← g2.length]; exact p.at r _ (.int _)⟩
    | fro vs => obtain ⟨ob, ws, g1, g2⟩ := ro; exact call_len pins s τ H _ us Q I rx ⟨_, _, rfl, .inl ⟨ws, .inl (.inr ⟨ob, g1⟩), rfl⟩, by rw [← g2.length]; exact p.at r _ (.int _)⟩
    | dct vs => obtain ⟨ws, g1, g2⟩ := ro; exact call_lenD pins s τ H _ us Q I rx ⟨a1, ws, rfl, g1, by rw [← g2.length]; exact p.at r _ (.int _)⟩
    | _ => exact p.elim
  | _ => exact p.elim) (fun _ => rfl) (fun a _ _ _ => by cases a <;> rfl)
/-! abs, int, min, max, divmod -/
def vAbs : Fn := fun vs h => match vs with
  | [.int i] => .ok (.int (if i < 0 then -i else i)) h
  | _ => .no
theorem nr_abs : ∀ vs h z k, vAbs vs h ≠ .rs z k := fun x h z k => by unfold vAbs; (repeat' split) <;> simp
theorem c_abs : CallR X (.builtin "abs") (rMs (gm X) W0 vAbs) := cr1 (fun pins s τ H x us Q μ hh a I rx r ra p => by
  cases ra with
  | int i => exact call_abs pins s τ H _ us Q I rx ⟨i, rfl, p.at r _ (.int _)⟩
  | _ => exact p.elim) (fun _ => rfl) (fun a _ _ _ => by cases a <;> rfl)
def vInt : Fn := fun vs h => match vs with
  | [.int i] => .ok (.int i) h
  | [.bl b] => .ok (.int (if b then 1 else 0)) h
  | _ => .no
theorem nr_int : ∀ vs h z k, vInt vs h ≠ .rs z k := fun x h z k => by unfold vInt; (repeat' split) <;> simp
theorem c_int : CallR X (.type "int") (rMs (gm X) W0 vInt) := cr1 (fun pins s τ H x us Q μ hh a I rx r ra p => by
  cases ra with
  | int i => exact call_int1 pins s τ H _ us Q I rx (.inl ⟨i, rfl, p.at r _ (.int _)⟩)
  | bl b => exact call_int1 pins s τ H _ us Q I rx (.inr ⟨b, rfl, p.at r _ (.int _)⟩)
  | _ => exact p.elim) (fun _ => rfl) (fun a _ _ _ => by cases a <;> rfl)
def vMin : Fn := fun vs h => match vs with
  | [.int i, .int j] => .ok (.int (if j < i then j else i)) h
  | _ => .no
theorem nr_min : ∀ vs h z k, vMin vs h ≠ .rs z k := fun x h z k => by unfold vMin; (repeat' split) <;> simp
theorem c_min (hc : X.calm = true) : CallR X (.builtin "min") (rMs (gm X) W0 vMin) := cr2 (fun pins s τ H x y us Q μ hh a b I rx r ra rb p => by
  cases ra with
  | int i =>
    cases rb with
    | int j => exact call_min2 hc pins s τ H _ us Q I rx ⟨i, j, rfl, p.at r _ (.int _)⟩
    | _ => exact p.elim
  | _ => cases rb <;> exact p.elim) (fun _ => rfl) (fun a _ => by cases a <;> rfl) (fun a b _ _ _ => by cases a <;> cases b <;> rfl)
def vMax : Fn := fun vs h => match vs with
  | [.int i, .int j] => .ok (.int (if j > i then j else i)) h
  | _ => .no
theorem nr_max : ∀ vs h z k, vMax vs h ≠ .rs z k := fun x h z k => by unfold vMax; (repeat' split) <;> simp
theorem c_max (hc : X.calm = true) : CallR X (.builtin "max") (rMs (gm X) W0 vMax) := cr2 (fun pins s τ H x y us Q μ hh a b I rx r ra rb p => by
  cases ra with
  | int i =>
    cases rb with
    | int j => exact call_max2 hc pins s τ H _ us Q I rx ⟨i, j, rfl, p.at r _ (.int _)⟩
    | _ => exact p.elim
  | _ => cases rb <;> exact p.elim) (fun _ => rfl) (fun a _ => by cases a <;> rfl) (fun a b _ _ _ => by cases a <;> cases b <;> rfl)
def vDm : Fn := fun vs h => match vs with
  | [.int i, .int j] => if 0 < j ∧ j < 1073741824 then .ok (.tup [.int (i / j), .int (i % j)]) h else .no
  | _ => .no
theorem nr_dm : ∀ vs h z k, vDm vs h ≠ .rs z k := fun x h z k => by unfold vDm; (repeat' split) <;> simp
theorem c_dm : CallR X (.builtin "divmod") (rMs (gm X) W0 vDm) := cr2 (fun pins s τ H x y us Q μ hh a b I rx r ra rb p => by
  cases ra with
  | int i =>
    cases rb with
    | int j =>
      unfold vDm at p; dsimp only at p
      split at p
      · exact call_divmod pins s τ H _ us Q I rx ⟨i, j, rfl, by assumption, lay_tup r (.cons (.int _) (.cons (.int _) .nil)) p⟩
      · exact p.elim
    | _ => exact p.elim
  | _ => cases rb <;> exact p.elim) (fun _ => rfl) (fun a _ => by cases a <;> rfl) (fun a b _ _ _ => by cases a <;> cases b <;> rfl)
/-! list(x), tuple(x) -/
def keysV (kvs : List (Val × Val)) : List Val := kvs.map (·.1)
def vList : Fn := fun vs h => match vs with
  | [.tup ws] => .ok (.ref h.length) (h ++ [.lst ws])
  | [.ref n] => (match h[n]? with
    | some (.lst ws) => .ok (.ref h.length) (h ++ [.lst ws])
    | some (.fro ws) => .ok (.ref h.length) (h ++ [.lst ws])
    | some (.dct kvs) => .ok (.ref h.length) (h ++ [.lst (keysV kvs)])
    | some (.fdc kvs) => .ok (.ref h.length) (h ++ [.lst (keysV kvs)])
    | _ => .no)
  | _ => .no
theorem nr_list : ∀ vs h z k, vList vs h ≠ .rs z k := fun x h z k => by unfold vList; (repeat' split) <;> simp
theorem RKs.keys {G : Gm} {μ : List Addr} {H : Hp} : ∀ {kvs : List (Val × Val)} {kws : List (Key × V)}, RKs G μ H kvs kws → RVs G μ H (keysV kvs) (kws.map fun kv => kV kv.1)
  | _, _, .nil => .nil
  | _, _, .cons q r t => .cons (rv_key q) (RKs.keys t)
theorem RKs.vals {G : Gm} {μ : List Addr} {H : Hp} : ∀ {kvs : List (Val × Val)} {kws : List (Key × V)}, RKs G μ H kvs kws → RVs G μ H (kvs.map (·.2)) (kws.map (·.2))
  | _, _, .nil => .nil
  | _, _, .cons q r t => .cons r (RKs.vals t)
theorem c_list (hc : X.calm = true) : CallR X (.type "list") (rMs (gm X) W0 vList) := cr1 (fun pins s τ H x us Q μ hh a I rx r ra p => by
  unfold vList at p
  cases ra with
  | @tup vs ws a1 t1 rs1 => exact call_list_of pins s τ H _ us Q I rx ⟨a1, ws, rfl, .inr t1.sq, lay_lst r rs1 p⟩
  | @ref n a1 q1 =>
    obtain ⟨o, ho, ro⟩ := r.obj q1
    dsimp only at p
    rw [ho] at p
    cases o with
    | lst vs => obtain ⟨ws, g1, g2⟩ := ro; exact call_list_of pins s τ H _ us Q I rx ⟨a1, ws, rfl, .inl (.inl (.inl g1)), lay_lst r g2 p⟩
    | fro vs => obtain ⟨ob, ws, g1, g2⟩ := ro; exact call_list_of pins s τ H _ us Q I rx ⟨a1, ws, rfl, .inl (.inl (.inr ⟨ob, g1⟩)), lay_lst r g2 p⟩
    | dct vs => obtain ⟨ws, g1, g2⟩ := ro; exact call_listD hc pins s τ H _ us Q I rx ⟨a1, ws, rfl, .inl g1, lay_lst r g2.keys p⟩
    | fdc vs => obtain ⟨ob, ws, g1, g2⟩ := ro; exact call_listD hc pins s τ H _ us Q I rx ⟨a1, ws, rfl, .inr ⟨ob, g1⟩, lay_lst r g2.keys p⟩
    | _ => exact p.elim
  | _ => exact p.elim) (fun _ => rfl) (fun a _ _ _ => by cases a <;> rfl)
def vTuple : Fn := fun vs h => match vs with
  | [.tup ws] => .ok (.tup ws) h
  | [.ref n] => (match h[n]? with
    | some (.lst ws) => .ok (.tup ws) h
    | some (.fro ws) => .ok (.tup ws) h
    | _ => .no)
  | _ => .no
theorem nr_tuple : ∀ vs h z k, vTuple vs h ≠ .rs z k := fun x h z k => by unfold vTuple; (repeat' split) <;> simp
theorem c_tuple : CallR X (.type "tuple") (rMs (gm X) W0 vTuple) := cr1 (fun pins s τ H x us Q μ hh a I rx r ra p => by
  unfold vTuple at p
  cases ra with
  | @tup vs ws a1 t1 rs1 => exact call_tuple_of pins s τ H _ us Q I rx ⟨a1, ws, rfl, .inr ⟨t1.sq, p.at r _ (.tup t1 rs1)⟩⟩
  | @ref n a1 q1 =>
    obtain ⟨o, ho, ro⟩ := r.obj q1
    dsimp only at p
    rw [ho] at p
    cases o with
    | lst vs => obtain ⟨ws, g1, g2⟩ := ro; exact call_tuple_of pins s τ H _ us Q I rx ⟨a1, ws, rfl, .inl ⟨.inl (.inl g1), lay_tup r g2 p⟩⟩
    | fro vs => obtain ⟨ob, ws, g1, g2⟩ := ro; exact call_tuple_of pins s τ H _ us Q I rx ⟨a1, ws, rfl, .inl ⟨.inl (.inr ⟨ob, g1⟩), lay_tup r g2 p⟩⟩
    | _ => exact p.elim
  | _ => exact p.elim) (fun _ => rfl) (fun a _ _ _ => by cases a <;> rfl)
/-! sum, all -/
def intsOf : List Val → Option (List Int)
  | [] => some []
  | .int i :: r => (intsOf r).map (i :: ·)
  | _ => none
def blsOf : List Val → Option (List Bool)
  | [] => some []
  | .bl i :: r => (blsOf r).map (i :: ·)
  | _ => none
theorem intsOf_ok : ∀ {vs : List Val} {ns : List Int}, intsOf vs = some ns → vs = ns.map Val.int
  | [], ns, e => by cases e; rfl
  | .int i :: r, ns, e => by
    unfold intsOf at e
    cases q : intsOf r with
    | none => rw [q] at e; cases e
    | some ms => rw [q] at e; cases e; rw [intsOf_ok q]; rfl
  | .non :: _, _, e => by cases e
  | .bl _ :: _, _, e => by cases e
  | .str _ :: _, _, e => by cases e
  | .tup _ :: _, _, e => by cases e
  | .ref _ :: _, _, e => by cases e
  | .ty _ :: _, _, e => by cases e
  | .gl _ :: _, _, e => by cases e
theorem blsOf_ok : ∀ {vs : List Val} {ns : List Bool}, blsOf vs = some ns → vs = ns.map Val.bl
  | [], ns, e => by cases e; rfl
  | .bl i :: r, ns, e => by
    unfold blsOf at e
    cases q : blsOf r with
    | none => rw [q] at e; cases e
    | some ms => rw [q] at e; cases e; rw [blsOf_ok q]; rfl
  | .non :: _, _, e => by cases e
  | .int _ :: _, _, e => by cases e
  | .str _ :: _, _, e => by cases e
  | .tup _ :: _, _, e => by cases e
  | .ref _ :: _, _, e => by cases e
  | .ty _ :: _, _, e => by cases e
  | .gl _ :: _, _, e => by cases e
@[simp] theorem intsOf_map (ns : List Int) : intsOf (ns.map Val.int) = some ns := by
  induction ns with
  | nil => rfl
  | cons n ns ih => simp [intsOf, ih]
@[simp] theorem blsOf_map (ns : List Bool) : blsOf (ns.map Val.bl) = some ns := by
  induction ns with
  | nil => rfl
  | cons n ns ih => simp [blsOf, ih]
def vSum : Fn := fun vs h => match vs with
  | [.ref n] => (match h[n]? with
    | some (.lst ws) => (match intsOf ws with | some ns => .ok (.int ns.sum) h | none => .no)
    | _ => .no)
  | _ => .no
theorem nr_sum : ∀ vs h z k, vSum vs h ≠ .rs z k := fun x h z k => by unfold vSum; (repeat' split) <;> simp
theorem c_sum (hc : X.calm = true) : CallR X (.builtin "sum") (rMs (gm X) W0 vSum) := cr1 (fun pins s τ H x us Q μ hh a I rx r ra p => by
  unfold vSum at p
  cases ra with
  | @ref n a1 q1 =>
    obtain ⟨o, ho, ro⟩ := r.obj q1
    dsimp only at p
    rw [ho] at p
    cases o with
    | lst vs =>
      obtain ⟨ws, g1, g2⟩ := ro
      dsimp only at p
      cases q : intsOf vs with
      | none => rw [q] at p; exact p.elim
      | some ns =>
        rw [q] at p
        rw [intsOf_ok q] at g2
        exact cr_sum hc pins s τ H _ us Q I rx ⟨a1, ns, rfl, by rw [← g2.ints]; exact .inl (.inl g1), p.at r _ (.int _)⟩
    | _ => exact p.elim
  | _ => exact p.elim) (fun _ => rfl) (fun a _ _ _ => by cases a <;> rfl)
def vAll : Fn := fun vs h => match vs with
  | [.ref n] => (match h[n]? with
    | some (.lst ws) => (match blsOf ws with | some ns => .ok (.bl (ns.all id)) h | none => .no)
    | _ => .no)
  | _ => .no
theorem nr_all : ∀ vs h z k, vAll vs h ≠ .rs z k := fun x h z k => by unfold vAll; (repeat' split) <;> simp
theorem c_all (hc : X.calm = true) : CallR X (.builtin "all") (rMs (gm X) W0 vAll) := cr1 (fun pins s τ H x us Q μ hh a I rx r ra p => by
  unfold vAll at p
  cases ra with
  | @ref n a1 q1 =>
    obtain ⟨o, ho, ro⟩ := r.obj q1
    dsimp only at p
    rw [ho] at p
    cases o with
    | lst vs =>
      obtain ⟨ws, g1, g2⟩ := ro
      dsimp only at p
      cases q : blsOf vs with
      | none => rw [q] at p; exact p.elim
      | some ns =>
        rw [q] at p
        rw [blsOf_ok q] at g2
        exact cr_all hc pins s τ H _ us Q I rx ⟨a1, ns, rfl, by rw [← g2.bls]; exact .inl (.inl g1), p.at r _ (.bl _)⟩
    | _ => exact p.elim
  | _ => exact p.elim) (fun _ => rfl) (fun a _ _ _ => by cases a <;> rfl)
/-! ### methods -/
def isT (T : String) (v : Val) (h : Hh) : Bool := match v with
  | .str _ => T == "str"
  | .ref n => (match h[n]? with
    | some (.lst _) => T == "list"
    | some (.fro _) => T == "list"
    | some (.dct _) => T == "dict"
    | _ => false)
  | _ => false
theorem isT_ok {G : Gm} {μ : List Addr} {h : Hh} {H : Hp} {T : String} {v : Val} {w : V} (r : HR G μ h H) (rv : RV G μ H v w) (e : isT T v h = true) : tyV G.K T w H := by
  unfold isT at e
  cases rv with
  | str x => exact beq_iff_eq.mp e
  | @ref n a q =>
    obtain ⟨o, ho, ro⟩ := r.obj q
    dsimp only at e
    rw [ho] at e
    cases o with
    | lst vs => obtain ⟨ws, g1, g2⟩ := ro; exact .inl ⟨beq_iff_eq.mp e, ws, .inl (.inl g1)⟩
    | fro vs => obtain ⟨ob, ws, g1, g2⟩ := ro; exact .inl ⟨beq_iff_eq.mp e, ws, .inl (.inr ⟨ob, g1⟩)⟩
    | dct vs => obtain ⟨ws, g1, g2⟩ := ro; exact .inr (.inr (.inl ⟨beq_iff_eq.mp e, .inl ⟨ws, g1⟩⟩))
    | _ => cases e
  | _ => cases e
def mMt (T : String) (f : Fn) (a : ME) (m : MA) : ME := fun σ h => (a σ h).bind fun x h1 => if isT T x h1 = true then (m σ h1).bind fun xs h2 => f (x :: xs) h2 else .no
def rMm (G : Gm) (f : Fn) : V → List V → Hp → VK → Prop := fun x' xs' H Q => ∃ μ h x xs, HR G μ h H ∧ RV G μ H x x' ∧ RVs G μ H xs xs' ∧ Ps G W0 μ H (f (x :: xs) h) (qV G Q)
theorem s_mt {T id : String} {name : Str} {f : Fn} (pa : PlainAttrs T) (slot : Slot T name id) (hty : typeOf (.builtin id) = pure (.type "method_descriptor")) (hm : MtR X id (rMm (gm X) f)) (hn : ∀ vs h z k, f vs h ≠ .rs z k) (ho : CE X W o mo) (ha : CA X W (e :: es) mm)
    (hbase : attributeBase o name X.env (eval o X.env) = eval o X.env := by rfl)
    (hfew : ((backTo cpos (starEach (e :: es) X.env)).all (fun x => !x.1) && (backToKw cpos (keywordEach [] X.env)).all (fun x => x.1.isSome)
      && decide ((e :: es).length + ([] : List Keyword).length + (if ([] : List Keyword).isEmpty then 0 else 1) < 30)) = true := by rfl)
    (hline : (apos.endLine == cpos.line) = true := by rfl) (hs : starEach (e :: es) X.env = (false, eval e X.env) :: starEach es X.env := by rfl) (hplain : (backTo cpos (starEach es X.env)).any (·.1) = false := by rfl) :
    CE X W (.Call (.Attribute o name apos) (e :: es) [] cpos) (mMt T f mo mm) := by
  refine peI (pe_bm pa slot hty hm ho ha hbase hfew hline hs hplain) fun τ H Q ⟨μ, σ, h, l, r, p⟩ => ⟨μ, σ, h, l, r, ?_⟩
  refine (Ps.bind p).imp fun x μ1 h1 H1 p1 e1 r1 q1 w1 rw1 => ?_
  split at q1
  · rename_i ht
    refine ⟨isT_ok r1 rw1 ht, μ1, σ, h1, l.mono p1 e1, r1, ?_⟩
    exact (Ps.bind q1).imp fun xs μ2 h2 H2 p2 e2 r2 q2 ws rws => ⟨μ2, h2, x, xs, r2, rw1.mono p2 e2, rws, ps_nv q2 (hn _ h2)⟩
  · exact q1.elim
theorem s_mt0 {T id : String} {name : Str} {f : Fn} (pa : PlainAttrs T) (slot : Slot T name id) (hty : typeOf (.builtin id) = pure (.type "method_descriptor")) (hm : MtR X id (rMm (gm X) f)) (hn : ∀ vs h z k, f vs h ≠ .rs z k) (ho : CE X W o mo)
    (hbase : attributeBase o name X.env (eval o X.env) = eval o X.env := by rfl) (hline : (apos.endLine == cpos.line) = true := by rfl) : CE X W (.Call (.Attribute o name apos) [] [] cpos) (mMt T f mo maNil) := by
  refine peI (pe_bm0 pa slot hty hm ho hbase hline) fun τ H Q ⟨μ, σ, h, l, r, p⟩ => ⟨μ, σ, h, l, r, ?_⟩
  refine (Ps.bind p).imp fun x μ1 h1 H1 p1 e1 r1 q1 w1 rw1 => ?_
  split at q1
  · rename_i ht
    exact ⟨isT_ok r1 rw1 ht, μ1, h1, x, [], r1, rw1, .nil, ps_nv q1 (hn _ h1)⟩
  · exact q1.elim
/-- a changed list -/
theorem put_lst {G : Gm} {μ : List Addr} {h : Hh} {H : Hp} {n : Nat} {a : Addr} {ws ws' : List V} {vs' : List Val} (r : HR G μ h H) (q : μ[n]? = some a) (g : H a = some (.lst ws)) (rs : RVs G μ H vs' ws') : Ex H (upd H a (.lst ws')) ∧ HR G μ (h.set n (.lst vs')) (upd H a (.lst ws')) := by
  have ex : Ex H (upd H a (.lst ws')) := Ex.put g (fun _ z => nomatch z) fun _ _ z => nomatch z
  exact ⟨ex, r.put q g (fun _ z => nomatch z) ⟨ws', upd_same, rs.mono (List.prefix_refl _) ex⟩⟩
def vAppend : Fn := fun vs h => match vs with
  | [.ref n, y] => (match h[n]? with
    | some (.lst ws) => if ws.length < sizeLine then .ok .non (h.set n (.lst (ws ++ [y]))) else .no
    | _ => .no)
  | _ => .no
theorem nr_append : ∀ vs h z k, vAppend vs h ≠ .rs z k := fun x h z k => by unfold vAppend; (repeat' split) <;> simp
theorem m_append : MtR X "list.append" (rMm (gm X) vAppend) := fun pins s τ H x xs v us Q I rx rs ⟨μ, hh, a, as, r, ra, ras, p⟩ => by
  unfold vAppend at p
  cases ra with
  | @ref n a1 q1 =>
    cases ras with
    | nil => exact p.elim
    | cons ry t =>
      cases t with
      | cons _ _ => exact p.elim
      | nil =>
        obtain ⟨o, ho, ro⟩ := r.obj q1
        dsimp only at p
        rw [ho] at p
        cases o with
        | lst vs =>
          obtain ⟨ws, g1, g2⟩ := ro
          dsimp only at p
          split at p
          · rename_i hl
            obtain ⟨ex, hr⟩ := put_lst r q1 g1 (g2.append (.cons ry .nil))
            exact mt_append pins s τ H _ _ v us Q I rx rs ⟨a1, ws, _, rfl, rfl, g1, by rw [← g2.length]; exact hl, p μ _ (List.prefix_refl _) ex hr _ .non⟩
          · exact p.elim
        | _ => exact p.elim
  | _ => cases ras <;> exact p.elim
def vPop : Fn := fun vs h => match vs with
  | [.ref n, .int i] => (match h[n]? with
    | some (.lst ws) => (match seqIndex? i ws.length with
      | some k => (match ws[k]? with
        | some y => if -(2 ^ 63) ≤ i ∧ i < 2 ^ 63 then .ok y (h.set n (.lst (ws.eraseIdx k))) else .no
        | none => .no)
      | none => .no)
    | _ => .no)
  | _ => .no
theorem nr_pop : ∀ vs h z k, vPop vs h ≠ .rs z k := fun x h z k => by unfold vPop; (repeat' split) <;> simp
theorem m_pop : MtR X "list.pop" (rMm (gm X) vPop) := fun pins s τ H x xs v us Q I rx rs ⟨μ, hh, a, as, r, ra, ras, p⟩ => by
  unfold vPop at p
  cases ra with
  | @ref n a1 q1 =>
    cases ras with
    | nil => exact p.elim
    | cons ry t =>
      cases ry with
      | int i =>
        cases t with
        | cons _ _ => exact p.elim
        | nil =>
          obtain ⟨o, ho, ro⟩ := r.obj q1
          dsimp only at p
          rw [ho] at p
          cases o with
          | lst vs =>
            obtain ⟨ws, g1, g2⟩ := ro
            dsimp only at p
            cases qk : seqIndex? i vs.length with
            | none => rw [qk] at p; exact p.elim
            | some k =>
              rw [qk] at p
              dsimp only at p
              cases qy : vs[k]? with
              | none => rw [qy] at p; exact p.elim
              | some y =>
                rw [qy] at p
                dsimp only at p
                split at p
                · rename_i hb
                  obtain ⟨w, k1, k2⟩ := g2.get qy
                  obtain ⟨ex, hr⟩ := put_lst r q1 g1 (g2.eraseIdx k)
                  exact mt_popAt pins s τ H _ _ v us Q I rx rs ⟨a1, ws, i, k, w, rfl, rfl, g1, hb.1, hb.2, by rw [← g2.length]; exact qk, k1, p μ _ (List.prefix_refl _) ex hr _ (k2.mono (List.prefix_refl _) ex)⟩
                · exact p.elim
          | _ => exact p.elim
      | _ => cases t <;> exact p.elim
  | _ => cases ras <;> exact p.elim
/-- sep.join(texts) -/
def strsOf : List Val → Option (List Str)
  | [] => some []
  | .str i :: r => (strsOf r).map (i :: ·)
  | _ => none
theorem strsOf_ok : ∀ {vs : List Val} {ns : List Str}, strsOf vs = some ns → vs = ns.map Val.str
  | [], ns, e => by cases e; rfl
  | .str i :: r, ns, e => by
    unfold strsOf at e
    cases q : strsOf r with
    | none => rw [q] at e; cases e
    | some ms => rw [q] at e; cases e; rw [strsOf_ok q]; rfl
  | .non :: _, _, e => by cases e
  | .int _ :: _, _, e => by cases e
  | .bl _ :: _, _, e => by cases e
  | .tup _ :: _, _, e => by cases e
  | .ref _ :: _, _, e => by cases e
  | .ty _ :: _, _, e => by cases e
  | .gl _ :: _, _, e => by cases e
@[simp] theorem strsOf_map (ns : List Str) : strsOf (ns.map Val.str) = some ns := by
  induction ns with
  | nil => rfl
  | cons n ns ih => simp [strsOf, ih]
def vJoin : Fn := fun vs h => match vs with
  | [.str a, .ref n] => (match h[n]? with
    | some (.lst ws) => (match strsOf ws with
      | some ys => if (ys.map (·.length)).sum + ys.length * a.length ≤ 16777216 then .ok (.str (Txt.join a ys)) h else .no
      | none => .no)
    | _ => .no)
  | _ => .no
theorem nr_join : ∀ vs h z k, vJoin vs h ≠ .rs z k := fun x h z k => by unfold vJoin; (repeat' split) <;> simp
theorem m_join : MtR X "str.join" (rMm (gm X) vJoin) := fun pins s τ H x xs v us Q I rx rs ⟨μ, hh, a, as, r, ra, ras, p⟩ => by
  unfold vJoin at p
  cases ra with
  | str sep =>
    cases ras with
    | nil => exact p.elim
    | cons ry t =>
      cases ry with
      | @ref n a1 q1 =>
        cases t with
        | cons _ _ => exact p.elim
        | nil =>
          obtain ⟨o, ho, ro⟩ := r.obj q1
          dsimp only at p
          rw [ho] at p
          cases o with
          | lst vs =>
            obtain ⟨ws, g1, g2⟩ := ro
            dsimp only at p
            cases q : strsOf vs with
            | none => rw [q] at p; exact p.elim
            | some ys =>
              rw [q] at p
              dsimp only at p
              split at p
              · rename_i hl
                rw [strsOf_ok q] at g2
                exact mt_join pins s τ H _ _ v us Q I rx rs ⟨sep, a1, ys, rfl, rfl, .inl (by rw [← g2.strs]; exact .inl (.inl g1)), hl, p.at r _ (.str _)⟩
              · exact p.elim
          | _ => exact p.elim
      | _ => cases t <;> exact p.elim
  | _ => cases ras <;> exact p.elim
end
end U
/-! Layer A, part 9: own classes: instances, fields, methods, properties. -/
namespace U
open PySem L2

def putFv (f : Str) (v : Val) : List (Str × Val) → List (Str × Val)
  | [] => [(f, v)]
  | (g, x) :: r => if g = f then (g, v) :: r else (g, x) :: putFv f v r
def getFv (f : Str) : List (Str × Val) → Option Val
  | [] => none
  | (g, x) :: r => if g = f then some x else getFv f r
section
variable {G : Gm} {μ : List Addr} {H : Hp}
theorem RFs.put {f : Str} {v : Val} {w : V} (rv : RV G μ H v w) : ∀ {fs : List (Str × Val)} {gs : List (Str × V)}, RFs G μ H fs gs → RFs G μ H (putFv f v fs) (putF f w gs)
  | _, _, .nil => .cons rv .nil
  | _, _, .cons (f := g) r t => by
    unfold putFv putF
    by_cases h : g = f
    · rw [if_pos h, if_pos h]; exact .cons rv t
    · rw [if_neg h, if_neg h]; exact .cons r (RFs.put rv t)
theorem RFs.get {f : Str} : ∀ {fs : List (Str × Val)} {gs : List (Str × V)}, RFs G μ H fs gs → (∀ v, getFv f fs = some v → ∃ w, gs.lookup f = some w ∧ RV G μ H v w) ∧ (getFv f fs = none → gs.lookup f = none)
  | _, _, .nil => ⟨fun v e => (nomatch e), fun _ => rfl⟩
  | _, _, .cons (f := g) (w := w) r t => by
    obtain ⟨i1, i2⟩ := RFs.get (f := f) t
    unfold getFv
    by_cases h : g = f
    · subst h
      rw [if_pos rfl, List.lookup_cons_self]
      exact ⟨fun v e => by cases e; exact ⟨w, rfl, r⟩, fun e => (nomatch e)⟩
    · have hb : (f == g) = false := by simpa using fun z => h z.symm
      rw [if_neg h, List.lookup_cons, hb]
      exact ⟨i1, i2⟩
end
/-- a field of instances of these classes -/
def FldOk (K : PySem.W.Frag) (mg : Str → Option Value) (cs : List Str) (f : Str) : Prop := ∀ C ∈ cs, ∀ Ca, mg C = some (.ref Ca) → Cls K Ca ∧ NoAttr K Ca f
def vFld (cs : List Str) (f : Str) (v : Val) (h : Hh) : Res Val := match v with
  | .ref n => (match h[n]? with
    | some (.ins C fs) => if C ∈ cs then (match getFv f fs with | some v => .ok v h | none => .no) else .no
    | _ => .no)
  | _ => .no
theorem nr_fld {cs f} : ∀ x h z k, vFld cs f x h ≠ .rs z k := fun x h z k => by unfold vFld; (repeat' split) <;> simp
/-- o.f = e -/
def msFld (cs : List Str) (f : Str) (mo mv : ME) : MS := fun σ h => (mv σ h).fl σ fun y h1 => (mo σ h1).fl σ fun x h2 => match x with
  | .ref n => (match h2[n]? with
    | some (.ins C fs) => if C ∈ cs ∧ fs.length < 1000 then .nx σ (h2.set n (.ins C (putFv f y fs))) else .no
    | _ => .no)
  | _ => .no
section
variable {X : Cx} {W : WX} {j k : Nat} {o e value : Expr} {mo ma mv : ME} {mm : MA} {es : List Expr} {pos pos' apos p : Pos} {f x m : Str} {cs : List Str} {F : Fn} {n : Nat}
theorem s_fld (ok : FldOk X.K X.mg cs f) (he : CE X W e ma) (hb : attributeBase e f X.env (eval e X.env) = eval e X.env := by rfl) : CE X W (.Attribute e f pos) (mUn (vFld cs f) ma) := by
  refine peI (pe_fld he hb) fun τ H Q ⟨μ, σ, h, l, r, p⟩ => ⟨μ, σ, h, l, r, ?_⟩
  refine (Ps.bind p).imp fun x μ1 h1 H1 p1 e1 r1 q1 w1 rw1 => ?_
  unfold vFld at q1
  cases rw1 with
  | @ref n a qa =>
    obtain ⟨ob, ho, ro⟩ := r1.obj qa
    dsimp only at q1
    rw [ho] at q1
    cases ob with
    | ins C fs =>
      obtain ⟨Ca, dx, gs, g0, g1, g2⟩ := ro
      dsimp only at q1
      split at q1
      · rename_i hc
        obtain ⟨c1, c2⟩ := ok C hc Ca g0
        cases q : getFv f fs with
        | none => rw [q] at q1; exact q1.elim
        | some v =>
          rw [q] at q1
          obtain ⟨w, k1, k2⟩ := g2.get.1 v q
          exact ⟨a, Ca, dx, gs, w, rfl, g1, c1, c2, k1, q1.at r1 _ k2⟩
      · exact q1.elim
    | _ => exact q1.elim
  | _ => exact q1.elim
theorem t_fld (ok : FldOk X.K X.mg cs f) (ho : CE X W o mo) (hv : CE X W value mv) (hs : swapsWith value (some (.Attribute o f pos')) pos.line X.env = pure false := by rfl) : CS X W (.Assign [.Attribute o f pos'] value pos) (msFld cs f mo mv) := by
  refine psI (ps_fld ho hv hs) fun D τ H ⟨μ, σ, h, l, r, p⟩ => ⟨μ, σ, h, l, r, ?_⟩
  refine (PsF.bind l p).imp fun y μ1 h1 H1 p1 e1 r1 q1 w1 rw1 => ⟨μ1, σ, h1, l.mono p1 e1, r1, ?_⟩
  refine (PsF.bind (l.mono p1 e1) q1).imp fun x μ2 h2 H2 p2 e2 r2 q2 w2 rw2 => ?_
  cases rw2 with
  | @ref n a qa =>
    obtain ⟨ob, hob, ro⟩ := r2.obj qa
    dsimp only at q2
    rw [hob] at q2
    cases ob with
    | ins C fs =>
      obtain ⟨Ca, dx, gs, g0, g1, g2⟩ := ro
      dsimp only at q2
      split at q2
      · rename_i hc
        obtain ⟨c1, c2⟩ := ok C hc.1 Ca g0
        have ex : Ex H2 (upd H2 a (.ins Ca dx (putF f w1 gs))) := Ex.put g1 (fun _ z => nomatch z) fun _ _ z => nomatch z
        refine ⟨a, Ca, dx, gs, rfl, g1, c1, c2, by rw [← g2.length]; exact hc.2, ?_⟩
        exact q2 μ2 _ τ (List.prefix_refl _) ex (r2.put qa g1 (fun _ z => nomatch z) ⟨Ca, dx, _, g0, upd_same, (g2.put (rw1.mono p2 e2)).mono (List.prefix_refl _) ex⟩) (l.mono (p1.trans p2) ((e1.trans e2).trans ex).et)
      · exact q2.elim
    | _ => exact q2.elim
  | _ => exact q2.elim
/-! ### methods -/
/-- a method of the class named C -/
structure MtAt (P : Program) (w : World) (K : PySem.W.Frag) (mg : Str → Option Value) (base : Heap) (C m : Str) (k n : Nat) (F : Fn) : Prop where
  ex : ∃ Ca f fd ps, mg C = some (.ref Ca) ∧ Cls K Ca ∧ Meth K Ca m f ∧ Binds K fd ps [] ∧ FK P w K mg base k f fd ps (spF ⟨K, mg⟩ F n)
/-- o.m(..) of an instance of C -/
def isI (C : Str) (m : Str) (v : Val) (h : Hh) : Bool := match v with
  | .ref n => (match h[n]? with
    | some (.ins D fs) => decide (D = C) && (getFv m fs).isNone
    | _ => false)
  | _ => false
theorem isI_ok {G : Gm} {μ : List Addr} {h : Hh} {H : Hp} {C m : Str} {v : Val} {w : V} {Ca : Addr} (r : HR G μ h H) (rv : RV G μ H v w) (e : isI C m v h = true) (hm : G.mg C = some (.ref Ca)) : ∃ a dx gs, w = .ref a ∧ H a = some (.ins Ca dx gs) ∧ gs.lookup m = none := by
  unfold isI at e
  cases rv with
  | @ref n a qa =>
    obtain ⟨ob, ho, ro⟩ := r.obj qa
    dsimp only at e
    rw [ho] at e
    cases ob with
    | ins D fs =>
      obtain ⟨Da, dx, gs, g0, g1, g2⟩ := ro
      simp only [Bool.and_eq_true, decide_eq_true_eq] at e
      obtain ⟨e1, e2⟩ := e
      subst e1
      rw [hm] at g0; cases g0
      refine ⟨a, dx, gs, rfl, g1, g2.get.2 ?_⟩
      cases q : getFv m fs with
      | none => rfl
      | some z => rw [q] at e2; cases e2
    | _ => cases e
  | _ => cases e
def mMeth (C m : Str) (n : Nat) (F : Fn) (a : ME) (mm : MA) : ME := fun σ h => (a σ h).bind fun x h1 => if isI C m x h1 = true then (mm σ h1).bind fun xs h2 => callF n F (x :: xs) h2 else .no
theorem s_meth {C : Str} {pl : Sem Bool} (c : Cok X W k) (T : MtAt X.prog X.w X.K X.mg X.base C m j n F) (hj : j ≤ k) (ho : CE X W o mo) (ha : CA X W (e :: es) mm)
    (hst : starEach (e :: es) X.env = (false, eval e X.env) :: starEach es X.env := by rfl) (hpl : (backTo pos (starEach es X.env)).any (·.1) = false := by rfl)
    (ht : eval (.Call (.Attribute o m apos) (e :: es) [] pos) X.env = (do
      let ov ← eval o X.env
      standAt apos.atName
      let (f, first) ← holding [ov] (getMethod ov m pl)
      callWith pos f first (backTo pos (starEach (e :: es) X.env)) (backToKw pos (keywordEach [] X.env))) := by rfl) : CE X W (.Call (.Attribute o m apos) (e :: es) [] pos) (mMeth C m n F mo mm) := by
  obtain ⟨Ca, f, fd, ps, hm, cl, mt, hb, T⟩ := T.ex
  refine ⟨fun pins s τ H Q I ⟨μ, σ, hh, l, r, pp⟩ => ?_⟩
  refine PySem.W.methodCall_KW (pl := pl) (thn (ho.run pins s τ H (fun x H1 => ∃ a dx gs, x = .ref a ∧ H1 a = some (.ins Ca dx gs) ∧ gs.lookup m = none ∧ tMA (gm X) W mm τ H1 fun vs H2 => spF (gm X) F n (x :: vs) H2 Q (WE W τ)) I ⟨μ, σ, hh, l, r, ?_⟩) fun u s1 ⟨x, H1, I1, rx, a, dx, gs, ex, ea, lk, q⟩ => ?_) ht
  · refine (Ps.bind pp).imp fun x μ1 h1 H1 p1 e1 r1 q1 w1 rw1 => ?_
    split at q1
    · rename_i hi
      obtain ⟨a, dx, gs, i1, i2, i3⟩ := isI_ok r1 rw1 hi hm
      refine ⟨a, dx, gs, i1, i2, i3, μ1, σ, h1, l.mono p1 e1, r1, ?_⟩
      refine (Ps.bind q1).imp fun xs μ2 h2 H2 p2 e2 r2 q2 ws rws => ?_
      unfold callF at q2
      split at q2
      · rename_i hl; exact spF_of r2 (.cons (rw1.mono p2 e2) rws) hl q2
      · exact q2.elim
    · exact q1.elim
  · subst ex
    obtain rfl : u = Value.ref a := rx
    refine getmeth_ok I1 ea cl mt lk ?_
    refine PySem.W.callWith_K (first := [.ref a]) (h₀ := X.base) I.ok.mod.kin mt.kp (thn (ha.run pos pins s1 τ H1 _ I1 q) fun us s2 ⟨vs, H2, I2, rr, q2⟩ => ⟨I2.kIn, ?_⟩) hst hpl
    exact run_call (us := .ref a :: us) (vs := .ref a :: vs) (c.mono hj) T hb I2 (.cons rfl rr) q2
theorem s_meth0 {C : Str} {pl : Sem Bool} (c : Cok X W k) (T : MtAt X.prog X.w X.K X.mg X.base C m j n F) (hj : j ≤ k) (ho : CE X W o mo)
    (ht : eval (.Call (.Attribute o m apos) [] [] pos) X.env = (do
      let ov ← eval o X.env
      standAt apos.atName
      let (f, first) ← holding [ov] (getMethod ov m pl)
      callWith pos f first (backTo pos (starEach [] X.env)) (backToKw pos (keywordEach [] X.env))) := by rfl) : CE X W (.Call (.Attribute o m apos) [] [] pos) (mMeth C m n F mo maNil) := by
  obtain ⟨Ca, f, fd, ps, hm, cl, mt, hb, T⟩ := T.ex
  refine ⟨fun pins s τ H Q I ⟨μ, σ, hh, l, r, pp⟩ => ?_⟩
  refine PySem.W.methodCall_KW (pl := pl) (thn (ho.run pins s τ H (fun x H1 => ∃ a dx gs, x = .ref a ∧ H1 a = some (.ins Ca dx gs) ∧ gs.lookup m = none ∧ spF (gm X) F n [x] H1 Q (WE W τ)) I ⟨μ, σ, hh, l, r, ?_⟩) fun u s1 ⟨x, H1, I1, rx, a, dx, gs, ex, ea, lk, q⟩ => ?_) ht
  · refine (Ps.bind pp).imp fun x μ1 h1 H1 p1 e1 r1 q1 w1 rw1 => ?_
    split at q1
    · rename_i hi
      obtain ⟨a, dx, gs, i1, i2, i3⟩ := isI_ok r1 rw1 hi hm
      refine ⟨a, dx, gs, i1, i2, i3, ?_⟩
      have q2 : Ps (gm X) (WE W τ) μ1 H1 (callF n F [x] h1) (qV (gm X) Q) := q1
      unfold callF at q2
      split at q2
      · rename_i hl; exact spF_of r1 (.cons rw1 .nil) hl q2
      · exact q2.elim
    · exact q1.elim
  · subst ex
    obtain rfl : u = Value.ref a := rx
    refine getmeth_ok I1 ea cl mt lk ?_
    exact PySem.W.callWith_K0 (first := [.ref a]) I1.kIn mt.kp (run_call (us := [.ref a]) (vs := [.ref a]) (c.mono hj) T hb I1 (.cons rfl .nil) q)
/-! ### properties -/
structure PrAt (P : Program) (w : World) (K : PySem.W.Frag) (mg : Str → Option Value) (base : Heap) (C m : Str) (k : Nat) (F : Fn) : Prop where
  ex : ∃ Ca pa f fd ps, mg C = some (.ref Ca) ∧ Cls K Ca ∧ PropOf K Ca m pa f ∧ Binds K fd ps [] ∧ FK P w K mg base k f fd ps (spF ⟨K, mg⟩ F 1)
def isIn (C : Str) (v : Val) (h : Hh) : Bool := match v with
  | .ref n => (match h[n]? with
    | some (.ins D _) => decide (D = C)
    | _ => false)
  | _ => false
def mProp (C : Str) (F : Fn) (a : ME) : ME := fun σ h => (a σ h).bind fun x h1 => if isIn C x h1 = true then (F [x] h1).nr else .no
theorem s_prop {C : Str} (c : Cok X W k) (T : PrAt X.prog X.w X.K X.mg X.base C f j F) (hj : j + 1 ≤ k) (he : CE X W e ma) (hb : attributeBase e f X.env (eval e X.env) = eval e X.env := by rfl) : CE X W (.Attribute e f pos) (mProp C F ma) := by
  obtain ⟨Ca, pa, g, fd, ps, hm, cl, hp, hbd, T⟩ := T.ex
  refine ⟨fun pins s τ H Q I ⟨μ, σ, hh, l, r, pp⟩ => ?_⟩
  refine attr_of hb (thn (he.run pins s τ H (fun x H1 => ∃ a dx gs, x = .ref a ∧ H1 a = some (.ins Ca dx gs) ∧ spF (gm X) F 1 [x] H1 Q (WE WN τ)) I ⟨μ, σ, hh, l, r, ?_⟩) fun u s1 ⟨x, H1, I1, rx, a, dx, gs, ex, ea, q⟩ => ?_)
  · refine (Ps.bind pp).imp fun x μ1 h1 H1 p1 e1 r1 q1 w1 rw1 => ?_
    split at q1
    · rename_i hi
      unfold isIn at hi
      cases rw1 with
      | @ref n a qa =>
        obtain ⟨ob, ho, ro⟩ := r1.obj qa
        dsimp only at hi
        rw [ho] at hi
        cases ob with
        | ins D fs =>
          obtain ⟨Da, dx, gs, g0, g1, g2⟩ := ro
          have eD : D = C := by simpa using hi
          subst eD
          have g0' : X.mg D = some (.ref Da) := g0
          rw [hm] at g0'; cases g0'
          refine ⟨a, dx, gs, rfl, g1, spF_of r1 (.cons (.ref qa) .nil) rfl ?_⟩
          cases eF : F [.ref n] h1 with
          | no => rw [eF] at q1; exact q1
          | rs z h2 => rw [eF] at q1; exact q1.elim
          | ok v h2 => rw [eF] at q1; exact q1
        | _ => cases hi
      | _ => cases hi
    · exact q1.elim
  · subst ex
    obtain rfl : u = Value.ref a := rx
    obtain ⟨mA, O, _, _, _, _⟩ := ins_get I1.hok ea
    obtain ⟨od, J, _⟩ := O.look
    obtain ⟨rest, hrec⟩ := hp.rec_
    have I2 := I1.tok (s1.toks + 1)
    have hl : [Value.ref a].length = ps.length := by rw [← T.len _ _ _ _ q]; rfl
    have hc : (PySem.W.clsIn X.K Ca).isSome = true := by
      obtain ⟨cd, hc, _⟩ := PySem.W.any_some cl.hd
      rw [hc]; rfl
    have hr : Room (j + 1) X.A := c.rm.mono hj
    refine PySem.W.get_bind I1.kIn J (PySem.W.plainGet_of (cl.get f)).1 (PySem.W.findObj_data hc hp.at_ hp.get hp.tak) (PySem.W.plainGet_of (cl.get f)).2 (wpAny_call (PySem.W.prop_get (s := { s1 with toks := s1.toks + 1 }) I1.kIn hrec ?_))
    refine codeAny_mono (T.run X.A.in1 X.stack { s1 with toks := s1.toks + 1 } H1 ⟨[.ref a], []⟩ [.ref a] [.ref a] Q (WE WN τ) hr.in1 c.gu I2.env0.in1 (by simpa using hbd { s1 with toks := s1.toks + 1 } [.ref a] I2.kIn (by simpa using hl)) (.cons rfl .nil) q) fun rr s' hq => ?_
    cases rr with
    | error er =>
      obtain ⟨_, _, _, _, _, _, _, _, _, _, _, _, z⟩ := hq
      exact z.elim
    | ok fl =>
      cases fl with
      | ret u =>
        obtain ⟨v, H', I3, rv, q3⟩ := I2.after hq
        show wpAny _ _ (handedOut u) _ _ _
        rw [PySem.W.handedOut_of (handed_of rv)]
        exact wpAny_pure ⟨v, H', I3, rv, q3⟩
      | next => exact hq.elim
      | brk => exact hq.elim
      | cont => exact hq.elim
/-! ### new instances -/
structure MkAt (P : Program) (w : World) (K : PySem.W.Frag) (mg : Str → Option Value) (base : Heap) (C : Str) (k n : Nat) (F : Fn) (ds : List Val) : Prop where
  ex : ∃ Ca f fd ps vs us, mg C = some (.ref Ca) ∧ Mk K Ca f ∧ Binds K fd ps us ∧ Vals vs us ∧ (∀ μ H, RVs ⟨K, mg⟩ μ H ds vs) ∧ FK P w K mg base k f fd ps (spF ⟨K, mg⟩ F n)
/-- C(..): __init__ with the new instance and the arguments, the defaults behind -/
def mkI (C : Str) (n : Nat) (F : Fn) : Fn := fun vs h => if vs.length + 1 = n then (F (.ref h.length :: vs) (h ++ [.ins C []])).bind fun v h1 => match v with
  | .non => .ok (.ref h.length) h1
  | _ => .no else .no
theorem mk_ps {C : Str} {Ca : Addr} {μ : List Addr} {h : Hh} {H : Hp} {vs : List Val} {ws : List V} {Q : VK} {E : XK} (r : HR (gm X) μ h H) (rv : RVs (gm X) μ H vs ws) (hm : X.mg C = some (.ref Ca)) (p : Ps (gm X) E μ H (mkI C n F vs h) (qV (gm X) Q)) :
    ∀ x dx, H x = none → H dx = none → dx ≠ x → spF (gm X) F n (.ref x :: ws) (upd (upd H dx (.own x)) x (.ins Ca dx [])) (fun v H2 => v = .non ∧ Q (.ref x) H2) E := fun x dx hx hdx ne => by
  unfold mkI at p
  split at p
  · rename_i hl
    have hx' : upd H dx (.own x) x = none := by rw [upd_ne (Ne.symm ne)]; exact hx
    have e1 : Ex H (upd H dx (.own x)) := Ex.new hdx
    have e2 : Ex (upd H dx (.own x)) (upd (upd H dx (.own x)) x (.ins Ca dx [])) := Ex.new hx'
    have r1 : HR (gm X) (μ ++ [x]) (h ++ [.ins C []]) (upd (upd H dx (.own x)) x (.ins Ca dx [])) := (r.laidT hdx).laid hx' ⟨Ca, dx, [], hm, upd_same, .nil⟩
    have hi : (μ ++ [x])[h.length]? = some x := by rw [← r.len]; simp
    refine spF_of r1 (.cons (.ref hi) (rv.mono (List.prefix_append μ [x]) (e1.trans e2).et)) (by simp [← hl]) ?_
    refine (Ps.bind (Ps.mono (List.prefix_append μ [x]) (e1.trans e2) p)).imp fun v μ1 h1 H1 p1 ex1 rr1 q1 w rw1 => ?_
    cases rw1 with
    | non => exact ⟨rfl, q1.at rr1 _ (.ref (pre_get p1 hi))⟩
    | _ => exact q1.elim
  · exact p.elim
theorem run_mk {pins : List (Addr × Obj)} {τ : St} {H : Hp} {s : Shared} {Q : VK} {us ws : List Value} {vs : List V} {kw : List (Str × Value)} {C f : Addr} {fd : FuncData} {ps : List Str} {sp : Sp} (c : Cok X W k) (hj : j + 1 ≤ k) (M : Mk X.K C f) (T : FK X.prog X.w X.K X.mg X.base j f fd ps sp)
    (I : L2.Inv X pins τ H s) (r : Vals vs ws) (hb : ∀ s' : Shared, X.K.In s'.heap → ∀ a : Addr, (Value.ref a :: ws).length = ps.length → BindsTo s' fd ⟨.ref a :: us, kw⟩ (ps.zip (.ref a :: ws)))
    (h : ∀ x dx, H x = none → H dx = none → dx ≠ x → sp (.ref x :: vs) (upd (upd H dx (.own x)) x (.ins C dx [])) (fun v H2 => v = .non ∧ Q (.ref x) H2) (WE W τ)) :
    wpAny (model X.prog X.w) X.A (call (.ref C) us kw) (EP X pins τ Q) X.xe s := by
  have hq := h (s.heap.objs.size + 1) s.heap.objs.size (I.hok.fresh (Nat.le_succ _)) (I.hok.fresh (Nat.le_refl _)) (Nat.ne_of_lt (Nat.lt_succ_self _))
  have I2 := Inv.made (C := C) I
  have r2 : Vals (V.ref (s.heap.objs.size + 1) :: vs) (Value.ref (s.heap.objs.size + 1) :: ws) := .cons rfl r
  have hl : (Value.ref (s.heap.objs.size + 1) :: ws).length = ps.length := by rw [← r2.length]; exact T.len _ _ _ _ hq
  have hr : Room (j + 1) X.A := c.rm.mono hj
  refine wpAny_call (make_map (f := f) I.kIn M.makes M.init (beq_iff_eq.mp M.fn) (codeAny_mono (T.run _ X.stack _ _ ⟨Value.ref (s.heap.objs.size + 1) :: us, kw⟩ (Value.ref (s.heap.objs.size + 1) :: ws) _ _ (WE W τ) (hr.make C us kw) (by rw [guards_make]; exact c.gu)
    (I2.env0.make C us kw) (hb _ I2.kIn _ hl) r2 hq) fun rr s' hq' => ?_))
  cases rr with
  | error e => exact passAt c.tk τ pins _ _ e s' I2 hq'
  | ok fl =>
    cases fl with
    | ret u =>
      obtain ⟨v, H', I3, rv, ev, q3⟩ := I2.after hq'
      subst ev
      exact ⟨rv, ⟨V.ref (s.heap.objs.size + 1), H', I3, rfl, q3⟩⟩
    | next => exact hq'.elim
    | brk => exact hq'.elim
    | cont => exact hq'.elim
theorem s_make {ds : List Val} (c : Cok X W k) (T : MkAt X.prog X.w X.K X.mg X.base x j n F ds) (hj : j + 1 ≤ k) (ha : CA X W (e :: es) mm) (hg : Gl X x := by rfl) (hdb : (x == ("__debug__" : Str)) = false := by decide)
    (he : starEach (e :: es) X.env = (false, eval e X.env) :: starEach es X.env := by rfl) (hpl : (backTo pos (starEach es X.env)).any (·.1) = false := by rfl) : CE X W (.Call (.Name x p) (e :: es) [] pos) (mApp (fun vs => mkI x n F (vs ++ ds)) mm) := by
  obtain ⟨Ca, f, fd, ps, dvs, dus, hm, M, hb, rd, rds, T⟩ := T.ex
  refine ⟨fun pins s τ H Q I ⟨μ, σ, hh, l, r, pp⟩ => ?_⟩
  refine wpAny_Call_Name_kw (ld_glob I hg hm ?_ hdb)
  refine PySem.W.callWith_K (h₀ := X.base) I.ok.mod.kin M.kp (thn (ha.run pos pins s τ H (fun ws H1 => ∀ y dx, H1 y = none → H1 dx = none → dx ≠ y → spF (gm X) F n (.ref y :: (ws ++ dvs)) (upd (upd H1 dx (.own y)) y (.ins Ca dx [])) (fun v H2 => v = .non ∧ Q (.ref y) H2) (WE W τ)) I ⟨μ, σ, hh, l, r, ?_⟩) fun us s1 ⟨vs, H1, I1, rr, q⟩ => ⟨I1.kIn, ?_⟩) he hpl
  · refine (Ps.bind pp).imp fun vs μ1 h1 H1 p1 e1 r1 q1 ws rws => ?_
    exact mk_ps (C := x) r1 (rws.append (rds μ1 H1)) hm q1
  · refine run_mk (us := us) (ws := us ++ dus) (vs := vs ++ dvs) c hj M T I1 (rr.append rd) (fun s' kin a hl => ?_) q
    exact hb s' (.ref a :: us) kin hl
end
end U
/-! Layer A, part 10: own ==, !=, in, [..] of instances. -/
namespace U
open PySem L2

/-- the type's name of a plain value -/
def tyNm (v : Val) (h : Hh) : Option (Sum String Str) := match v with
  | .non => some (.inl "NoneType")
  | .bl _ => some (.inl "bool")
  | .int _ => some (.inl "int")
  | .str _ => some (.inl "str")
  | .tup _ => some (.inl "tuple")
  | .ref n => (match h[n]? with
    | some (.lst _) => some (.inl "list")
    | some (.fro _) => some (.inl "list")
    | some (.dct _) => some (.inl "dict")
    | some (.fdc _) => some (.inl "dict")
    | some (.ins C _) => some (.inr C)
    | _ => none)
  | _ => none
theorem looks_ty {M : Model} {s : Shared} {v : Value} {T : String} (h : s.TypeIs v T) : PySem.W.Looks M s.heap (typeOf v) (.type T) := by
  cases v with
  | ref a =>
    obtain ⟨o, h1, h2⟩ := h
    rw [← h2]
    exact (PySem.W.Looks.ld h1).andThen .now
  | _ =>
    have e : typeOf _ = pure (.type T) := h
    rw [e]; exact .now
section
variable {X : Cx} {W : WX} {j k n : Nat} {F : Fn}
theorem ty_looks {pins : List (Addr × Obj)} {τ : St} {H : Hp} {s : Shared} {μ : List Addr} {h : Hh} {v : Val} {w : V} {u : Value} (I : L2.Inv X pins τ H s) (r : HR (gm X) μ h H) (rv : RV (gm X) μ H v w) (ru : RelV w u) :
    (∀ T, tyNm v h = some (.inl T) → PySem.W.Looks (model X.prog X.w) s.heap (typeOf u) (.type T)) ∧ ∀ C, tyNm v h = some (.inr C) → ∃ Ca, X.mg C = some (.ref Ca) ∧ PySem.W.Looks (model X.prog X.w) s.heap (typeOf u) (.ref Ca) := by
  cases rv with
  | non => cases ru; exact ⟨fun T e => by cases e; exact .now, fun C e => (nomatch e)⟩
  | bl b => cases ru; exact ⟨fun T e => by cases e; exact .now, fun C e => (nomatch e)⟩
  | int i => obtain ⟨t, rfl⟩ := ru; exact ⟨fun T e => by cases e; exact .now, fun C e => (nomatch e)⟩
  | str i => obtain ⟨t, rfl⟩ := ru; exact ⟨fun T e => by cases e; exact .now, fun C e => (nomatch e)⟩
  | @tup vs ws a ta rs =>
    cases ru
    refine ⟨fun T e => ?_, fun C e => (nomatch e)⟩
    cases e
    obtain ⟨its, _, p, _⟩ := I.tuple ta.sq
    obtain ⟨o, h1, h2, _⟩ := p
    exact looks_ty ⟨o, h1, h2⟩
  | @ref m a q =>
    cases ru
    obtain ⟨o, ho, ro⟩ := r.obj q
    unfold tyNm
    dsimp only
    rw [ho]
    cases o with
    | lst vs =>
      refine ⟨fun T e => ?_, fun C e => (nomatch e)⟩
      cases e
      obtain ⟨ws, g1, _⟩ := ro
      obtain ⟨_, its, nn, _, e⟩ := (show ObjOk X.prog X.w H s.heap a (.lst ws) from I.hok a _ g1)
      exact looks_ty ⟨_, e, rfl⟩
    | fro vs =>
      refine ⟨fun T e => ?_, fun C e => (nomatch e)⟩
      cases e
      obtain ⟨ob, ws, g1, _⟩ := ro
      obtain ⟨_, q2⟩ := (show ObjOk X.prog X.w H s.heap a (.frz ob (.lst ws)) from I.hok a _ g1)
      obtain ⟨_, its, nn, _, e⟩ := (show ObjOk X.prog X.w H s.heap a (.lst ws) from q2)
      exact looks_ty ⟨_, e, rfl⟩
    | dct vs =>
      refine ⟨fun T e => ?_, fun C e => (nomatch e)⟩
      cases e
      obtain ⟨ws, g1, _⟩ := ro
      obtain ⟨_, _, _, _, ob, es, ep, h1, h2, _⟩ := (show ObjOk X.prog X.w H s.heap a (.dK ws) from I.hok a _ g1)
      exact looks_ty ⟨ob, h1, h2.1⟩
    | fdc vs =>
      refine ⟨fun T e => ?_, fun C e => (nomatch e)⟩
      cases e
      obtain ⟨oz, ws, g1, _⟩ := ro
      obtain ⟨_, q2⟩ := (show ObjOk X.prog X.w H s.heap a (.frz oz (.dK ws)) from I.hok a _ g1)
      obtain ⟨_, _, _, _, ob, es, ep, h1, h2, _⟩ := (show ObjOk X.prog X.w H s.heap a (.dK ws) from q2)
      exact looks_ty ⟨ob, h1, h2.1⟩
    | ins C fs =>
      refine ⟨fun T e => (nomatch e), fun D e => ?_⟩
      cases e
      obtain ⟨Ca, dx, gs, g0, g1, _⟩ := ro
      obtain ⟨mA, O, _⟩ := ins_get I.hok g1
      obtain ⟨od, J, _⟩ := O.look
      exact ⟨Ca, g0, J.type⟩
    | dead => exact ⟨fun T e => (nomatch e), fun C e => (nomatch e)⟩
  | ty m => exact ⟨fun T e => (nomatch e), fun C e => (nomatch e)⟩
  | gl m => exact ⟨fun T e => (nomatch e), fun C e => (nomatch e)⟩
def bTys : List String := ["NoneType", "bool", "int", "str", "tuple", "list", "dict"]
theorem notFirst_b {K : PySem.W.Frag} {C : Addr} {T : String} (h : T ∈ bTys) : PySem.W.notFirst K C (.type T) = true := by
  have : T = "NoneType" ∨ T = "bool" ∨ T = "int" ∨ T = "str" ∨ T = "tuple" ∨ T = "list" ∨ T = "dict" := by simpa [bTys] using h
  unfold PySem.W.notFirst
  rcases this with e | e | e | e | e | e | e <;> (subst e; rw [show PySem.W.subIn K (.type _) (.ref C) = some false from rfl]; simp)
theorem tyNm_b {v : Val} {h : Hh} {T : String} (e : tyNm v h = some (.inl T)) : T ∈ bTys := by
  unfold tyNm at e
  (repeat' split at e) <;> first | (cases e; decide) | cases e
/-- a special method of the class named C; which classes stand beside -/
structure SpAt (P : Program) (w : World) (K : PySem.W.Frag) (mg : Str → Option Value) (base : Heap) (C m : Str) (k n : Nat) (F : Fn) : Prop where
  ex : ∃ Ca f fd ps, mg C = some (.ref Ca) ∧ PySem.W.findIn K (.ref Ca) m = some (some (.ref f)) ∧ PySem.W.isFn K (.ref f) = true ∧ Binds K fd ps [] ∧ FK P w K mg base k f fd ps (spF ⟨K, mg⟩ F n)
/-- the classes are not below one another -/
def Apart (K : PySem.W.Frag) (mg : Str → Option Value) (C : Str) (cs : List Str) : Prop := ∀ D ∈ cs, ∀ Ca Da, mg C = some (.ref Ca) → mg D = some (.ref Da) → PySem.W.notFirst K Ca (.ref Da) = true
/-- x == y by x's own __eq__ -/
def vOwn (C : Str) (cs : List Str) (n : Nat) (F : Fn) (neg : Bool) (x y : Val) (h : Hh) : Res Val := if isIn C x h = true then
    (match tyNm y h with
    | some (.inr D) => if D ∈ cs then (callF n F [x, y] h).nr.bind fun v h1 => (match v with | .bl b => .ok (.bl (if neg then !b else b)) h1 | _ => .no) else .no
    | some (.inl _) => (callF n F [x, y] h).nr.bind fun v h1 => (match v with | .bl b => .ok (.bl (if neg then !b else b)) h1 | _ => .no)
    | none => .no)
  else .no
theorem nr_own {C cs n F neg} : ∀ x y h z k, vOwn C cs n F neg x y h ≠ .rs z k := fun x y h z k => by
  have key : ∀ (r : Res Val), (r.nr.bind fun v h1 => (match v with | Val.bl b => Res.ok (Val.bl (if neg then !b else b)) h1 | _ => Res.no)) ≠ Res.rs z k := fun r => by
    cases r with
    | ok v h1 => cases v <;> simp
    | _ => simp
  unfold vOwn
  split
  · split
    · split
      · exact key _
      · simp
    · exact key _
    · simp
  · simp
theorem isIn_ok {G : Gm} {μ : List Addr} {h : Hh} {H : Hp} {C : Str} {v : Val} {w : V} {Ca : Addr} (r : HR G μ h H) (rv : RV G μ H v w) (e : isIn C v h = true) (hm : G.mg C = some (.ref Ca)) : ∃ a dx gs, w = .ref a ∧ H a = some (.ins Ca dx gs) := by
  unfold isIn at e
  cases rv with
  | @ref n a qa =>
    obtain ⟨ob, ho, ro⟩ := r.obj qa
    dsimp only at e
    rw [ho] at e
    cases ob with
    | ins D fs =>
      obtain ⟨Da, dx, gs, g0, g1, g2⟩ := ro
      have e1 : D = C := by simpa using e
      subst e1
      rw [hm] at g0; cases g0
      exact ⟨a, dx, gs, rfl, g1⟩
    | _ => cases e
  | _ => cases e
/-- the promise of the call -/
theorem own_sp {μ : List Addr} {h : Hh} {H : Hp} {x y : Val} {x' y' : V} {Q : VK} {neg : Bool} (r : HR (gm X) μ h H) (rx : RV (gm X) μ H x x') (ry : RV (gm X) μ H y y')
    (p : Ps (gm X) W0 μ H ((callF n F [x, y] h).nr.bind fun v h1 => (match v with | .bl b => .ok (.bl (if neg then !b else b)) h1 | _ => .no)) (qV (gm X) Q)) :
    spF (gm X) F n [x', y'] H (fun v H' => ∃ b, v = .bl b ∧ Q (.bl (if neg then !b else b)) H') W0 := by
  unfold callF at p
  split at p
  · rename_i hl
    refine spF_of r (.cons rx (.cons ry .nil)) hl ?_
    cases e : F [x, y] h with
    | no => rw [e] at p; exact p.elim
    | rs z k => rw [e] at p; exact p.elim
    | ok v h1 =>
      rw [e] at p
      simp only [nr_ok, bind_ok] at p
      intro μ1 H1 p1 e1 r1 w rw1
      cases rw1 with
      | bl b => exact ⟨b, rfl, p μ1 H1 p1 e1 r1 _ (.bl _)⟩
      | _ => exact p.elim
  · exact p.elim
theorem o_own {C : Str} {cs : List Str} (c : Cok X W k) (T : SpAt X.prog X.w X.K X.mg X.base C "__eq__" j n F) (hj : j ≤ k) (ap : Apart X.K X.mg C cs) : OpR X (compareOp .Eq) (rM2 (gm X) W0 (vOwn C cs n F false)) := opr fun pins s τ H x y v u Q μ hh a b I rx ry r ra rb p => by
  obtain ⟨Ca, f, fd, ps, hm, hs, hf, hb, T⟩ := T.ex
  unfold vOwn at p
  split at p
  · rename_i hi
    obtain ⟨ad, dx, gs, ex, ea⟩ := isIn_ok r ra hi hm
    subst ex
    cases rx
    obtain ⟨mA, O, _⟩ := ins_get I.hok ea
    obtain ⟨od, J, _⟩ := O.look
    obtain ⟨m, hF⟩ := I.fr
    obtain ⟨t1, t2⟩ := ty_looks I r rb ry
    have fin : ∀ tb, PySem.W.Looks (model X.prog X.w) s.heap (typeOf u) tb → PySem.W.notFirst X.K Ca tb = true → Ps (gm X) W0 μ H ((callF n F [a, b] hh).nr.bind fun v h1 => (match v with | .bl b => .ok (.bl (if false then !b else b)) h1 | _ => .no)) (qV (gm X) Q) → wpAny (model X.prog X.w) X.A (compareOp .Eq (.ref ad) u) (EP X pins τ Q) X.xe s := fun tb lt nf p => by
      show wpAny _ _ (richCompare .Eq (.ref ad) u) _ _ _
      refine PySem.W.cmp_K (op := .Eq) (tb := tb) c.u0 hF I.ok.mod.kin J lt nf hs hf ?_
      refine thn (run_call (us := [.ref ad, u]) (vs := [.ref ad, y]) (c.wn.mono hj) T hb I (.cons rfl (.cons ry .nil)) (own_sp r ra rb p)) fun w s' ⟨z, H', I', rz, bb, ez, q⟩ => ?_
      subst ez
      cases rz
      exact ⟨.bl bb, H', I', rfl, q⟩
    cases ey : tyNm b hh with
    | none => rw [ey] at p; exact p.elim
    | some t =>
      rw [ey] at p
      cases t with
      | inl T => exact fin _ (t1 T ey) (notFirst_b (tyNm_b ey)) p
      | inr D =>
        dsimp only at p
        split at p
        · rename_i hD
          obtain ⟨Da, hDa, lt⟩ := t2 D ey
          exact fin _ lt (ap D hD Ca Da hm hDa) p
        · exact p.elim
  · exact p.elim
/-- object.__ne__ by an own __eq__ -/
theorem ne_entry_K {K : PySem.W.Frag} {prog : Program} {w : World} {A : Around} {E : Value → Shared → Prop} {s : Shared} {x C f : Addr} {ox : Obj} {od : Option Obj} {b : Value} (KX : K.In s.heap) (I : PySem.W.InstAt s.heap x ox C od) (hs : PySem.W.findIn K (.ref C) "__eq__" = some (some (.ref f))) (hf : PySem.W.isFn K (.ref f) = true) (hu : A.units < cLine) {Q : Fin → Shared → Prop}
    (hcall : wpAny (model prog w) A (call (.ref f) [.ref x, b]) (fun v s' => ∃ b, v = .bool b ∧ Q (.done (.ret (.bool (!b)))) s') E s) :
    wpAny (model prog w) A (Builtin.«object.__ne__» ⟨[.ref x, b], []⟩) Q E s := by
  unfold Builtin.«object.__ne__»
  repeat (first
    | with_reducible refine wpAny_cRoomFor hu ?_
    | (refine wpAny_bind (m := callSpecialIfBound? (.ref x) (Str.ofString "__eq__") [b])
        (PySem.W.ifBound_K KX I hs hf (wpAny_mono hcall (fun r s' hr => by
          obtain ⟨bb, rfl, hq⟩ := hr
          repeat (first | exact hq | exact wpAny_pure hq | exact wpAny_truthy_bool hq | (refine wpAny_bind (m := truthy (.bool _)) (wpAny_truthy_bool ?_)) | wp_step)) fun _ _ e => e)))
    | wp_step)
theorem ne_K {K : PySem.W.Frag} {prog : Program} {w : World} {A : Around} {E : Value → Shared → Prop} {s : Shared} {x C f : Addr} {ox : Obj} {od : Option Obj} {b tb : Value} (KX : K.In s.heap) (I : PySem.W.InstAt s.heap x ox C od) (hb : PySem.W.Looks (model prog w) s.heap (typeOf b) tb) (hnf : PySem.W.notFirst K C tb = true)
    (hs : PySem.W.findIn K (.ref C) "__eq__" = some (some (.ref f))) (hf : PySem.W.isFn K (.ref f) = true) (hne : PySem.W.findIn K (.ref C) "__ne__" = some (some (.builtin "object.__ne__"))) (hob : PySem.W.subIn K (.ref C) (.type "object") = some true) (hu : A.units + 1 < cLine) {Q : Value → Shared → Prop}
    (hcall : wpAny (model prog w) A.in1 (call (.ref f) [.ref x, b]) (fun v s' => ∃ b, v = .bool b ∧ Q (.bool (!b)) s') E s) :
    wpAny (model prog w) A (compareOp .NotEq (.ref x) b) Q E s := by
  show wpAny _ _ (richCompare .NotEq (.ref x) b) _ _ _
  have one : wpAny (model prog w) A (tryCompare (.ref x) "__ne__" b) (fun r s' => ∃ v, r = some v ∧ Q v s') E s := by
    unfold tryCompare
    refine wpAny_bind ?_
    simp only [callSpecialIfBound?, bindSpecialIfBound?]
    refine wpAny_holding (wpAny_bind (wpAny_bind (wpAny_bind (I.type.here ((PySem.W.looks_findIn KX hne).here ?_)))))
    refine wpAny_bind (wpAny_askSetting (wpAny_ite ?_))
    have fin : wpAny (model prog w) A (call (.builtin "object.__ne__") ([.ref x] ++ [b]) >>= fun v => pure (some v)) (fun r s' => wpAny (model prog w) A (match r with | some .notImplemented | none => pure none | some v => pure (some v)) (fun r s' => ∃ v, r = some v ∧ Q v s') E s') E s := by
      have chk : ∀ {Q' : Unit → Shared → Prop}, Q' () s → wpAny (model prog w) A.in1 (checkBuiltinCall "object.__ne__" ⟨[.ref x, b], []⟩) Q' E s := fun {Q'} hq => by
        simp only [checkBuiltinCall, F.cmpKind_ne, F.cmpSplit_ne]
        refine wpAny_bind ?_
        unfold isInstance
        refine wpAny_bind (I.type.here ((PySem.W.looks_subIn KX hob).here ?_))
        rw [if_neg (by simp)]
        have ha := F.cmpArgs_ne (.ref x) b
        cases hsig : Manifest.signature? "object.__ne__" with
        | none => exact wpAny_pure hq
        | some sig =>
          simp only [argsOk, hsig] at ha
          have h2 : Bind.checkArgs "object.__ne__" sig ⟨[.ref x, b], []⟩ = pure () := ha
          show wpAny _ _ (Bind.checkArgs "object.__ne__" sig ⟨[.ref x, b], []⟩) Q' E s
          rw [h2]; exact wpAny_pure hq
      refine wpAny_bind (wpAny_call (codeAny_call_builtin F.cmp_object.ne.plain F.cmpEntry_ne (chk (ne_entry_K (A := A.in1) KX I hs hf hu (wpAny_mono hcall (fun v s' hv => ?_) fun _ _ e => e)))))
      obtain ⟨bb, rfl, hq⟩ := hv
      exact ⟨bb, rfl, wpAny_pure (wpAny_pure ⟨_, rfl, hq⟩)⟩
    split
    · exact wpAny_bind (wpAny_pure (wpAny_pure fin))
    · exact wpAny_tryCatch (wpAny_bind (wpAny_pure (wpAny_pure fin)))
  unfold richCompare
  simp only [PySem.oneThing_ref]
  refine wpAny_holding (wpAny_bind (wpAny_cRoomFor (Nat.lt_of_succ_lt hu) ?_))
  refine wpAny_bind (I.type.here (wpAny_bind (hb.here ?_)))
  split
  · rename_i q
    have e : PySem.W.subIn K tb (.ref C) = some false := by
      rcases Bool.or_eq_true_iff.mp hnf with e | e
      · rw [beq_iff_eq.mp e] at q; simp at q
      · exact beq_iff_eq.mp e
    refine wpAny_bind ((PySem.W.looks_subIn KX e).here ?_)
    simp only [Bool.false_eq_true, if_false]
    exact wpAny_bind (wpAny_mono one (fun r s' ⟨v, er, hq⟩ => by subst er; exact wpAny_pure hq) fun _ _ e => e)
  · refine wpAny_bind (wpAny_pure ?_)
    simp only [Bool.false_eq_true, if_false]
    exact wpAny_bind (wpAny_mono one (fun r s' ⟨v, er, hq⟩ => by subst er; exact wpAny_pure hq) fun _ _ e => e)
/-- the call within a built-in -/
theorem run_call1 {pins : List (Addr × Obj)} {τ : St} {H : Hp} {s : Shared} {Q : VK} {us : List Value} {vs : List V} {f : Addr} {fd : FuncData} {ps : List Str} {sp : Sp} {E : Value → Shared → Prop} (c : Cok X W k) (hj : j + 1 ≤ k) (T : FK X.prog X.w X.K X.mg X.base j f fd ps sp) (hb : Binds X.K fd ps [])
    (I : L2.Inv X pins τ H s) (r : Vals vs us) (h : sp vs H Q W0) : wpAny (model X.prog X.w) X.A.in1 (call (.ref f) us) (EP X pins τ Q) E s := by
  have hl : us.length = ps.length := by rw [← r.length]; exact T.len _ _ _ _ h
  have b := hb s us I.kIn (by rw [List.append_nil]; exact hl)
  rw [List.append_nil] at b
  have hr : Room (j + 1) X.A := c.rm.mono hj
  refine wpAny_call (codeAny_mono (T.run X.A.in1 X.stack s H ⟨us, []⟩ us vs Q W0 hr.in1 c.gu I.env0.in1 b r h) fun r s' hq => ?_)
  cases r with
  | error e =>
    obtain ⟨_, _, _, _, _, _, _, _, _, _, _, _, z⟩ := hq
    exact z.elim
  | ok fl =>
    cases fl with
    | ret u => exact I.after hq
    | next => exact hq.elim
    | brk => exact hq.elim
    | cont => exact hq.elim
/-- what != asks of the class -/
def NeOk (K : PySem.W.Frag) (mg : Str → Option Value) (C : Str) : Prop := ∀ Ca, mg C = some (.ref Ca) → PySem.W.findIn K (.ref Ca) "__ne__" = some (some (.builtin "object.__ne__")) ∧ PySem.W.subIn K (.ref Ca) (.type "object") = some true
theorem o_ownN {C : Str} {cs : List Str} (c : Cok X W k) (T : SpAt X.prog X.w X.K X.mg X.base C "__eq__" j n F) (hj : j + 1 ≤ k) (ap : Apart X.K X.mg C cs) (ne : NeOk X.K X.mg C) : OpR X (compareOp .NotEq) (rM2 (gm X) W0 (vOwn C cs n F true)) := opr fun pins s τ H x y v u Q μ hh a b I rx ry r ra rb p => by
  obtain ⟨Ca, f, fd, ps, hm, hs, hf, hb, T⟩ := T.ex
  unfold vOwn at p
  split at p
  · rename_i hi
    obtain ⟨ad, dx, gs, ex, ea⟩ := isIn_ok r ra hi hm
    subst ex
    cases rx
    obtain ⟨mA, O, _⟩ := ins_get I.hok ea
    obtain ⟨od, J, _⟩ := O.look
    obtain ⟨n1, n2⟩ := ne Ca hm
    obtain ⟨t1, t2⟩ := ty_looks I r rb ry
    have fin : ∀ tb, PySem.W.Looks (model X.prog X.w) s.heap (typeOf u) tb → PySem.W.notFirst X.K Ca tb = true → Ps (gm X) W0 μ H ((callF n F [a, b] hh).nr.bind fun v h1 => (match v with | .bl b => .ok (.bl (if true then !b else b)) h1 | _ => .no)) (qV (gm X) Q) → wpAny (model X.prog X.w) X.A (compareOp .NotEq (.ref ad) u) (EP X pins τ Q) X.xe s := fun tb lt nf p => by
      refine ne_K I.kIn J lt nf hs hf n1 n2 c.hu ?_
      refine thn (run_call1 (us := [.ref ad, u]) (vs := [.ref ad, y]) c hj T hb I (.cons rfl (.cons ry .nil)) (own_sp r ra rb p)) fun w s' ⟨z, H', I', rz, bb, ez, q⟩ => ?_
      subst ez
      cases rz
      exact ⟨bb, rfl, .bl (!bb), H', I', rfl, q⟩
    cases ey : tyNm b hh with
    | none => rw [ey] at p; exact p.elim
    | some t =>
      rw [ey] at p
      cases t with
      | inl T => exact fin _ (t1 T ey) (notFirst_b (tyNm_b ey)) p
      | inr D =>
        dsimp only at p
        split at p
        · rename_i hD
          obtain ⟨Da, hDa, lt⟩ := t2 D ey
          exact fin _ lt (ap D hD Ca Da hm hDa) p
        · exact p.elim
  · exact p.elim
end
end U
/-! Layer A, part 11: isinstance, repr, displays of dicts, list(d.values()), dict(pairs), sorted. -/
namespace U
open PySem L2

/-! ### one of two operations, by the left value -/
def vSel (C : Str) (f g : Val → Val → Hh → Res Val) (x y : Val) (h : Hh) : Res Val := if isIn C x h = true then f x y h else g x y h
theorem nr_sel {C f g} (hf : ∀ x y h z k, f x y h ≠ .rs z k) (hg : ∀ x y h z k, g x y h ≠ .rs z k) : ∀ x y h z k, vSel C f g x y h ≠ .rs z k := fun x y h z k => by
  unfold vSel; split
  · exact hf x y h z k
  · exact hg x y h z k
section
variable {X : Cx} {W : WX} {j k n : Nat} {F : Fn}
theorem o_sel {C : Str} {op : Value → Value → Sem Value} {f g : Val → Val → Hh → Res Val} (hf : OpR X op (rM2 (gm X) W0 f)) (hg : OpR X op (rM2 (gm X) W0 g)) : OpR X op (rM2 (gm X) W0 (vSel C f g)) :=
  fun pins s τ H x y v u Q I rx ry ⟨μ, hh, a, b, r, ra, rb, p⟩ => by
    unfold vSel at p
    split at p
    · exact hf pins s τ H x y v u Q I rx ry ⟨μ, hh, a, b, r, ra, rb, p⟩
    · exact hg pins s τ H x y v u Q I rx ry ⟨μ, hh, a, b, r, ra, rb, p⟩
/-! ### isinstance -/
structure InsK (K : PySem.W.Frag) (C : Addr) : Prop where
  cl : Cls K C
  ha : PySem.W.findIn K (.ref C) "__class__" = some (some (.builtin "object.__class__"))
  hn : PySem.W.specialIn K (.builtin "object.__class__") "__get__" = some (some (.builtin "getset_descriptor.__get__"))
  htk : PySem.W.takesIn K (.builtin "object.__class__") = some true
  hm : PySem.W.mroIn K C (.type "object") = some true
structure IsaOk (K : PySem.W.Frag) (mg : Str → Option Value) (cs : List Str) (tys : List String) : Prop where
  ins : ∀ C ∈ cs, ∀ Ca, mg C = some (.ref Ca) → InsK K Ca
  own : ∀ C ∈ cs, ∀ D ∈ cs, ∀ Ca Da, mg C = some (.ref Ca) → mg D = some (.ref Da) → PySem.W.kitOne K (.ref Da) (.ref Ca) = some (decide (D = C))
  blt : ∀ C ∈ cs, ∀ Ca, mg C = some (.ref Ca) → ∀ T ∈ bTys, PySem.W.kitOne K (.type T) (.ref Ca) = some false
  tyo : ∀ C ∈ cs, ∀ Ca, mg C = some (.ref Ca) → ∀ T ∈ tys, PySem.W.kitOne K (.ref Ca) (.type T) = some false
/-- is a value of this type of that class -/
def isa1 (cs : List Str) (tys : List String) (t : Sum String Str) (c : Val) : Option Bool := match t, c with
  | .inl a, .ty b => kitB a b
  | .inl _, .gl C => if C ∈ cs then some false else none
  | .inr D, .ty b => if D ∈ cs ∧ b ∈ tys then some false else none
  | .inr D, .gl C => if D ∈ cs ∧ C ∈ cs then some (decide (D = C)) else none
  | _, _ => none
def isaN (cs : List Str) (tys : List String) (t : Sum String Str) : List Val → Option Bool
  | [] => some false
  | c :: r => match isa1 cs tys t c with
    | some true => some true
    | some false => isaN cs tys t r
    | none => none
def tyIn (cs : List Str) : Sum String Str → Bool
  | .inl _ => true
  | .inr C => decide (C ∈ cs)
def vIsi (cs : List Str) (tys : List String) : Fn := fun vs h => match vs with
  | [x, c] => (match tyNm x h with
    | some t => (match (match c with | .tup ds => if (∀ d ∈ ds, (isa1 cs tys t d).isSome = true) ∧ tyIn cs t = true then isaN cs tys t ds else none | c => isa1 cs tys t c) with
      | some b => .ok (.bl b) h
      | none => .no)
    | none => .no)
  | _ => .no
theorem nr_isi {cs tys} : ∀ vs h z k, vIsi cs tys vs h ≠ .rs z k := fun x h z k => by unfold vIsi; (repeat' split) <;> simp
/-- the type as the layer names it -/
def tyV' (mg : Str → Option Value) (t : Sum String Str) (u : Value) : Prop := match t with
  | .inl T => T ∈ bTys ∧ u = .type T
  | .inr C => mg C = some u ∧ ∃ a, u = .ref a
theorem ty_x {cs : List Str} {tys : List String} {μ : List Addr} {h : Hh} {H : Hp} {v : Val} {w : V} {t : Sum String Str} (ok : IsaOk X.K X.mg cs tys) (r : HR (gm X) μ h H) (rv : RV (gm X) μ H v w) (e : tyNm v h = some t) (hc : ∀ C, t = .inr C → C ∈ cs) : ∃ u, TyX X.K H w u ∧ tyV' X.mg t u := by
  have hb : ∀ T, t = .inl T → T ∈ bTys := fun T ht => tyNm_b (by rw [e, ht])
  cases rv with
  | non => cases e; exact ⟨_, .base .non, hb _ rfl, rfl⟩
  | bl b => cases e; exact ⟨_, .base (.bl b), hb _ rfl, rfl⟩
  | int i => cases e; exact ⟨_, .base (.int i), hb _ rfl, rfl⟩
  | str i => cases e; exact ⟨_, .base (.str i), hb _ rfl, rfl⟩
  | @tup vs ws a ta rs =>
    cases e
    rcases ta with ta | ⟨o, its, nn, q1, q2, _⟩
    · exact ⟨_, .base (.tup ta), hb _ rfl, rfl⟩
    · exact ⟨_, .kTuple q1 q2, hb _ rfl, rfl⟩
  | @ref m a q =>
    obtain ⟨o, ho, ro⟩ := r.obj q
    unfold tyNm at e
    dsimp only at e
    rw [ho] at e
    cases o with
    | lst vs => cases e; obtain ⟨ws, g1, _⟩ := ro; exact ⟨_, .base (.lst g1), hb _ rfl, rfl⟩
    | fro vs => cases e; obtain ⟨ob, ws, g1, _⟩ := ro; exact ⟨_, .base (.frz g1), hb _ rfl, rfl⟩
    | dct vs => cases e; obtain ⟨ws, g1, _⟩ := ro; exact ⟨_, .base (.dK g1), hb _ rfl, rfl⟩
    | fdc vs => cases e; obtain ⟨ob, ws, g1, _⟩ := ro; exact ⟨_, .fDict g1, hb _ rfl, rfl⟩
    | ins C fs =>
      cases e
      obtain ⟨Ca, dx, gs, g0, g1, _⟩ := ro
      obtain ⟨cl, ha, hn, htk, hm⟩ := ok.ins C (hc C rfl) Ca g0
      exact ⟨_, .base (.ins g1 cl ha hn htk hm), g0, Ca, rfl⟩
    | dead => cases e
  | ty m => cases e
  | gl m => cases e
theorem isa1_ok {cs : List Str} {tys : List String} {μ : List Addr} {H : Hp} {t : Sum String Str} {u : Value} {c : Val} {w : V} {b : Bool} (ok : IsaOk X.K X.mg cs tys) (tu : tyV' X.mg t u) (rc : RV (gm X) μ H c w) (e : isa1 cs tys t c = some b) : ∃ uc, ClsV w uc ∧ PySem.W.kitOne X.K u uc = some b := by
  cases t with
  | inl a =>
    obtain ⟨hb, rfl⟩ := tu
    cases rc with
    | ty m => exact ⟨_, .ty _, kit_ty e⟩
    | @gl C Ca hm =>
      unfold isa1 at e
      dsimp only at e
      split at e
      · rename_i hC
        cases e
        exact ⟨_, .own _, ok.blt C hC Ca hm a hb⟩
      · cases e
    | _ => cases e
  | inr D =>
    obtain ⟨hD, Da, rfl⟩ := tu
    cases rc with
    | ty m =>
      unfold isa1 at e
      dsimp only at e
      split at e
      · rename_i hC
        cases e
        exact ⟨_, .ty _, ok.tyo D hC.1 Da hD m hC.2⟩
      · cases e
    | @gl C Ca hm =>
      unfold isa1 at e
      dsimp only at e
      split at e
      · rename_i hC
        cases e
        exact ⟨_, .own _, ok.own C hC.2 D hC.1 Ca Da hm hD⟩
      · cases e
    | _ => cases e
theorem isa1_in {cs : List Str} {tys : List String} {t : Sum String Str} {c : Val} {b : Bool} (e : isa1 cs tys t c = some b) : ∀ C, t = .inr C → C ∈ cs := fun C ht => by
  subst ht
  cases c with
  | ty m =>
    unfold isa1 at e; dsimp only at e
    split at e
    · rename_i hh; exact hh.1
    · cases e
  | gl m =>
    unfold isa1 at e; dsimp only at e
    split at e
    · rename_i hh; exact hh.1
    · cases e
  | _ => cases e
theorem isaN_ok {cs : List Str} {tys : List String} {μ : List Addr} {H : Hp} {t : Sum String Str} {u : Value} (ok : IsaOk X.K X.mg cs tys) (tu : tyV' X.mg t u) : ∀ {ds : List Val} {ws : List V} {b : Bool}, RVs (gm X) μ H ds ws → (∀ d ∈ ds, ∃ b, isa1 cs tys t d = some b) → isaN cs tys t ds = some b → ∃ ucs, Paired ClsV ws ucs ∧ PySem.W.kitAny X.K u ucs = some b
  | _, _, b, .nil, _, e => by cases e; exact ⟨[], .nil, rfl⟩
  | _, _, b, .cons (v := d) (vs := vr) r rs, hall, e => by
    obtain ⟨b1, e1⟩ := hall d List.mem_cons_self
    obtain ⟨uc, c1, k1⟩ := isa1_ok ok tu r e1
    have ex : ∃ b', isaN cs tys t vr = some b' := by
      have : ∀ (l : List Val), (∀ d ∈ l, ∃ b, isa1 cs tys t d = some b) → ∃ b', isaN cs tys t l = some b' := by
        intro l
        induction l with
        | nil => intro _; exact ⟨_, rfl⟩
        | cons z l ih =>
          intro hz
          obtain ⟨bz, ez⟩ := hz z List.mem_cons_self
          obtain ⟨b', e'⟩ := ih fun d hd => hz d (List.mem_cons_of_mem _ hd)
          unfold isaN
          rw [ez]
          cases bz with
          | true => exact ⟨_, rfl⟩
          | false => exact ⟨b', e'⟩
      exact this _ fun d hd => hall d (List.mem_cons_of_mem _ hd)
    obtain ⟨b', e'⟩ := ex
    obtain ⟨ucs, c2, k2⟩ := isaN_ok ok tu rs (fun d hd => hall d (List.mem_cons_of_mem _ hd)) e'
    refine ⟨uc :: ucs, .cons c1 c2, ?_⟩
    unfold isaN at e
    rw [e1] at e
    refine kitAny_cons k1 (fun hb => ?_) fun hb => ?_
    · subst hb
      dsimp only at e
      rw [e'] at e
      rw [← e]; exact k2
    · subst hb
      cases e; rfl
theorem clsvs_eq : ∀ {ws : List V} {us vs : List Value}, Paired ClsV ws us → Vals ws vs → vs = us
  | _, _, _, .nil, .nil => rfl
  | _, _, _, .cons c t, .cons r s => by rw [c.eq r, clsvs_eq t s]
theorem c_isi {cs : List Str} {tys : List String} (ok : IsaOk X.K X.mg cs tys) : CallR X (.builtin "isinstance") (rMs (gm X) W0 (vIsi cs tys)) := cr2 (fun pins s τ H x y us Q μ hh a b I rx r ra rb p => by
  unfold vIsi at p
  dsimp only at p
  cases et : tyNm a hh with
  | none => rw [et] at p; exact p.elim
  | some t =>
    rw [et] at p
    dsimp only at p
    have one : ∀ bb, isa1 cs tys t b = some bb → Q (.bl bb) H → wpAny (model X.prog X.w) X.A (call (.builtin "isinstance") us) (EP X pins τ Q) X.xe s := fun bb eb q => by
      obtain ⟨u, tx, tu⟩ := ty_x ok r ra et (isa1_in eb)
      obtain ⟨uc, c1, k1⟩ := isa1_ok ok tu rb eb
      exact call_isi pins s τ H _ us Q I rx ⟨x, y, u, uc, bb, rfl, c1, tx, k1, q⟩
    cases b with
    | tup ds =>
      dsimp only at p
      cases rb with
      | @tup _ ws a1 t1 rs1 =>
        by_cases hc : (∀ d ∈ ds, (isa1 cs tys t d).isSome = true) ∧ tyIn cs t = true
        · rw [if_pos hc] at p
          cases eb : isaN cs tys t ds with
          | none => rw [eb] at p; exact p.elim
          | some bb =>
            rw [eb] at p
            have q := p.at r _ (.bl bb)
            have hall : ∀ d ∈ ds, ∃ b, isa1 cs tys t d = some b := fun d hd => Option.isSome_iff_exists.mp (hc.1 d hd)
            have hcs : ∀ C, t = .inr C → C ∈ cs := fun C ht => by
              have := hc.2
              rw [ht] at this
              exact of_decide_eq_true this
            obtain ⟨u, tx, tu⟩ := ty_x ok r ra et hcs
            obtain ⟨ucs, c1, k1⟩ := isaN_ok ok tu rs1 hall eb
            rcases t1 with t1 | ⟨o, its, nn, q1, q2, q3, q4, q5⟩
            · exact call_isiT pins s τ H _ us Q I rx ⟨x, a1, ws, u, ucs, bb, rfl, t1, c1, tx, k1, q⟩
            · have e1 : its.toList = ucs := clsvs_eq c1 q5
              obtain ⟨oc, od, odt, osl⟩ := o
              refine call_isiK pins s τ H _ us Q I rx ⟨x, a1, od, ucs, nn, osl, u, bb, rfl, ?_, tx, k1, q⟩
              rw [q1]
              dsimp only at q2 q3
              rw [q2, q3, ← e1]
        · rw [if_neg hc] at p
          exact p.elim
    | _ =>
      dsimp only at p
      split at p
      · rename_i bb eb
        exact one _ eb (p.at r _ (.bl _))
      · exact p.elim) (fun _ => rfl) (fun a _ => rfl) (fun a b _ _ _ => rfl)
end
end U
/-! Layer A, part 12: repr. -/
namespace U
open PySem L2
section
variable {X : Cx} {W : WX} {j k n : Nat}
/-- where sys.modules lies nothing of ours lies -/
abbrev SysAt (base : Heap) : Prop := ∃ o, base.get? sysModules = some o
theorem key_reads {h : Heap} {kk : Val} {d : PyData} {k' : Key} {u : Value} {n : Nat} {hh : Hh} (e : keyOf kk = some k') (q : toD n hh kk = some d) (i : keyIs k' u = true) : Reads h u d [] := by
  cases n with
  | zero => simp [toD] at q
  | succ n =>
    cases kk with
    | int x =>
      cases e
      rcases keyIs_shape i with ⟨a, t, e1, rfl⟩ | ⟨a, t, e1, rfl⟩
      · cases e1
        simp only [toD, Option.some.injEq] at q; subst q; exact .int _ _
      · cases e1
    | str x =>
      cases e
      rcases keyIs_shape i with ⟨a, t, e1, rfl⟩ | ⟨a, t, e1, rfl⟩
      · cases e1
      · cases e1
        simp only [toD, Option.some.injEq] at q; subst q; exact .str _ _
    | _ => cases e
mutual
theorem toD_rd {pins : List (Addr × Obj)} {τ : St} {s : Shared} {μ : List Addr} {h : Hh} {H : Hp} (hS : SysAt X.base) (I : L2.Inv X pins τ H s) (r : HR (gm X) μ h H) : ∀ (n : Nat) {v : Val} {w : V} {u : Value} {d : PyData}, RV (gm X) μ H v w → RelV w u → toD n h v = some d → ∃ as, Reads s.heap u d as ∧ sysModules ∉ as
  | 0, v, w, u, d, rv, ru, e => by simp [toD] at e
  | n + 1, v, w, u, d, rv, ru, e => by
    have nsys : ∀ {a o}, H a = some o → sysModules ≠ a := fun {a o} ha z => by
      obtain ⟨ob, hb⟩ := hS
      subst z
      rw [(I.bs _ _ hb).2] at ha; cases ha
    cases rv with
    | non => obtain rfl : u = .none := ru; simp only [toD, Option.some.injEq] at e; subst e; exact ⟨[], .none, by simp⟩
    | bl b => obtain rfl : u = .bool b := ru; simp only [toD, Option.some.injEq] at e; subst e; exact ⟨[], .bool b, by simp⟩
    | int b => obtain ⟨t, rfl⟩ := ru; simp only [toD, Option.some.injEq] at e; subst e; exact ⟨[], .int b t, by simp⟩
    | str b => obtain ⟨t, rfl⟩ := ru; simp only [toD, Option.some.injEq] at e; subst e; exact ⟨[], .str b t, by simp⟩
    | @tup vs ws a ta rs =>
      obtain rfl : u = .ref a := ru
      simp only [toD] at e
      cases q : toDs n h vs with
      | none => rw [q] at e; cases e
      | some ds =>
        rw [q] at e; cases e
        obtain ⟨its, rr, ⟨o, ho, hc, nn, hd⟩, _⟩ := I.tuple ta.sq
        obtain ⟨as, ra, na⟩ := toDs_rd hS I r n rs rr q
        exact ⟨as, .tuple ho hc hd ra, na⟩
    | @ref m a qa =>
      obtain rfl : u = .ref a := ru
      obtain ⟨ob, ho, ro⟩ := r.obj qa
      simp only [toD, ho] at e
      have seq : ∀ {vs : List Val} {ws : List V}, SqL X.K H a ws → (∃ z, H a = some z) → RVs (gm X) μ H vs ws → (toDs n h vs).map .list = some d → ∃ as, Reads s.heap (.ref a) d as ∧ sysModules ∉ as := fun {vs ws} sq nz rs e => by
        cases q : toDs n h vs with
        | none => rw [q] at e; cases e
        | some ds =>
          rw [q] at e; cases e
          obtain ⟨its, rr, ⟨o, nn, ho, hc, _, hd⟩, _⟩ := I.list sq
          obtain ⟨as, ra, na⟩ := toDs_rd hS I r n rs rr q
          obtain ⟨z, hz⟩ := nz
          exact ⟨_, .list ho hc hd ra, by simp only [List.mem_cons, not_or]; exact ⟨nsys hz, na⟩⟩
      have dic : ∀ {kvs : List (Val × Val)} {kws : List (Key × V)}, L2.Rd H a (.dK kws) → (∃ z, H a = some z) → RKs (gm X) μ H kvs kws → (toDk n h kvs).map .dict = some d → ∃ as, Reads s.heap (.ref a) d as ∧ sysModules ∉ as := fun {kvs kws} rd nz rk e => by
        cases q : toDk n h kvs with
        | none => rw [q] at e; cases e
        | some ds =>
          rw [q] at e; cases e
          obtain ⟨_, _, vs, kv, o, es, ep, g1, g2, g3, g4, g5, g6⟩ := dk_rd I.hok rd
          obtain ⟨as, bs, ra, rb, na, nb⟩ := toDk_rd hS I r n rk kv g5 q
          obtain ⟨z, hz⟩ := nz
          exact ⟨_, .dict g1 g2.1 g3 ra rb, by simp only [List.cons_append, List.mem_cons, List.mem_append, not_or]; exact ⟨nsys hz, na, nb⟩⟩
      cases ob with
      | lst vs => obtain ⟨ws, g1, g2⟩ := ro; exact seq (.inl (.inl g1)) ⟨_, g1⟩ g2 e
      | fro vs => obtain ⟨o, ws, g1, g2⟩ := ro; exact seq (.inl (.inr ⟨o, g1⟩)) ⟨_, g1⟩ g2 e
      | dct kvs => obtain ⟨kws, g1, g2⟩ := ro; exact dic (.inl g1) ⟨_, g1⟩ g2 e
      | fdc kvs => obtain ⟨o, kws, g1, g2⟩ := ro; exact dic (.inr ⟨o, g1⟩) ⟨_, g1⟩ g2 e
      | ins C fs => simp at e
      | dead => simp at e
    | ty m => simp [toD] at e
    | gl m => simp [toD] at e
theorem toDs_rd {pins : List (Addr × Obj)} {τ : St} {s : Shared} {μ : List Addr} {h : Hh} {H : Hp} (hS : SysAt X.base) (I : L2.Inv X pins τ H s) (r : HR (gm X) μ h H) : ∀ (n : Nat) {vs : List Val} {ws : List V} {us : List Value} {ds : List PyData}, RVs (gm X) μ H vs ws → Vals ws us → toDs n h vs = some ds → ∃ as, ReadsAll s.heap us ds as ∧ sysModules ∉ as
  | n, _, _, _, ds, .nil, .nil, e => by simp only [toDs, Option.some.injEq] at e; subst e; exact ⟨[], .nil, by simp⟩
  | n, _, _, _, ds, .cons (v := v) (vs := vs) rv rs, .cons ru rus, e => by
    simp only [toDs] at e
    cases q1 : toD n h v with
    | none => rw [q1] at e; cases e
    | some d1 =>
      cases q2 : toDs n h vs with
      | none => rw [q1, q2] at e; cases e
      | some d2 =>
        rw [q1, q2] at e; cases e
        obtain ⟨as, ra, na⟩ := toD_rd hS I r n rv ru q1
        obtain ⟨bs, rb, nb⟩ := toDs_rd hS I r n rs rus q2
        exact ⟨_, .cons ra rb, by simp only [List.mem_append, not_or]; exact ⟨na, nb⟩⟩
theorem toDk_rd {pins : List (Addr × Obj)} {τ : St} {s : Shared} {μ : List Addr} {h : Hh} {H : Hp} (hS : SysAt X.base) (I : L2.Inv X pins τ H s) (r : HR (gm X) μ h H) : ∀ (n : Nat) {kvs : List (Val × Val)} {kws : List (Key × V)} {vs : List (Key × Value)} {es : List DictEntry} {ds : List (PyData × PyData)}, RKs (gm X) μ H kvs kws → KV kws vs → Pairs (mixKind X.prog X.w) es vs → toDk n h kvs = some ds →
    ∃ as bs, ReadsAll s.heap (es.map (·.key)) (ds.map (·.1)) as ∧ ReadsAll s.heap (es.map (·.val)) (ds.map (·.2)) bs ∧ sysModules ∉ as ∧ sysModules ∉ bs
  | n, _, _, _, _, ds, .nil, .nil, .nil, e => by simp only [toDk, Option.some.injEq] at e; subst e; exact ⟨[], [], .nil, .nil, by simp, by simp⟩
  | n, _, _, _, _, ds, .cons (k := k) (v := v) (kvs := kvs) qk rv rk, .cons ru rus, .cons hk hv hp, e => by
    simp only [toDk] at e
    cases q0 : toD n h k with
    | none => rw [q0] at e; cases e
    | some d0 =>
      cases q1 : toD n h v with
      | none => rw [q0, q1] at e; cases e
      | some d1 =>
        cases q2 : toDk n h kvs with
        | none => rw [q0, q1, q2] at e; cases e
        | some d2 =>
          rw [q0, q1, q2] at e; cases e
          obtain ⟨cs, rc, nc⟩ := toD_rd hS I r n rv ru.2 q1
          obtain ⟨as, bs, ra, rb, na, nb⟩ := toDk_rd hS I r n rk rus hp q2
          have e1 := ru.1
          refine ⟨[] ++ as, cs ++ bs, .cons (key_reads qk q0 ?_) ra, .cons ?_ rb, by simpa using na, by simp only [List.mem_append, not_or]; exact ⟨nc, nb⟩⟩
          · rw [mixKind_is] at hk
            dsimp only at e1 ⊢
            rw [e1]; exact hk
          · dsimp only
            rw [hv]; exact rc
end
/-! ### repr -/
def vRepr : Fn := fun vs h => match vs with
  | [x] => (match toD 30 h x with
    | some d => if d.showable = true ∧ d.depth ≤ 32 ∧ d.shown.length ≤ sizeLine then .ok (.str d.shown) h else .no
    | none => .no)
  | _ => .no
theorem nr_repr : ∀ vs h z k, vRepr vs h ≠ .rs z k := fun x h z k => by unfold vRepr; (repeat' split) <;> simp
theorem c_repr (hS : SysAt X.base) (c : Cok X W k) : CallR X (.builtin "repr") (rMs (gm X) W0 vRepr) := cr1 (fun pins s τ H x us Q μ hh a I rx r ra p => by
  unfold vRepr at p
  dsimp only at p
  cases q : toD 30 hh a with
  | none => rw [q] at p; exact p.elim
  | some d =>
    rw [q] at p
    dsimp only at p
    split at p
    · rename_i hz
      have qq := p.at r _ (.str _)
      obtain ⟨u, rfl, ru⟩ := vals1 rx
      have ref : ∀ b, u = .ref b → wpAny (model X.prog X.w) X.A (call (.builtin "repr") [u]) (EP X pins τ Q) X.xe s := fun b eb => by
        subst eb
        obtain ⟨as, rd, na⟩ := toD_rd hS I r 30 ra ru q
        exact repr_of_reads' rd hz.1 (fun _ => na) c.gu (by have := c.u64; have := hz.2.1; omega) (fun _ _ e => e) (fun h' t tk hk => ⟨.str d.shown, H, I.kept hk, ⟨t, rfl⟩, qq⟩) hz.2.2
      cases ra with
      | non =>
        obtain rfl : u = .none := ru
        simp only [toD, Option.some.injEq] at q; subst q
        exact PySem.P.repr_of_none ⟨.str _, H, I.tok _, ⟨_, rfl⟩, qq⟩
      | bl b =>
        obtain rfl : u = .bool b := ru
        simp only [toD, Option.some.injEq] at q; subst q
        exact PySem.P.repr_of_bool ⟨.str _, H, I.tok _, ⟨_, rfl⟩, qq⟩
      | int b =>
        obtain ⟨t, rfl⟩ := ru
        simp only [toD, Option.some.injEq] at q; subst q
        exact PySem.P.repr_of_int (by simpa [PyData.showable] using hz.1) ⟨.str _, H, I.tok _, ⟨_, rfl⟩, qq⟩
      | str b =>
        obtain ⟨t, rfl⟩ := ru
        simp only [toD, Option.some.injEq] at q; subst q
        exact PySem.P.repr_of_str ⟨.str _, H, I.tok _, ⟨_, rfl⟩, qq⟩ hz.2.2
      | tup _ _ => exact ref _ ru
      | ref _ => exact ref _ ru
      | ty m => simp [toD] at q
      | gl m => simp [toD] at q
    · exact p.elim) (fun _ => rfl) (fun a _ _ _ => rfl)
end
end U
/-! Layer A, part 13: tuple times a number, dict displays, lists of values and of pairs, dict(..), sorted(..), three names at once. -/
namespace U
open PySem L2 PyProof.Rows

theorem tup_mul1 (l : Addr) (items : Array Value) (n : Nat) (dd : Option Addr) (sl : Array (Option Value)) (x : Int) (u : Tok) (c0 : (decide (x < -(2 ^ 63)) || decide (x ≥ 2 ^ 63)) = false) (c1 : (items.isEmpty || x == 1) = true) :
    Meets (Builtin.«tuple.__mul__» ⟨[.ref l, .int x u], []⟩) (fun _ R s => s.heap.get? l = some { cls := .type "tuple", dict := dd, data := .seq items n, slots := sl } ∧ R (.ok (.ret (Value.ref l))) s) :=
  .of_wp fun prog w A R s h => by
    obtain ⟨hp, g, d, tk, os⟩ := s
    obtain ⟨hl, h⟩ := h
    have f1 := AutoSeq1.idx_int
    wp_walk using wpAny_loadPart' hl
    repeat (first
      | (refine wpAny_ite_false (decide_eq_false (by rw [c0]; exact Bool.false_ne_true)) ?_; wp_walk using wpAny_loadPart' hl)
      | (refine wpAny_ite_true (decide_eq_true c1) ?_; wp_walk using wpAny_loadPart' hl))
    exact ⟨_, rfl, h⟩
theorem tup_mul0 (l : Addr) (items : Array Value) (n : Nat) (dd : Option Addr) (sl : Array (Option Value)) (x : Int) (u : Tok) (c0 : (decide (x < -(2 ^ 63)) || decide (x ≥ 2 ^ 63)) = false) (c1 : (items.isEmpty || x == 1) = false) (c2 : (decide (x ≤ 0) || items.isEmpty) = true) :
    Meets (Builtin.«tuple.__mul__» ⟨[.ref l, .int x u], []⟩) (fun _ R s => s.heap.get? l = some { cls := .type "tuple", dict := dd, data := .seq items n, slots := sl } ∧
      R (.ok (.ret (Value.ref s.heap.objs.size))) { s with heap := s.heap.push { cls := Value.type "tuple", data := Data.seq #[] }, toks := s.toks }) :=
  .of_wp fun prog w A R s h => by
    obtain ⟨hp, g, d, tk, os⟩ := s
    obtain ⟨hl, h⟩ := h
    have f1 := AutoSeq1.idx_int
    wp_walk using wpAny_loadPart' hl
    repeat (first
      | (refine wpAny_ite_false (decide_eq_false (by rw [c0]; exact Bool.false_ne_true)) ?_; wp_walk using wpAny_loadPart' hl)
      | (refine wpAny_ite_false (decide_eq_false (by rw [c1]; exact Bool.false_ne_true)) ?_; wp_walk using wpAny_loadPart' hl)
      | (refine wpAny_ite_true (decide_eq_true c2) ?_; wp_walk using wpAny_loadPart' hl))
    exact ⟨_, rfl, h⟩

section
variable {X : Cx} {W : WX} {j k n : Nat} {pos : Pos}
def vMulT (x y : Val) (h : Hh) : Res Val := match x, y with
  | .tup vs, .int k => if -(2 ^ 63) ≤ k ∧ k ≤ 1000 ∧ vs.length ≤ 1000 then .ok (.tup (List.replicate k.toNat vs).flatten) h else .no
  | _, _ => .no
theorem RVs.rep {G : Gm} {μ : List Addr} {H : Hp} {vs : List Val} {ws : List V} (r : RVs G μ H vs ws) : ∀ n, RVs G μ H (List.replicate n vs).flatten (List.replicate n ws).flatten
  | 0 => .nil
  | n + 1 => by
    rw [List.replicate_succ, List.replicate_succ, List.flatten_cons, List.flatten_cons]
    exact r.append (RVs.rep r n)
theorem flat_nil {α : Type} : ∀ n : Nat, (List.replicate n ([] : List α)).flatten = []
  | 0 => rfl
  | n + 1 => by rw [List.replicate_succ, List.flatten_cons, flat_nil n]; rfl
theorem o_mulT : OpR X (binaryOp .Mult) (rM2 (gm X) W0 vMulT) := opr fun pins s τ H x y v u Q μ hh a b I rx ry r ra rb p => by
  cases ra with
  | @tup vs ws a1 t1 rs1 =>
    cases rb with
    | int k =>
      unfold vMulT at p
      dsimp only at p
      split at p
      · rename_i hz
        have hw : ws.length = vs.length := rs1.length.symm
        have pp : ∀ us, us = (List.replicate k.toNat vs).flatten → Ps (gm X) W0 μ H (.ok (.tup us) hh) (qV (gm X) Q) := fun us e => by rw [e]; exact p
        have hc0 : (decide (k < -(2 ^ 63)) || decide (k ≥ 2 ^ 63)) = false := by rw [decide_eq_false (by omega), decide_eq_false (by omega)]; rfl
        by_cases big : vs ≠ [] ∧ 2 ≤ k
        · exact op_repT pins s τ H _ _ v u Q I rx ry ⟨a1, k, ws, rfl, rfl, t1.sq, fun z => big.1 (List.eq_nil_of_length_eq_zero (by rw [← hw, z]; rfl)), big.2, hz.2.1, by omega, lay_tup r (rs1.rep _) p⟩
        · cases rx
          obtain ⟨t, rfl⟩ := ry
          obtain ⟨its, ri, ⟨⟨cls, dd, data, sl⟩, ho, hc, n, hd⟩, hs⟩ := I.tuple t1.sq
          simp only at hc hd
          subst hc hd
          have hit : its.length = vs.length := by rw [← ri.length, hw]
          by_cases one : (its.toArray.isEmpty || k == 1) = true
          · refine wpAny_binaryOp_repeat_ref (T := "tuple") (U := "int") (by decide) ⟨_, ho, rfl⟩ (fun s' => typeIs_int s' k t) noFill_tuple_mul F.fills_int_mul F.slot_int_rmul repeat_tuple F.slot_int_index.lookup
              (call_meets F.slot_int_rmul (typeIs_int s k t) F.entry_int_rmul (F.args_int_rmul_2 _ _) (int_rmul_tuple k t a1 its.toArray n dd sl)
                ⟨ho, rfl, ⟨_, ho, rfl⟩, call_meets F.slot_tuple_mul ⟨_, ho, rfl⟩ F.entry_tuple_mul (F.args_tuple_mul_2 _ _) (tup_mul1 a1 its.toArray n dd sl k t hc0 one) ⟨ho, ?_⟩⟩)
            have ev : vs = (List.replicate k.toNat vs).flatten := by
              by_cases e0 : vs = []
              · rw [e0, flat_nil]
              · have hk : k = 1 := by
                  rcases Bool.or_eq_true_iff.mp one with z | z
                  · exfalso
                    have : its = [] := by simpa using z
                    rw [this] at hit
                    exact e0 (List.eq_nil_of_length_eq_zero hit.symm)
                  · simpa using z
                rw [hk]; simp
            exact ⟨.ref a1, H, I, rfl, (pp vs ev).at r _ (.tup t1 rs1)⟩
          · have hne : (its.toArray.isEmpty || k == 1) = false := by simpa using one
            have hk0 : k ≤ 0 := by
              have h1 := (Bool.or_eq_false_iff.mp hne)
              have hk1 : k ≠ 1 := by simpa using h1.2
              have : its ≠ [] := by simpa using h1.1
              have hv : vs ≠ [] := fun z => this (List.eq_nil_of_length_eq_zero (by rw [hit, z]; rfl))
              by_cases h2 : 2 ≤ k
              · exact absurd ⟨hv, h2⟩ big
              · omega
            refine wpAny_binaryOp_repeat_ref (T := "tuple") (U := "int") (by decide) ⟨_, ho, rfl⟩ (fun s' => typeIs_int s' k t) noFill_tuple_mul F.fills_int_mul F.slot_int_rmul repeat_tuple F.slot_int_index.lookup
              (call_meets F.slot_int_rmul (typeIs_int s k t) F.entry_int_rmul (F.args_int_rmul_2 _ _) (int_rmul_tuple k t a1 its.toArray n dd sl)
                ⟨ho, rfl, ⟨_, ho, rfl⟩, call_meets F.slot_tuple_mul ⟨_, ho, rfl⟩ F.entry_tuple_mul (F.args_tuple_mul_2 _ _) (tup_mul0 a1 its.toArray n dd sl k t hc0 hne (by rw [decide_eq_true hk0]; rfl)) ⟨ho, ?_⟩⟩)
            have ev : ([] : List Val) = (List.replicate k.toNat vs).flatten := by
              have : k.toNat = 0 := by omega
              rw [this]; rfl
            refine ⟨.ref s.heap.objs.size, upd H s.heap.objs.size (.tup []), I.laid (t' := s.toks) (fun b ob q => Heap.get?_push_of_some _ q) (Nat.le_refl _) ?_, rfl, lay_tup r .nil (pp [] ev) _ (I.hok.fresh (Nat.le_refl _))⟩
            exact ⟨Nat.zero_le _, [], .nil, IsTup.new _ _⟩
      · exact p.elim
    | _ => exact p.elim
  | _ => exact p.elim
/-- all products -/
def isTup : Val → Bool
  | .tup _ => true
  | _ => false
def vMulA (x y : Val) (h : Hh) : Res Val := if isTup x = true then vMulT x y h else vMul x y h
theorem nr_mulT : ∀ x y h z k, vMulT x y h ≠ .rs z k := fun x y h z k => by unfold vMulT; (repeat' split) <;> simp
theorem nr_mulA : ∀ x y h z k, vMulA x y h ≠ .rs z k := fun x y h z k => by
  unfold vMulA; split
  · exact nr_mulT x y h z k
  · exact nr_mul x y h z k
theorem o_mulA (hu : OpR X (binaryOp .Mult) (rM2 (gm X) W0 vMul)) : OpR X (binaryOp .Mult) (rM2 (gm X) W0 vMulA) :=
  fun pins s τ H x y v u Q I rx ry ⟨μ, hh, a, b, r, ra, rb, p⟩ => by
    unfold vMulA at p
    split at p
    · exact o_mulT pins s τ H x y v u Q I rx ry ⟨μ, hh, a, b, r, ra, rb, p⟩
    · exact hu pins s τ H x y v u Q I rx ry ⟨μ, hh, a, b, r, ra, rb, p⟩
/-! ### dict displays -/
def mPairs : List (ME × ME) → Loc → Hh → Res (List (Val × Val))
  | [], _, h => .ok [] h
  | (a, b) :: r, σ, h => (a σ h).bind fun x h1 => (b σ h1).bind fun y h2 => (mPairs r σ h2).bind fun ps h3 => .ok ((x, y) :: ps) h3
def dMerge (kvs more : List (Val × Val)) : List (Val × Val) := more.foldl (fun acc kv => dPut acc kv.1 kv.2) kvs
def keysOk : List (Val × Val) → Bool
  | [] => true
  | (k, _) :: r => (keyOf k).isSome && keysOk r
inductive RPs (G : Gm) (μ : List Addr) (H : Hp) : List (Val × Val) → List (V × V) → Prop
  | nil : RPs G μ H [] []
  | cons {k v : Val} {x y : V} {ps : List (Val × Val)} {qs : List (V × V)} : RV G μ H k x → RV G μ H v y → RPs G μ H ps qs → RPs G μ H ((k, v) :: ps) ((x, y) :: qs)
theorem RPs.keys {G : Gm} {μ : List Addr} {H : Hp} : ∀ {ps : List (Val × Val)} {qs : List (V × V)}, RPs G μ H ps qs → keysOk ps = true → ∃ kws : List (Key × V), qs = kws.map (fun kv => (kV kv.1, kv.2)) ∧ RKs G μ H ps kws
  | _, _, .nil, _ => ⟨[], rfl, .nil⟩
  | _, _, .cons (k := k) (v := v) (x := x) (y := y) rk rv t, e => by
    unfold keysOk at e
    obtain ⟨e1, e2⟩ := Bool.and_eq_true_iff.mp e
    obtain ⟨kws, q1, q2⟩ := RPs.keys t e2
    cases qk : keyOf k with
    | none => rw [qk] at e1; cases e1
    | some kk =>
      refine ⟨(kk, y) :: kws, ?_, .cons qk rv q2⟩
      rw [q1]
      have : x = kV kk := by
        cases k with
        | int i => cases qk; cases rk; rfl
        | str i => cases qk; cases rk; rfl
        | _ => cases qk
      rw [this]; rfl
theorem dMerge_ok {G : Gm} {μ : List Addr} {H : Hp} : ∀ {more : List (Val × Val)} {mws : List (Key × V)} {kvs : List (Val × Val)} {kws : List (Key × V)}, RKs G μ H more mws → RKs G μ H kvs kws → RKs G μ H (dMerge kvs more) (mergeK kws mws)
  | _, _, _, _, .nil, r => r
  | _, _, _, _, .cons (kvs := m1) (kws := m2) q rv t, r => dMerge_ok (more := m1) (mws := m2) t (dPut_ok q rv r)
theorem tPairs_ok {τ : L2.St} {σ : Loc} : ∀ (ms : List (ME × ME)) {μ : List Addr} {h : Hh} {H : Hp} {Q : List (V × V) → Hp → Prop}, LR (gm X) μ H σ τ → HR (gm X) μ h H →
    Ps (gm X) (WE W τ) μ H (mPairs ms σ h) (fun ps μ' _ H' => ∀ qs, RPs (gm X) μ' H' ps qs → Q qs H') → tPairs (ms.map fun m => (tM (gm X) W m.1, tM (gm X) W m.2)) τ H Q
  | [], μ, h, H, Q, l, r, p => p.at r [] .nil
  | (a, b) :: ms, μ, h, H, Q, l, r, p => by
    refine ⟨μ, σ, h, l, r, ?_⟩
    refine (Ps.bind p).imp fun x μ1 h1 H1 p1 e1 r1 q1 w1 rw1 => ?_
    refine ⟨μ1, σ, h1, l.mono p1 e1, r1, ?_⟩
    refine (Ps.bind q1).imp fun y μ2 h2 H2 p2 e2 r2 q2 w2 rw2 => ?_
    show tPairs _ τ H2 _
    refine tPairs_ok ms (l.mono (p1.trans p2) (e1.trans e2).et) r2 ?_
    refine (Ps.bind q2).imp fun ps μ3 h3 H3 p3 e3 r3 q3 qs rqs => ?_
    exact q3.at r3 _ (.cons (rw1.mono (p2.trans p3) (e2.trans e3).et) (rw2.mono p3 e3.et) rqs)
def mDisp (ms : List (ME × ME)) : ME := fun σ h => (mPairs ms σ (h ++ [.dct []])).bind fun ps h1 => match h1[h.length]? with
  | some (.dct []) => if keysOk ps = true ∧ ps.length ≤ 15 then .ok (.ref h.length) (h1.set h.length (.dct (dMerge [] ps))) else .no
  | _ => .no
theorem RPs.length {G : Gm} {μ : List Addr} {H : Hp} : ∀ {ps : List (Val × Val)} {qs : List (V × V)}, RPs G μ H ps qs → ps.length = qs.length
  | _, _, .nil => rfl
  | _, _, .cons _ _ t => by simp [RPs.length t]
theorem s_disp {keys : List (Option Expr)} {values : List Expr} (ms : List (ME × ME)) (h : PPs X pos keys values (ms.map fun m => (tM (gm X) W m.1, tM (gm X) W m.2))) (hall : keys.all (·.isSome) = true := by rfl) (hl : keys.length = values.length := by rfl) (h0 : keys ≠ [] := by exact List.cons_ne_nil _ _)
    (h15 : keys.length ≤ 15 := by decide) : CE X W (.Dict keys values pos) (mDisp ms) := by
  refine peI (pe_disp h hall hl h0 h15) fun τ H Q ⟨μ, σ, hh, l, r, p⟩ a ha => ?_
  have r1 : HR (gm X) (μ ++ [a]) (hh ++ [.dct []]) (upd H a (.dK [])) := r.laid ha ⟨[], upd_same, .nil⟩
  have hi : (μ ++ [a])[hh.length]? = some a := by rw [← r.len]; simp
  have px : μ <+: μ ++ [a] := List.prefix_append μ [a]
  have ex : Ex H (upd H a (.dK [])) := Ex.new ha
  refine tPairs_ok ms (l.mono px ex.et) r1 ?_
  refine (Ps.bind (Ps.mono px ex p)).imp fun ps μ1 h1 H1 p1 e1 rr1 q1 qs rqs => ?_
  obtain ⟨ob, hob, ro⟩ := rr1.obj (pre_get p1 hi)
  rw [hob] at q1
  cases ob with
  | dct kvs =>
    cases kvs with
    | cons c d => exact q1.elim
    | nil =>
      obtain ⟨kws, g1, g2⟩ := ro
      cases g2
      dsimp only at q1
      split at q1
      · rename_i hz
        obtain ⟨kws, e1, rk⟩ := rqs.keys hz.1
        have ex2 : Ex H1 (upd H1 a (.dK (mergeK [] kws))) := Ex.put g1 (fun _ z => nomatch z) fun _ _ z => nomatch z
        refine ⟨g1, kws, e1, by rw [← List.length_map (f := fun kv : Key × V => (kV kv.1, kv.2)), ← e1, ← rqs.length]; exact hz.2, ?_⟩
        exact q1 μ1 _ (List.prefix_refl _) ex2 (rr1.put (pre_get p1 hi) g1 (fun _ z => nomatch z) ⟨_, upd_same, (dMerge_ok rk .nil).mono (List.prefix_refl _) ex2.et⟩) _ (.ref (pre_get p1 hi))
      · exact q1.elim
  | _ => exact q1.elim
def vNewD : ME := fun _ h => .ok (.ref h.length) (h ++ [.dct []])
theorem s_newD : CE X W (.Dict [] [] pos) vNewD := peI pe_dnewK fun τ H Q ⟨μ, σ, hh, l, r, p⟩ a ha =>
  p (μ ++ [a]) _ (List.prefix_append μ [a]) (Ex.new ha) (r.laid ha ⟨[], upd_same, .nil⟩) _ (.ref (by rw [← r.len]; simp))
theorem lay_dct {G : Gm} {μ : List Addr} {h : Hh} {H : Hp} {kvs : List (Val × Val)} {kws : List (Key × V)} (r : HR G μ h H) (rv : RKs G μ H kvs kws) {Q : VK} {W : XK} (p : Ps G W μ H (.ok (.ref h.length) (h ++ [.dct kvs])) (qV G Q)) : ∀ a, H a = none → Q (.ref a) (upd H a (.dK kws)) := fun a ha =>
  p (μ ++ [a]) _ (List.prefix_append μ [a]) (Ex.new ha) (r.laid ha ⟨kws, upd_same, rv.mono (List.prefix_append μ [a]) (Et.new ha)⟩) _ (.ref (by rw [← r.len]; simp))
end
end U
/-! Layer A, part 14: calls with keywords; defs with defaults. -/
namespace U
open PySem L2

/-- the values at these places -/
def pick {α : Type} (ix : List Nat) (l : List α) : List α := ix.filterMap fun i => l[i]?
theorem RVs.nget {G : Gm} {μ : List Addr} {H : Hp} {vs : List Val} {ws : List V} {i : Nat} (r : RVs G μ H vs ws) (e : vs[i]? = none) : ws[i]? = none :=
  List.getElem?_eq_none_iff.mpr (by rw [← r.length]; exact List.getElem?_eq_none_iff.mp e)
theorem RVs.pick {G : Gm} {μ : List Addr} {H : Hp} {vs : List Val} {ws : List V} (r : RVs G μ H vs ws) : ∀ ix : List Nat, RVs G μ H (U.pick ix vs) (U.pick ix ws)
  | [] => .nil
  | i :: ix => by
    unfold U.pick
    cases e : vs[i]? with
    | none => rw [List.filterMap_cons_none e, List.filterMap_cons_none (r.nget e)]; exact RVs.pick r ix
    | some v =>
      obtain ⟨w, e2, rv⟩ := r.get e
      rw [List.filterMap_cons_some e, List.filterMap_cons_some e2]
      exact .cons rv (RVs.pick r ix)
theorem vals_pick {xs : List V} {us : List Value} (r : Vals xs us) : ∀ ix : List Nat, Vals (U.pick ix xs) (U.pick ix us)
  | [] => .nil
  | i :: ix => by
    unfold U.pick
    cases e : xs[i]? with
    | none => rw [List.filterMap_cons_none e, List.filterMap_cons_none (r.none_of e)]; exact vals_pick r ix
    | some v =>
      obtain ⟨w, e2, rv⟩ := r.get e
      rw [List.filterMap_cons_some e, List.filterMap_cons_some e2]
      exact .cons rv (vals_pick r ix)
/-- how a call binds: n values by place, values by the names ks, defaults behind -/
def Bnd (K : PySem.W.Frag) (fd : FuncData) (ps : List Str) (n : Nat) (ks : List Str) (ix : List Nat) (dus : List Value) : Prop :=
  ∀ (s : Shared) (us ws : List Value), K.In s.heap → us.length = n → ws.length = ks.length → BindsTo s fd ⟨us, ks.zip ws⟩ (ps.zip (pick ix (us ++ (ws ++ dus))))

section
variable {X : Cx} {W : WX} {j k : Nat} {f : Addr} {fd : FuncData} {ps ks : List Str} {sp : Sp} {x m : Str} {p pos apos : Pos} {e o : Expr} {es : List Expr} {kws : List Keyword} {F : Fn} {n N : Nat} {ma mo : ME} {mm mk : MA} {ix : List Nat} {ds : List Val}
/-- the arguments in their order -/
def kwF (n m : Nat) (ix : List Nat) (ds : List Val) (N : Nat) (F : Fn) (vs zs : List Val) (h : Hh) : Res Val :=
  if vs.length = n ∧ zs.length = m then (if (pick ix (vs ++ (zs ++ ds))).length = N then F (pick ix (vs ++ (zs ++ ds))) h else .no) else .no
def mKw (n m : Nat) (ix : List Nat) (ds : List Val) (N : Nat) (F : Fn) (mm mk : MA) : ME := fun σ h => (mm σ h).bind fun vs h1 => (mk σ h1).bind fun zs h2 => kwF n m ix ds N F vs zs h2
structure FnKw (P : Program) (w : World) (K : PySem.W.Frag) (mg : Str → Option Value) (base : Heap) (x : Str) (k N : Nat) (F : Fn) (n : Nat) (ks : List Str) (ix : List Nat) (ds : List Val) : Prop where
  ex : ∃ f fd ps dvs dus, mg x = some (.ref f) ∧ PySem.W.keepIn K (.ref f) = true ∧ Bnd K fd ps n ks ix dus ∧ Vals dvs dus ∧ (∀ μ H, RVs ⟨K, mg⟩ μ H ds dvs) ∧ FK P w K mg base k f fd ps (spF ⟨K, mg⟩ F N)
theorem kw_ps {μ : List Addr} {h : Hh} {H : Hp} {vs zs : List Val} {ws ys dvs : List V} {Q : VK} {E : XK} (r : HR (gm X) μ h H) (rv : RVs (gm X) μ H vs ws) (rz : RVs (gm X) μ H zs ys) (rd : ∀ μ H, RVs (gm X) μ H ds dvs) {m : Nat} (pp : Ps (gm X) E μ H (kwF n m ix ds N F vs zs h) (qV (gm X) Q)) :
    ws.length = n ∧ ys.length = m ∧ spF (gm X) F N (pick ix (ws ++ (ys ++ dvs))) H Q E := by
  unfold kwF at pp
  split at pp
  · rename_i hl
    split at pp
    · rename_i hN
      exact ⟨by rw [← rv.length]; exact hl.1, by rw [← rz.length]; exact hl.2, spF_of r ((rv.append (rz.append (rd μ H))).pick ix) hN pp⟩
    · exact pp.elim
  · exact pp.elim
theorem run_kw {pins : List (Addr × Obj)} {τ : St} {H : Hp} {s : Shared} {Q : VK} {us ws dus : List Value} {vs zs dvs : List V} (c : Cok X W k) (T : FK X.prog X.w X.K X.mg X.base k f fd ps sp) (hb : Bnd X.K fd ps n ks ix dus) (rd : Vals dvs dus)
    (I : L2.Inv X pins τ H s) (r : Vals vs us) (rz : Vals zs ws) (l1 : vs.length = n) (l2 : zs.length = ks.length) (h : sp (pick ix (vs ++ (zs ++ dvs))) H Q (WE W τ)) : wpAny (model X.prog X.w) X.A (call (.ref f) us (ks.zip ws)) (EP X pins τ Q) X.xe s := by
  refine wpAny_call (codeAny_mono (run_fk c T (hb s us ws I.kIn (r.length.symm.trans l1) (rz.length.symm.trans l2)) I (vals_pick (r.append (rz.append rd)) ix) h) fun r s' hq => ?_)
  cases r with
  | error e => exact hq
  | ok fl => cases fl <;> exact hq
theorem s_callK (c : Cok X W k) (T : FnKw X.prog X.w X.K X.mg X.base x j N F n ks ix ds) (hj : j ≤ k) (ha : CA X W (e :: es) mm) (hkw : CK X W kws mk) (hg : Gl X x := by rfl)
    (hall : (backToKw pos (keywordEach kws X.env)).all (·.1.isSome) = true := by rfl) (hks : (backToKw pos (keywordEach kws X.env)).filterMap (·.1) = ks := by rfl) (hdb : (x == ("__debug__" : Str)) = false := by decide)
    (he : starEach (e :: es) X.env = (false, eval e X.env) :: starEach es X.env := by rfl) (hpl : ((backTo pos (starEach (e :: es) X.env)).any (·.1) || (backToKw pos (keywordEach kws X.env)).any (·.1.isNone)) = false := by rfl) :
    CE X W (.Call (.Name x p) (e :: es) kws pos) (mKw n ks.length ix ds N F mm mk) := by
  obtain ⟨f, fd, ps, dvs, dus, hm, kp, hb, rd, rds, T⟩ := T.ex
  refine ⟨fun pins s τ H Q I ⟨μ, σ, hh, l, r, pp⟩ => ?_⟩
  refine wpAny_Call_Name_kw (ld_glob I hg hm ?_ hdb)
  refine PySem.W.callWith_KW (h₀ := X.base) I.ok.mod.kin kp hall (thn (ha.run pos pins s τ H (fun ws H1 => tMA (gm X) W mk τ H1 fun ys H2 => ws.length = n ∧ ys.length = ks.length ∧ spF (gm X) F N (pick ix (ws ++ (ys ++ dvs))) H2 Q (WE W τ)) I ⟨μ, σ, hh, l, r, ?_⟩) fun us s1 ⟨vs, H1, I1, rr, q⟩ => ?_) hpl he
  · refine (Ps.bind pp).imp fun vs μ1 h1 H1 p1 e1 r1 q1 ws rws => ⟨μ1, σ, h1, l.mono p1 e1, r1, ?_⟩
    refine (Ps.bind q1).imp fun zs μ2 h2 H2 p2 e2 r2 q2 ys rys => ?_
    exact kw_ps r2 (rws.mono p2 e2.et) rys rds q2
  · refine thn (hkw.run pos pins s1 τ H1 _ I1 q) fun ws s2 ⟨zs, H2, I2, rz, l1, l2, q2⟩ => ⟨I2.kIn, ?_⟩
    rw [hks]
    exact run_kw (c.mono hj) T hb rd I2 rr rz l1 l2 q2
theorem s_callK0 (c : Cok X W k) (T : FnKw X.prog X.w X.K X.mg X.base x j N F 0 ks ix ds) (hj : j ≤ k) (hkw : CK X W kws mk) (hg : Gl X x := by rfl)
    (hall : (backToKw pos (keywordEach kws X.env)).all (·.1.isSome) = true := by rfl) (hks : (backToKw pos (keywordEach kws X.env)).filterMap (·.1) = ks := by rfl) (hdb : (x == ("__debug__" : Str)) = false := by decide)
    (hpl : ((backTo pos (starEach [] X.env)).any (·.1) || (backToKw pos (keywordEach kws X.env)).any (·.1.isNone)) = false := by rfl) :
    CE X W (.Call (.Name x p) [] kws pos) (mKw 0 ks.length ix ds N F maNil mk) := by
  obtain ⟨f, fd, ps, dvs, dus, hm, kp, hb, rd, rds, T⟩ := T.ex
  refine ⟨fun pins s τ H Q I ⟨μ, σ, hh, l, r, pp⟩ => ?_⟩
  refine wpAny_Call_Name_kw (ld_glob I hg hm ?_ hdb)
  refine PySem.W.callWith_KW0 (h₀ := X.base) I.ok.mod.kin kp hall ?_ hpl
  refine thn (hkw.run pos pins s τ H (fun ys H2 => (0 : Nat) = 0 ∧ ys.length = ks.length ∧ spF (gm X) F N (pick ix ([] ++ (ys ++ dvs))) H2 Q (WE W τ)) I ⟨μ, σ, hh, l, r, ?_⟩) fun ws s2 ⟨zs, H2, I2, rz, l1, l2, q2⟩ => ⟨I2.kIn, ?_⟩
  · have pp' : Ps (gm X) (WE W τ) μ H ((mk σ hh).bind fun zs h2 => kwF 0 ks.length ix ds N F [] zs h2) (qV (gm X) Q) := pp
    refine (Ps.bind pp').imp fun zs μ2 h2 H2 p2 e2 r2 q2 ys rys => ?_
    exact kw_ps (ws := []) r2 .nil rys rds q2
  · rw [hks]
    exact run_kw (us := []) (vs := []) (c.mono hj) T hb rd I2 .nil rz rfl l2 q2
/-! methods -/
structure MtKw (P : Program) (w : World) (K : PySem.W.Frag) (mg : Str → Option Value) (base : Heap) (C m : Str) (k N : Nat) (F : Fn) (n : Nat) (ks : List Str) (ix : List Nat) (ds : List Val) : Prop where
  ex : ∃ Ca f fd ps dvs dus, mg C = some (.ref Ca) ∧ Cls K Ca ∧ Meth K Ca m f ∧ Bnd K fd ps n ks ix dus ∧ Vals dvs dus ∧ (∀ μ H, RVs ⟨K, mg⟩ μ H ds dvs) ∧ FK P w K mg base k f fd ps (spF ⟨K, mg⟩ F N)
def mMethK (C m : Str) (n nk : Nat) (ix : List Nat) (ds : List Val) (N : Nat) (F : Fn) (a : ME) (mm mk : MA) : ME := fun σ h => (a σ h).bind fun x h1 => if isI C m x h1 = true then (mm σ h1).bind fun xs h2 => (mk σ h2).bind fun zs h3 => kwF n nk ix ds N F (x :: xs) zs h3 else .no
theorem s_methK {C : Str} {pl : Sem Bool} (c : Cok X W k) (T : MtKw X.prog X.w X.K X.mg X.base C m j N F n ks ix ds) (hj : j ≤ k) (ho : CE X W o mo) (ha : CA X W (e :: es) mm) (hkw : CK X W kws mk)
    (hall : (backToKw pos (keywordEach kws X.env)).all (·.1.isSome) = true := by rfl) (hks : (backToKw pos (keywordEach kws X.env)).filterMap (·.1) = ks := by rfl)
    (he : starEach (e :: es) X.env = (false, eval e X.env) :: starEach es X.env := by rfl) (hpl : ((backTo pos (starEach (e :: es) X.env)).any (·.1) || (backToKw pos (keywordEach kws X.env)).any (·.1.isNone)) = false := by rfl)
    (ht : eval (.Call (.Attribute o m apos) (e :: es) kws pos) X.env = (do
      let ov ← eval o X.env
      standAt apos.atName
      let (f, first) ← holding [ov] (getMethod ov m pl)
      callWith pos f first (backTo pos (starEach (e :: es) X.env)) (backToKw pos (keywordEach kws X.env))) := by rfl) : CE X W (.Call (.Attribute o m apos) (e :: es) kws pos) (mMethK C m n ks.length ix ds N F mo mm mk) := by
  obtain ⟨Ca, f, fd, ps, dvs, dus, hm, cl, mt, hb, rd, rds, T⟩ := T.ex
  refine ⟨fun pins s τ H Q I ⟨μ, σ, hh, l, r, pp⟩ => ?_⟩
  refine PySem.W.methodCall_KW (pl := pl) (thn (ho.run pins s τ H (fun x H1 => ∃ a dx gs, x = .ref a ∧ H1 a = some (.ins Ca dx gs) ∧ gs.lookup m = none ∧ tMA (gm X) W mm τ H1 fun ws H2 => tMA (gm X) W mk τ H2 fun ys H3 => (x :: ws).length = n ∧ ys.length = ks.length ∧ spF (gm X) F N (pick ix ((x :: ws) ++ (ys ++ dvs))) H3 Q (WE W τ)) I ⟨μ, σ, hh, l, r, ?_⟩) fun u s1 ⟨x, H1, I1, rx, a, dx, gs, ex, ea, lk, q⟩ => ?_) ht
  · refine (Ps.bind pp).imp fun x μ1 h1 H1 p1 e1 r1 q1 w1 rw1 => ?_
    split at q1
    · rename_i hi
      obtain ⟨a, dx, gs, i1, i2, i3⟩ := isI_ok r1 rw1 hi hm
      refine ⟨a, dx, gs, i1, i2, i3, μ1, σ, h1, l.mono p1 e1, r1, ?_⟩
      refine (Ps.bind q1).imp fun xs μ2 h2 H2 p2 e2 r2 q2 ws rws => ⟨μ2, σ, h2, l.mono (p1.trans p2) (e1.trans e2).et, r2, ?_⟩
      refine (Ps.bind q2).imp fun zs μ3 h3 H3 p3 e3 r3 q3 ys rys => ?_
      exact kw_ps r3 (.cons (rw1.mono (p2.trans p3) (e2.trans e3).et) (rws.mono p3 e3.et)) rys rds q3
    · exact q1.elim
  · subst ex
    obtain rfl : u = Value.ref a := rx
    refine getmeth_ok I1 ea cl mt lk ?_
    refine PySem.W.callWith_KW (first := [.ref a]) (h₀ := X.base) I.ok.mod.kin mt.kp hall (thn (ha.run pos pins s1 τ H1 _ I1 q) fun us s2 ⟨vs, H2, I2, rr, q2⟩ => ?_) hpl he
    refine thn (hkw.run pos pins s2 τ H2 _ I2 q2) fun ws s3 ⟨zs, H3, I3, rz, l1, l2, q3⟩ => ⟨I3.kIn, ?_⟩
    rw [hks]
    exact run_kw (us := .ref a :: us) (vs := .ref a :: vs) (c.mono hj) T hb rd I3 (.cons rfl rr) rz l1 l2 q3
theorem s_methK0 {C : Str} {pl : Sem Bool} (c : Cok X W k) (T : MtKw X.prog X.w X.K X.mg X.base C m j N F 1 ks ix ds) (hj : j ≤ k) (ho : CE X W o mo) (hkw : CK X W kws mk)
    (hall : (backToKw pos (keywordEach kws X.env)).all (·.1.isSome) = true := by rfl) (hks : (backToKw pos (keywordEach kws X.env)).filterMap (·.1) = ks := by rfl)
    (hpl : ((backTo pos (starEach [] X.env)).any (·.1) || (backToKw pos (keywordEach kws X.env)).any (·.1.isNone)) = false := by rfl)
    (ht : eval (.Call (.Attribute o m apos) [] kws pos) X.env = (do
      let ov ← eval o X.env
      standAt apos.atName
      let (f, first) ← holding [ov] (getMethod ov m pl)
      callWith pos f first (backTo pos (starEach [] X.env)) (backToKw pos (keywordEach kws X.env))) := by rfl) : CE X W (.Call (.Attribute o m apos) [] kws pos) (mMethK C m 1 ks.length ix ds N F mo maNil mk) := by
  obtain ⟨Ca, f, fd, ps, dvs, dus, hm, cl, mt, hb, rd, rds, T⟩ := T.ex
  refine ⟨fun pins s τ H Q I ⟨μ, σ, hh, l, r, pp⟩ => ?_⟩
  refine PySem.W.methodCall_KW (pl := pl) (thn (ho.run pins s τ H (fun x H1 => ∃ a dx gs, x = .ref a ∧ H1 a = some (.ins Ca dx gs) ∧ gs.lookup m = none ∧ tMA (gm X) W mk τ H1 fun ys H3 => [x].length = 1 ∧ ys.length = ks.length ∧ spF (gm X) F N (pick ix ([x] ++ (ys ++ dvs))) H3 Q (WE W τ)) I ⟨μ, σ, hh, l, r, ?_⟩) fun u s1 ⟨x, H1, I1, rx, a, dx, gs, ex, ea, lk, q⟩ => ?_) ht
  · refine (Ps.bind pp).imp fun x μ1 h1 H1 p1 e1 r1 q1 w1 rw1 => ?_
    split at q1
    · rename_i hi
      obtain ⟨a, dx, gs, i1, i2, i3⟩ := isI_ok r1 rw1 hi hm
      refine ⟨a, dx, gs, i1, i2, i3, μ1, σ, h1, l.mono p1 e1, r1, ?_⟩
      have q1' : Ps (gm X) (WE W τ) μ1 H1 ((mk σ h1).bind fun zs h2 => kwF 1 ks.length ix ds N F [x] zs h2) (qV (gm X) Q) := q1
      refine (Ps.bind q1').imp fun zs μ3 h3 H3 p3 e3 r3 q3 ys rys => ?_
      exact kw_ps (ws := [w1]) r3 (.cons (rw1.mono p3 e3.et) .nil) rys rds q3
    · exact q1.elim
  · subst ex
    obtain rfl : u = Value.ref a := rx
    refine getmeth_ok I1 ea cl mt lk ?_
    refine PySem.W.callWith_KW0 (first := [.ref a]) (h₀ := X.base) I.ok.mod.kin mt.kp hall ?_ hpl
    refine thn (hkw.run pos pins s1 τ H1 _ I1 q) fun ws s3 ⟨zs, H3, I3, rz, l1, l2, q3⟩ => ⟨I3.kIn, ?_⟩
    rw [hks]
    exact run_kw (us := [.ref a]) (vs := [.ref a]) (c.mono hj) T hb rd I3 (.cons rfl .nil) rz l1 l2 q3
/-! new instances -/
structure MkKw (P : Program) (w : World) (K : PySem.W.Frag) (mg : Str → Option Value) (base : Heap) (C : Str) (k N : Nat) (F : Fn) (n : Nat) (ks : List Str) (ix : List Nat) (ds : List Val) : Prop where
  ex : ∃ Ca f fd ps dvs dus, mg C = some (.ref Ca) ∧ Mk K Ca f ∧ Bnd K fd ps (n + 1) ks ix dus ∧ Vals dvs dus ∧ (∀ μ H, RVs ⟨K, mg⟩ μ H ds dvs) ∧ FK P w K mg base k f fd ps (spF ⟨K, mg⟩ F N)
def mkK (C : Str) (n m : Nat) (ix : List Nat) (ds : List Val) (N : Nat) (F : Fn) (vs zs : List Val) (h : Hh) : Res Val :=
  (kwF (n + 1) m ix ds N F (.ref h.length :: vs) zs (h ++ [.ins C []])).bind fun v h1 => match v with
  | .non => .ok (.ref h.length) h1
  | _ => .no
def mMkK (C : Str) (n m : Nat) (ix : List Nat) (ds : List Val) (N : Nat) (F : Fn) (mm mk : MA) : ME := fun σ h => (mm σ h).bind fun vs h1 => (mk σ h1).bind fun zs h2 => mkK C n m ix ds N F vs zs h2
theorem mkK_ps {C : Str} {Ca : Addr} {μ : List Addr} {h : Hh} {H : Hp} {vs zs : List Val} {ws ys dvs : List V} {Q : VK} {E : XK} {m : Nat} (r : HR (gm X) μ h H) (rv : RVs (gm X) μ H vs ws) (rz : RVs (gm X) μ H zs ys) (rd : ∀ μ H, RVs (gm X) μ H ds dvs) (hm : X.mg C = some (.ref Ca)) (p : Ps (gm X) E μ H (mkK C n m ix ds N F vs zs h) (qV (gm X) Q)) :
    ∀ x dx, H x = none → H dx = none → dx ≠ x → ((V.ref x :: ws).length = n + 1 ∧ ys.length = m ∧ spF (gm X) F N (pick ix ((.ref x :: ws) ++ (ys ++ dvs))) (upd (upd H dx (.own x)) x (.ins Ca dx [])) (fun v H2 => v = .non ∧ Q (.ref x) H2) E) := fun x dx hx hdx ne => by
  have hx' : upd H dx (.own x) x = none := by rw [upd_ne (Ne.symm ne)]; exact hx
  have e1 : Ex H (upd H dx (.own x)) := Ex.new hdx
  have e2 : Ex (upd H dx (.own x)) (upd (upd H dx (.own x)) x (.ins Ca dx [])) := Ex.new hx'
  have r1 : HR (gm X) (μ ++ [x]) (h ++ [.ins C []]) (upd (upd H dx (.own x)) x (.ins Ca dx [])) := (r.laidT hdx).laid hx' ⟨Ca, dx, [], hm, upd_same, .nil⟩
  have hi : (μ ++ [x])[h.length]? = some x := by rw [← r.len]; simp
  have px := List.prefix_append μ [x]
  refine kw_ps r1 (.cons (.ref hi) (rv.mono px (e1.trans e2).et)) (rz.mono px (e1.trans e2).et) rd ?_
  refine (Ps.bind (Ps.mono px (e1.trans e2) p)).imp fun v μ1 h1 H1 p1 ex1 rr1 q1 w rw1 => ?_
  cases rw1 with
  | non => exact ⟨rfl, q1.at rr1 _ (.ref (pre_get p1 hi))⟩
  | _ => exact q1.elim
theorem run_mkK {pins : List (Addr × Obj)} {τ : St} {H : Hp} {s : Shared} {Q : VK} {us ws dus : List Value} {vs zs dvs : List V} {C f : Addr} {fd : FuncData} {ps : List Str} {sp : Sp} (c : Cok X W k) (hj : j + 1 ≤ k) (M : Mk X.K C f) (T : FK X.prog X.w X.K X.mg X.base j f fd ps sp) (hb : Bnd X.K fd ps (n + 1) ks ix dus) (rd : Vals dvs dus)
    (I : L2.Inv X pins τ H s) (r : Vals vs us) (rz : Vals zs ws) (l1 : vs.length + 1 = n + 1) (l2 : zs.length = ks.length)
    (h : ∀ x dx, H x = none → H dx = none → dx ≠ x → sp (pick ix ((.ref x :: vs) ++ (zs ++ dvs))) (upd (upd H dx (.own x)) x (.ins C dx [])) (fun v H2 => v = .non ∧ Q (.ref x) H2) (WE W τ)) :
    wpAny (model X.prog X.w) X.A (call (.ref C) us (ks.zip ws)) (EP X pins τ Q) X.xe s := by
  have hq := h (s.heap.objs.size + 1) s.heap.objs.size (I.hok.fresh (Nat.le_succ _)) (I.hok.fresh (Nat.le_refl _)) (Nat.ne_of_lt (Nat.lt_succ_self _))
  have I2 := Inv.made (C := C) I
  have r1 : Vals (V.ref (s.heap.objs.size + 1) :: vs) (Value.ref (s.heap.objs.size + 1) :: us) := .cons rfl r
  have r2 := vals_pick (r1.append (rz.append rd)) ix
  have hr : Room (j + 1) X.A := c.rm.mono hj
  have n1 : (Value.ref (s.heap.objs.size + 1) :: us).length = n + 1 := by rw [← r1.length]; exact l1
  refine wpAny_call (make_map (f := f) I.kIn M.makes M.init (beq_iff_eq.mp M.fn) (codeAny_mono (T.run _ X.stack _ _ ⟨Value.ref (s.heap.objs.size + 1) :: us, ks.zip ws⟩ _ _ _ (WE W τ) (hr.make C us (ks.zip ws)) (by rw [guards_make]; exact c.gu)
    (I2.env0.make C us (ks.zip ws)) (hb _ _ ws I2.kIn n1 (rz.length.symm.trans l2)) r2 hq) fun rr s' hq' => ?_))
  cases rr with
  | error e => exact passAt c.tk τ pins _ _ e s' I2 hq'
  | ok fl =>
    cases fl with
    | ret u =>
      obtain ⟨v, H', I3, rv, ev, q3⟩ := I2.after hq'
      subst ev
      exact ⟨rv, ⟨V.ref (s.heap.objs.size + 1), H', I3, rfl, q3⟩⟩
    | next => exact hq'.elim
    | brk => exact hq'.elim
    | cont => exact hq'.elim
theorem s_makeK (c : Cok X W k) (T : MkKw X.prog X.w X.K X.mg X.base x j N F n ks ix ds) (hj : j + 1 ≤ k) (ha : CA X W (e :: es) mm) (hkw : CK X W kws mk) (hg : Gl X x := by rfl)
    (hall : (backToKw pos (keywordEach kws X.env)).all (·.1.isSome) = true := by rfl) (hks : (backToKw pos (keywordEach kws X.env)).filterMap (·.1) = ks := by rfl) (hdb : (x == ("__debug__" : Str)) = false := by decide)
    (he : starEach (e :: es) X.env = (false, eval e X.env) :: starEach es X.env := by rfl) (hpl : ((backTo pos (starEach (e :: es) X.env)).any (·.1) || (backToKw pos (keywordEach kws X.env)).any (·.1.isNone)) = false := by rfl) :
    CE X W (.Call (.Name x p) (e :: es) kws pos) (mMkK x n ks.length ix ds N F mm mk) := by
  obtain ⟨Ca, f, fd, ps, dvs, dus, hm, M, hb, rd, rds, T⟩ := T.ex
  refine ⟨fun pins s τ H Q I ⟨μ, σ, hh, l, r, pp⟩ => ?_⟩
  refine wpAny_Call_Name_kw (ld_glob I hg hm ?_ hdb)
  refine PySem.W.callWith_KW (h₀ := X.base) I.ok.mod.kin M.kp hall (thn (ha.run pos pins s τ H (fun ws H1 => tMA (gm X) W mk τ H1 fun ys H2 => ∀ y dx, H2 y = none → H2 dx = none → dx ≠ y → ((V.ref y :: ws).length = n + 1 ∧ ys.length = ks.length ∧ spF (gm X) F N (pick ix ((.ref y :: ws) ++ (ys ++ dvs))) (upd (upd H2 dx (.own y)) y (.ins Ca dx [])) (fun v H3 => v = .non ∧ Q (.ref y) H3) (WE W τ))) I ⟨μ, σ, hh, l, r, ?_⟩) fun us s1 ⟨vs, H1, I1, rr, q⟩ => ?_) hpl he
  · refine (Ps.bind pp).imp fun vs μ1 h1 H1 p1 e1 r1 q1 ws rws => ⟨μ1, σ, h1, l.mono p1 e1, r1, ?_⟩
    refine (Ps.bind q1).imp fun zs μ2 h2 H2 p2 e2 r2 q2 ys rys => ?_
    exact mkK_ps r2 (rws.mono p2 e2.et) rys rds hm q2
  · refine thn (hkw.run pos pins s1 τ H1 _ I1 q) fun ws s2 ⟨zs, H2, I2, rz, q2⟩ => ⟨I2.kIn, ?_⟩
    rw [hks]
    have q0 := q2 (s2.heap.objs.size + 1) s2.heap.objs.size (I2.hok.fresh (Nat.le_succ _)) (I2.hok.fresh (Nat.le_refl _)) (Nat.ne_of_lt (Nat.lt_succ_self _))
    exact run_mkK c hj M T hb rd I2 rr rz q0.1 q0.2.1 fun y dx a b d => (q2 y dx a b d).2.2
theorem s_makeK0 (c : Cok X W k) (T : MkKw X.prog X.w X.K X.mg X.base x j N F 0 ks ix ds) (hj : j + 1 ≤ k) (hkw : CK X W kws mk) (hg : Gl X x := by rfl)
    (hall : (backToKw pos (keywordEach kws X.env)).all (·.1.isSome) = true := by rfl) (hks : (backToKw pos (keywordEach kws X.env)).filterMap (·.1) = ks := by rfl) (hdb : (x == ("__debug__" : Str)) = false := by decide)
    (hpl : ((backTo pos (starEach [] X.env)).any (·.1) || (backToKw pos (keywordEach kws X.env)).any (·.1.isNone)) = false := by rfl) :
    CE X W (.Call (.Name x p) [] kws pos) (mMkK x 0 ks.length ix ds N F maNil mk) := by
  obtain ⟨Ca, f, fd, ps, dvs, dus, hm, M, hb, rd, rds, T⟩ := T.ex
  refine ⟨fun pins s τ H Q I ⟨μ, σ, hh, l, r, pp⟩ => ?_⟩
  refine wpAny_Call_Name_kw (ld_glob I hg hm ?_ hdb)
  refine PySem.W.callWith_KW0 (h₀ := X.base) I.ok.mod.kin M.kp hall ?_ hpl
  refine thn (hkw.run pos pins s τ H (fun ys H2 => ∀ y dx, H2 y = none → H2 dx = none → dx ≠ y → ([V.ref y].length = 0 + 1 ∧ ys.length = ks.length ∧ spF (gm X) F N (pick ix ([.ref y] ++ (ys ++ dvs))) (upd (upd H2 dx (.own y)) y (.ins Ca dx [])) (fun v H3 => v = .non ∧ Q (.ref y) H3) (WE W τ))) I ⟨μ, σ, hh, l, r, ?_⟩) fun ws s2 ⟨zs, H2, I2, rz, q2⟩ => ⟨I2.kIn, ?_⟩
  · have pp' : Ps (gm X) (WE W τ) μ H ((mk σ hh).bind fun zs h2 => mkK x 0 ks.length ix ds N F [] zs h2) (qV (gm X) Q) := pp
    refine (Ps.bind pp').imp fun zs μ2 h2 H2 p2 e2 r2 q2 ys rys => ?_
    exact mkK_ps (ws := []) r2 .nil rys rds hm q2
  · rw [hks]
    have q0 := q2 (s2.heap.objs.size + 1) s2.heap.objs.size (I2.hok.fresh (Nat.le_succ _)) (I2.hok.fresh (Nat.le_refl _)) (Nat.ne_of_lt (Nat.lt_succ_self _))
    exact run_mkK (us := []) (vs := []) c hj M T hb rd I2 .nil rz rfl q0.2.1 fun y dx a b d => (q2 y dx a b d).2.2
/-! a def with defaults -/
theorem fk_fd {P : Program} {w : World} {K : PySem.W.Frag} {mg : Str → Option Value} {base : Heap} {k : Nat} {f : Addr} {x qual : Str} {st : Stmt} {fd : FuncData} {N ps : List Str} {body : MS} {dvs : List V} {kws : List (Str × V)} (F : FunD K x qual (defArgs st) (defBody st) (defScope st) dvs kws f fd) (S : FnScope N ps (defScope st)) {n : Nat} (hn : ps.length = n)
    (hbody : Bd P w K mg base N qual st k body) : FK P w K mg base (k + 1) f fd ps (spF ⟨K, mg⟩ (mkFn N.length body) n) := by
  obtain ⟨oc, od, dV, kV, doc, pm, an, cdv, ct, osl, rfl, lk, hcd, _, _⟩ := F.ex
  refine fk_of lk hcd S (fun vs H Q E h => h.1.trans hn.symm) fun A outer s H vs Q E hr gu h => ?_
  obtain ⟨hl, μ, hh, us, r, rv, p⟩ := h
  refine ⟨_, hbody f cdv A outer s H E ⟨takes_of rfl rfl rfl rfl, hr, gu, PassesOwn.leaving, rfl, S.nd⟩, ?_⟩
  have e : us.length = vs.length := rv.length
  have hs : start N vs = vs.map some ++ List.replicate (N.length - us.length) none := by rw [e]; rfl
  refine ⟨μ, us.map some ++ List.replicate (N.length - us.length) none, hh, by rw [hs]; exact lr_start _ rv, r, ?_⟩
  unfold mkFn at p
  cases q : body (us.map some ++ List.replicate (N.length - us.length) none) hh with
  | nx σ h' => rw [q] at p; exact fun μ2 H2 t p2 e2 r2 l2 => p μ2 H2 p2 e2 r2 .non .non
  | rt v h' => rw [q] at p; exact fun μ2 H2 w2 p2 e2 r2 rv2 => p μ2 H2 p2 e2 r2 w2 rv2
  | bk σ h' => rw [q] at p; exact p.elim
  | ct σ h' => rw [q] at p; exact p.elim
  | rs x σ h' => rw [q] at p; exact fun μ2 H2 t c d p2 e2 r2 l2 rx => p μ2 H2 c d p2 e2 r2 rx
  | no => rw [q] at p; exact p.elim
end
end U
/-! Layer A, part 15: list(d.values()), list(d.items()), dict(..), sorted(..), three names at once. -/
namespace U
open PySem L2
section
variable {X : Cx} {W : WX} {j k n : Nat} {pos p apos cpos : Pos} {e : Expr} {ma : ME}
/-! ### list(d.values()) -/
def vVals (x : Val) (h : Hh) : Res Val := match x with
  | .ref n => (match h[n]? with
    | some (.dct kvs) => .ok (.ref h.length) (h ++ [.lst (kvs.map (·.2))])
    | some (.fdc kvs) => .ok (.ref h.length) (h ++ [.lst (kvs.map (·.2))])
    | _ => .no)
  | _ => .no
def mVals (a : ME) : ME := fun σ h => (a σ h).bind fun x h1 => vVals x h1
theorem vals_of_kv : ∀ {kws : List (Key × V)} {vs : List (Key × Value)}, KV kws vs → Vals (kws.map (·.2)) (vs.map (·.2))
  | _, _, .nil => .nil
  | _, _, .cons r t => .cons r.2 (vals_of_kv t)
theorem s_vals (hc : X.calm = true) (he : CE X W e ma) (hm : X.mg "list" = none) (hg : Gl X "list" := by rfl) (hv : bootBuiltins "list" = some (.type "list") := by rfl) (hbase : attributeBase e "values" X.env (eval e X.env) = eval e X.env := by rfl) (hline : (apos.endLine == cpos.line) = true := by rfl)
    (hs : starEach [.Call (.Attribute e "values" apos) [] [] cpos] X.env = (false, eval (.Call (.Attribute e "values" apos) [] [] cpos) X.env) :: starEach [] X.env := by rfl) :
    CE X W (.Call (.Name "list" p) [.Call (.Attribute e "values" apos) [] [] cpos] [] pos) (mVals ma) := by
  refine ⟨fun pins s τ H Q I ⟨μ, σ, hh, l, r, pp⟩ => ?_⟩
  refine wpAny_Call_Name_kw (ld_blt I hg hm hv ?_)
  refine PyProof.Rows.callWith_type1 ?_ hs rfl
  rw [hs]
  show wpAny _ _ (spliced ((false, eval (.Call (.Attribute e "values" apos) [] [] cpos) X.env) :: backTo pos (starEach [] X.env))) _ _ s
  refine Calls.spliced_cons ?_
  refine wpAny_Call_method (T := "dict") (id := "dict.values") hbase rfl hline F.plainAttrs_dict F.slot_dict_values F.type_dict_values (thn (he.run pins s τ H (fun x H1 => ∃ (d : Addr) (kws : List (Key × V)), x = .ref d ∧ L2.Rd H1 d (.dK kws) ∧ ∀ q, H1 q = none → Q (.ref q) (upd H1 q (.lst (kws.map (·.2))))) I ⟨μ, σ, hh, l, r, ?_⟩) fun u s1 ⟨x, H1, I1, rx, d, kws, ex, hd, q⟩ => ?_)
  · refine (Ps.bind pp).imp fun x μ1 h1 H1 p1 e1 r1 q1 w1 rw1 => ?_
    unfold vVals at q1
    cases rw1 with
    | @ref n a qa =>
      obtain ⟨ob, ho, ro⟩ := r1.obj qa
      dsimp only at q1
      rw [ho] at q1
      cases ob with
      | dct kvs => obtain ⟨kws, g1, g2⟩ := ro; exact ⟨a, kws, rfl, .inl g1, lay_lst r1 g2.vals q1⟩
      | fdc kvs => obtain ⟨o, kws, g1, g2⟩ := ro; exact ⟨a, kws, rfl, .inr ⟨o, g1⟩, lay_lst r1 g2.vals q1⟩
      | _ => exact q1.elim
    | _ => exact q1.elim
  · subst ex
    obtain rfl : u = Value.ref d := rx
    obtain ⟨hz, lo, vs, kv, hdo⟩ := dk_rd I1.hok hd
    obtain ⟨ep, hat⟩ := hdo.dictAt
    have lk : kws.length = vs.length := Paired.length kv
    have I2 : L2.Inv X pins τ H1 { s1 with heap := s1.heap.push { cls := .type "dict_values", data := .fields #[.ref d] } } := I1.kept (t' := s1.toks) fun b ob q => Heap.get?_push_of_some _ q
    refine ⟨hdo.typeIs, hdo.mapOf.noDict, ?_⟩
    show wpAny _ _ (callWith cpos (.builtin "dict.values") [.ref d] [] []) _ X.xe s1
    refine method_meetsIn F.slot_dict_values F.entry_dict_values rfl (PySem.evalArgs_none ⟨rfl, hdo.typeIs, F.args_dict_values_1 _, _, meets_dict_values (mixKind X.prog X.w) d lo, ⟨vs, hdo⟩, ?_⟩)
    refine Calls.spliced_nil ?_
    refine PySem.W.kdl_call (PySem.W.kdl_values (knd := mixKind X.prog X.w) (kvs := vs) (ep := ep)) (I1.ok.hd hc) ⟨⟨_, Heap.get?_push_size _ rfl, rfl, rfl⟩, hat.push _⟩ (by omega) fun h' tk acc c' hk hD hacc => ?_
    have ev : acc.toList = vs.map (·.2) := PySem.W.kdl_vals_eq acc.toList (by rw [Array.length_toList]; exact hacc.1) fun i v ee => hacc.2 i v (by rw [← Array.getElem?_toList]; exact ee)
    refine ⟨.ref _, upd H1 _ (.lst (kws.map (·.2))), I2.laid (t' := tk) hk (Nat.le_refl _) (show ObjOk X.prog X.w _ _ _ (.lst (kws.map (·.2))) from ⟨by rw [List.length_map]; exact hz, acc.toList, c', by rw [ev]; exact vals_of_kv kv, by rw [Array.toArray_toList]; exact hD⟩), rfl, q _ (I2.hok.fresh (Nat.le_refl _))⟩
/-! ### list(d.items()) -/
def vItems (x : Val) (h : Hh) : Res Val := match x with
  | .ref n => (match h[n]? with
    | some (.dct kvs) => .ok (.ref h.length) (h ++ [.lst (kvs.map fun kv => .tup [kv.1, kv.2])])
    | _ => .no)
  | _ => .no
def mItems (a : ME) : ME := fun σ h => (a σ h).bind fun x h1 => vItems x h1
theorem items_rv {G : Gm} {μ : List Addr} {H : Hp} : ∀ {kvs : List (Val × Val)} {kws : List (Key × V)} {ts : List Addr}, RKs G μ H kvs kws → Paired (fun (t : Addr) (q : Key × V) => H t = some (.tup [kV q.1, q.2])) ts kws → RVs G μ H (kvs.map fun kv => Val.tup [kv.1, kv.2]) (ts.map V.ref)
  | _, _, _, .nil, .nil => .nil
  | _, _, _, .cons q r t, .cons a b => .cons (.tup (.inl a) (.cons (rv_key q) (.cons r .nil))) (items_rv t b)
theorem s_items (hc : X.calm = true) (he : CE X W e ma) (hm : X.mg "list" = none) (hg : Gl X "list" := by rfl) (hv : bootBuiltins "list" = some (.type "list") := by rfl) (hbase : attributeBase e "items" X.env (eval e X.env) = eval e X.env := by rfl) (hline : (apos.endLine == cpos.line) = true := by rfl)
    (hs : starEach [.Call (.Attribute e "items" apos) [] [] cpos] X.env = (false, eval (.Call (.Attribute e "items" apos) [] [] cpos) X.env) :: starEach [] X.env := by rfl) :
    CE X W (.Call (.Name "list" p) [.Call (.Attribute e "items" apos) [] [] cpos] [] pos) (mItems ma) := by
  refine peI (LiI.pe_listItems hc he hg hm hv hbase hline hs) fun τ H Q ⟨μ, σ, hh, l, r, pp⟩ => ⟨μ, σ, hh, l, r, ?_⟩
  refine (Ps.bind pp).imp fun x μ1 h1 H1 p1 e1 r1 q1 w1 rw1 => ?_
  unfold vItems at q1
  cases rw1 with
  | @ref n a qa =>
    obtain ⟨ob, ho, ro⟩ := r1.obj qa
    dsimp only at q1
    rw [ho] at q1
    cases ob with
    | dct kvs =>
      obtain ⟨kws, g1, g2⟩ := ro
      refine ⟨a, kws, rfl, g1, fun H' q ts kp hp ht hn hq pr => ?_⟩
      have ex : Ex H1 H' := ⟨fun b ws z => kp b _ z, fun b o u z => kp b _ z⟩
      have rk : HR (gm X) μ1 h1 H' := r1.keep ex.et fun b hb => by
        obtain ⟨i, hi⟩ := List.getElem?_of_mem hb
        obtain ⟨o, _, ro⟩ := r1.obj hi
        obtain ⟨u, hu, _⟩ := ro.some
        rw [hu, kp b u hu]
      have hq0 : q ∉ μ1 := r1.none hp
      -- q as a new object of the plain heap
      refine q1 (μ1 ++ [q]) H' (List.prefix_append μ1 [q]) ex ?_ _ (.ref (by rw [← r1.len]; simp))
      refine ⟨by simp [r1.len], List.nodup_append.mpr ⟨r1.nd, by simp, fun b hb c hc => ?_⟩, fun i o b e1 e2 => ?_⟩
      · have : c = q := by simpa using hc
        subst this
        exact fun z => hq0 (z ▸ hb)
      · by_cases hi : i < μ1.length
        · rw [List.getElem?_append_left hi] at e2
          rw [List.getElem?_append_left (by rw [← r1.len]; exact hi)] at e1
          exact (rk.ob i o b e1 e2).mono (List.prefix_append μ1 [q]) (Ex.refl H').et rfl
        · have hlt : i < (μ1 ++ [q]).length := (List.getElem?_eq_some_iff.mp e2).1
          rw [List.length_append, List.length_singleton] at hlt
          have : i = μ1.length := by omega
          subst this
          rw [List.getElem?_append_right (Nat.le_refl _), Nat.sub_self] at e2
          rw [r1.len, List.getElem?_append_right (Nat.le_refl _), Nat.sub_self] at e1
          simp at e1 e2
          subst e1; subst e2
          exact ⟨_, hq, items_rv (g2.mono (List.prefix_append μ1 [q]) ex.et) pr⟩
    | _ => exact q1.elim
  | _ => exact q1.elim
/-! ### dict(..) -/
def pairsOf : List Val → Option (List (Val × Val))
  | [] => some []
  | .tup [k, v] :: r => if (keyOf k).isSome = true then (pairsOf r).map ((k, v) :: ·) else none
  | _ => none
theorem pairsOf_ok {G : Gm} {μ : List Addr} {H : Hp} : ∀ {vs : List Val} {ws : List V} {ps : List (Val × Val)}, RVs G μ H vs ws → pairsOf vs = some ps → ∃ (as : List Addr) (kws : List (Key × V)), ws = as.map V.ref ∧ Paired (fun p kv => SqT G.K H p [kV kv.1, kv.2]) as kws ∧ RKs G μ H ps kws
  | _, _, _, .nil, e => by cases e; exact ⟨[], [], rfl, .nil, .nil⟩
  | _, _, ps, .cons (v := v) (vs := vr) r t, e => by
    cases r with
    | @tup us zs a ta rs =>
      cases rs with
      | nil => simp [pairsOf] at e
      | cons r1 t1 =>
        cases t1 with
        | nil => simp [pairsOf] at e
        | cons r2 t2 =>
          cases t2 with
          | cons _ _ => simp [pairsOf] at e
          | nil =>
            rename_i k x v y
            simp only [pairsOf] at e
            split at e
            · rename_i hk
              cases q : pairsOf vr with
              | none => rw [q] at e; cases e
              | some pr =>
                rw [q] at e; cases e
                obtain ⟨as, kws, e1, e2, e3⟩ := pairsOf_ok t q
                cases qk : keyOf k with
                | none => rw [qk] at hk; cases hk
                | some kk =>
                  have ex : x = kV kk := by
                    cases k with
                    | int i => cases qk; cases r1; rfl
                    | str i => cases qk; cases r1; rfl
                    | _ => cases qk
                  subst ex
                  exact ⟨a :: as, (kk, y) :: kws, by rw [e1]; rfl, .cons ta.sq e2, .cons qk r2 e3⟩
            · cases e
    | _ => simp [pairsOf] at e
def vDict : Fn := fun vs h => match vs with
  | [.ref n] => (match h[n]? with
    | some (.lst ws) => (match pairsOf ws with | some ps => .ok (.ref h.length) (h ++ [.dct (dMerge [] ps)]) | none => .no)
    | some (.dct kvs) => .ok (.ref h.length) (h ++ [.dct kvs])
    | some (.fdc kvs) => .ok (.ref h.length) (h ++ [.dct kvs])
    | _ => .no)
  | _ => .no
theorem nr_dict : ∀ vs h z k, vDict vs h ≠ .rs z k := fun x h z k => by unfold vDict; (repeat' split) <;> simp
theorem c_dict (hc : X.calm = true) : CallR X (.type "dict") (rMs (gm X) W0 vDict) := cr1 (fun pins s τ H x us Q μ hh a I rx r ra p => by
  unfold vDict at p
  cases ra with
  | @ref n a1 q1 =>
    obtain ⟨o, ho, ro⟩ := r.obj q1
    dsimp only at p
    rw [ho] at p
    cases o with
    | lst vs =>
      obtain ⟨ws, g1, g2⟩ := ro
      dsimp only at p
      cases q : pairsOf vs with
      | none => rw [q] at p; exact p.elim
      | some ps =>
        rw [q] at p
        obtain ⟨as, kws, e1, e2, e3⟩ := pairsOf_ok g2 q
        subst e1
        exact call_dictP hc pins s τ H _ us Q I rx ⟨a1, as, kws, rfl, .inl (.inl g1), e2, lay_dct r (dMerge_ok e3 .nil) p⟩
    | dct vs => obtain ⟨ws, g1, g2⟩ := ro; exact call_dictD pins s τ H _ us Q I rx ⟨a1, ws, rfl, .inl g1, lay_dct r g2 p⟩
    | fdc vs => obtain ⟨ob, ws, g1, g2⟩ := ro; exact call_dictD pins s τ H _ us Q I rx ⟨a1, ws, rfl, .inr ⟨ob, g1⟩, lay_dct r g2 p⟩
    | _ => exact p.elim
  | _ => exact p.elim) (fun _ => rfl) (fun a _ _ _ => by cases a <;> rfl)
/-! ### sorted(..) of texts -/
def strLe (a b : Str) : Bool := !strLt b a
def sSort (xs : List Str) : List Str := xs.mergeSort strLe
theorem str_ext {a b : Str} (h : a.cps.toList = b.cps.toList) : a = b := by
  cases a; cases b
  simp only at h
  congr 1
  exact Array.toList_inj.mp h
theorem strLe_trans (a b c : Str) : strLe a b = true → strLe b c = true → strLe a c = true := by
  unfold strLe strLt
  simp only [Bool.not_eq_true', decide_eq_false_iff_not]
  intro h1 h2 h3
  exact h1 (List.lt_of_le_of_lt (List.not_lt.mp h2) h3)
theorem strLe_total (a b : Str) : (strLe a b || strLe b a) = true := by
  unfold strLe strLt
  by_cases h : b.cps.toList < a.cps.toList
  · have : ¬ a.cps.toList < b.cps.toList := List.lt_asymm h
    simp [h, this]
  · simp [h]
theorem strLe_anti (a b : Str) (h1 : strLe a b = true) (h2 : strLe b a = true) : a = b := by
  unfold strLe strLt at h1 h2
  simp only [Bool.not_eq_true', decide_eq_false_iff_not] at h1 h2
  exact str_ext (List.le_antisymm (List.not_lt.mp h1) (List.not_lt.mp h2))
theorem rising_pw : ∀ (xs : List Str) (x : Str), PyProof.Rows.risingS x xs = true → (x :: xs).Pairwise fun a b => strLe a b = true
  | [], x, _ => by simp
  | y :: ys, x, h => by
    unfold PyProof.Rows.risingS at h
    rw [PyProof.Rows.ltCps_eq, Bool.and_eq_true] at h
    have ih := rising_pw ys y h.2
    have hxy : strLe x y = true := h.1
    refine List.pairwise_cons.mpr ⟨fun z hz => ?_, ih⟩
    rcases List.mem_cons.mp hz with e | hz
    · rw [e]; exact hxy
    · exact strLe_trans _ _ _ hxy ((List.pairwise_cons.mp ih).1 z hz)
theorem sorted_pw {xs : List Str} (h : PyProof.Rows.sortedS xs = true) : xs.Pairwise fun a b => strLe a b = true := by
  cases xs with
  | nil => exact .nil
  | cons x r => exact rising_pw r x h
theorem sSort_eq {ys xs : List Str} (p : ys.Perm xs) (h : PyProof.Rows.sortedS ys = true) : ys = sSort xs := by
  refine List.Perm.eq_of_pairwise (le := fun a b => strLe a b = true) (fun a b _ _ => strLe_anti a b) (sorted_pw h) (List.pairwise_mergeSort strLe_trans strLe_total xs) ?_
  exact p.trans (List.mergeSort_perm xs strLe).symm
def strsOf' : List Val → Option (List Str)
  | [] => some []
  | .str i :: r => (strsOf' r).map (i :: ·)
  | _ => none
theorem strsOf'_ok : ∀ {vs : List Val} {ns : List Str}, strsOf' vs = some ns → vs = ns.map Val.str
  | [], ns, e => by cases e; rfl
  | .str i :: r, ns, e => by
    unfold strsOf' at e
    cases q : strsOf' r with
    | none => rw [q] at e; cases e
    | some ms => rw [q] at e; cases e; rw [strsOf'_ok q]; rfl
  | .non :: _, _, e => by cases e
  | .bl _ :: _, _, e => by cases e
  | .int _ :: _, _, e => by cases e
  | .tup _ :: _, _, e => by cases e
  | .ref _ :: _, _, e => by cases e
  | .ty _ :: _, _, e => by cases e
  | .gl _ :: _, _, e => by cases e
@[simp] theorem strsOf'_map (ns : List Str) : strsOf' (ns.map Val.str) = some ns := by
  induction ns with
  | nil => rfl
  | cons n ns ih => simp [strsOf', ih]
def vSortS : Fn := fun vs h => match vs with
  | [.ref n] => (match h[n]? with
    | some (.lst ws) => (match strsOf' ws with | some xs => if xs.length < 64 then .ok (.ref h.length) (h ++ [.lst ((sSort xs).map Val.str)]) else .no | none => .no)
    | some (.dct kvs) => (match strsOf' (keysV kvs) with | some xs => if xs.length < 64 then .ok (.ref h.length) (h ++ [.lst ((sSort xs).map Val.str)]) else .no | none => .no)
    | some (.fdc kvs) => (match strsOf' (keysV kvs) with | some xs => if xs.length < 64 then .ok (.ref h.length) (h ++ [.lst ((sSort xs).map Val.str)]) else .no | none => .no)
    | _ => .no)
  | _ => .no
theorem nr_sortS : ∀ vs h z k, vSortS vs h ≠ .rs z k := fun x h z k => by unfold vSortS; (repeat' split) <;> simp
theorem RKs.skeys {G : Gm} {μ : List Addr} {H : Hp} : ∀ {kvs : List (Val × Val)} {kws : List (Key × V)} {xs : List Str}, RKs G μ H kvs kws → strsOf' (keysV kvs) = some xs → kws.map (·.1) = xs.map Sum.inr
  | _, _, xs, .nil, e => by cases e; rfl
  | _, _, xs, .cons (k := k) (kvs := kr) q r t, e => by
    have e' : strsOf' (k :: keysV kr) = some xs := e
    cases k with
    | str i =>
      unfold strsOf' at e'
      cases q2 : strsOf' (keysV kr) with
      | none => rw [q2] at e'; cases e'
      | some ms =>
        rw [q2] at e'; cases e'
        cases q
        rw [List.map_cons, RKs.skeys t q2]; rfl
    | _ => cases e'
theorem c_sortS (hc : X.calm = true) : CallR X (.builtin "sorted") (rMs (gm X) W0 vSortS) := cr1 (fun pins s τ H x us Q μ hh a I rx r ra p => by
  unfold vSortS at p
  cases ra with
  | @ref n a1 q1 =>
    obtain ⟨o, ho, ro⟩ := r.obj q1
    dsimp only at p
    rw [ho] at p
    have dic : ∀ {kvs : List (Val × Val)} {kws : List (Key × V)}, RKs (gm X) μ H kvs kws → L2.Rd H a1 (.dK kws) → Ps (gm X) W0 μ H (match strsOf' (keysV kvs) with | some xs => if xs.length < 64 then .ok (.ref hh.length) (hh ++ [.lst ((sSort xs).map Val.str)]) else .no | none => .no) (qV (gm X) Q) →
        wpAny (model X.prog X.w) X.A (call (.builtin "sorted") us) (EP X pins τ Q) X.xe s := fun {kvs kws} g2 rd p => by
      cases q : strsOf' (keysV kvs) with
      | none => rw [q] at p; exact p.elim
      | some xs =>
        rw [q] at p
        dsimp only at p
        split at p
        · rename_i hz
          exact call_sortedD hc pins s τ H _ us Q I rx ⟨a1, kws, xs, rfl, rd, g2.skeys q, hz, fun ys q hp hs hq => by
            rw [sSort_eq hp hs]; exact lay_lst r (.ofStrs _) p q hq⟩
        · exact p.elim
    cases o with
    | lst vs =>
      obtain ⟨ws, g1, g2⟩ := ro
      dsimp only at p
      cases q : strsOf' vs with
      | none => rw [q] at p; exact p.elim
      | some xs =>
        rw [q] at p
        dsimp only at p
        split at p
        · rename_i hz
          rw [strsOf'_ok q] at g2
          exact cr_sortedS pins s τ H _ us Q I rx ⟨a1, xs, rfl, by rw [← g2.strs]; exact .inl (.inl g1), hz, fun ys q hp hs hq => by
            rw [sSort_eq hp hs]; exact lay_lst r (.ofStrs _) p q hq⟩
        · exact p.elim
    | dct vs => obtain ⟨ws, g1, g2⟩ := ro; exact dic g2 (.inl g1) p
    | fdc vs => obtain ⟨ob, ws, g1, g2⟩ := ro; exact dic g2 (.inr ⟨ob, g1⟩) p
    | _ => exact p.elim
  | _ => exact p.elim) (fun _ => rfl) (fun a _ _ _ => by cases a <;> rfl)
/-! ### a, b, c = x, y, z -/
def msPar3 (i j l : Nat) (a : MA) : MS := fun σ h => (a σ h).fl σ fun vs h1 => match vs with
  | [u, v, w] => .nx (((σ.set i (some u)).set j (some v)).set l (some w)) h1
  | _ => .no
theorem t_par3 (i j l : Nat) {x y z : Str} {e1 e2 e3 : Expr} {ma : MA} {px py pz pt : Pos} {kt k2 pt2} (ha : CA X W [e1, e2, e3] ma) (hN : X.N.Nodup) (hc : X.calm = true) (hi : X.N[i]? = some x := by rfl) (hj : X.N[j]? = some y := by rfl) (hl : X.N[l]? = some z := by rfl) (hij : i ≠ j := by decide) (hil : i ≠ l := by decide) (hjl : j ≠ l := by decide)
    (hx : X.env.scope.names.lookup x = some .local := by rfl) (hy : X.env.scope.names.lookup y = some .local := by rfl) (hz : X.env.scope.names.lookup z = some .local := by rfl)
    (hw : swappedStores [.Tuple [.Name x px, .Name y py, .Name z pz] kt pt] (.Tuple [e1, e2, e3] k2 pt2) X.env = pure (some [x, y, z]) := by rfl)
    (hs : swapsWithSole [.Tuple [.Name x px, .Name y py, .Name z pz] kt pt] (.Tuple [e1, e2, e3] k2 pt2) pos.line X.env = pure false := by rfl) : CS X W (.Assign [.Tuple [.Name x px, .Name y py, .Name z pz] kt pt] (.Tuple [e1, e2, e3] k2 pt2) pos) (msPar3 i j l ma) := by
  refine psI (ps_par3 hc hN hi hj hl hij hil hjl hx hy hz ha hw hs) fun D τ H ⟨μ, σ, h, lr, r, p⟩ => ⟨μ, σ, h, lr, r, ?_⟩
  refine (PsF.bind lr p).imp fun xs μ1 h1 H1 p1 e1 r1 q1 ws rws => ?_
  cases rws with
  | nil => exact q1.elim
  | cons a1 b1 =>
    cases b1 with
    | nil => exact q1.elim
    | cons a2 b2 =>
      cases b2 with
      | nil => exact q1.elim
      | cons a3 b3 =>
        cases b3 with
        | nil => exact ⟨_, _, _, rfl, q1 μ1 H1 _ (List.prefix_refl _) (Ex.refl _) r1 ((((lr.mono p1 e1).set i a1).set j a2).set l a3)⟩
        | cons _ _ => exact q1.elim
end
end U
/-! Layer A, part 16: the law's head. -/
namespace U
open PySem PySem.Spec PyProof.Rows L2

/-- the law's def computes True -/
theorem law_run {P : Program} {w : World} {K : PySem.W.Frag} {mg mb : Str → Option Value} {k : Nat} {fa a : Addr} {fd : FuncData} {x : Str} {G : Fn} {s₁ : Shared} {vs : List Value} {ns : List Int}
    (KX : K.In s₁.heap) (hns : s₁.heap.Ns mainGlobals mg) (hb : s₁.heap.Ns builtinsNs mb) (hbb : ∀ x : Str, x ≠ "__name__" → mb x = bootBuiltins x) (hlim : s₁.heap.NoLimit) (hsys : ∃ mm, s₁.heap.Ns sysModules mm) (hg : s₁.gens = #[])
    (ha : s₁.heap.get? a = some { cls := .type "list", data := .seq vs.toArray }) (hi : IntsAre vs ns) (hl : ns.length ≤ sizeLine) (hr : Room k callerA) (nol : ∀ o, K.lookup a = some o → o.cls ≠ .type "list")
    (F : ∀ base : Heap, K.In base → base.Ns mainGlobals mg → SysAt base → FK P w K mg base k fa fd [x] (spF ⟨K, mg⟩ G 1)) (hbind : ∀ (s : Shared) (u : Value), BindsTo s fd ⟨[u], []⟩ [(x, u)])
    (hG : ∃ h', G [.ref 0] [.fro (ns.map Val.int)] = .ok (.bl true) h') :
    codeAny (model P w) callerA (.call (.ref fa) ⟨[.ref a], []⟩) (fun r s' => r = .ok (.ret (.bool true)) ∧ OldK s₁.heap s'.heap ∧ s'.os = s₁.os ∧ AllBare s'.gens) s₁ := by
  let ob : Obj := { cls := .type "list", data := .seq vs.toArray }
  let H : Hp := fun b => if b = a then some (.frz ob (.lst (ns.map V.int))) else none
  have Ha : H a = some (.frz ob (.lst (ns.map V.int))) := if_pos rfl
  have Hn : ∀ b, b ≠ a → H b = none := fun b hb => if_neg hb
  have lenV := hi.length
  have nodict : ∀ {b : Addr} {o : Obj} {es : Array DictEntry} {ep : Nat}, s₁.heap.get? b = some o → o.data = .dict es ep → H b = none := fun {b o es ep} e d => Hn b fun z => by
    subst z
    rw [ha] at e
    cases e
    cases d
  have ns_of : ∀ {b : Addr} {m : Str → Option Value}, s₁.heap.Ns b m → (hidT s₁.heap H).Ns b m := fun {b m} q => by
    obtain ⟨o, es, ep, e, d, t⟩ := q
    exact ⟨o, es, ep, hidT_get e (nodict e d), d, t⟩
  have kb : K.In (hidT s₁.heap H) := fun b o e => by
    refine hidT_get (KX b o e) (Hn b fun z => ?_)
    subst z
    have q := KX b o e
    rw [ha] at q
    exact nol o e (by rw [← Option.some.inj q])
  have hM : Mod K mg (hidT s₁.heap H) := by
    obtain ⟨mc, h1, h2⟩ := hlim
    exact ⟨kb, ns_of hns, ⟨mb, ns_of hb, hbb⟩, ⟨mc, ns_of h1, h2⟩⟩
  have sy : SysAt (hidT s₁.heap H) := by
    obtain ⟨mm, q⟩ := hsys
    obtain ⟨o, _, _, e, _⟩ := ns_of q
    exact ⟨o, e⟩
  have hok : HOk P w H s₁.heap := fun b u z => by
    by_cases hba : b = a
    · subst hba
      rw [Ha] at z
      cases z
      exact ⟨ha, by rw [List.length_map]; exact hl, vs, _, vals_ints hi, ha⟩
    · rw [Hn b hba] at z
      cases z
  have e0 : Env0 P w K mg (hidT s₁.heap H) callerA [] s₁ H := ⟨rfl, hM, fun b o e => of_hidT e, Nat.le_of_eq (hidT_size _ _), trivial, fun b hb => absurd (show b ∈ ([] : List Addr) from hb) List.not_mem_nil, hok, .of_eq hg⟩
  obtain ⟨h', hG⟩ := hG
  have hr0 : HR ⟨K, mg⟩ [a] [.fro (ns.map Val.int)] H := ⟨rfl, by simp, fun i o b e1 e2 => by
    cases i with
    | zero =>
      simp at e1 e2
      subst e1; subst e2
      exact ⟨ob, _, Ha, .ofInts ns⟩
    | succ i => simp at e1⟩
  have sp : spF ⟨K, mg⟩ G 1 [.ref a] H (fun v _ => v = .bl true) (fun _ _ _ => False) := by
    refine spF_of hr0 (.cons (.ref (n := 0) rfl) .nil) rfl ?_
    rw [hG]
    intro μ' H' _ _ _ w rw
    cases rw
    rfl
  refine codeAny_mono ((F _ kb (ns_of hns) sy).run callerA [] s₁ H ⟨[.ref a], []⟩ [.ref a] [.ref a] _ _ hr rfl e0 (hbind s₁ (.ref a)) (.cons rfl .nil) sp) fun r s' h => ?_
  cases r with
  | error e =>
    obtain ⟨_, _, _, _, _, _, _, _, _, _, _, _, z⟩ := h
    exact z.elim
  | ok fl =>
    cases fl with
    | next => exact h.elim
    | brk => exact h.elim
    | cont => exact h.elim
    | ret u =>
      obtain ⟨v, H', os, bare, un, hok', rv, q⟩ := h
      have q' : v = .bl true := q
      subst q'
      obtain rfl : u = Value.bool true := rv
      refine ⟨rfl, OldK.of_keep fun b o e => ?_, os, bare⟩
      by_cases hba : b = a
      · subst hba
        have z2 := un.frzs b ob _ Ha
        obtain ⟨e2, _⟩ := hok' b _ z2
        rw [ha] at e
        cases e
        exact e2
      · exact un.keep b o e (Hn b hba) (fun z => absurd (show b ∈ ([] : List Addr) from z) List.not_mem_nil) (by simp)
/-- the goal that k_head leaves -/
theorem walk_fk {l : PySem.W.OpenLaw} {n k : Nat} {q : Program} {loose : List Str} {XP : (Str → Option Value) → Heap → Prop} {YP : World → Heap → Prop} {d : DefRec} {K : Params → PySem.W.Frag} {x : Str} {G : Fn}
    (hn : l.most = some n) (hn2 : n ≤ sizeLine) (hdf : d.params.defaults = []) (hr : Room k callerA) (him : importsNone q = true) (nol : ∀ p : Params, ((K p).all fun z => !(z.2.cls == .type "list")) = true)
    (hY : ∀ (w : World) (h : Heap), YP w h → (K w.params).In h)
    (F : ∀ (w : World) (mg : Str → Option Value) (fa : Addr) (h : Heap), (K w.params).In h → h.Ns mainGlobals mg → mg d.name = some (.ref fa) →
      ∃ fd : FuncData, (∀ (s : Shared) (u : Value), BindsTo s fd ⟨[u], []⟩ [(x, u)]) ∧ ∀ base : Heap, (K w.params).In base → base.Ns mainGlobals mg → SysAt base → FK l.prog w (K w.params) mg base k fa fd [x] (spF ⟨K w.params, mg⟩ G 1))
    (hG : ∀ ns : List Int, ns.length ≤ n → (∀ z ∈ ns, Builtin.Int.intBits z ≤ 1048576) → ∃ h', G [.ref 0] [.fro (ns.map Val.int)] = .ok (.bl true) h') :
    PySem.W.WalkO q loose XP YP l.row.toRowW d [] (fun f vs => PySem.call f vs) := by
  refine Att.attach_callB hn hdf fun w s₀ s₁ mg mb fa o pm cd doc a vs ns G' Y ho hd hcd hmg hobj hints hlen hbits hg => ?_
  have KX := hY w _ Y
  obtain ⟨fd, hb, hF⟩ := F w mg fa _ KX G'.T.g hmg
  obtain ⟨mm, hs, _⟩ := (G'.T.seer him).mods
  refine law_run KX G'.T.g G'.T.b G'.T.builtins G'.T.nolimit ⟨mm, hs⟩ hg hobj hints (Nat.le_trans hlen hn2) hr (fun o e z => ?_) hF hb (hG ns hlen hbits)
  have q := List.all_eq_true.mp (nol w.params) (a, o) (by
    have := List.lookup_eq_some_iff.mp e
    obtain ⟨l1, l2, h1, h2⟩ := this
    rw [h1]; simp)
  simp [z] at q
end U
/-! Layer A, part 17: what the printed derivations use besides. -/
namespace U
open PySem L2
section
variable {X : Cx} {W : WX} {a b c e : Expr} {ma mb mc : ME} {pos : Pos}
theorem chain_imp {f g : Val → Val → Hh → Res Val} (hn : ∀ x y h z k, f x y h ≠ .rs z k) (hn' : ∀ x y h z k, g x y h ≠ .rs z k) (τ : St) (H : Hp) (Q : VK) (q0 : tM (gm X) W (mChain f g ma mb mc) τ H Q) :
    tChain (rM2 (gm X) W0 f) (rM2 (gm X) W0 g) (tM (gm X) W ma) (tM (gm X) W mb) (tM (gm X) W mc) τ H Q := by
  obtain ⟨μ, σ, h, l, r, p⟩ := q0
  refine ⟨μ, σ, h, l, r, ?_⟩
  refine (Ps.bind p).imp fun x μ1 h1 H1 p1 e1 r1 q1 w1 rw1 => ?_
  refine ⟨μ1, σ, h1, l.mono p1 e1, r1, ?_⟩
  refine (Ps.bind q1).imp fun y μ2 h2 H2 p2 e2 r2 q2 w2 rw2 => ?_
  refine ⟨μ2, h2, x, y, r2, rw1.mono p2 e2, rw2, ?_⟩
  cases e : f x y h2 with
  | no => rw [e] at q2; exact q2
  | rs z k => exact absurd e (hn x y h2 z k)
  | ok z h3 =>
    rw [e] at q2
    intro μ3 H3 p3 e3 r3 w3 rw3
    have q3 := Ps.mono p3 e3 q2
    cases z with
    | bl k =>
      cases rw3
      refine ⟨k, rfl, ?_⟩
      cases k with
      | false => exact iteF ((Ps.at q3 r3) _ (.bl false))
      | true =>
        refine iteT ⟨μ3, σ, h3, l.mono ((p1.trans p2).trans p3) ((e1.trans e2).trans e3), r3, ?_⟩
        have q3' : Ps (gm X) (WE W τ) μ3 H3 ((mc σ h3).bind fun w h4 => g y w h4) (qV (gm X) Q) := q3
        refine (Ps.bind q3').imp fun z μ4 h4 H4 p4 e4 r4 q4 w4 rw4 => ?_
        exact ⟨μ4, h4, y, z, r4, rw2.mono (p3.trans p4) (e3.trans e4), rw4, ps_nv q4 (hn' y z h4)⟩
    | _ => exact q3.elim
theorem c_chain {op op' : CmpOp} {f g : Val → Val → Hh → Res Val} (ho : OpR X (compareOp op) (rM2 (gm X) W0 f)) (hn : ∀ x y h z k, f x y h ≠ .rs z k) (ho' : OpR X (compareOp op') (rM2 (gm X) W0 g)) (hn' : ∀ x y h z k, g x y h ≠ .rs z k)
    (ha : CE X W a ma) (hb : CE X W b mb) (hc : CE X W c mc) (hm : lastMarks [op, op'] [b, c] = false := by with_unfolding_all rfl) : CT X W (.Compare a [op, op'] [b, c] pos) (tBl (mChain f g ma mb mc)) := by
  refine ptI (pt_chain ho ho' ha hb hc hm) fun τ H Q ⟨μ, σ, h, l, r, p⟩ => ?_
  refine chain_imp hn hn' τ H _ ⟨μ, σ, h, l, r, ?_⟩
  refine (Ps.bind p).imp fun x μ1 h1 H1 p1 e1 r1 q1 w1 rw1 => ?_
  cases rw1 with
  | bl k => exact ⟨k, rfl, q1.at r1⟩
  | _ => exact q1.elim
theorem s_glI' {x : Str} {i : Int} (hm : ∃ t, X.mg x = some (.int i t)) (hg : Gl X x := by rfl) (hd : (x == ("__debug__" : Str)) = false := by decide) : CE X W (.Name x pos) (mC (.int i)) := by
  obtain ⟨t, hm⟩ := hm
  exact s_glI hm hg hd
theorem s_glS' {x : Str} {i : Str} (hm : ∃ t, X.mg x = some (.str i t)) (hg : Gl X x := by rfl) (hd : (x == ("__debug__" : Str)) = false := by decide) : CE X W (.Name x pos) (mC (.str i)) := by
  obtain ⟨t, hm⟩ := hm
  exact s_glS hm hg hd
theorem s_gl' {x : Str} (hm : ∃ f, X.mg x = some (.ref f)) (hg : Gl X x := by rfl) (hd : (x == ("__debug__" : Str)) = false := by decide) : CE X W (.Name x pos) (mC (.gl x)) := by
  obtain ⟨t, hm⟩ := hm
  exact s_gl hm hg hd
theorem allC_nil {mg : Str → Option Value} {p : Str → Addr → Prop} : ∀ C ∈ ([] : List Str), ∀ Ca, mg C = some (.ref Ca) → p C Ca := fun C h => by cases h
theorem allC_cons {mg : Str → Option Value} {p : Str → Addr → Prop} {C : Str} {cs : List Str} {a : Addr} (hm : mg C = some (.ref a)) (h : p C a) (t : ∀ C ∈ cs, ∀ Ca, mg C = some (.ref Ca) → p C Ca) : ∀ D ∈ C :: cs, ∀ Ca, mg D = some (.ref Ca) → p D Ca := fun D hD Ca q => by
  rcases List.mem_cons.mp hD with e | hD
  · subst e
    rw [hm] at q; cases q
    exact h
  · exact t D hD Ca q
theorem isa_own {K : PySem.W.Frag} {mg : Str → Option Value} {cs : List Str} (h : ∀ C ∈ cs, ∀ Ca, mg C = some (.ref Ca) → ∀ D ∈ cs, ∀ Da, mg D = some (.ref Da) → PySem.W.kitOne K (.ref Da) (.ref Ca) = some (decide (D = C))) :
    ∀ C ∈ cs, ∀ D ∈ cs, ∀ Ca Da, mg C = some (.ref Ca) → mg D = some (.ref Da) → PySem.W.kitOne K (.ref Da) (.ref Ca) = some (decide (D = C)) := fun C hC D hD Ca Da h1 h2 => h C hC Ca h1 D hD Da h2
theorem binds_df {K : PySem.W.Frag} {fd : FuncData} {ps : List Str} {ds : List Value} (n : Nat) (hn : n + ds.length = ps.length) (h : ∀ (s : Shared) (us : List Value), K.In s.heap → us.length = n → BindsTo s fd ⟨us, []⟩ (ps.zip (us ++ ds))) : Binds K fd ps ds := fun s us kin hl => h s us kin (by rw [List.length_append] at hl; omega)
theorem allT_nil {p : String → Prop} : ∀ T ∈ ([] : List String), p T := fun C h => by cases h
theorem allT_cons {p : String → Prop} {T : String} {ts : List String} (h : p T) (t : ∀ T ∈ ts, p T) : ∀ T' ∈ T :: ts, p T' := fun D hD => by
  rcases List.mem_cons.mp hD with e | hD
  · subst e; exact h
  · exact t D hD
end
end U
/-! Layer A, part 18: enumerate of a tuple or a list. -/
namespace U
open PySem PySem.Spec L2
open PyProof.Rows (boot_enumerate)
theorem meets_enum1 {v : Value} {o : Obj} {H : Heap → Prop} (B : Begins v o H) :
    Meets (Builtin.«enumerate.__new__» ⟨[.type "enumerate", v], []⟩) (fun _ R s => H s.heap ∧
      R (.ok (.ret (.ref (s.heap.push o).objs.size))) { s with heap := (s.heap.push o).push { cls := .type "enumerate", data := .fields #[.none, .bool false, .ref s.heap.objs.size, rawInt 0, .none, .none] } }) :=
  .of_wp fun prog w A R s h => by
    obtain ⟨hp, g, d, tk, os⟩ := s; obtain ⟨h1, h⟩ := h
    have hsub := sub_enumerate
    have q1 : ∀ {A' : Around} {E : Value → Shared → Prop} {Q : Value → Shared → Prop}, Q (.ref hp.objs.size) ⟨hp.push o, g, d, tk, os⟩ → wpAny (model prog w) A' (pyIter v) Q E ⟨hp, g, d, tk, os⟩ :=
      fun q => B.iter prog w _ _ ⟨hp, g, d, tk, os⟩ _ h1 q
    wp_walk using q1
    refine wpAny_stack_any fun st => wpAny_pure ?_
    split
    · rename_i c _ _ _ _ _
      cases (c == Value.type "enumerate")
      · wp_walk using q1
        exact ⟨_, rfl, h⟩
      · wp_walk using q1
        exact ⟨_, rfl, h⟩
    · wp_walk using q1
      exact ⟨_, rfl, h⟩
theorem call_enum1 {prog : Program} {w : World} {A : Around} {E : Value → Shared → Prop} {s : Shared} {v : Value} {o : Obj} {H : Heap → Prop} {Q : Value → Shared → Prop} (B : Begins v o H) (h1 : H s.heap)
    (h : ∀ h', IsEnum h' (s.heap.objs.size + 1) s.heap.objs.size 0 .none → h'.get? s.heap.objs.size = some o → h'.objs.size = s.heap.objs.size + 2 →
      (∀ b o, s.heap.get? b = some o → h'.get? b = some o) → Q (.ref (s.heap.objs.size + 1)) { s with heap := h' }) :
    wpAny (model prog w) A (call (.type "enumerate") [v]) Q E s := by
  refine callType_new F.called_enumerate (by decide) (F.typeCall_enumerate_1 _) (F.newCall_enumerate_1 _) (fun obj => F.args_object_init_2 obj _) F.entry_enumerate_new (meets_enum1 B) ⟨h1, ?_⟩
  have hz : (s.heap.push o).objs.size = s.heap.objs.size + 1 := Heap.size_push ..
  show _ ∧ _
  rw [hz]
  have he : IsEnum ((s.heap.push o).push { cls := .type "enumerate", data := .fields #[.none, .bool false, .ref s.heap.objs.size, rawInt 0, .none, .none] }) (s.heap.objs.size + 1) s.heap.objs.size 0 .none := by
    have := Heap.get?_push_size (s.heap.push o) (o := { cls := .type "enumerate", data := .fields #[.none, .bool false, .ref s.heap.objs.size, rawInt 0, .none, .none] }) rfl
    rw [hz] at this; exact this
  exact ⟨⟨_, he, rfl⟩, h _ he (Heap.get?_push_of_some _ (Heap.get?_push_size _ B.free)) (by rw [Heap.size_push, hz]) fun b o x => Heap.get?_push_of_some _ (Heap.get?_push_of_some _ x)⟩
/-- the tuple at a, each item in a new pair -/
def ItT (K : PySem.W.Frag) (a : Addr) : It :=
  ⟨fun i H => ∃ (xs : List V) (x : V), SqT K H a xs ∧ xs[i]? = some x, fun i H v H' => ∃ T x, v = .ref T ∧ H T = none ∧ H' = upd H T (.tup [.int (i : Nat), x]) ∧ ∀ xs, SqT K H a xs → xs[i]? = some x, fun i H => ∃ xs : List V, SqT K H a xs ∧ xs.length ≤ i⟩
theorem next_enumT_end {prog : Program} {w : World} {A : Around} {E : Value → Shared → Prop} {s : Shared} {e it a : Addr} {i : Nat} {j : Int} {items : Array Value} {old : Value} {Q : Option Value → Shared → Prop} (hh : A.handled = none)
    (he : IsEnum s.heap e it j old) (hit : s.heap.IsTupleIter it a i) (ht : s.heap.IsTuple a items) (hx : items[i]? = none)
    (hQ : ∀ h', Heap.ExtBut it s.heap h' → Q none { s with heap := h' }) : wpAny (model prog w) A (pyNext (.ref e)) Q E s := by
  have hT : s.TypeIs (.ref e) "enumerate" := ⟨_, he, rfl⟩
  unfold pyNext
  refine wpAny_bind (wpAny_attempt (wpAny_callSpecial?_slot (name := Str.ofString "__next__") hT F.slot_enumerate_next
    (wpAny_call_entry F.slot_enumerate_next hT F.entry_enumerate_next ?_ (F.args_enumerate_next_1 _))))
  show wpAny _ _ (field (.ref e) 2 >>= _) _ _ _
  refine wpAny_bind (wpAny_field he rfl (x := .ref it) rfl ?_)
  refine wpAny_bind (wpAny_nextOf_tuple_end hh hit ht hx fun h' x he' hx' => ?_)
  obtain ⟨o, ho, hc⟩ := hx'
  refine wpAny_bind (wpAny_isInstance (T := "StopIteration") (b := true) ⟨o, ho, hc⟩ isSubtype_stop ?_)
  exact wpAny_pure (hQ _ he')
theorem turn_enumT {P : Program} {w : World} {K : PySem.W.Frag} {elts : List Expr} {kk : Nat} {tpos : Pos} (a e it : Addr) (hei : e ≠ it) (hai : a ≠ it) (hae : a ≠ e) :
    Turn P w K (.Tuple elts kk tpos) (ItT K a) [e, it] e (fun i h => (∃ old, IsEnum h e it ((i : Nat) : Int) old) ∧ h.IsTupleIter it a i) where
  mem := by simp
  obj := fun i h st b hb => by
    obtain ⟨⟨old, he⟩, ⟨o, ho, hc, hd⟩⟩ := st
    have e' : b = e ∨ b = it := by simpa using hb
    rcases e' with z | z
    · rw [z]; exact ⟨_, he, fun v q => nomatch q⟩
    · rw [z]; exact ⟨o, ho, fun v q => by rw [hd] at q; cases q⟩
  keep := fun i h h' st k => let ⟨⟨old, he⟩, hi⟩ := st; ⟨⟨old, k e (by simp) _ he⟩, hi.at fun o q => k it (by simp) o q⟩
  item := by
    intro X hP hw hK hc i pins s σ H E I hf st hg
    subst hP hw hK
    obtain ⟨⟨old, he⟩, hit⟩ := st
    obtain ⟨xs, x, hq, hx⟩ := hg
    obtain ⟨its, rv, p, hz⟩ := I.tuple hq
    obtain ⟨u, hu, ru⟩ := rv.get hx
    have hel : e < s.heap.objs.size := Heap.lt_size he
    have hil : it < s.heap.objs.size := by obtain ⟨_, q, _⟩ := hit; exact Heap.lt_size q
    have hlt : i < its.toArray.size := by
      have := (List.getElem?_eq_some_iff.mp hu).1
      simpa using this
    have hh : X.A.in1.handled = none := I.ok.hd hc
    refine wpAny_pyNext_enum_itemD (Draws.tuple hh it a hai its.toArray) he ⟨hit, p⟩ hlt hei (by simp [hei, Ne.symm hae]) fun y h' tk hy ho hst hT hsz hk => ?_
    have ey : y = u := by
      have : its.toArray[i]? = some u := by simpa using hu
      rw [this] at hy; exact (Option.some.inj hy).symm
    subst ey
    refine ⟨_, rfl, wpAny_letOwnedTupleGo_enum (s := { s with heap := h', toks := tk + 1 }) ho fun h'' he' sb => ?_⟩
    have hT2 : h''.get? s.heap.objs.size = some { cls := .type "tuple", data := .seq #[.int i tk, y] } := (sb.2 _ (Nat.ne_of_gt hel)).trans hT
    have new : ObjOk X.prog X.w (upd H s.heap.objs.size (.tup [.int (i : Nat), x])) h'' s.heap.objs.size (.tup [.int (i : Nat), x]) :=
      ⟨by show 2 ≤ sizeLine; decide, [.int i tk, y], .cons ⟨_, rfl⟩ (.cons ru .nil), ⟨_, hT2, rfl, _, rfl⟩⟩
    have I1 : L2.Inv X pins σ (upd H s.heap.objs.size (.tup [.int (i : Nat), x])) { s with heap := h'', toks := tk + 1 } :=
      I.turnedNew (ch := [e, it]) (fun b ob hb q => (sb.2 b (fun z => hb (by simp [z]))).trans (hk b ob (fun z => hb (by simp [z])) (fun z => hb (by simp [z])) q)) hf (Nat.le_refl _) new
    refine ⟨.ref s.heap.objs.size, _, I1, rfl, ⟨_, x, rfl, I.hok.fresh (Nat.le_refl _), rfl, fun ys hy => by rw [I.tuple_inj hy hq]; exact hx⟩, ⟨⟨y, ?_⟩, hst.1.at fun o q => (sb.2 it (Ne.symm hei)).trans q⟩, fun b hb => ?_⟩
    · have e1 : ((i + 1 : Nat) : Int) = (i : Int) + 1 := by omega
      rw [e1]; exact he'
    · have hb' : b < s.heap.objs.size := by
        have e' : b = e ∨ b = it := by simpa using hb
        rcases e' with z | z
        · rw [z]; exact hel
        · rw [z]; exact hil
      rw [upd_ne (Nat.ne_of_lt hb')]
      exact (hf b hb).1
  done := by
    intro X hP hw hK hc i pins s σ H E I hf st hg
    subst hP hw hK
    obtain ⟨⟨old, he⟩, hit⟩ := st
    obtain ⟨xs, hq, hx⟩ := hg
    obtain ⟨its, rv, p, hz⟩ := I.tuple hq
    obtain ⟨f0, f1, f2, f3, f4, f5⟩ := hf it (by simp)
    have hl := rv.length
    exact next_enumT_end (I.ok.hd hc) he hit p (by simp; omega) fun h' eb => ⟨rfl, I.turned (t' := s.toks) (fun b o hb q => eb b o hb q) f0 f1 f3 f4 f5⟩
  self := fun A i s Q E st h => let ⟨⟨_, he⟩, _⟩ := st; wpAny_pyIter_enum he h
def iEnumT (K : PySem.W.Frag) (ta : TA) : TI := fun σ H R => ta σ H fun vs H1 => ∃ a xs, vs = [.ref a] ∧ SqT K H1 a xs ∧ R (ItT K a) H1
theorem pi_enumT {X : Cx} {e : Expr} {ta : TA} {p pos tpos : Pos} {elts : List Expr} {kk : Nat} (hg : Gl X "enumerate") (hm : X.mg "enumerate" = none) (ha : PA X [e] ta) (hs : starEach [e] X.env = [(false, eval e X.env)] := by rfl) :
    PI X (.Tuple elts kk tpos) (.Call (.Name "enumerate" p) [e] [] pos) (iEnumT X.K ta) := by
  refine ⟨fun pins s σ H R I h => ?_⟩
  refine PyProof.Rows.Call_ (ld_blt I hg hm boot_enumerate (PyProof.Rows.callWith_type1 (thn (ha.run pos pins s σ H _ I h) fun us s1 ⟨vs, H1, I1, r1, q1⟩ => ?_) hs rfl))
  obtain ⟨a, xs, ex, hq, q⟩ := q1
  subst ex
  cases r1 with
  | cons r rr =>
    cases rr
    cases r
    obtain ⟨its, rv, p', hz⟩ := I1.tuple hq
    have hlt : a < s1.heap.objs.size := by obtain ⟨o, ho, _⟩ := p'; exact Heap.lt_size ho
    refine call_enum1 (begins_tuple a its.toArray) p' fun h' he hit hsz hk => wpAny_pyIter_enum he ?_
    have I2 : L2.Inv X pins σ H1 { s1 with heap := h' } := I1.kept (t' := s1.toks) hk
    refine ⟨s1.heap.objs.size + 1, [s1.heap.objs.size + 1, s1.heap.objs.size], _, _, H1, rfl, I2, turn_enumT a (s1.heap.objs.size + 1) s1.heap.objs.size (Nat.succ_ne_self _) (Nat.ne_of_lt hlt) (Nat.ne_of_lt (Nat.lt_succ_of_lt hlt)), ⟨⟨.none, he⟩, ⟨_, hit, rfl, rfl⟩⟩, fun b hb => ?_, q⟩
    have e' : b = s1.heap.objs.size + 1 ∨ b = s1.heap.objs.size := by simpa using hb
    have hle : s1.heap.objs.size ≤ b := by
      rcases e' with z | z
      · rw [z]; exact Nat.le_add_right _ _
      · rw [z]; exact Nat.le_refl _
    exact I1.fpOk hle (I1.hok.fresh hle)
/-- the pairs of places and items -/
def enumV : Nat → List Val → List Val
  | _, [] => []
  | k, v :: r => .tup [.int (k : Int), v] :: enumV (k + 1) r
theorem enumV_get : ∀ (vs : List Val) (k i : Nat), (enumV k vs)[i]? = (vs[i]?).map fun v => .tup [.int ((k + i : Nat) : Int), v]
  | [], k, i => by simp [enumV]
  | v :: r, k, 0 => by simp [enumV]
  | v :: r, k, i + 1 => by
    rw [enumV, List.getElem?_cons_succ, enumV_get r (k + 1) i, List.getElem?_cons_succ, show k + 1 + i = k + (i + 1) by omega]
theorem enumV_len : ∀ (vs : List Val) (k : Nat), (enumV k vs).length = vs.length
  | [], _ => rfl
  | v :: r, k => by rw [enumV, List.length_cons, List.length_cons, enumV_len r]
def miEnum (m : ME) : MI := fun σ h => (m σ h).bind fun v h1 => match v with
  | .tup vs => .ok ⟨enumV 0 vs, fun _ => True, none⟩ h1
  | .ref n => match h1[n]? with
    | some (.lst vs) => .ok ⟨enumV 0 vs, fun h => h[n]? = some (.lst vs), none⟩ h1
    | _ => .no
  | _ => .no
theorem li_enum (m : ME) : LkIn (miEnum m) := fun σ h it h' e n hn => by
  unfold miEnum at e
  cases em : m σ h with
  | no => rw [em] at e; cases e
  | rs x k => rw [em] at e; cases e
  | ok v h1 =>
    rw [em] at e
    cases v with
    | ref q =>
      dsimp only [bind_ok] at e
      split at e
      · cases e; cases hn
      · cases e
    | tup vs => cases e; cases hn
    | _ => cases e
section
variable {X : Cx} {W : WX} {k : Nat} {e : Expr} {m : ME} {p pos tpos : Pos} {elts : List Expr} {kk : Nat}
theorem i_enum (he : CE X W e m) (hm : X.mg "enumerate" = none) (hg : Gl X "enumerate" := by rfl) (hs1 : starEach [e] X.env = (false, eval e X.env) :: starEach [] X.env := by rfl) (hs : starEach [e] X.env = [(false, eval e X.env)] := by rfl) :
    CI X W (.Tuple elts kk tpos) (.Call (.Name "enumerate" p) [e] [] pos) (miEnum m) := by
  have ha : CA X W [e] (maCons m maNil) := a_cons he a_nil hs1
  refine ⟨fun pins s τ H R I h => ?_⟩
  obtain ⟨μ, σ, hh, l, r, q⟩ := h
  unfold miEnum at q
  have one : ∀ {μ1 : List Addr} {H1 : Hp} {v : Val} (w1 : List V), RVs (gm X) μ1 H1 [v] w1 → ∃ w, w1 = [w] ∧ RV (gm X) μ1 H1 v w := fun {μ1 H1 v} w1 rr => by
    cases rr with
    | cons a b => cases b; exact ⟨_, rfl, a⟩
  cases em : m σ hh with
  | no => rw [em] at q; exact q.elim
  | rs x h1 =>
    refine (pi_enumT (elts := elts) (kk := kk) (tpos := tpos) (pos := pos) (p := p) hg hm ha hs).run pins s τ H R I ⟨μ, σ, hh, l, r, ?_⟩
    rw [em] at q
    have : maCons m maNil σ hh = .rs x h1 := by simp [maCons, em]
    rw [this]; exact q
  | ok v h1 =>
    rw [em] at q
    have hma : maCons m maNil σ hh = .ok [v] h1 := by simp [maCons, maNil, em]
    dsimp only [bind_ok] at q
    cases v with
    | tup vs =>
      refine (pi_enumT (elts := elts) (kk := kk) (tpos := tpos) (pos := pos) (p := p) hg hm ha hs).run pins s τ H R I ⟨μ, σ, hh, l, r, ?_⟩
      rw [hma]
      intro μ1 H1 p1 e1 r1 w1 rw1
      obtain ⟨w, rfl, rw2⟩ := one w1 rw1
      cases rw2 with
      | @tup _ ws a ta rs =>
        refine ⟨a, ws, rfl, ta.sq, q μ1 H1 p1 e1 r1 _ (fun μ2 h2 H2 p2 e2 r2 _ => ⟨fun i v hv => ?_, fun i hi => ?_⟩) fun n a hn => by cases hn⟩
        · rw [enumV_get, Nat.zero_add] at hv
          cases hvs : vs[i]? with
          | none => rw [hvs] at hv; cases hv
          | some v0 =>
            rw [hvs] at hv
            cases hv
            obtain ⟨w, hw, rvw⟩ := rs.get hvs
            refine ⟨⟨ws, w, (ta.mono e2).sq, hw⟩, fun x H3 y3 => ?_⟩
            obtain ⟨T, x', rfl, hT, rfl, hx'⟩ := y3
            refine ⟨Ex.new hT, r2.laidT hT, .tup (.inl upd_same) (.cons (.int _) (.cons ?_ .nil))⟩
            have := hx' ws (ta.mono e2).sq
            rw [hw] at this; cases this
            exact rvw.mono p2 (Ex.trans e2 (Ex.new hT)).et
        · rw [enumV_len] at hi
          exact ⟨ws, (ta.mono e2).sq, by rw [← rs.length]; exact hi⟩
    | ref n =>
      dsimp only at q
      cases eo : h1[n]? with
      | none => rw [eo] at q; exact q.elim
      | some o =>
        rw [eo] at q
        cases o with
        | lst vs =>
          refine (pi_enum (elts := elts) (kk := kk) (tpos := tpos) (pos := pos) (p := p) hg hm ha hs).run pins s τ H R I ⟨μ, σ, hh, l, r, ?_⟩
          rw [hma]
          intro μ1 H1 p1 e1 r1 w1 rw1
          obtain ⟨w, rfl, rw2⟩ := one w1 rw1
          cases rw2 with
          | @ref _ a ha =>
            obtain ⟨ws, h1', h2'⟩ := r1.ob n _ a eo ha
            refine ⟨a, ws, rfl, .inl (.inl h1'), q μ1 H1 p1 e1 r1 _ (fun μ2 h2 H2 p2 e2 r2 hsrc => ?_) fun n a hn => by cases hn⟩
            obtain ⟨ws2, g1, g2⟩ := r2.ob n _ a hsrc (pre_get p2 ha)
            refine ⟨fun i v hv => ?_, fun i hi => ⟨ws2, .inl (.inl g1), by rw [← g2.length]; rw [enumV_len] at hi; exact hi⟩⟩
            rw [enumV_get, Nat.zero_add] at hv
            cases hvs : vs[i]? with
            | none => rw [hvs] at hv; cases hv
            | some v0 =>
              rw [hvs] at hv
              cases hv
              obtain ⟨w, hw, rvw⟩ := g2.get hvs
              refine ⟨⟨ws2, w, .inl (.inl g1), hw⟩, fun x H3 y3 => ?_⟩
              obtain ⟨T, x', rfl, hT, rfl, hx'⟩ := y3
              refine ⟨Ex.new hT, r2.laidT hT, .tup (.inl upd_same) (.cons (.int _) (.cons ?_ .nil))⟩
              have := hx' ws2 (.inl (.inl g1))
              rw [hw] at this; cases this
              exact rvw.mono (List.prefix_refl _) (Ex.new hT).et
        | _ => exact q.elim
    | _ => exact q.elim
end
end U
/-! Layer A, part 19: stars, xs[::-1], d.get(k, x), any, xs.index(y). -/
namespace U
open PySem L2
section
variable {X : Cx} {W : WX} {k : Nat} {e f o : Expr} {es : List Expr} {m ma mb mc : ME} {mm : MA} {p pos apos cpos : Pos}
/-! ### *e -/
def maStar (a : ME) (r : MA) : MA := fun σ h => (a σ h).bind fun x h1 => match x with
  | .tup vs => (r σ h1).bind fun ys h2 => .ok (vs ++ ys) h2
  | .ref n => match h1[n]? with
    | some (.lst vs) => (r σ h1).bind fun ys h2 => .ok (vs ++ ys) h2
    | _ => .no
  | _ => .no
theorem a_star (he : CE X W e ma) (hr : CA X W es mm) (hs : starEach (.Starred e p :: es) X.env = (true, eval e X.env) :: starEach es X.env := by rfl) : CA X W (.Starred e p :: es) (maStar ma mm) := by
  refine paI (StX.pa_star he hr hs) fun τ H Q ⟨μ, σ, h, l, r, p⟩ => ⟨μ, σ, h, l, r, ?_⟩
  refine (Ps.bind p).imp fun x μ1 h1 H1 p1 e1 r1 q1 w1 rw1 => ?_
  cases rw1 with
  | @tup vs ws a ta rs =>
    refine ⟨a, ws, rfl, .inl ta.sq, μ1, σ, h1, l.mono p1 e1, r1, ?_⟩
    refine (Ps.bind q1).imp fun xs μ2 h2 H2 p2 e2 r2 q2 ys rys => ?_
    exact (Ps.at q2 r2) _ ((rs.mono p2 e2).append rys)
  | @ref n a ha =>
    dsimp only at q1
    obtain ⟨o, ho, ro⟩ := r1.obj ha
    rw [ho] at q1
    cases o with
    | lst vs =>
      obtain ⟨ws, g1, g2⟩ := ro
      refine ⟨a, ws, rfl, .inr (.inl (.inl g1)), μ1, σ, h1, l.mono p1 e1, r1, ?_⟩
      refine (Ps.bind q1).imp fun xs μ2 h2 H2 p2 e2 r2 q2 ys rys => ?_
      exact (Ps.at q2 r2) _ ((g2.mono p2 e2).append rys)
    | _ => exact q1.elim
  | _ => exact q1.elim
/-! ### xs[::-1] -/
def vRev (x : Val) (h : Hh) : Res Val := match x with
  | .ref n => (match h[n]? with
    | some (.lst vs) => .ok (.ref h.length) (h ++ [.lst vs.reverse])
    | _ => .no)
  | _ => .no
theorem s_rev {k1 : Nat} {p1 p2 p3 : Pos} (he : CE X W e ma) : CE X W (.Subscript e (.Slice none none (some (.UnaryOp .USub (.Constant (.int 1) k1 p1) p2)) p3) pos) (mUn vRev ma) := by
  refine peI (pe_revL he) fun τ H Q ⟨μ, σ, h, l, r, p⟩ => ⟨μ, σ, h, l, r, ?_⟩
  refine (Ps.bind p).imp fun x μ1 h1 H1 p1 e1 r1 q1 w1 rw1 => ?_
  unfold vRev at q1
  cases rw1 with
  | @ref n a ha =>
    dsimp only at q1
    obtain ⟨o, ho, ro⟩ := r1.obj ha
    rw [ho] at q1
    cases o with
    | lst vs =>
      obtain ⟨ws, g1, g2⟩ := ro
      exact ⟨a, ws, rfl, .inl (.inl g1), lay_lst r1 g2.reverse q1⟩
    | _ => exact q1.elim
  | _ => exact q1.elim
/-! ### d.get(k, x) -/
def isDct (v : Val) (h : Hh) : Bool := match v with
  | .ref n => (match h[n]? with
    | some (.dct _) => true
    | some (.fdc _) => true
    | _ => false)
  | _ => false
def vGet (x y z : Val) (h : Hh) : Res Val := match x with
  | .ref n => (match h[n]? with
    | some (.dct kvs) => (match keyOf y with
      | some _ => .ok ((dGet kvs y).getD z) h
      | none => .no)
    | some (.fdc kvs) => (match keyOf y with
      | some _ => .ok ((dGet kvs y).getD z) h
      | none => .no)
    | _ => .no)
  | _ => .no
def mGet2 (a b c : ME) : ME := fun σ h => (a σ h).bind fun x h1 => if isDct x h1 = true then (b σ h1).bind fun y h2 => (c σ h2).bind fun z h3 => vGet x y z h3 else .no
theorem get_ok {G : Gm} {μ : List Addr} {H : Hp} {y z : Val} {kk : Key} {w2 w3 : V} {kvs : List (Val × Val)} {kws : List (Key × V)} {a : Addr} (hk : keyOf y = some kk) (rk : RKs G μ H kvs kws) (rd : Rd H a (.dK kws)) (ry : RV G μ H y w2) (rz : RV G μ H z w3) :
    ∃ o, DGet H a w2 o ∧ RV G μ H ((dGet kvs y).getD z) (o.getD w3) := by
  have ey : w2 = kV kk := by
    cases ry with
    | int i => cases hk; rfl
    | str i => cases hk; rfl
    | _ => cases hk
  refine ⟨valV kws kk, .inl ⟨kws, kk, rd, ey, rfl⟩, ?_⟩
  obtain ⟨d1, d2⟩ := dGet_ok hk rk
  cases e : dGet kvs y with
  | none => rw [d2 e]; exact rz
  | some v => obtain ⟨w, e2, rv⟩ := d1 v e; rw [e2]; exact rv
theorem s_get2 (c : Cok X W k) (ho : CE X W o ma) (he : CE X W e mb) (hf : CE X W f mc) (m : M2 X o "get" apos e f cpos := by exact ⟨rfl, rfl, rfl, rfl⟩) : CE X W (.Call (.Attribute o "get" apos) [e, f] [] cpos) (mGet2 ma mb mc) := by
  refine peI (pe_dget2 c.hu ho he hf m) fun τ H Q ⟨μ, σ, h, l, r, p⟩ => ⟨μ, σ, h, l, r, ?_⟩
  refine (Ps.bind p).imp fun x μ1 h1 H1 p1 e1 r1 q1 w1 rw1 => ?_
  split at q1
  · rename_i hd
    cases rw1 with
    | @ref n a ha =>
      obtain ⟨ob, hob, ro⟩ := r1.obj ha
      have isd : IsD H1 a := by
        unfold isDct at hd
        dsimp only at hd
        rw [hob] at hd
        cases ob with
        | dct kvs => obtain ⟨kws, g1, g2⟩ := ro; exact .inl ⟨kws, .inl g1⟩
        | fdc kvs => obtain ⟨od, kws, g1, g2⟩ := ro; exact .inl ⟨kws, .inr ⟨od, g1⟩⟩
        | _ => cases hd
      refine ⟨a, rfl, isd, μ1, σ, h1, l.mono p1 e1, r1, ?_⟩
      refine (Ps.bind q1).imp fun y μ2 h2 H2 p2 e2 r2 q2 w2 rw2 => ?_
      refine ⟨μ2, σ, h2, l.mono (p1.trans p2) (e1.trans e2).et, r2, ?_⟩
      refine (Ps.bind q2).imp fun z μ3 h3 H3 p3 e3 r3 q3 w3 rw3 => ?_
      have ha3 := pre_get (p2.trans p3) ha
      obtain ⟨ob3, hob3, ro3⟩ := r3.obj ha3
      unfold vGet at q3
      dsimp only at q3
      rw [hob3] at q3
      cases ob3 with
      | dct kvs =>
        obtain ⟨kws, g1, g2⟩ := ro3
        dsimp only at q3
        cases hk : keyOf y with
        | none => rw [hk] at q3; exact q3.elim
        | some kk =>
          rw [hk] at q3
          obtain ⟨o, hg, hv⟩ := get_ok hk g2 (.inl g1) (rw2.mono p3 e3) rw3
          exact ⟨o, hg, q3.at r3 _ hv⟩
      | fdc kvs =>
        obtain ⟨od, kws, g1, g2⟩ := ro3
        dsimp only at q3
        cases hk : keyOf y with
        | none => rw [hk] at q3; exact q3.elim
        | some kk =>
          rw [hk] at q3
          obtain ⟨o, hg, hv⟩ := get_ok hk g2 (.inr ⟨od, g1⟩) (rw2.mono p3 e3) rw3
          exact ⟨o, hg, q3.at r3 _ hv⟩
      | _ => exact q3.elim
    | _ => exact absurd hd Bool.false_ne_true
  · exact q1.elim
/-! ### any -/
theorem truth_ints {prog : Program} {w : World} {A : Around} {ns : List Int} {its : List Value} (hv : Vals (ns.map V.int) its) :
    TruthOf prog w A (fun i v => its.toArray[i]? = some v) (fun i => (ns.map (· != 0)).getD i false) := fun i v s Q E h hq => by
  have h' : its[i]? = some v := by simpa using h
  have hi : i < ns.length := by
    have := (List.getElem?_eq_some_iff.mp h').1
    have l := hv.length
    simp at l; omega
  obtain ⟨u, hu, ru⟩ := hv.get (show (ns.map V.int)[i]? = some (V.int ns[i]) by rw [List.getElem?_map, List.getElem?_eq_getElem hi]; rfl)
  rw [h'] at hu
  cases hu
  obtain ⟨t, rfl⟩ := ru
  have hg : (ns.map (· != 0)).getD i false = (ns[i] != 0) := by
    rw [List.getD_eq_getElem?_getD, List.getElem?_map, List.getElem?_eq_getElem hi]; rfl
  have hq' : Q ((ns.map (· != 0)).getD i false) s := hq
  rw [hg] at hq'
  exact PySem.P.truthy_int hq'
theorem cr_anyI (hc : X.calm = true) : CallR X (.builtin "any") (fun vs H Q => ∃ (a : Addr) (ns : List Int), vs = [V.ref a] ∧ SqL X.K H a (ns.map V.int) ∧ Q (.bl (ns.any (· != 0))) H) := by
  intro pins s σ H vs us Q I r h
  obtain ⟨a, ns, rfl, hs, q⟩ := h
  obtain ⟨its, rv, hl, _⟩ := I.list hs
  rw [Vals.ref1 r]
  refine PySem.call_any_walk (iter_any hl.isList fun s₂ e2 st hne => ?_)
  subst e2
  refine ⟨_, _, _, _, _, _, _, rfl, Walks.list (A := X.A.in1) (I.ok.hd hc) _ a hne its.toArray, st, truth_ints rv, fun h' tk hk => ?_⟩
  refine ⟨.bl _, H, I.kept fun b o eo => hk b o (fun hmem => ?_) (Heap.get?_push_of_some _ eo), ?_, q⟩
  · rcases List.mem_cons.mp hmem with e1 | hmem
    · exact absurd (e1 ▸ Heap.lt_size eo) (Nat.lt_irrefl _)
    · cases hmem
  · show Value.bool _ = Value.bool _
    have e1 : ns.any (· != 0) = (ns.map (· != 0)).any id := by rw [List.any_map]; rfl
    have e2 : its.toArray.size = (ns.map (· != 0)).length := by have := rv.length; simp at this ⊢; omega
    rw [e1, ← any_range, e2]
def vAny : Fn := fun vs h => match vs with
  | [.ref n] => (match h[n]? with
    | some (.lst ws) => (match blsOf ws with
      | some ns => .ok (.bl (ns.any id)) h
      | none => (match intsOf ws with | some ns => .ok (.bl (ns.any (· != 0))) h | none => .no))
    | _ => .no)
  | _ => .no
theorem nr_any : ∀ vs h z k, vAny vs h ≠ .rs z k := fun x h z k => by unfold vAny; (repeat' split) <;> simp
theorem c_any (hc : X.calm = true) : CallR X (.builtin "any") (rMs (gm X) W0 vAny) := cr1 (fun pins s τ H x us Q μ hh a I rx r ra p => by
  unfold vAny at p
  cases ra with
  | @ref n a1 q1 =>
    obtain ⟨o, ho, ro⟩ := r.obj q1
    dsimp only at p
    rw [ho] at p
    cases o with
    | lst vs =>
      obtain ⟨ws, g1, g2⟩ := ro
      dsimp only at p
      cases q : blsOf vs with
      | some ns =>
        rw [q] at p
        rw [blsOf_ok q] at g2
        exact cr_any hc pins s τ H _ us Q I rx ⟨a1, ns, rfl, by rw [← g2.bls]; exact .inl (.inl g1), p.at r _ (.bl _)⟩
      | none =>
        rw [q] at p
        dsimp only at p
        cases q2 : intsOf vs with
        | none => rw [q2] at p; exact p.elim
        | some ns =>
          rw [q2] at p
          rw [intsOf_ok q2] at g2
          exact cr_anyI hc pins s τ H _ us Q I rx ⟨a1, ns, rfl, by rw [← g2.ints]; exact .inl (.inl g1), p.at r _ (.bl _)⟩
    | _ => exact p.elim
  | _ => exact p.elim) (fun _ => rfl) (fun a _ _ _ => by cases a <;> rfl)
/-! ### xs.index(y) -/
def ixD (d : PyData) : List PyData → Option Nat
  | [] => none
  | z :: r => if PyData.eqv z d = true then some 0 else (ixD d r).map (· + 1)
theorem ixD_ok (d : PyData) : ∀ (ds : List PyData) (j : Nat), ixD d ds = some j → ∃ z, ds[j]? = some z ∧ PyData.eqv z d = true ∧ ∀ (m : Nat) (z' : PyData), m < j → ds[m]? = some z' → PyData.eqv z' d = false
  | [], j, e => by cases e
  | z :: r, j, e => by
    unfold ixD at e
    by_cases h : PyData.eqv z d = true
    · rw [if_pos h] at e
      cases e
      exact ⟨z, rfl, h, fun m z' hm => by omega⟩
    · rw [if_neg h] at e
      cases q : ixD d r with
      | none => rw [q] at e; cases e
      | some i =>
        rw [q] at e
        cases e
        obtain ⟨z2, a, b, c⟩ := ixD_ok d r i q
        refine ⟨z2, by simpa using a, b, fun m z' hm hz => ?_⟩
        cases m with
        | zero => simp at hz; subst hz; simpa using h
        | succ m => exact c m z' (Nat.lt_of_succ_lt_succ hm) (by simpa using hz)
def vIndex : Fn := fun vs h => match vs with
  | [.ref n, y] => (match toD 30 h (.ref n), toD 30 h y with
    | some (.list ds), some d => if noD d && noDs ds && SeqAt.shaped d && SeqAt.shaped (.list ds) then (match ixD d ds with
      | some j => .ok (.int (j : Nat)) h
      | none => .no) else .no
    | _, _ => .no)
  | _ => .no
theorem nr_index : ∀ vs h z k, vIndex vs h ≠ .rs z k := fun x h z k => by unfold vIndex; (repeat' split) <;> simp
theorem m_index (hu : X.A.units + 65 < cLine) : MtR X "list.index" (rMm (gm X) vIndex) := fun pins s τ H x xs v us Q I rx rs ⟨μ, hh, a, as, r, ra, ras, p⟩ => by
  unfold vIndex at p
  cases hra : ra with
  | @ref n a1 q1 =>
    subst hra
    cases ras with
    | nil => exact p.elim
    | cons ry t =>
      cases t with
      | cons _ _ => exact p.elim
      | nil =>
        dsimp only at p
        split at p
        · rename_i ds d e1 e2
          split at p
          · rename_i hc
            simp only [Bool.and_eq_true] at hc
            split at p
            · rename_i j hj
              obtain ⟨z, z1, z2, z3⟩ := ixD_ok d ds j hj
              exact mt_indexD hu pins s τ H _ _ v us Q I rx rs ⟨a1, _, d, ds, j, z, rfl, rfl, toD_dp r 30 (.ref q1) e1 (by simpa [noD] using hc.1.1.2), toD_dp r 30 ry e2 hc.1.1.1, hc.2, hc.1.2, z1, z2, z3, p.at r _ (.int _)⟩
            · exact p.elim
          · exact p.elim
        · exact p.elim
  | _ => subst hra; first | exact p.elim | (cases ras <;> exact p.elim)
end
end U
/-! Layer A, part 20: dict comprehensions. -/
namespace U
open PySem L2
open Classical
def dcB (vs : List Nat) (t : Tg) (c : MT) (ek ev : ME) (σ : Loc) (v : Val) (h : Hh) : Res (Option (Val × Val)) := match t.bd v (wipeL σ vs) with
  | none => .no
  | some σ2 => (c σ2 h).nr.bind fun b h1 => if b = true then (ek σ2 h1).nr.bind fun y h2 => (ev σ2 h2).nr.bind fun z h3 => .ok (some (y, z)) h3 else .ok none h1
/-- k: v goes to the dict at n -/
def put1 (n : Nat) (k v : Val) (h : Hh) : Option Hh := match h[n]? with
  | some (.dct kvs) => (match keyOf k with
    | some _ => if kvs.length < sizeLine then some (h.set n (.dct (dPut kvs k v))) else none
    | none => none)
  | _ => none
noncomputable def dcV (src : Hh → Prop) (n : Nat) (body : Val → Hh → Res (Option (Val × Val))) : List Val → Hh → Res Unit
  | [], h => if src h then .ok () h else .no
  | v :: vs, h => if src h then (match body v h with
      | .ok none h' => dcV src n body vs h'
      | .ok (some (y, z)) h' => (match put1 n y z h' with
        | some h2 => dcV src n body vs h2
        | none => .no)
      | _ => .no) else .no
noncomputable def mDc (mi : MI) (vs : List Nat) (t : Tg) (c : MT) (ek ev : ME) : ME := fun σ h => (mi σ h).bind fun it h1 => (dcV it.src h1.length (dcB vs t c ek ev σ) it.items (h1 ++ [.dct []])).bind fun _ h2 => match unlH it.lk h2 with
  | some h3 => .ok (.ref h1.length) h3
  | none => .no
theorem put1_ok {G : Gm} {μ : List Addr} {h h' : Hh} {H : Hp} {n : Nat} {D : Addr} {y z : Val} {u w : V} (r : HR G μ h H) (hD : μ[n]? = some D) (ry : RV G μ H y u) (rz : RV G μ H z w) (e : put1 n y z h = some h') :
    ∃ kws kk, u = kV kk ∧ H D = some (.dK kws) ∧ kws.length < sizeLine ∧ Ex H (upd H D (.dK (putK kws kk w))) ∧ HR G μ h' (upd H D (.dK (putK kws kk w))) := by
  unfold put1 at e
  cases q : h[n]? with
  | none => rw [q] at e; cases e
  | some o =>
    rw [q] at e
    have ro := r.ob n o D q hD
    cases o with
    | dct kvs =>
      dsimp only at e
      cases hk : keyOf y with
      | none => rw [hk] at e; cases e
      | some kk =>
        rw [hk] at e
        dsimp only at e
        split at e
        · rename_i hl
          cases e
          obtain ⟨kws, h1, h2⟩ := ro
          have ey : u = kV kk := by
            cases ry with
            | int i => cases hk; rfl
            | str i => cases hk; rfl
            | _ => cases hk
          have ex : Ex H (upd H D (.dK (putK kws kk w))) := Ex.put h1 (fun _ z => nomatch z) fun _ _ z => nomatch z
          exact ⟨kws, kk, ey, h1, by rw [← h2.length]; exact hl, ex, r.put hD h1 (fun _ z => nomatch z) ⟨_, upd_same, (dPut_ok hk rz h2).mono (List.prefix_refl _) ex⟩⟩
        · cases e
    | _ => cases e
/-- the reading of a comprehension -/
theorem dcR {H0 : Hp} {G : Gm} {W : WX} {mi : MI} {vs : List Nat} {t : Tg} {c : MT} {ek ev : ME} (li : LkIn mi) (hsl : ∀ i ∈ t.slots, i ∈ vs) {τ : St} {H : Hp} {Q : VK} (hh : tM G W (mDc mi vs t c ek ev) τ H Q) :
    tDc (tMI H0 G W mi) (tgT G.K t) (tMT G WN c) (tM G WN ek) (tM G WN ev) vs τ H (fun v => unl H0 (Q v)) := by
  obtain ⟨μ, σ, h, l, r, p⟩ := hh
  refine ⟨μ, σ, h, l, r, ?_⟩
  have lin := li σ h
  unfold mDc at p
  cases em : mi σ h with
  | no => rw [em] at p; exact p
  | rs x h' => rw [em] at p; exact p
  | ok it h1 =>
  rw [em] at p
  simp only [bind_ok] at p
  cases el : dcV it.src h1.length (dcB vs t c ek ev σ) it.items (h1 ++ [.dct []]) with
  | no => rw [el] at p; exact p.elim
  | rs x h' =>
    exfalso
    have key : ∀ (xs : List Val) (h : Hh) x h', dcV it.src h1.length (dcB vs t c ek ev σ) xs h ≠ .rs x h' := by
      intro xs
      induction xs with
      | nil => intro h x h' z; unfold dcV at z; split at z <;> cases z
      | cons v xs ih =>
        intro h x h' z
        unfold dcV at z
        split at z
        · split at z
          · exact ih _ _ _ z
          · split at z
            · exact ih _ _ _ z
            · cases z
          · cases z
        · cases z
    exact key _ _ _ _ el
  | ok u h2 =>
  rw [el] at p
  simp only [bind_ok] at p
  intro μ1 H1 p1 e1 r1 J ok lk D hD
  have exD : Ex H1 (upd H1 D (.dK [])) := Ex.new hD
  have rD : HR G (μ1 ++ [D]) (h1 ++ [.dct []]) (upd H1 D (.dK [])) := r1.laid hD ⟨[], upd_same, .nil⟩
  have hDn : (μ1 ++ [D])[h1.length]? = some D := by rw [← r1.len]; simp
  refine ⟨fun i m H' => m + i = it.items.length ∧ ∃ μ' h', (μ1 ++ [D]) <+: μ' ∧ Ex (upd H1 D (.dK [])) H' ∧ HR G μ' h' H' ∧ dcV it.src h1.length (dcB vs t c ek ev σ) (it.items.drop i) h' = .ok u h2,
    ⟨it.items.length, rfl, _, _, List.prefix_refl _, Ex.refl _, rD, el⟩, ?_⟩
  rintro i m H' ⟨hm, μ', h', p2, e2, r2, q2⟩
  have pa : μ1 <+: μ' := (List.prefix_append μ1 [D]).trans p2
  have ea : Ex H1 H' := exD.trans e2
  cases ed : it.items.drop i with
  | nil =>
    rw [ed] at q2
    have hl : it.items.length ≤ i := by
      have := congrArg List.length ed
      rw [List.length_drop] at this
      simpa using Nat.le_of_sub_eq_zero this
    unfold dcV at q2
    split at q2
    · rename_i hsrc
      cases q2
      refine .inl ⟨(ok μ' h2 H' pa ea r2 hsrc).2 i hl, ?_⟩
      cases ek : it.lk with
      | none =>
        rw [ek] at p
        exact .inl (p μ' H' (p1.trans pa) (e1.trans ea) r2 _ (.ref (pre_get p2 hDn)))
      | some n =>
        rw [ek] at p
        cases eu : unlH (some n) h2 with
        | none => rw [eu] at p; exact p.elim
        | some h3 =>
          rw [eu] at p
          refine unlH_ok r2 (e1.trans ea) eu (fun a ha => ?_) fun H3 e3 t3 r3 => p μ' H3 (p1.trans pa) e3 r3 _ (.ref (pre_get p2 hDn))
          refine lk n a ek ?_
          have hi : n < μ1.length := by rw [r1.len]; exact lin it h1 em n ek
          obtain ⟨t', rfl⟩ := pa
          rw [List.getElem?_append_left hi] at ha; exact ha
    · cases q2
  | cons v rest =>
    rw [ed] at q2
    have hv : it.items[i]? = some v := by
      have : (it.items.drop i)[0]? = some v := by rw [ed]; rfl
      rw [List.getElem?_drop] at this; simpa using this
    have hr : it.items.drop (i + 1) = rest := by
      have := congrArg (List.drop 1) ed
      rw [List.drop_drop] at this
      simpa using this
    have hi' : i < it.items.length := (List.getElem?_eq_some_iff.mp hv).1
    unfold dcV at q2
    split at q2
    · rename_i hsrc
      obtain ⟨go, yl⟩ := (ok μ' h' H' pa ea r2 hsrc).1 i v hv
      refine .inr ⟨go, fun H3 => ∃ μ3 h3, (μ1 ++ [D]) <+: μ3 ∧ Ex (upd H1 D (.dK [])) H3 ∧ HR G μ3 h3 H3 ∧ dcV it.src h1.length (dcB vs t c ek ev σ) rest h3 = .ok u h2, ?_, fun x H3 y3 => ?_⟩
      · rintro H3 ⟨μ3, h3, q⟩
        refine ⟨m - 1, by omega, by omega, μ3, h3, ?_⟩
        rw [hr]; exact q
      · obtain ⟨e3, r3, rv3⟩ := yl x H3 y3
        have lw : LR G μ' H3 (wipeL σ vs) (L2.wipe τ vs) := ((l.mono p1 e1).mono pa (ea.trans e3).et).wipe vs
        cases eb : t.bd v (wipeL σ vs) with
        | none => simp only [dcB, eb] at q2; cases q2
        | some σ2 =>
          simp only [dcB, eb] at q2
          refine tg_ok lw rv3 eb fun τ2 l2 hw => ⟨?_, μ', σ2, h', l2, r3, ?_⟩
          · rw [hw vs hsl]
            exact wipe_idem τ vs vs fun _ h => h
          · cases ec : c σ2 h' with
            | no => rw [ec] at q2; cases q2
            | rs x hx => rw [ec] at q2; cases q2
            | ok b h3 =>
              rw [ec] at q2
              simp only [nr_ok, bind_ok] at q2
              intro μ3 H4 p4 e4 r4
              cases b with
              | false =>
                refine iteF ?_
                simp only [Bool.false_eq_true, if_false] at q2
                exact ⟨μ3, h3, p2.trans p4, e2.trans (e3.trans e4), r4, q2⟩
              | true =>
                refine iteT ⟨μ3, σ2, h3, l2.mono p4 e4, r4, ?_⟩
                simp only [if_true] at q2
                cases ee : ek σ2 h3 with
                | no => rw [ee] at q2; cases q2
                | rs x hx => rw [ee] at q2; cases q2
                | ok y h4 =>
                  rw [ee] at q2
                  simp only [nr_ok, bind_ok] at q2
                  intro μ5 H5 p5 e5 r5 w5 rw5
                  refine ⟨μ5, σ2, h4, (l2.mono p4 e4).mono p5 e5.et, r5, ?_⟩
                  cases ez : ev σ2 h4 with
                  | no => rw [ez] at q2; cases q2
                  | rs x hx => rw [ez] at q2; cases q2
                  | ok z h6 =>
                    rw [ez] at q2
                    simp only [nr_ok, bind_ok] at q2
                    intro μ6 H6 p6 e6 r6 w6 rw6
                    cases epu : put1 h1.length y z h6 with
                    | none => rw [epu] at q2; cases q2
                    | some h5 =>
                      rw [epu] at q2
                      obtain ⟨acc, kk, a0, a1, a2, a3, a4⟩ := put1_ok r6 (pre_get p6 (pre_get p5 (pre_get p4 (pre_get p2 hDn)))) (rw5.mono p6 e6) rw6 epu
                      exact ⟨acc, kk, a0, a1, a2, μ6, h5, p2.trans (p4.trans (p5.trans p6)), e2.trans (e3.trans (e4.trans (e5.trans (e6.trans a3)))), a4, q2⟩
    · cases q2

section
variable {X : Cx} {W : WX} {k : Nat} {kx vx tg iter : Expr} {ifs : List Expr} {scope : Scope} {own : List (Str × Nat)} {pos : Pos} {mi : MI} {t : Tg} {c : MT} {ek ev : ME}
theorem s_dc (ck : Cok X W k) (hi : CI X W tg iter mi) (li : LkIn mi) (ok : BlkOk X.N X.env.scope scope own) (hsl : ∀ i ∈ t.slots, i ∈ own.map (·.2))
    (hg : ∀ (s : Shared) (H : Hp) (C : Addr) (cl : List (Str × Addr)) (fp : List Addr), PG (X.blk s H scope (compEnvC scope cl C X.env) fp) tg (tgT X.K t))
    (ht : ∀ (s : Shared) (H : Hp) (C : Addr) (cl : List (Str × Addr)) (fp : List Addr), CTs (X.blk s H scope (compEnvC scope cl C X.env) fp) WN ifs c)
    (hk : ∀ (s : Shared) (H : Hp) (C : Addr) (cl : List (Str × Addr)) (fp : List Addr), CE (X.blk s H scope (compEnvC scope cl C X.env) fp) WN kx ek)
    (he : ∀ (s : Shared) (H : Hp) (C : Addr) (cl : List (Str × Addr)) (fp : List Addr), CE (X.blk s H scope (compEnvC scope cl C X.env) fp) WN vx ev) (hs : ∀ x, foldedSetIterable iter X.env x = pure x := by intro _; rfl) :
    CE X W (.DictComp kx vx [⟨tg, iter, ifs, 0⟩] scope pos) (mDc mi (own.map (·.2)) t c ek ev) :=
  peI (pe_unl (pe_dc (tt := tMT (gm X) WN c) (tk := tM (gm X) WN ek) (tv := tM (gm X) WN ev) ck.calm ck.nd hi ok hg ht hk he hs)) fun τ H Q h => dcR (G := gm X) li hsl h
end
end U
/-! Layer A, part 21: x in o, o[x] by the class's own methods. -/
namespace U
open PySem L2
/-- x in y by y's own __contains__ -/
def vInO (C : Str) (n : Nat) (F : Fn) (neg : Bool) (x y : Val) (h : Hh) : Res Val := if isIn C y h = true then
    (callF n F [y, x] h).nr.bind fun v h1 => (match v with | .bl b => .ok (.bl (if neg then !b else b)) h1 | _ => .no)
  else .no
theorem nr_inO {C n F neg} : ∀ x y h z k, vInO C n F neg x y h ≠ .rs z k := fun x y h z k => by
  unfold vInO
  split
  · cases (callF n F [y, x] h) with
    | ok v h1 => cases v <;> simp
    | _ => simp
  · simp
/-- x[y] by x's own __getitem__ -/
def vIxO (C : Str) (n : Nat) (F : Fn) (x y : Val) (h : Hh) : Res Val := if isIn C x h = true then (callF n F [x, y] h).nr else .no
theorem nr_ixO {C n F} : ∀ x y h z k, vIxO C n F x y h ≠ .rs z k := fun x y h z k => by
  unfold vIxO
  split
  · cases (callF n F [x, y] h) <;> simp
  · simp
structure GiAt (P : Program) (w : World) (K : PySem.W.Frag) (mg : Str → Option Value) (base : Heap) (C : Str) (k n : Nat) (F : Fn) : Prop where
  ex : ∃ Ca f fd ps, mg C = some (.ref Ca) ∧ PySem.W.findIn K (.ref Ca) "__getitem__" = some (some (.ref f)) ∧ PySem.W.fnIn K f = true ∧ PySem.W.isFn K (.ref f) = true ∧ Binds K fd ps [] ∧ FK P w K mg base k f fd ps (spF ⟨K, mg⟩ F n)
section
variable {X : Cx} {W : WX} {j k n : Nat} {F : Fn} {a b : Expr} {ma mb : ME} {pos : Pos}
theorem o_inO {C : Str} (c : Cok X W k) (T : SpAt X.prog X.w X.K X.mg X.base C "__contains__" j n F) (hj : j ≤ k) : OpR X (compareOp .In) (rM2 (gm X) W0 (vInO C n F false)) := opr fun pins s τ H x y v u Q μ hh a b I rx ry r ra rb p => by
  obtain ⟨Ca, f, fd, ps, hm, hs, hf, hb, T⟩ := T.ex
  unfold vInO at p
  split at p
  · rename_i hi
    obtain ⟨ad, dx, gs, ex, ea⟩ := isIn_ok r rb hi hm
    subst ex
    cases ry
    obtain ⟨mA, O, _⟩ := ins_get I.hok ea
    obtain ⟨od, J, _⟩ := O.look
    obtain ⟨m, hF⟩ := I.fr
    refine PySem.W.in_K hF I.ok.mod.kin J hs hf ?_
    refine thn (run_call (us := [.ref ad, v]) (vs := [.ref ad, x]) (c.wn.mono hj) T hb I (.cons rfl (.cons rx .nil)) (own_sp r rb ra p)) fun w s' ⟨z, H', I', rz, bb, ez, q⟩ => ?_
    subst ez
    cases rz
    exact wpAny_truthy_bool ⟨.bl bb, H', I', rfl, q⟩
  · exact p.elim
theorem o_notInO {C : Str} (c : Cok X W k) (T : SpAt X.prog X.w X.K X.mg X.base C "__contains__" j n F) (hj : j ≤ k) : OpR X (compareOp .NotIn) (rM2 (gm X) W0 (vInO C n F true)) := opr fun pins s τ H x y v u Q μ hh a b I rx ry r ra rb p => by
  obtain ⟨Ca, f, fd, ps, hm, hs, hf, hb, T⟩ := T.ex
  unfold vInO at p
  split at p
  · rename_i hi
    obtain ⟨ad, dx, gs, ex, ea⟩ := isIn_ok r rb hi hm
    subst ex
    cases ry
    obtain ⟨mA, O, _⟩ := ins_get I.hok ea
    obtain ⟨od, J, _⟩ := O.look
    obtain ⟨m, hF⟩ := I.fr
    refine PySem.W.notIn_K hF I.ok.mod.kin J hs hf ?_
    refine thn (run_call (us := [.ref ad, v]) (vs := [.ref ad, x]) (c.wn.mono hj) T hb I (.cons rfl (.cons rx .nil)) (own_sp r rb ra p)) fun w s' ⟨z, H', I', rz, bb, ez, q⟩ => ?_
    subst ez
    cases rz
    exact wpAny_truthy_bool ⟨.bl (!bb), H', I', rfl, q⟩
  · exact p.elim
theorem ix_own {C : Str} (c : Cok X W k) (T : GiAt X.prog X.w X.K X.mg X.base C j n F) (hj : j + 1 ≤ k) (hsl : ∀ (o i : Value), subscripted b true o i = runValue (.builtin "lifetime.subscript" ⟨[o, i], []⟩)) (ha : CE X W a ma) (hb' : CE X W b mb) : CE X W (.Subscript a b pos) (mOp (vIxO C n F) ma mb) := by
  obtain ⟨Ca, f, fd, ps, hm, hs, hfi, hf, hb, T⟩ := T.ex
  have h : PE X (.Subscript a b pos) (tOp (rM2 (gm X) W0 (vIxO C n F)) (tM (gm X) W ma) (tM (gm X) W mb)) := by
    refine ⟨fun pins s σ H Q I h => ?_⟩
    refine PyProof.Rows.Subscript_ (binT ha hb' I h fun v u s2 x y H2 I2 rx ry q => ?_)
    obtain ⟨μ, hh, xa, xb, r, ra, rb, p⟩ := q
    unfold vIxO at p
    split at p
    · rename_i hi
      obtain ⟨ad, dx, gs, ex, ea⟩ := isIn_ok r ra hi hm
      subst ex
      cases rx
      obtain ⟨mA, O, _⟩ := ins_get I2.hok ea
      obtain ⟨od, J, _⟩ := O.look
      obtain ⟨m, hF⟩ := I2.fr
      refine PySem.W.sub_K hF I2.ok.mod.kin J hs hfi hf ?_ (hsl _ _)
      have sp : spF (gm X) F n [.ref ad, y] H2 Q W0 := by
        unfold callF at p
        split at p
        · rename_i hl
          refine spF_of r (.cons ra (.cons rb .nil)) hl ?_
          cases e : F [xa, xb] hh with
          | no => rw [e] at p; exact p.elim
          | rs z k => rw [e] at p; exact p.elim
          | ok v h1 => rw [e] at p; exact p
        · exact p.elim
      exact run_call1 (us := [.ref ad, u]) (vs := [.ref ad, y]) c hj T hb I2 (.cons rfl (.cons ry .nil)) sp
    · exact p.elim
  exact s_two h fun τ x y H Q ⟨μ, h, u, v, r1, r2, r3, p⟩ => ⟨μ, h, u, v, r1, r2, r3, ps_nv p (nr_ixO u v h)⟩
theorem s_ixO {C : Str} (c : Cok X W k) (T : GiAt X.prog X.w X.K X.mg X.base C j n F) (hj : j + 1 ≤ k) (ha : CE X W a ma) (hb : CE X W b mb) (hsl : ∀ (o i : Value), subscripted b true o i = runValue (.builtin "lifetime.subscript" ⟨[o, i], []⟩) := by intro _ _; rfl) : CE X W (.Subscript a b pos) (mOp (vIxO C n F) ma mb) := ix_own c T hj hsl ha hb
end
end U
/-! mirrors of the defs, printed by a program -/
noncomputable section
namespace U
open PySem L2
def kCs : List Str := ["Songs", "Rule"]
def kTys : List String := ["bool", "dict", "int", "str", "tuple"]
def b__law_begin_1 : MS :=
  (msRet (mDisp [((mC (.str "large")), (mVar 1)), ((mC (.str "cells")), (mApp vList (maCons (mVar 0) maNil))), ((mC (.str "rest")), (mC (.int 0))), ((mC (.str "turn")), (mC (.int 0))), ((mC (.str "mix")), (mC (.int 7)))]))
def b__law_begin : MS :=
  (msSeq (msAsg (mLc (miVal (mVar 0)) [2] (.one 2) (tBl (mOp vGe (mApp vAbs (maCons (mVar 2) maNil)) (mOp vPow (mC (.int 10)) (mC (.int 18))))) (mApp vAbs (maCons (mVar 2) maNil))) (mgName 1))
  b__law_begin_1)
def f__law_begin : Fn := mkFn 3 b__law_begin
def b__law_take_1 : MS :=
  (msAsg (mOp vMod (mApp vInt (maCons (mOp vPow (mOp vIx (mVar 0) (mC (.str "mix"))) (mC (.int 5))) maNil)) (mC (.int 2305843009213693951))) (mgSub (mVar 0) (mC (.str "rest"))))
def b__law_take_2 : MS :=
  (msSeq (msFor (miVal (mOp vAdd (mApp vLst (maCons (mOp vIx (mVar 0) (mC (.str "turn"))) maNil)) (mOp vIx (mVar 0) (mC (.str "cells"))))) (mgName 2)
  (msAsg (mOp vMod (mApp vInt (maCons (mOp vAdd (mOp vAdd (mOp vMulA (mOp vIx (mVar 0) (mC (.str "mix"))) (mC (.int 69621))) (mOp vMulA (mVar 2) (mC (.int 48271)))) (mC (.int 12345))) maNil)) (mC (.int 2147483629))) (mgSub (mVar 0) (mC (.str "mix")))))
  b__law_take_1)
def b__law_take_3 : MS :=
  (msRet (mVar 3))
def b__law_take_4 : MS :=
  (msSeq (msAsg (mApp vDm (maCons (mOp vIx (mVar 0) (mC (.str "rest"))) (maCons (mVar 1) maNil))) (mgTup 2 (mgCons (mgSub (mVar 0) (mC (.str "rest"))) (mgCons (mgName 3) mgNil))))
  b__law_take_3)
def b__law_take : MS :=
  (msSeq (msIf (tAnd2 (tBl (mOp (vEqD false) (mOp vIx (mVar 0) (mC (.str "rest"))) (mC (.int 0)))) (tBl (mOp (vEqD true) (mOp vIx (mVar 0) (mC (.str "large"))) (mApp vLst maNil))))
  (msAsg (mMt "list" vPop (mOp vIx (mVar 0) (mC (.str "large"))) (maCons (mC (.int 0)) maNil)) (mgSub (mVar 0) (mC (.str "rest"))))
  (msIf (tBl (mOp (vEqD false) (mOp vIx (mVar 0) (mC (.str "rest"))) (mC (.int 0))))
  (msSeq (msAsg (mOp vAdd (mOp vIx (mVar 0) (mC (.str "turn"))) (mC (.int 1))) (mgSub (mVar 0) (mC (.str "turn"))))
  b__law_take_2)
  msNil))
  b__law_take_4)
def f__law_take : Fn := mkFn 4 b__law_take
def b__law_pick : MS :=
  (msRet (mOp vIx (mVar 1) (mApp (callF 2 f__law_take) (maCons (mVar 0) (maCons (mApp vLen (maCons (mVar 1) maNil)) maNil)))))
def f__law_pick : Fn := mkFn 2 b__law_pick
def b__law_some_names_1 : MS :=
  (msExpr (mMt "list" vAppend (mVar 4) (maCons (mOp vIx (mLc (miVal (mVar 7)) [10] (.one 10) (tBl (mOp (vIn true) (mVar 10) (mVar 4))) (mVar 10)) (mC (.int 0))) maNil)))
def b__law_some_names_2 : MS :=
  (msSeq (msAsg (mOp vAdd (mApp vLst (maCons (mVar 6) maNil)) (mLc (miVal (mVar 3)) [9] (.one 9) tTrue (mOp vAdd (mSl (mVar 6) mpNo (mpE (mC (.int 7)))) (mVar 9)))) (mgName 7))
  b__law_some_names_1)
def b__law_some_names_3 : MS :=
  (msSeq (msIf (tBl (mOp (vEqD false) (mApp (callF 2 f__law_take) (maCons (mVar 0) (maCons (mC (.int 3)) maNil))) (mC (.int 0))))
  (msAsg (mMt "str" vJoin (mC (.str "")) (maCons (mLc (miRng1 (mApp (callF 2 f__law_pick) (maCons (mVar 0) (maCons (mApp vLst (maCons (mC (.int 1)) (maCons (mC (.int 2)) (maCons (mC (.int 3)) (maCons (mC (.int 8)) maNil))))) maNil)))) [8] (.one 8) tTrue (mApp (callF 2 f__law_pick) (maCons (mVar 0) (maCons (mVar 3) maNil)))) maNil)) (mgName 6))
  msNil)
  b__law_some_names_2)
def b__law_some_names_4 : MS :=
  (msRet (mVar 4))
def b__law_some_names_5 : MS :=
  (msSeq (msFor (miRng1 (mVar 1)) (mgName 5)
  (msSeq (msAsg (mApp (callF 2 f__law_pick) (maCons (mVar 0) (maCons (mVar 2) maNil))) (mgName 6))
  b__law_some_names_3))
  b__law_some_names_4)
def b__law_some_names_6 : MS :=
  (msSeq (msAsg (mApp vTup (maCons (mC (.str "abcdefghijklmnopqrstuvwxyz")) (maCons (mApp vLst maNil) maNil))) (mgTup 2 (mgCons (mgName 3) (mgCons (mgName 4) mgNil))))
  b__law_some_names_5)
def b__law_some_names : MS :=
  (msSeq (msAsg (mApp vLst (maCons (mC (.str "a")) (maCons (mC (.str "b")) (maCons (mC (.str "ab")) (maCons (mC (.str "kind")) (maCons (mC (.str "song")) (maCons (mC (.str "play")) (maCons (mC (.str "pop")) (maCons (mC (.str "zzzzzzzz")) maNil))))))))) (mgName 2))
  b__law_some_names_6)
def f__law_some_names : Fn := mkFn 11 b__law_some_names
def b__law_drawn_case_1 : MS :=
  (msRet (mDisp [((mC (.str "weights")), (mVar 6)), ((mC (.str "skipped")), (mVar 7)), ((mC (.str "spread")), (mApp (callF 2 f__law_take) (maCons (mVar 0) (maCons (mVar 4) maNil)))), ((mC (.str "numbers")), (mVar 9))]))
def b__law_drawn_case_2 : MS :=
  (msSeq (msIf (tBl (mOp (vEqD false) (mApp vSum (maCons (mVals (mVar 9)) maNil)) (mC (.int 0))))
  (msAsg (mC (.int 1)) (mgSub (mVar 9) (mOp vIx (mApp vList (maCons (mVar 9) maNil)) (mC (.int 0)))))
  msNil)
  b__law_drawn_case_1)
def b__law_drawn_case_3 : MS :=
  (msSeq (msAsg (mApp vDict (maCons (mLc (miVal (mVar 8)) [11] (.one 11) tTrue (mApp vTup (maCons (mVar 11) (maCons (mApp (callF 2 f__law_take) (maCons (mVar 0) (maCons (mOp vAdd (mVar 3) (mC (.int 1))) maNil))) maNil)))) maNil)) (mgName 9))
  b__law_drawn_case_2)
def b__law_drawn_case_4 : MS :=
  (msSeq (msAsg (mApp (callF 2 f__law_some_names) (maCons (mVar 0) (maCons (mOp vAdd (mC (.int 1)) (mApp (callF 2 f__law_take) (maCons (mVar 0) (maCons (mVar 2) maNil)))) maNil))) (mgName 8))
  b__law_drawn_case_3)
def b__law_drawn_case_5 : MS :=
  (msSeq (msAsg (mApp vTuple (maCons (mLc (miRng1 (mOp vSub (mVar 4) (mC (.int 1)))) [10] (.one 10) tTrue (mApp (callF 2 f__law_pick) (maCons (mVar 0) (maCons (mOp vAdd (mVar 5) (mApp vLst (maCons (mC (.int 0)) maNil))) maNil)))) maNil)) (mgName 7))
  b__law_drawn_case_4)
def b__law_drawn_case_6 : MS :=
  (msSeq (msAsg (mApp vTuple (maCons (mLc (miRng1 (mVar 4)) [10] (.one 10) tTrue (mApp (callF 2 f__law_pick) (maCons (mVar 0) (maCons (mVar 5) maNil)))) maNil)) (mgName 6))
  b__law_drawn_case_5)
def b__law_drawn_case : MS :=
  (msSeq (msAsg (mApp vTup (maCons (mOp vAdd (mC (.int 1)) (mApp (callF 2 f__law_take) (maCons (mVar 0) (maCons (mVar 1) maNil)))) (maCons (mApp (callF 2 f__law_pick) (maCons (mVar 0) (maCons (mApp vLst (maCons (mApp vLst (maCons (mC (.int 0)) (maCons (mC (.int 1)) maNil))) (maCons (mApp vLst (maCons (mC (.int 0)) (maCons (mC (.int 0)) (maCons (mC (.int 1)) (maCons (mC (.int 2)) maNil))))) (maCons (mApp vLst (maCons (mC (.int 1)) (maCons (mC (.int 2)) (maCons (mC (.int 3)) maNil)))) (maCons (mApp vLst (maCons (mC (.int 0)) (maCons (mC (.int 1)) (maCons (mC (.int 5)) (maCons (mC (.int 9)) maNil))))) (maCons (mApp vLst (maCons (mC (.int 0)) (maCons (mC (.int 3)) maNil))) maNil)))))) maNil))) maNil))) (mgTup 2 (mgCons (mgName 4) (mgCons (mgName 5) mgNil))))
  b__law_drawn_case_6)
def f__law_drawn_case : Fn := mkFn 12 b__law_drawn_case
def b_is_name_1 : MS :=
  (msRet (mApp vAll (maCons (mLc (miVal (mVar 0)) [1] (.one 1) tTrue (mOp (vIn false) (mVar 1) (mC (.str "abcdefghijklmnopqrstuvwxyz")))) maNil)))
def b_is_name : MS :=
  (msSeq (msIf (tOr2 (tNot1 (tVal (mApp (vIsi kCs kTys) (maCons (mVar 0) (maCons (mC (.ty "str")) maNil))))) (tNot1 (tBl (mChain vLe vLe (mC (.int 1)) (mApp vLen (maCons (mVar 0) maNil)) (mC (.int 8))))))
  (msRet (mC (.bl false)))
  msNil)
  b_is_name_1)
def f_is_name : Fn := mkFn 2 b_is_name
def b_is_integer : MS :=
  (msRet (mAnd (mApp (vIsi kCs kTys) (maCons (mVar 0) (maCons (mC (.ty "int")) maNil))) (mNot (mApp (vIsi kCs kTys) (maCons (mVar 0) (maCons (mC (.ty "bool")) maNil))))))
def f_is_integer : Fn := mkFn 1 b_is_integer
def b_is_number : MS :=
  (msRet (mAnd (mApp (callF 1 f_is_integer) (maCons (mVar 0) maNil)) (mOp vGe (mVar 0) (mC (.int 0)))))
def f_is_number : Fn := mkFn 1 b_is_number
def b_Songs_init_1 : MS :=
  (msAsg (mOp vIx (mVar 1) (mVar 2)) (mgSub (mUn (vFld kCs "s_numbers") (mVar 0)) (mVar 2)))
def b_Songs_init_2 : MS :=
  (msIf (tBl (mOp (vEqD false) (mApp vSum (maCons (mVals (mUn (vFld kCs "s_numbers") (mVar 0))) maNil)) (mC (.int 0))))
  msNo
  msNil)
def b_Songs_init_3 : MS :=
  (msSeq (msFor (miVal (mApp vSortS (maCons (mVar 1) maNil))) (mgName 2)
  (msSeq (msIf (tNot1 (tVal (mApp (callF 1 f_is_number) (maCons (mOp vIx (mVar 1) (mVar 2)) maNil))))
  msNo
  msNil)
  b_Songs_init_1))
  b_Songs_init_2)
def b_Songs_init_4 : MS :=
  (msSeq (msFld kCs "s_numbers" (mVar 0) vNewD)
  b_Songs_init_3)
def b_Songs_init_5 : MS :=
  (msSeq (msIf (tNot1 (tVal (mApp vAll (maCons (mLc (miVal (mVar 1)) [2] (.one 2) tTrue (mApp (callF 1 f_is_name) (maCons (mVar 2) maNil))) maNil))))
  msNo
  msNil)
  b_Songs_init_4)
def b_Songs_init : MS :=
  (msSeq (msIf (tOr2 (tNot1 (tVal (mApp (vIsi kCs kTys) (maCons (mVar 1) (maCons (mC (.ty "dict")) maNil))))) (tNot1 (tBl (mChain vLe vLe (mC (.int 1)) (mApp vLen (maCons (mVar 1) maNil)) (mC (.int 3))))))
  msNo
  msNil)
  b_Songs_init_5)
def f_Songs_init : Fn := mkFn 3 b_Songs_init
def b__law_songs_in : MS :=
  (msRet (mApp (fun vs => mkI "Songs" 2 f_Songs_init (vs ++ [])) (maCons (mApp vDict (maCons (mItems (mOp vIx (mVar 0) (mC (.str "numbers")))) maNil)) maNil)))
def f__law_songs_in : Fn := mkFn 1 b__law_songs_in
def b_are_weights_1 : MS :=
  (msRet (mApp vAll (maCons (mLc (miVal (mVar 0)) [3] (.one 3) tTrue (mAnd (mApp (callF 1 f_is_number) (maCons (mVar 3) maNil)) (mOp vLe (mVar 3) (mC (.int 9))))) maNil)))
def b_are_weights : MS :=
  (msSeq (msIf (tOr2 (tNot1 (tVal (mApp (vIsi kCs kTys) (maCons (mVar 0) (maCons (mC (.ty "tuple")) maNil))))) (tNot1 (tBl (mChain vLe vLe (mVar 1) (mApp vLen (maCons (mVar 0) maNil)) (mVar 2)))))
  (msRet (mC (.bl false)))
  msNil)
  b_are_weights_1)
def f_are_weights : Fn := mkFn 4 b_are_weights
def b_Rule_init_1 : MS :=
  (msFld kCs "r_spread" (mVar 0) (mVar 3))
def b_Rule_init_2 : MS :=
  (msSeq (msFld kCs "r_skipped" (mVar 0) (mVar 2))
  b_Rule_init_1)
def b_Rule_init_3 : MS :=
  (msSeq (msFld kCs "r_weights" (mVar 0) (mVar 1))
  b_Rule_init_2)
def b_Rule_init_4 : MS :=
  (msSeq (msIf (tOr2 (tNot1 (tVal (mApp (callF 1 f_is_number) (maCons (mVar 3) maNil)))) (tBl (mOp vGe (mVar 3) (mApp vLen (maCons (mVar 1) maNil)))))
  msNo
  msNil)
  b_Rule_init_3)
def b_Rule_init_5 : MS :=
  (msSeq (msIf (tNot1 (tVal (mApp (callF 3 f_are_weights) (maCons (mVar 2) (maCons (mOp vSub (mApp vLen (maCons (mVar 1) maNil)) (mC (.int 1))) (maCons (mOp vSub (mApp vLen (maCons (mVar 1) maNil)) (mC (.int 1))) maNil))))))
  msNo
  msNil)
  b_Rule_init_4)
def b_Rule_init : MS :=
  (msSeq (msIf (tNot1 (tVal (mApp (callF 3 f_are_weights) (maCons (mVar 1) (maCons (mC (.int 1)) (maCons (mC (.int 4)) maNil))))))
  msNo
  msNil)
  b_Rule_init_5)
def f_Rule_init : Fn := mkFn 4 b_Rule_init
def b__law_rule_of : MS :=
  (msRet (mApp (fun vs => mkI "Rule" 4 f_Rule_init (vs ++ [])) (maCons (mOp vIx (mVar 0) (mC (.str "weights"))) (maCons (mOp vIx (mVar 0) (mC (.str "skipped"))) (maCons (mOp vIx (mVar 0) (mC (.str "spread"))) maNil)))))
def f__law_rule_of : Fn := mkFn 1 b__law_rule_of
def b__law_any_standing_1 : MS :=
  (msExpr (mMt "list" vAppend (mVar 3) (maCons (mApp vTup (maCons (mVar 6) (maCons (mOp (vEqD false) (mApp (callF 2 f__law_take) (maCons (mVar 0) (maCons (mC (.int 2)) maNil))) (mC (.int 0))) maNil))) maNil)))
def b__law_any_standing_2 : MS :=
  (msSeq (msAsg (mOp vSub (mOp vIx (mVar 2) (mVar 6)) (mC (.int 1))) (mgSub (mVar 2) (mVar 6)))
  b__law_any_standing_1)
def b__law_any_standing_3 : MS :=
  (msIf (tOr2 (tBl (mOp (vEqD false) (mVar 5) (mApp vLst maNil))) (tBl (mOp (vEqD false) (mApp (callF 2 f__law_take) (maCons (mVar 0) (maCons (mC (.int 3)) maNil))) (mC (.int 0)))))
  (msExpr (mMt "list" vAppend (mVar 3) (maCons (mApp vTup maNil) maNil)))
  (msSeq (msAsg (mApp (callF 2 f__law_pick) (maCons (mVar 0) (maCons (mVar 5) maNil))) (mgName 6))
  b__law_any_standing_2))
def b__law_any_standing_4 : MS :=
  (msRet (mApp vTuple (maCons (mVar 3) maNil)))
def b__law_any_standing_5 : MS :=
  (msSeq (msFor (miRng1 (mOp vSub (mApp vLen (maCons (mOp vIx (mVar 1) (mC (.str "weights"))) maNil)) (mC (.int 1)))) (mgName 4)
  (msSeq (msAsg (mLc (miVal (mApp vSortS (maCons (mVar 2) maNil))) [6] (.one 6) (tBl (mOp vGt (mOp vIx (mVar 2) (mVar 6)) (mC (.int 0)))) (mVar 6)) (mgName 5))
  b__law_any_standing_3))
  b__law_any_standing_4)
def b__law_any_standing : MS :=
  (msSeq (msAsg (mApp vTup (maCons (mApp vDict (maCons (mItems (mOp vIx (mVar 1) (mC (.str "numbers")))) maNil)) (maCons (mApp vLst maNil) maNil))) (mgTup 2 (mgCons (mgName 2) (mgCons (mgName 3) mgNil))))
  b__law_any_standing_5)
def f__law_any_standing : Fn := mkFn 7 b__law_any_standing
def b__law_rows_at_1 : MS :=
  (msExpr (mMt "list" vAppend (mVar 3) (maCons (mApp vTup (maCons (mOp vAdd (mVar 4) (mC (.int 1))) (maCons (mC (.int 1)) (maCons (mOp vMulA (mVar 6) (mApp vInt (maCons (mOp (vIn true) (mOp vIx (mVar 5) (mC (.int 0))) (mVar 2)) maNil))) maNil)))) maNil)))
def b__law_rows_at_2 : MS :=
  (msIf (tBl (mOp vGt (mVar 8) (mC (.int 0))))
  (msExpr (mMt "list" vAppend (mVar 3) (maCons (mApp vTup (maCons (mVar 7) (maCons (mVar 8) (maCons (mOp vMulA (mOp vIx (mOp vIx (mVar 0) (mC (.str "weights"))) (mUn vNeg (mC (.int 1)))) (mApp vInt (maCons (mOp (vIn true) (mVar 7) (mVar 2)) maNil))) maNil)))) maNil)))
  msNil)
def b__law_rows_at_3 : MS :=
  (msRet (mLc (miVal (mVar 3)) [11, 8, 6] (.many [11, 8, 6]) tTrue (mApp vTup (maCons (mVar 11) (maCons (mVar 8) (maCons (mApp vInt (maCons (mOp (vEqD false) (mVar 11) (mVar 9)) maNil)) maNil))))))
def b__law_rows_at_4 : MS :=
  (msSeq (msIf (tVal (mApp (vIsi kCs kTys) (maCons (mVar 9) (maCons (mC (.ty "str")) maNil))))
  (msRet (mLc (miVal (mVar 3)) [11, 8, 6] (.many [11, 8, 6]) tTrue (mApp vTup (maCons (mVar 11) (maCons (mVar 8) (maCons (mApp vInt (maCons (mApp (vIsi kCs kTys) (maCons (mVar 11) (maCons (mC (.ty "str")) maNil))) maNil)) maNil))))))
  msNil)
  b__law_rows_at_3)
def b__law_rows_at_5 : MS :=
  (msSeq (msAsg (mOp vIx (mOp vIx (mVar 3) (mUn vNeg (mC (.int 1)))) (mC (.int 0))) (mgName 9))
  b__law_rows_at_4)
def b__law_rows_at_6 : MS :=
  (msSeq (msIf (tBl (mOp (vEqD true) (mLc (miVal (mVar 3)) [10] (.one 10) (tBl (mOp vGt (mOp vIx (mVar 10) (mC (.int 2))) (mC (.int 0)))) (mVar 10)) (mApp vLst maNil)))
  (msRet (mVar 3))
  msNil)
  b__law_rows_at_5)
def b__law_rows_at_7 : MS :=
  (msSeq (msFor (miVal (mApp vSortS (maCons (mOp vIx (mVar 0) (mC (.str "numbers"))) maNil))) (mgName 7)
  (msSeq (msAsg (mOp vSub (mOp vIx (mOp vIx (mVar 0) (mC (.str "numbers"))) (mVar 7)) (mApp vLen (maCons (mLc (miVal (mVar 1)) [5] (.one 5) (tAnd2 (tBl (mOp (vEqD true) (mVar 5) (mApp vTup maNil))) (tBl (mOp (vEqD false) (mOp vIx (mVar 5) (mC (.int 0))) (mVar 7)))) (mVar 5)) maNil))) (mgName 8))
  b__law_rows_at_2))
  b__law_rows_at_6)
def b__law_rows_at_8 : MS :=
  (msSeq (msFor (miEnum (mVar 1)) (mgTup 2 (mgCons (mgName 4) (mgCons (mgName 5) mgNil)))
  (msIf (tBl (mOp (vEqD true) (mVar 5) (mApp vTup maNil)))
  (msSeq (msAsg (mOp vIx (mOp vIx (mVar 0) (mOp vIx (mApp vLst (maCons (mC (.str "weights")) (maCons (mC (.str "skipped")) maNil))) (mApp vInt (maCons (mOp vIx (mVar 5) (mC (.int 1))) maNil)))) (mVar 4)) (mgName 6))
  b__law_rows_at_1)
  msNil))
  b__law_rows_at_7)
def b__law_rows_at : MS :=
  (msSeq (msPar 2 3 (maCons (mLc (miVal (mSl (mVar 1) mpNo (mpE (mOp vIx (mVar 0) (mC (.str "spread")))))) [5] (.one 5) (tBl (mOp (vEqD true) (mVar 5) (mApp vTup maNil))) (mOp vIx (mVar 5) (mC (.int 0)))) (maCons (mApp vLst maNil) maNil)))
  b__law_rows_at_8)
def f__law_rows_at : Fn := mkFn 12 b__law_rows_at
def b__law_drawn_on_1 : MS :=
  (msRet (mApp vTuple (maCons (mSl (mVar 4) mpNo (mpE (mApp vLen (maCons (mVar 0) maNil)))) maNil)))
def b__law_drawn_on_2 : MS :=
  (msSeq (msAsg (mOp vAdd (mApp vLst (maCons (mApp vTup (maCons (mVar 3) (maCons (mVar 2) maNil))) maNil)) (mLc (miEnum (mVar 0)) [6, 5] (.many [6, 5]) tTrue (mIf (tBl (mOp (vEqD false) (mOp vAdd (mVar 6) (mC (.int 1))) (mVar 1))) (mApp vTup maNil) (mVar 5)))) (mgName 4))
  b__law_drawn_on_1)
def b__law_drawn_on : MS :=
  (msSeq (msAsg (mIf (tVal (mApp (vIsi kCs kTys) (maCons (mVar 1) (maCons (mC (.ty "str")) maNil)))) (mVar 1) (mOp vIx (mOp vIx (mVar 0) (mOp vSub (mVar 1) (mC (.int 1)))) (mC (.int 0)))) (mgName 3))
  b__law_drawn_on_2)
def f__law_drawn_on : Fn := mkFn 7 b__law_drawn_on
def b_Rule_cap : MS :=
  (msRet (mApp vLen (maCons (mUn (vFld kCs "r_weights") (mVar 0)) maNil)))
def f_Rule_cap : Fn := mkFn 1 b_Rule_cap
def b_Songs_contains : MS :=
  (msRet (mAnd (mApp (vIsi kCs kTys) (maCons (mVar 1) (maCons (mC (.ty "str")) maNil))) (mOp (vIn false) (mVar 1) (mUn (vFld kCs "s_numbers") (mVar 0)))))
def f_Songs_contains : Fn := mkFn 2 b_Songs_contains
def b_is_item_1 : MS :=
  (msRet (mOr (mOp (vEqD false) (mVar 1) (mApp vTup maNil)) (mAnd (mOp (vInO "Songs" 2 f_Songs_contains false) (mOp vIx (mVar 1) (mC (.int 0))) (mVar 0)) (mApp (vIsi kCs kTys) (maCons (mOp vIx (mVar 1) (mC (.int 1))) (maCons (mC (.ty "bool")) maNil))))))
def b_is_item : MS :=
  (msSeq (msIf (tOr2 (tNot1 (tVal (mApp (vIsi kCs kTys) (maCons (mVar 1) (maCons (mC (.ty "tuple")) maNil))))) (tBl (mOp (vIn true) (mApp vLen (maCons (mVar 1) maNil)) (mApp vTup (maCons (mC (.int 0)) (maCons (mC (.int 2)) maNil))))))
  (msRet (mC (.bl false)))
  msNil)
  b_is_item_1)
def f_is_item : Fn := mkFn 2 b_is_item
def b_counts_in_1 : MS :=
  (msRet (mVar 1))
def b_counts_in_2 : MS :=
  (msSeq (msFor (miVal (mVar 0)) (mgName 2)
  (msIf (tBl (mOp (vEqD true) (mVar 2) (mApp vTup maNil)))
  (msAsg (mOp vAdd (mGet2 (mVar 1) (mOp vIx (mVar 2) (mC (.int 0))) (mC (.int 0))) (mC (.int 1))) (mgSub (mVar 1) (mOp vIx (mVar 2) (mC (.int 0)))))
  msNil))
  b_counts_in_1)
def b_counts_in : MS :=
  (msSeq (msAsg vNewD (mgName 1))
  b_counts_in_2)
def f_counts_in : Fn := mkFn 3 b_counts_in
def b_need_kind : MS :=
  (msIf (tOr2 (tNot1 (tVal (mApp (vIsi kCs kTys) (maCons (mVar 1) (maCons (mC (.ty "str")) maNil))))) (tBl (mOp (vIn true) (mVar 1) (mUn (vFld kCs "s_numbers") (mVar 0)))))
  msNo
  msNil)
def f_need_kind : Fn := mkFn 2 b_need_kind
def b_Songs_getitem_1 : MS :=
  (msRet (mOp vIx (mUn (vFld kCs "s_numbers") (mVar 0)) (mVar 1)))
def b_Songs_getitem : MS :=
  (msSeq (msExpr (mApp (callF 2 f_need_kind) (maCons (mVar 0) (maCons (mVar 1) maNil))))
  b_Songs_getitem_1)
def f_Songs_getitem : Fn := mkFn 2 b_Songs_getitem
def b_is_standing_1 : MS :=
  (msRet (mApp vAll (maCons (mLc (miVal (mVar 3)) [5] (.one 5) tTrue (mOp vLe (mOp vIx (mVar 3) (mVar 5)) (mOp (vIxO "Songs" 2 f_Songs_getitem) (mVar 1) (mVar 5)))) maNil)))
def b_is_standing_2 : MS :=
  (msSeq (msAsg (mApp (callF 1 f_counts_in) (maCons (mVar 2) maNil)) (mgName 3))
  b_is_standing_1)
def b_is_standing : MS :=
  (msSeq (msIf (tOr2 (tNot1 (tVal (mApp (vIsi kCs kTys) (maCons (mVar 2) (maCons (mC (.ty "tuple")) maNil))))) (tOr2 (tBl (mOp (vEqD true) (mApp vLen (maCons (mVar 2) maNil)) (mOp vSub (mProp "Rule" f_Rule_cap (mVar 0)) (mC (.int 1))))) (tNot1 (tVal (mApp vAll (maCons (mLc (miVal (mVar 2)) [4] (.one 4) tTrue (mApp (callF 2 f_is_item) (maCons (mVar 1) (maCons (mVar 4) maNil)))) maNil))))))
  (msRet (mC (.bl false)))
  msNil)
  b_is_standing_2)
def f_is_standing : Fn := mkFn 6 b_is_standing
def b_need_standing : MS :=
  (msIf (tNot1 (tVal (mApp (callF 3 f_is_standing) (maCons (mVar 0) (maCons (mVar 1) (maCons (mVar 2) maNil))))))
  msNo
  msNil)
def f_need_standing : Fn := mkFn 3 b_need_standing
def b_ages_in : MS :=
  (msRet (mLc (miEnum (mVar 0)) [2, 1] (.many [2, 1]) (tBl (mOp (vEqD true) (mVar 1) (mApp vTup maNil))) (mOp vAdd (mVar 2) (mC (.int 1)))))
def f_ages_in : Fn := mkFn 3 b_ages_in
def b_Songs_numbers : MS :=
  (msRet (mApp vDict (maCons (mUn (vFld kCs "s_numbers") (mVar 0)) maNil)))
def f_Songs_numbers : Fn := mkFn 1 b_Songs_numbers
def b_old_songs_1 : MS :=
  (msRet (mDc (miVal (mVar 4)) [5] (.one 5) (tBl (mOp vGt (mOp vIx (mVar 4) (mVar 5)) (mC (.int 0)))) (mVar 5) (mOp vIx (mVar 4) (mVar 5))))
def b_old_songs_2 : MS :=
  (msSeq (msAsg (mDc (miVal (mVar 3)) [5] (.one 5) tTrue (mVar 5) (mOp vSub (mOp vIx (mVar 3) (mVar 5)) (mGet2 (mVar 2) (mVar 5) (mC (.int 0))))) (mgName 4))
  b_old_songs_1)
def b_old_songs : MS :=
  (msSeq (msAsg (mApp vTup (maCons (mApp (callF 1 f_counts_in) (maCons (mVar 1) maNil)) (maCons (mProp "Songs" f_Songs_numbers (mVar 0)) maNil))) (mgTup 2 (mgCons (mgName 2) (mgCons (mgName 3) mgNil))))
  b_old_songs_2)
def f_old_songs : Fn := mkFn 6 b_old_songs
def b_is_place_1 : MS :=
  (msRet (mAnd (mApp (vIsi kCs kTys) (maCons (mVar 2) (maCons (mC (.ty "str")) maNil))) (mOp (vIn false) (mVar 2) (mApp (callF 2 f_old_songs) (maCons (mVar 0) (maCons (mVar 1) maNil))))))
def b_is_place : MS :=
  (msSeq (msIf (tVal (mApp (callF 1 f_is_integer) (maCons (mVar 2) maNil)))
  (msRet (mOp (vIn false) (mVar 2) (mApp (callF 1 f_ages_in) (maCons (mVar 1) maNil))))
  msNil)
  b_is_place_1)
def f_is_place : Fn := mkFn 3 b_is_place
def b_is_step_1 : MS :=
  (msRet (mAnd (mApp (callF 3 f_is_place) (maCons (mVar 0) (maCons (mVar 1) (maCons (mOp vIx (mVar 2) (mC (.int 0))) maNil)))) (mApp (vIsi kCs kTys) (maCons (mOp vIx (mVar 2) (mC (.int 1))) (maCons (mC (.ty "bool")) maNil)))))
def b_is_step : MS :=
  (msSeq (msIf (tOr2 (tNot1 (tVal (mApp (vIsi kCs kTys) (maCons (mVar 2) (maCons (mC (.ty "tuple")) maNil))))) (tBl (mOp (vEqD true) (mApp vLen (maCons (mVar 2) maNil)) (mC (.int 2)))))
  (msRet (mC (.bl false)))
  msNil)
  b_is_step_1)
def f_is_step : Fn := mkFn 3 b_is_step
def b_drawn_1 : MS :=
  (msRet (mSl (mApp vTup (maCons (mApp vTup (maCons (mVar 3) (maCons (mVar 2) maNil))) (maStar (mVar 4) maNil))) mpNo (mpE (mApp vLen (maCons (mVar 0) maNil)))))
def b_drawn_2 : MS :=
  (msSeq (msAsg (mLc (miEnum (mVar 0)) [6, 5] (.many [6, 5]) tTrue (mIf (tBl (mOp (vEqD false) (mOp vAdd (mVar 6) (mC (.int 1))) (mVar 1))) (mApp vTup maNil) (mVar 5))) (mgName 4))
  b_drawn_1)
def b_drawn : MS :=
  (msSeq (msAsg (mIf (tVal (mApp (callF 1 f_is_integer) (maCons (mVar 1) maNil))) (mOp vIx (mOp vIx (mVar 0) (mOp vSub (mVar 1) (mC (.int 1)))) (mC (.int 0))) (mVar 1)) (mgName 3))
  b_drawn_2)
def f_drawn : Fn := mkFn 7 b_drawn
def b_behind_1 : MS :=
  (msRet (mApp (callF 3 f_drawn) (maCons (mVar 2) (maCons (mOp vIx (mVar 3) (mC (.int 0))) (maCons (mOp vIx (mVar 3) (mC (.int 1))) maNil)))))
def b_behind_2 : MS :=
  (msSeq (msIf (tNot1 (tVal (mApp (callF 3 f_is_step) (maCons (mVar 1) (maCons (mVar 2) (maCons (mVar 3) maNil))))))
  msNo
  msNil)
  b_behind_1)
def b_behind : MS :=
  (msSeq (msExpr (mApp (callF 3 f_need_standing) (maCons (mVar 0) (maCons (mVar 1) (maCons (mVar 2) maNil)))))
  b_behind_2)
def f_behind : Fn := mkFn 4 b_behind
def b__law_first_one : MS :=
  (msRet (mOp vMulA (mApp vTup (maCons (mApp vTup maNil) maNil)) (mOp vSub (mApp vLen (maCons (mOp vIx (mVar 0) (mC (.str "weights"))) maNil)) (mC (.int 1)))))
def f__law_first_one : Fn := mkFn 1 b__law_first_one
def b__law_of_songs_1 : MS :=
  (msExpr (mMt "list" vAppend (mVar 2) (maCons (mIf (tVal (mVar 5)) (mApp vTup (maCons (mOp vIx (mOp vIx (mOp vIx (mVar 4) (mOp vSub (mVar 3) (mC (.int 1)))) (mC (.int 0))) (mC (.int 0))) (maCons (mOp vIx (mOp vIx (mVar 4) (mOp vSub (mVar 3) (mC (.int 1)))) (mC (.int 1))) maNil))) (mApp vTup maNil)) maNil)))
def b__law_of_songs_2 : MS :=
  (msSeq (msAsg (mAnd (mOp vLe (mVar 3) (mApp vLen (maCons (mVar 4) maNil))) (mOp (vIn true) (mOp vIx (mOp vIx (mVar 4) (mOp vSub (mVar 3) (mC (.int 1)))) (mC (.int 0))) (mLc (miVal (mSl (mVar 4) mpNo (mpE (mOp vSub (mVar 3) (mC (.int 1)))))) [6] (.one 6) tTrue (mOp vIx (mVar 6) (mC (.int 0)))))) (mgName 5))
  b__law_of_songs_1)
def b__law_of_songs_3 : MS :=
  (msRet (mApp vTuple (maCons (mVar 2) maNil)))
def b__law_of_songs_4 : MS :=
  (msSeq (msFor (miRng2 (mC (.int 1)) (mApp vLen (maCons (mOp vIx (mVar 0) (mC (.str "weights"))) maNil))) (mgName 3)
  (msSeq (msAsg (mUn vRev (mVar 1)) (mgName 4))
  b__law_of_songs_2))
  b__law_of_songs_3)
def b__law_of_songs : MS :=
  (msSeq (msAsg (mApp vLst maNil) (mgName 2))
  b__law_of_songs_4)
def f__law_of_songs : Fn := mkFn 7 b__law_of_songs
def b__law_rows_right_1 : MS :=
  (msIf (tOr2 (tBl (mOp (vEqD true) (mApp vRepr (maCons (mVar 5) maNil)) (mApp vRepr (maCons (mApp (callF 2 f__law_of_songs) (maCons (mVar 1) (maCons (mVar 4) maNil))) maNil)))) (tNot1 (tVal (mApp (callF 3 f_is_standing) (maCons (mVar 2) (maCons (mVar 3) (maCons (mVar 5) maNil)))))))
  (msRet (mC (.bl false)))
  msNil)
def b__law_rows_right_2 : MS :=
  (msSeq (msAsg (mApp (callF 4 f_behind) (maCons (mVar 2) (maCons (mVar 3) (maCons (mVar 5) (maCons (mApp vTup (maCons (mVar 12) (maCons (mVar 10) maNil))) maNil))))) (mgName 5))
  b__law_rows_right_1)
def b__law_rows_right_3 : MS :=
  (msSeq (msExpr (mMt "list" vAppend (mVar 4) (maCons (mApp vTup (maCons (mVar 9) (maCons (mVar 10) maNil))) maNil)))
  b__law_rows_right_2)
def b__law_rows_right_4 : MS :=
  (msSeq (msAsg (mIf (tBl (mOp (vIn false) (mVar 9) (mVar 11))) (mOp vAdd (mMt "list" vIndex (mVar 11) (maCons (mVar 9) maNil)) (mC (.int 1))) (mOp vIx (mVar 9) (mC (.int 0)))) (mgName 12))
  b__law_rows_right_3)
def b__law_rows_right_5 : MS :=
  (msSeq (msAsg (mSl (mLc (miVal (mUn vRev (mVar 4))) [14] (.one 14) tTrue (mOp vIx (mVar 14) (mC (.int 0)))) mpNo (mpE (mOp vSub (mApp vLen (maCons (mOp vIx (mVar 1) (mC (.str "weights"))) maNil)) (mC (.int 1))))) (mgName 11))
  b__law_rows_right_4)
def b__law_rows_right_6 : MS :=
  (msRet (mC (.bl true)))
def b__law_rows_right_7 : MS :=
  (msSeq (msFor (miRng1 (mC (.int 7))) (mgName 8)
  (msSeq (msPar 9 10 (maCons (mApp (callF 2 f__law_pick) (maCons (mVar 0) (maCons (mVar 6) maNil))) (maCons (mOp (vEqD false) (mApp (callF 2 f__law_take) (maCons (mVar 0) (maCons (mC (.int 2)) maNil))) (mC (.int 0))) maNil)))
  b__law_rows_right_5))
  b__law_rows_right_6)
def b__law_rows_right_8 : MS :=
  (msSeq (msFor (miVal (mApp vSortS (maCons (mOp vIx (mVar 1) (mC (.str "numbers"))) maNil))) (mgName 7)
  (msAsg (mOp vAdd (mVar 6) (mLc (miRng1 (mOp vIx (mOp vIx (mVar 1) (mC (.str "numbers"))) (mVar 7))) [13] (.one 13) tTrue (mApp vTup (maCons (mVar 7) (maCons (mVar 13) maNil))))) (mgName 6)))
  b__law_rows_right_7)
def b__law_rows_right_9 : MS :=
  (msSeq (msPar3 4 5 6 (maCons (mApp vLst maNil) (maCons (mApp (callF 1 f__law_first_one) (maCons (mVar 1) maNil)) (maCons (mApp vLst maNil) maNil))))
  b__law_rows_right_8)
def b__law_rows_right : MS :=
  (msSeq (msPar 2 3 (maCons (mApp (callF 1 f__law_rule_of) (maCons (mVar 1) maNil)) (maCons (mApp (callF 1 f__law_songs_in) (maCons (mVar 1) maNil)) maNil)))
  b__law_rows_right_9)
def f__law_rows_right : Fn := mkFn 15 b__law_rows_right
def b_law_1 : MS :=
  (msIf (tBl (mOp (vEqD true) (mKw 0 4 [3, 2, 1, 0] [] 4 f_behind maNil (maCons (mApp vTup (maCons (mVar 7) (maCons (mVar 10) maNil))) (maCons (mVar 6) (maCons (mVar 5) (maCons (mVar 4) maNil))))) (mVar 11)))
  (msRet (mC (.bl false)))
  msNil)
def b_law_2 : MS :=
  (msSeq (msIf (tBl (mOp (vEqD true) (mApp vRepr (maCons (mApp (callF 4 f_behind) (maCons (mVar 4) (maCons (mVar 5) (maCons (mVar 6) (maCons (mApp vTup (maCons (mVar 7) (maCons (mVar 10) maNil))) maNil))))) maNil)) (mApp vRepr (maCons (mVar 11) maNil))))
  (msRet (mC (.bl false)))
  msNil)
  b_law_1)
def b_law_3 : MS :=
  (msIf (tNot1 (tVal (mApp (callF 2 f__law_rows_right) (maCons (mVar 1) (maCons (mVar 3) maNil)))))
  (msRet (mC (.bl false)))
  msNil)
def b_law_4 : MS :=
  (msSeq (msFor (miVal (mApp (callF 2 f__law_rows_at) (maCons (mVar 3) (maCons (mVar 6) maNil)))) (mgTup 3 (mgCons (mgName 7) (mgCons (mgName 8) (mgCons (mgName 9) mgNil))))
  (msFor (miVal (mApp vTup (maCons (mC (.bl false)) (maCons (mC (.bl true)) maNil)))) (mgName 10)
  (msSeq (msAsg (mApp (callF 3 f__law_drawn_on) (maCons (mVar 6) (maCons (mVar 7) (maCons (mVar 10) maNil)))) (mgName 11))
  b_law_2)))
  b_law_3)
def b_law_5 : MS :=
  (msSeq (msAsg (mApp (callF 2 f__law_any_standing) (maCons (mVar 1) (maCons (mVar 3) maNil))) (mgName 6))
  b_law_4)
def b_law_6 : MS :=
  (msSeq (msPar 4 5 (maCons (mApp (callF 1 f__law_rule_of) (maCons (mVar 3) maNil)) (maCons (mApp (callF 1 f__law_songs_in) (maCons (mVar 3) maNil)) maNil)))
  b_law_5)
def b_law_7 : MS :=
  (msRet (mC (.bl true)))
def b_law_8 : MS :=
  (msSeq (msFor (miRng1 (mOp vAdd (mC (.int 4)) (mApp vMin (maCons (mApp vLen (maCons (mVar 0) maNil)) (maCons (mC (.int 16)) maNil))))) (mgName 2)
  (msSeq (msAsg (mApp (callF 4 f__law_drawn_case) (maCons (mVar 1) (maCons (mC (.int 4)) (maCons (mC (.int 3)) (maCons (mApp (callF 2 f__law_pick) (maCons (mVar 1) (maCons (mApp vLst (maCons (mC (.int 1)) (maCons (mC (.int 2)) (maCons (mC (.int 4)) maNil)))) maNil))) maNil))))) (mgName 3))
  b_law_6))
  b_law_7)
def b_law : MS :=
  (msSeq (msAsg (mApp (callF 1 f__law_begin) (maCons (mVar 0) maNil)) (mgName 1))
  b_law_8)
def f_law : Fn := mkFn 12 b_law
end U
end
/-! derivations of the mirrors, printed by a program -/
namespace U
open PySem L2
def top (i : Nat) : Stmt := PySem.Challenge.pw_unheard_k08_draws.main.body.getD i (.Pass ⟨0, 0, 0, 0⟩)
structure Txt (K : PySem.W.Frag) (mg : Str → Option Value) (base : Heap) : Prop where
  sys : SysAt base
  isa : IsaOk K mg kCs kTys
  n_abs : mg "abs" = none
  n_all : mg "all" = none
  n_bool : mg "bool" = none
  n_dict : mg "dict" = none
  n_divmod : mg "divmod" = none
  n_enumerate : mg "enumerate" = none
  n_int : mg "int" = none
  n_isinstance : mg "isinstance" = none
  n_len : mg "len" = none
  n_list : mg "list" = none
  n_min : mg "min" = none
  n_range : mg "range" = none
  n_repr : mg "repr" = none
  n_sorted : mg "sorted" = none
  n_str : mg "str" = none
  n_sum : mg "sum" = none
  n_tuple : mg "tuple" = none
  g_LETTERS : ∃ t, mg "LETTERS" = some (.str "abcdefghijklmnopqrstuvwxyz" t)
  g_LONGEST_NAME : ∃ t, mg "LONGEST_NAME" = some (.int 8 t)
  g_MOST_CAP : ∃ t, mg "MOST_CAP" = some (.int 4 t)
  g_MOST_KINDS : ∃ t, mg "MOST_KINDS" = some (.int 3 t)
  g_MOST_WEIGHT : ∃ t, mg "MOST_WEIGHT" = some (.int 9 t)
  fl_r_skipped : FldOk K mg kCs "r_skipped"
  fl_r_spread : FldOk K mg kCs "r_spread"
  fl_r_weights : FldOk K mg kCs "r_weights"
  fl_s_numbers : FldOk K mg kCs "s_numbers"
section
variable {P : Program} {w : World} {K : PySem.W.Frag} {mg : Str → Option Value} {base : Heap}
theorem sc__law_begin : FnScope ["_law_script", "_law_large", "_law_cell"] ["_law_script"] (defScope (top 34)) := ⟨rfl, rfl, rfl, by decide +kernel, rfl, by decide +kernel, by decide +kernel⟩
theorem d__law_begin (T : Txt K mg base)  : Bd P w K mg base ["_law_script", "_law_large", "_law_cell"] "_law_begin" (top 34) 0 b__law_begin := fun f cdv A outer s H E c =>
  (b_cons (t_setLc 1 (own := [("_law_cell", 2)]) (t := (.one 2)) c (i_val (s_var 0)) (li_val _) (blkOk_by (N := ["_law_script", "_law_large", "_law_cell"]) (sc := defScope (top 34)) (by decide +kernel)) (by decide) (fun _ _ _ _ _ => (lg_one (c.blk _ _ _ _ _).nd)) (fun _ _ _ _ _ => (ts_one (c_cmp o_ge nr_ord (s_blt c_abs nr_abs T.n_abs rfl (a_cons (s_var 2) a_nil)) (s_op o_pow nr_pow s_int s_int)))) (fun _ _ _ _ _ => (s_blt c_abs nr_abs T.n_abs rfl (a_cons (s_var 2) a_nil))) (sw_true rfl rfl rfl (by decide +kernel)))
  (b_one (t_ret (s_disp [((mC (.str "large")), (mVar 1)), ((mC (.str "cells")), (mApp vList (maCons (mVar 0) maNil))), ((mC (.str "rest")), (mC (.int 0))), ((mC (.str "turn")), (mC (.int 0))), ((mC (.str "mix")), (mC (.int 7)))] (pps_cons s_str (s_var 1) (pps_cons s_str (s_typ (c_list c.calm) nr_list T.n_list rfl (a_cons (s_var 0) a_nil)) (pps_cons s_str s_int (pps_cons s_str s_int (pps_cons s_str s_int pps_nil)))))))))
theorem sc__law_take : FnScope ["_law_draw", "_law_size", "_law_cell", "_law_found"] ["_law_draw", "_law_size"] (defScope (top 35)) := ⟨rfl, rfl, rfl, by decide +kernel, rfl, by decide +kernel, by decide +kernel⟩
theorem d__law_take (T : Txt K mg base)  : Bd P w K mg base ["_law_draw", "_law_size", "_law_cell", "_law_found"] "_law_take" (top 35) 0 b__law_take := fun f cdv A outer s H E c =>
  (b_cons (t_if (PW.pt (c_and (c_cmp (o_eq c.u64) nr_eqd (s_ix c (s_var 0) s_str) s_int) (c_and1 (c_cmp (o_ne c.u64) nr_eqd (s_ix c (s_var 0) s_str) (s_lst a_nil)))))
  (b_one (t_asg (s_mt F.plainAttrs_list F.slot_list_pop F.type_list_pop m_pop nr_pop (s_ix c (s_var 0) s_str) (a_cons s_int a_nil)) (g_sub c (s_var 0) s_str) (plain_sub _ _)))
  (b_one (t_if (c_cmp (o_eq c.u64) nr_eqd (s_ix c (s_var 0) s_str) s_int)
  (b_cons (t_asg (s_op o_add nr_add (s_ix c (s_var 0) s_str) s_int) (g_sub c (s_var 0) s_str) (plain_sub _ _))
  (b_cons (t_for c (i_val (s_op o_add nr_add (s_lst (a_cons (s_ix c (s_var 0) s_str) a_nil)) (s_ix c (s_var 0) s_str))) (li_val _) (g_name 2 c.nd) (plain_name 2)
  (b_one (t_asg (s_op o_mod nr_mod (s_typ c_int nr_int T.n_int rfl (a_cons (s_op o_add nr_add (s_op o_add nr_add (s_op (o_mulA o_mul) nr_mulA (s_ix c (s_var 0) s_str) s_int) (s_op (o_mulA o_mul) nr_mulA (s_var 2) s_int)) s_int) a_nil)) s_int) (g_sub c (s_var 0) s_str) (plain_sub _ _))))
  (b_one (t_asg (s_op o_mod nr_mod (s_typ c_int nr_int T.n_int rfl (a_cons (s_op o_pow nr_pow (s_ix c (s_var 0) s_str) s_int) a_nil)) s_int) (g_sub c (s_var 0) s_str) (plain_sub _ _)))))
  b_nil)))
  (b_cons (t_asg (s_blt c_dm nr_dm T.n_divmod rfl (a_cons (s_ix c (s_var 0) s_str) (a_cons (s_var 1) a_nil))) (g_tup c.calm (gs_cons (g_sub c (s_var 0) s_str) (gs_cons (g_name 3 c.nd) gs_nil (plain_name 3)) (plain_sub _ _))) (plain_tup (plains_cons (plain_sub _ _) (plains_cons (plain_name 3) plains_nil))))
  (b_one (t_ret (s_var 3)))))
theorem sc__law_pick : FnScope ["_law_draw", "_law_some"] ["_law_draw", "_law_some"] (defScope (top 36)) := ⟨rfl, rfl, rfl, by decide +kernel, rfl, by decide +kernel, by decide +kernel⟩
theorem d__law_pick (T : Txt K mg base) (h_Fn__law_take : FnAt P w K mg base "_law_take" 1 2 f__law_take) : Bd P w K mg base ["_law_draw", "_law_some"] "_law_pick" (top 36) 1 b__law_pick := fun f cdv A outer s H E c =>
  (b_one (t_ret (s_ix c (s_var 1) (s_call c h_Fn__law_take (by decide) (a_cons (s_var 0) (a_cons (s_blt c_len nr_len T.n_len rfl (a_cons (s_var 1) a_nil)) a_nil))))))
theorem sc__law_some_names : FnScope ["_law_draw", "_law_many", "_law_pool", "_law_letters", "_law_found", "_law_turn", "_law_word", "_law_near", "_law_sign", "_law_letter", "_law_one"] ["_law_draw", "_law_many"] (defScope (top 37)) := ⟨rfl, rfl, rfl, by decide +kernel, rfl, by decide +kernel, by decide +kernel⟩
theorem d__law_some_names (T : Txt K mg base) (h_Fn__law_pick : FnAt P w K mg base "_law_pick" 2 2 f__law_pick) (h_Fn__law_take : FnAt P w K mg base "_law_take" 1 2 f__law_take) : Bd P w K mg base ["_law_draw", "_law_many", "_law_pool", "_law_letters", "_law_found", "_law_turn", "_law_word", "_law_near", "_law_sign", "_law_letter", "_law_one"] "_law_some_names" (top 37) 2 b__law_some_names := fun f cdv A outer s H E c =>
  (b_cons (t_set 2 (s_lst (a_cons s_str (a_cons s_str (a_cons s_str (a_cons s_str (a_cons s_str (a_cons s_str (a_cons s_str (a_cons s_str a_nil))))))))) c.nd)
  (b_cons (t_asg (s_tup (a_cons s_str (a_cons (s_lst a_nil) a_nil))) (g_tup c.calm (gs_cons (g_name 3 c.nd) (gs_cons (g_name 4 c.nd) gs_nil (plain_name 4)) (plain_name 3))) (plain_tup (plains_cons (plain_name 3) (plains_cons (plain_name 4) plains_nil))))
  (b_cons (t_for c (i_rng1 (s_var 1) T.n_range) (li_rng1 _) (g_name 5 c.nd) (plain_name 5)
  (b_cons (t_set 6 (s_call c h_Fn__law_pick (by decide) (a_cons (s_var 0) (a_cons (s_var 2) a_nil))) c.nd)
  (b_cons (t_if (c_cmp (o_eq c.u64) nr_eqd (s_call c h_Fn__law_take (by decide) (a_cons (s_var 0) (a_cons s_int a_nil))) s_int)
  (b_one (t_set 6 (s_mt F.plainAttrs_str F.slot_str_join F.type_str_join m_join nr_join s_str (a_cons (s_lc (own := [("_law_sign", 8)]) (t := (.one 8)) c (i_rng1 (s_call c h_Fn__law_pick (by decide) (a_cons (s_var 0) (a_cons (s_lst (a_cons s_int (a_cons s_int (a_cons s_int (a_cons s_int a_nil))))) a_nil))) T.n_range) (li_rng1 _) (blkOk_by (N := ["_law_draw", "_law_many", "_law_pool", "_law_letters", "_law_found", "_law_turn", "_law_word", "_law_near", "_law_sign", "_law_letter", "_law_one"]) (sc := defScope (top 37)) (by decide +kernel)) (by decide) (fun _ _ _ _ _ => (lg_one (c.blk _ _ _ _ _).nd)) (fun _ _ _ _ _ => ts_nil) (fun _ _ _ _ _ => (s_call (c.blk _ _ _ _ _) h_Fn__law_pick (by decide) (a_cons (s_var 0) (a_cons (s_var 3) a_nil))))) a_nil)) c.nd))
  b_nil)
  (b_cons (t_set 7 (s_op o_add nr_add (s_lst (a_cons (s_var 6) a_nil)) (s_lc (own := [("_law_letter", 9)]) (t := (.one 9)) c (i_val (s_var 3)) (li_val _) (blkOk_by (N := ["_law_draw", "_law_many", "_law_pool", "_law_letters", "_law_found", "_law_turn", "_law_word", "_law_near", "_law_sign", "_law_letter", "_law_one"]) (sc := defScope (top 37)) (by decide +kernel)) (by decide) (fun _ _ _ _ _ => (lg_one (c.blk _ _ _ _ _).nd)) (fun _ _ _ _ _ => ts_nil) (fun _ _ _ _ _ => (s_op o_add nr_add (s_sl (s_var 6) p_no (p_e s_int)) (s_var 9))))) c.nd)
  (b_one (t_expr (s_mt F.plainAttrs_list F.slot_list_append F.type_list_append m_append nr_append (s_var 4) (a_cons (s_ix c (s_lc (own := [("_law_one", 10)]) (t := (.one 10)) c (i_val (s_var 7)) (li_val _) (blkOk_by (N := ["_law_draw", "_law_many", "_law_pool", "_law_letters", "_law_found", "_law_turn", "_law_word", "_law_near", "_law_sign", "_law_letter", "_law_one"]) (sc := defScope (top 37)) (by decide +kernel)) (by decide) (fun _ _ _ _ _ => (lg_one (c.blk _ _ _ _ _).nd)) (fun _ _ _ _ _ => (ts_one (c_cmp (o_notIn (c.blk _ _ _ _ _).hu (c.blk _ _ _ _ _).u65) nr_in (s_var 10) (s_var 4)))) (fun _ _ _ _ _ => (s_var 10))) s_int) a_nil))))))))
  (b_one (t_ret (s_var 4))))))
theorem sc__law_drawn_case : FnScope ["_law_draw", "_law_cap", "_law_kinds", "_law_most", "_law_size", "_law_menu", "_law_weights", "_law_skipped", "_law_names", "_law_numbers", "_law_age", "_law_name"] ["_law_draw", "_law_cap", "_law_kinds", "_law_most"] (defScope (top 38)) := ⟨rfl, rfl, rfl, by decide +kernel, rfl, by decide +kernel, by decide +kernel⟩
theorem d__law_drawn_case (T : Txt K mg base) (h_Fn__law_pick : FnAt P w K mg base "_law_pick" 2 2 f__law_pick) (h_Fn__law_take : FnAt P w K mg base "_law_take" 1 2 f__law_take) (h_Fn__law_some_names : FnAt P w K mg base "_law_some_names" 3 2 f__law_some_names) : Bd P w K mg base ["_law_draw", "_law_cap", "_law_kinds", "_law_most", "_law_size", "_law_menu", "_law_weights", "_law_skipped", "_law_names", "_law_numbers", "_law_age", "_law_name"] "_law_drawn_case" (top 38) 3 b__law_drawn_case := fun f cdv A outer s H E c =>
  (b_cons (t_asg (s_tup (a_cons (s_op o_add nr_add s_int (s_call c h_Fn__law_take (by decide) (a_cons (s_var 0) (a_cons (s_var 1) a_nil)))) (a_cons (s_call c h_Fn__law_pick (by decide) (a_cons (s_var 0) (a_cons (s_lst (a_cons (s_lst (a_cons s_int (a_cons s_int a_nil))) (a_cons (s_lst (a_cons s_int (a_cons s_int (a_cons s_int (a_cons s_int a_nil))))) (a_cons (s_lst (a_cons s_int (a_cons s_int (a_cons s_int a_nil)))) (a_cons (s_lst (a_cons s_int (a_cons s_int (a_cons s_int (a_cons s_int a_nil))))) (a_cons (s_lst (a_cons s_int (a_cons s_int a_nil))) a_nil)))))) a_nil))) a_nil))) (g_tup c.calm (gs_cons (g_name 4 c.nd) (gs_cons (g_name 5 c.nd) gs_nil (plain_name 5)) (plain_name 4))) (plain_tup (plains_cons (plain_name 4) (plains_cons (plain_name 5) plains_nil))))
  (b_cons (t_set 6 (s_typ c_tuple nr_tuple T.n_tuple rfl (a_cons (s_lc (own := [("_law_age", 10)]) (t := (.one 10)) c (i_rng1 (s_var 4) T.n_range) (li_rng1 _) (blkOk_by (N := ["_law_draw", "_law_cap", "_law_kinds", "_law_most", "_law_size", "_law_menu", "_law_weights", "_law_skipped", "_law_names", "_law_numbers", "_law_age", "_law_name"]) (sc := defScope (top 38)) (by decide +kernel)) (by decide) (fun _ _ _ _ _ => (lg_one (c.blk _ _ _ _ _).nd)) (fun _ _ _ _ _ => ts_nil) (fun _ _ _ _ _ => (s_call (c.blk _ _ _ _ _) h_Fn__law_pick (by decide) (a_cons (s_var 0) (a_cons (s_var 5) a_nil))))) a_nil)) c.nd)
  (b_cons (t_set 7 (s_typ c_tuple nr_tuple T.n_tuple rfl (a_cons (s_lc (own := [("_law_age", 10)]) (t := (.one 10)) c (i_rng1 (s_op o_sub nr_sub (s_var 4) s_int) T.n_range) (li_rng1 _) (blkOk_by (N := ["_law_draw", "_law_cap", "_law_kinds", "_law_most", "_law_size", "_law_menu", "_law_weights", "_law_skipped", "_law_names", "_law_numbers", "_law_age", "_law_name"]) (sc := defScope (top 38)) (by decide +kernel)) (by decide) (fun _ _ _ _ _ => (lg_one (c.blk _ _ _ _ _).nd)) (fun _ _ _ _ _ => ts_nil) (fun _ _ _ _ _ => (s_call (c.blk _ _ _ _ _) h_Fn__law_pick (by decide) (a_cons (s_var 0) (a_cons (s_op o_add nr_add (s_var 5) (s_lst (a_cons s_int a_nil))) a_nil))))) a_nil)) c.nd)
  (b_cons (t_set 8 (s_call c h_Fn__law_some_names (by decide) (a_cons (s_var 0) (a_cons (s_op o_add nr_add s_int (s_call c h_Fn__law_take (by decide) (a_cons (s_var 0) (a_cons (s_var 2) a_nil)))) a_nil))) c.nd)
  (b_cons (t_set 9 (s_typ (c_dict c.calm) nr_dict T.n_dict rfl (a_cons (s_lc (own := [("_law_name", 11)]) (t := (.one 11)) c (i_val (s_var 8)) (li_val _) (blkOk_by (N := ["_law_draw", "_law_cap", "_law_kinds", "_law_most", "_law_size", "_law_menu", "_law_weights", "_law_skipped", "_law_names", "_law_numbers", "_law_age", "_law_name"]) (sc := defScope (top 38)) (by decide +kernel)) (by decide) (fun _ _ _ _ _ => (lg_one (c.blk _ _ _ _ _).nd)) (fun _ _ _ _ _ => ts_nil) (fun _ _ _ _ _ => (s_tup (a_cons (s_var 11) (a_cons (s_call (c.blk _ _ _ _ _) h_Fn__law_take (by decide) (a_cons (s_var 0) (a_cons (s_op o_add nr_add (s_var 3) s_int) a_nil))) a_nil))))) a_nil)) c.nd)
  (b_cons (t_if (c_cmp (o_eq c.u64) nr_eqd (s_blt (c_sum c.calm) nr_sum T.n_sum rfl (a_cons (s_vals c.calm (s_var 9) T.n_list) a_nil)) s_int)
  (b_one (t_asg s_int (g_sub c (s_var 9) (s_ix c.wn (s_typ (c_list c.wn.calm) nr_list T.n_list rfl (a_cons (s_var 9) a_nil)) s_int)) (plain_sub _ _)))
  b_nil)
  (b_one (t_ret (s_disp [((mC (.str "weights")), (mVar 6)), ((mC (.str "skipped")), (mVar 7)), ((mC (.str "spread")), (mApp (callF 2 f__law_take) (maCons (mVar 0) (maCons (mVar 4) maNil)))), ((mC (.str "numbers")), (mVar 9))] (pps_cons s_str (s_var 6) (pps_cons s_str (s_var 7) (pps_cons s_str (s_call c h_Fn__law_take (by decide) (a_cons (s_var 0) (a_cons (s_var 4) a_nil))) (pps_cons s_str (s_var 9) pps_nil)))))))))))))
theorem sc_is_name : FnScope ["thing", "sign"] ["thing"] (defScope (top 14)) := ⟨rfl, rfl, rfl, by decide +kernel, rfl, by decide +kernel, by decide +kernel⟩
theorem d_is_name (T : Txt K mg base)  : Bd P w K mg base ["thing", "sign"] "is_name" (top 14) 0 b_is_name := fun f cdv A outer s H E c =>
  (b_cons (t_if (PW.pt (c_or (c_not (c_val (s_blt (c_isi T.isa) nr_isi T.n_isinstance rfl (a_cons (s_var 0) (a_cons (s_ty T.n_str rfl) a_nil))))) (c_or1 (c_not (c_chain o_le nr_ord o_le nr_ord s_int (s_blt c_len nr_len T.n_len rfl (a_cons (s_var 0) a_nil)) (s_glI' T.g_LONGEST_NAME))))))
  (b_one (t_ret s_bl))
  b_nil)
  (b_one (t_ret (s_blt (c_all c.calm) nr_all T.n_all rfl (a_cons (s_lc (own := [("sign", 1)]) (t := (.one 1)) c (i_val (s_var 0)) (li_val _) (blkOk_by (N := ["thing", "sign"]) (sc := defScope (top 14)) (by decide +kernel)) (by decide) (fun _ _ _ _ _ => (lg_one (c.blk _ _ _ _ _).nd)) (fun _ _ _ _ _ => ts_nil) (fun _ _ _ _ _ => (s_cmp (o_in (c.blk _ _ _ _ _).hu (c.blk _ _ _ _ _).u65) nr_in (s_var 1) (s_glS' T.g_LETTERS)))) a_nil)))))
theorem sc_is_integer : FnScope ["thing"] ["thing"] (defScope (top 12)) := ⟨rfl, rfl, rfl, by decide +kernel, rfl, by decide +kernel, by decide +kernel⟩
theorem d_is_integer (T : Txt K mg base)  : Bd P w K mg base ["thing"] "is_integer" (top 12) 0 b_is_integer := fun f cdv A outer s H E c =>
  (b_one (t_ret (s_and (s_blt (c_isi T.isa) nr_isi T.n_isinstance rfl (a_cons (s_var 0) (a_cons (s_ty T.n_int rfl) a_nil))) (s_one (s_not (s_blt (c_isi T.isa) nr_isi T.n_isinstance rfl (a_cons (s_var 0) (a_cons (s_ty T.n_bool rfl) a_nil))))))))
theorem sc_is_number : FnScope ["thing"] ["thing"] (defScope (top 13)) := ⟨rfl, rfl, rfl, by decide +kernel, rfl, by decide +kernel, by decide +kernel⟩
theorem d_is_number (T : Txt K mg base) (h_Fn_is_integer : FnAt P w K mg base "is_integer" 1 1 f_is_integer) : Bd P w K mg base ["thing"] "is_number" (top 13) 1 b_is_number := fun f cdv A outer s H E c =>
  (b_one (t_ret (s_and (s_call c h_Fn_is_integer (by decide) (a_cons (s_var 0) a_nil)) (s_one (s_cmp o_ge nr_ord (s_var 0) s_int)))))
theorem sc_Songs_init : FnScope ["self", "numbers", "kind"] ["self", "numbers"] (defScope (inClass (top 15) 0)) := ⟨rfl, rfl, rfl, by decide +kernel, rfl, by decide +kernel, by decide +kernel⟩
theorem d_Songs_init (T : Txt K mg base) (h_Fn_is_name : FnAt P w K mg base "is_name" 1 1 f_is_name) (h_Fn_is_number : FnAt P w K mg base "is_number" 2 1 f_is_number) : Bd P w K mg base ["self", "numbers", "kind"] "Songs.__init__" (inClass (top 15) 0) 2 b_Songs_init := fun f cdv A outer s H E c =>
  (b_cons (t_if (PW.pt (c_or (c_not (c_val (s_blt (c_isi T.isa) nr_isi T.n_isinstance rfl (a_cons (s_var 1) (a_cons (s_ty T.n_dict rfl) a_nil))))) (c_or1 (c_not (c_chain o_le nr_ord o_le nr_ord s_int (s_blt c_len nr_len T.n_len rfl (a_cons (s_var 1) a_nil)) (s_glI' T.g_MOST_KINDS))))))
  (b_one t_no)
  b_nil)
  (b_cons (t_if (c_not (c_val (s_blt (c_all c.calm) nr_all T.n_all rfl (a_cons (s_lc (own := [("kind", 2)]) (t := (.one 2)) c (i_val (s_var 1)) (li_val _) (blkOk_by (N := ["self", "numbers", "kind"]) (sc := defScope (inClass (top 15) 0)) (by decide +kernel)) (by decide) (fun _ _ _ _ _ => (lg_one (c.blk _ _ _ _ _).nd)) (fun _ _ _ _ _ => ts_nil) (fun _ _ _ _ _ => (s_call (c.blk _ _ _ _ _) h_Fn_is_name (by decide) (a_cons (s_var 2) a_nil)))) a_nil))))
  (b_one t_no)
  b_nil)
  (b_cons (t_fld T.fl_s_numbers (s_var 0) s_newD)
  (b_cons (t_for c (i_val (s_blt (c_sortS c.calm) nr_sortS T.n_sorted rfl (a_cons (s_var 1) a_nil))) (li_val _) (g_name 2 c.nd) (plain_name 2)
  (b_cons (t_if (c_not (c_val (s_call c h_Fn_is_number (by decide) (a_cons (s_ix c (s_var 1) (s_var 2)) a_nil))))
  (b_one t_no)
  b_nil)
  (b_one (t_asg (s_ix c (s_var 1) (s_var 2)) (g_sub c (s_fld T.fl_s_numbers (s_var 0)) (s_var 2)) (plain_sub _ _)))))
  (b_one (t_if (c_cmp (o_eq c.u64) nr_eqd (s_blt (c_sum c.calm) nr_sum T.n_sum rfl (a_cons (s_vals c.calm (s_fld T.fl_s_numbers (s_var 0)) T.n_list) a_nil)) s_int)
  (b_one t_no)
  b_nil))))))
theorem sc__law_songs_in : FnScope ["_law_case"] ["_law_case"] (defScope (top 40)) := ⟨rfl, rfl, rfl, by decide +kernel, rfl, by decide +kernel, by decide +kernel⟩
theorem d__law_songs_in (T : Txt K mg base) (h_Mk_Songs : MkAt P w K mg base "Songs" 3 2 f_Songs_init []) : Bd P w K mg base ["_law_case"] "_law_songs_in" (top 40) 4 b__law_songs_in := fun f cdv A outer s H E c =>
  (b_one (t_ret (s_make c h_Mk_Songs (by decide) (a_cons (s_typ (c_dict c.calm) nr_dict T.n_dict rfl (a_cons (s_items c.calm (s_ix c (s_var 0) s_str) T.n_list) a_nil)) a_nil))))
theorem sc_are_weights : FnScope ["thing", "least", "most", "weight"] ["thing", "least", "most"] (defScope (top 31)) := ⟨rfl, rfl, rfl, by decide +kernel, rfl, by decide +kernel, by decide +kernel⟩
theorem d_are_weights (T : Txt K mg base) (h_Fn_is_number : FnAt P w K mg base "is_number" 2 1 f_is_number) : Bd P w K mg base ["thing", "least", "most", "weight"] "are_weights" (top 31) 2 b_are_weights := fun f cdv A outer s H E c =>
  (b_cons (t_if (PW.pt (c_or (c_not (c_val (s_blt (c_isi T.isa) nr_isi T.n_isinstance rfl (a_cons (s_var 0) (a_cons (s_ty T.n_tuple rfl) a_nil))))) (c_or1 (c_not (c_chain o_le nr_ord o_le nr_ord (s_var 1) (s_blt c_len nr_len T.n_len rfl (a_cons (s_var 0) a_nil)) (s_var 2))))))
  (b_one (t_ret s_bl))
  b_nil)
  (b_one (t_ret (s_blt (c_all c.calm) nr_all T.n_all rfl (a_cons (s_lc (own := [("weight", 3)]) (t := (.one 3)) c (i_val (s_var 0)) (li_val _) (blkOk_by (N := ["thing", "least", "most", "weight"]) (sc := defScope (top 31)) (by decide +kernel)) (by decide) (fun _ _ _ _ _ => (lg_one (c.blk _ _ _ _ _).nd)) (fun _ _ _ _ _ => ts_nil) (fun _ _ _ _ _ => (s_and (s_call (c.blk _ _ _ _ _) h_Fn_is_number (by decide) (a_cons (s_var 3) a_nil)) (s_one (s_cmp o_le nr_ord (s_var 3) (s_glI' T.g_MOST_WEIGHT)))))) a_nil)))))
theorem sc_Rule_init : FnScope ["self", "weights", "skipped", "spread"] ["self", "weights", "skipped", "spread"] (defScope (inClass (top 32) 0)) := ⟨rfl, rfl, rfl, by decide +kernel, rfl, by decide +kernel, by decide +kernel⟩
theorem d_Rule_init (T : Txt K mg base) (h_Fn_are_weights : FnAt P w K mg base "are_weights" 3 3 f_are_weights) (h_Fn_is_number : FnAt P w K mg base "is_number" 2 1 f_is_number) : Bd P w K mg base ["self", "weights", "skipped", "spread"] "Rule.__init__" (inClass (top 32) 0) 3 b_Rule_init := fun f cdv A outer s H E c =>
  (b_cons (t_if (c_not (c_val (s_call c h_Fn_are_weights (by decide) (a_cons (s_var 1) (a_cons s_int (a_cons (s_glI' T.g_MOST_CAP) a_nil))))))
  (b_one t_no)
  b_nil)
  (b_cons (t_if (c_not (c_val (s_call c h_Fn_are_weights (by decide) (a_cons (s_var 2) (a_cons (s_op o_sub nr_sub (s_blt c_len nr_len T.n_len rfl (a_cons (s_var 1) a_nil)) s_int) (a_cons (s_op o_sub nr_sub (s_blt c_len nr_len T.n_len rfl (a_cons (s_var 1) a_nil)) s_int) a_nil))))))
  (b_one t_no)
  b_nil)
  (b_cons (t_if (PW.pt (c_or (c_not (c_val (s_call c h_Fn_is_number (by decide) (a_cons (s_var 3) a_nil)))) (c_or1 (c_cmp o_ge nr_ord (s_var 3) (s_blt c_len nr_len T.n_len rfl (a_cons (s_var 1) a_nil))))))
  (b_one t_no)
  b_nil)
  (b_cons (t_fld T.fl_r_weights (s_var 0) (s_var 1))
  (b_cons (t_fld T.fl_r_skipped (s_var 0) (s_var 2))
  (b_one (t_fld T.fl_r_spread (s_var 0) (s_var 3))))))))
theorem sc__law_rule_of : FnScope ["_law_case"] ["_law_case"] (defScope (top 39)) := ⟨rfl, rfl, rfl, by decide +kernel, rfl, by decide +kernel, by decide +kernel⟩
theorem d__law_rule_of (T : Txt K mg base) (h_Mk_Rule : MkAt P w K mg base "Rule" 4 4 f_Rule_init []) : Bd P w K mg base ["_law_case"] "_law_rule_of" (top 39) 5 b__law_rule_of := fun f cdv A outer s H E c =>
  (b_one (t_ret (s_make c h_Mk_Rule (by decide) (a_cons (s_ix c (s_var 0) s_str) (a_cons (s_ix c (s_var 0) s_str) (a_cons (s_ix c (s_var 0) s_str) a_nil))))))
theorem sc__law_any_standing : FnScope ["_law_draw", "_law_case", "_law_left", "_law_found", "_law_age", "_law_some", "_law_kind"] ["_law_draw", "_law_case"] (defScope (top 41)) := ⟨rfl, rfl, rfl, by decide +kernel, rfl, by decide +kernel, by decide +kernel⟩
theorem d__law_any_standing (T : Txt K mg base) (h_Fn__law_take : FnAt P w K mg base "_law_take" 1 2 f__law_take) (h_Fn__law_pick : FnAt P w K mg base "_law_pick" 2 2 f__law_pick) : Bd P w K mg base ["_law_draw", "_law_case", "_law_left", "_law_found", "_law_age", "_law_some", "_law_kind"] "_law_any_standing" (top 41) 2 b__law_any_standing := fun f cdv A outer s H E c =>
  (b_cons (t_asg (s_tup (a_cons (s_typ (c_dict c.calm) nr_dict T.n_dict rfl (a_cons (s_items c.calm (s_ix c (s_var 1) s_str) T.n_list) a_nil)) (a_cons (s_lst a_nil) a_nil))) (g_tup c.calm (gs_cons (g_name 2 c.nd) (gs_cons (g_name 3 c.nd) gs_nil (plain_name 3)) (plain_name 2))) (plain_tup (plains_cons (plain_name 2) (plains_cons (plain_name 3) plains_nil))))
  (b_cons (t_for c (i_rng1 (s_op o_sub nr_sub (s_blt c_len nr_len T.n_len rfl (a_cons (s_ix c (s_var 1) s_str) a_nil)) s_int) T.n_range) (li_rng1 _) (g_name 4 c.nd) (plain_name 4)
  (b_cons (t_setLc 5 (own := [("_law_kind", 6)]) (t := (.one 6)) c (i_val (s_blt (c_sortS c.calm) nr_sortS T.n_sorted rfl (a_cons (s_var 2) a_nil))) (li_val _) (blkOk_by (N := ["_law_draw", "_law_case", "_law_left", "_law_found", "_law_age", "_law_some", "_law_kind"]) (sc := defScope (top 41)) (by decide +kernel)) (by decide) (fun _ _ _ _ _ => (lg_one (c.blk _ _ _ _ _).nd)) (fun _ _ _ _ _ => (ts_one (c_cmp o_gt nr_ord (s_ix (c.blk _ _ _ _ _) (s_var 2) (s_var 6)) s_int))) (fun _ _ _ _ _ => (s_var 6)) (sw_true rfl rfl rfl (by decide +kernel)))
  (b_one (t_if (PW.pt (c_or (c_cmp (o_eq c.u64) nr_eqd (s_var 5) (s_lst a_nil)) (c_or1 (c_cmp (o_eq c.u64) nr_eqd (s_call c h_Fn__law_take (by decide) (a_cons (s_var 0) (a_cons s_int a_nil))) s_int))))
  (b_one (t_expr (s_mt F.plainAttrs_list F.slot_list_append F.type_list_append m_append nr_append (s_var 3) (a_cons (s_tup a_nil) a_nil))))
  (b_cons (t_set 6 (s_call c h_Fn__law_pick (by decide) (a_cons (s_var 0) (a_cons (s_var 5) a_nil))) c.nd)
  (b_cons (t_asg (s_op o_sub nr_sub (s_ix c (s_var 2) (s_var 6)) s_int) (g_sub c (s_var 2) (s_var 6)) (plain_sub _ _))
  (b_one (t_expr (s_mt F.plainAttrs_list F.slot_list_append F.type_list_append m_append nr_append (s_var 3) (a_cons (s_tup (a_cons (s_var 6) (a_cons (s_cmp (o_eq c.u64) nr_eqd (s_call c h_Fn__law_take (by decide) (a_cons (s_var 0) (a_cons s_int a_nil))) s_int) a_nil))) a_nil))))))))))
  (b_one (t_ret (s_typ c_tuple nr_tuple T.n_tuple rfl (a_cons (s_var 3) a_nil))))))
theorem sc__law_rows_at : FnScope ["_law_case", "_law_stand_here", "_law_barred", "_law_found", "_law_at", "_law_item", "_law_each", "_law_kind", "_law_many", "_law_last", "_law_row", "_law_place"] ["_law_case", "_law_stand_here"] (defScope (top 42)) := ⟨rfl, rfl, rfl, by decide +kernel, rfl, by decide +kernel, by decide +kernel⟩
theorem d__law_rows_at (T : Txt K mg base)  : Bd P w K mg base ["_law_case", "_law_stand_here", "_law_barred", "_law_found", "_law_at", "_law_item", "_law_each", "_law_kind", "_law_many", "_law_last", "_law_row", "_law_place"] "_law_rows_at" (top 42) 0 b__law_rows_at := fun f cdv A outer s H E c =>
  (b_cons (t_par 2 3 (a_cons (s_lc (own := [("_law_item", 5)]) (t := (.one 5)) c (i_val (s_sl (s_var 1) p_no (p_e (s_ix c (s_var 0) s_str)))) (li_val _) (blkOk_by (N := ["_law_case", "_law_stand_here", "_law_barred", "_law_found", "_law_at", "_law_item", "_law_each", "_law_kind", "_law_many", "_law_last", "_law_row", "_law_place"]) (sc := defScope (top 42)) (by decide +kernel)) (by decide) (fun _ _ _ _ _ => (lg_one (c.blk _ _ _ _ _).nd)) (fun _ _ _ _ _ => (ts_one (c_cmp (o_ne (c.blk _ _ _ _ _).u64) nr_eqd (s_var 5) (s_tup a_nil)))) (fun _ _ _ _ _ => (s_ix (c.blk _ _ _ _ _) (s_var 5) s_int))) (a_cons (s_lst a_nil) a_nil)) c.nd c.calm)
  (b_cons (t_for c (i_enum (s_var 1) T.n_enumerate) (li_enum _) (g_tup c.calm (gs_cons (g_name 4 c.nd) (gs_cons (g_name 5 c.nd) gs_nil (plain_name 5)) (plain_name 4))) (plain_tup (plains_cons (plain_name 4) (plains_cons (plain_name 5) plains_nil)))
  (b_one (t_if (c_cmp (o_ne c.u64) nr_eqd (s_var 5) (s_tup a_nil))
  (b_cons (t_set 6 (s_ix c (s_ix c (s_var 0) (s_ix c (s_lst (a_cons s_str (a_cons s_str a_nil))) (s_typ c_int nr_int T.n_int rfl (a_cons (s_ix c (s_var 5) s_int) a_nil)))) (s_var 4)) c.nd)
  (b_one (t_expr (s_mt F.plainAttrs_list F.slot_list_append F.type_list_append m_append nr_append (s_var 3) (a_cons (s_tup (a_cons (s_op o_add nr_add (s_var 4) s_int) (a_cons s_int (a_cons (s_op (o_mulA o_mul) nr_mulA (s_var 6) (s_typ c_int nr_int T.n_int rfl (a_cons (s_cmp (o_notIn c.hu c.u65) nr_in (s_ix c (s_var 5) s_int) (s_var 2)) a_nil))) a_nil)))) a_nil)))))
  b_nil)))
  (b_cons (t_for c (i_val (s_blt (c_sortS c.calm) nr_sortS T.n_sorted rfl (a_cons (s_ix c (s_var 0) s_str) a_nil))) (li_val _) (g_name 7 c.nd) (plain_name 7)
  (b_cons (t_set 8 (s_op o_sub nr_sub (s_ix c (s_ix c (s_var 0) s_str) (s_var 7)) (s_blt c_len nr_len T.n_len rfl (a_cons (s_lc (own := [("_law_item", 5)]) (t := (.one 5)) c (i_val (s_var 1)) (li_val _) (blkOk_by (N := ["_law_case", "_law_stand_here", "_law_barred", "_law_found", "_law_at", "_law_item", "_law_each", "_law_kind", "_law_many", "_law_last", "_law_row", "_law_place"]) (sc := defScope (top 42)) (by decide +kernel)) (by decide) (fun _ _ _ _ _ => (lg_one (c.blk _ _ _ _ _).nd)) (fun _ _ _ _ _ => (ts_one (PW.pt (c_and (c_cmp (o_ne (c.blk _ _ _ _ _).u64) nr_eqd (s_var 5) (s_tup a_nil)) (c_and1 (c_cmp (o_eq (c.blk _ _ _ _ _).u64) nr_eqd (s_ix (c.blk _ _ _ _ _) (s_var 5) s_int) (s_var 7))))))) (fun _ _ _ _ _ => (s_var 5))) a_nil))) c.nd)
  (b_one (t_if (c_cmp o_gt nr_ord (s_var 8) s_int)
  (b_one (t_expr (s_mt F.plainAttrs_list F.slot_list_append F.type_list_append m_append nr_append (s_var 3) (a_cons (s_tup (a_cons (s_var 7) (a_cons (s_var 8) (a_cons (s_op (o_mulA o_mul) nr_mulA (s_ix c (s_ix c (s_var 0) s_str) (s_un o_neg nr_neg s_int)) (s_typ c_int nr_int T.n_int rfl (a_cons (s_cmp (o_notIn c.hu c.u65) nr_in (s_var 7) (s_var 2)) a_nil))) a_nil)))) a_nil))))
  b_nil))))
  (b_cons (t_if (c_cmp (o_ne c.u64) nr_eqd (s_lc (own := [("_law_row", 10)]) (t := (.one 10)) c (i_val (s_var 3)) (li_val _) (blkOk_by (N := ["_law_case", "_law_stand_here", "_law_barred", "_law_found", "_law_at", "_law_item", "_law_each", "_law_kind", "_law_many", "_law_last", "_law_row", "_law_place"]) (sc := defScope (top 42)) (by decide +kernel)) (by decide) (fun _ _ _ _ _ => (lg_one (c.blk _ _ _ _ _).nd)) (fun _ _ _ _ _ => (ts_one (c_cmp o_gt nr_ord (s_ix (c.blk _ _ _ _ _) (s_var 10) s_int) s_int))) (fun _ _ _ _ _ => (s_var 10))) (s_lst a_nil))
  (b_one (t_ret (s_var 3)))
  b_nil)
  (b_cons (t_set 9 (s_ix c (s_ix c (s_var 3) (s_un o_neg nr_neg s_int)) s_int) c.nd)
  (b_cons (t_if (c_val (s_blt (c_isi T.isa) nr_isi T.n_isinstance rfl (a_cons (s_var 9) (a_cons (s_ty T.n_str rfl) a_nil))))
  (b_one (t_ret (s_lc (own := [("_law_place", 11), ("_law_many", 8), ("_law_each", 6)]) (t := (.many [11, 8, 6])) c (i_val (s_var 3)) (li_val _) (blkOk_by (N := ["_law_case", "_law_stand_here", "_law_barred", "_law_found", "_law_at", "_law_item", "_law_each", "_law_kind", "_law_many", "_law_last", "_law_row", "_law_place"]) (sc := defScope (top 42)) (by decide +kernel)) (by decide) (fun _ _ _ _ _ => (lg_many (c.blk _ _ _ _ _).calm (lgs_cons (c.blk _ _ _ _ _).nd (lgs_cons (c.blk _ _ _ _ _).nd (lgs_cons (c.blk _ _ _ _ _).nd lgs_nil))))) (fun _ _ _ _ _ => ts_nil) (fun _ _ _ _ _ => (s_tup (a_cons (s_var 11) (a_cons (s_var 8) (a_cons (s_typ c_int nr_int T.n_int rfl (a_cons (s_blt (c_isi T.isa) nr_isi T.n_isinstance rfl (a_cons (s_var 11) (a_cons (s_ty T.n_str rfl) a_nil))) a_nil)) a_nil))))))))
  b_nil)
  (b_one (t_ret (s_lc (own := [("_law_place", 11), ("_law_many", 8), ("_law_each", 6)]) (t := (.many [11, 8, 6])) c (i_val (s_var 3)) (li_val _) (blkOk_by (N := ["_law_case", "_law_stand_here", "_law_barred", "_law_found", "_law_at", "_law_item", "_law_each", "_law_kind", "_law_many", "_law_last", "_law_row", "_law_place"]) (sc := defScope (top 42)) (by decide +kernel)) (by decide) (fun _ _ _ _ _ => (lg_many (c.blk _ _ _ _ _).calm (lgs_cons (c.blk _ _ _ _ _).nd (lgs_cons (c.blk _ _ _ _ _).nd (lgs_cons (c.blk _ _ _ _ _).nd lgs_nil))))) (fun _ _ _ _ _ => ts_nil) (fun _ _ _ _ _ => (s_tup (a_cons (s_var 11) (a_cons (s_var 8) (a_cons (s_typ c_int nr_int T.n_int rfl (a_cons (s_cmp (o_eq (c.blk _ _ _ _ _).u64) nr_eqd (s_var 11) (s_var 9)) a_nil)) a_nil))))))))))))))
theorem sc__law_drawn_on : FnScope ["_law_stand_here", "_law_place", "_law_was_skipped", "_law_kind", "_law_found", "_law_item", "_law_at"] ["_law_stand_here", "_law_place", "_law_was_skipped"] (defScope (top 44)) := ⟨rfl, rfl, rfl, by decide +kernel, rfl, by decide +kernel, by decide +kernel⟩
theorem d__law_drawn_on (T : Txt K mg base)  : Bd P w K mg base ["_law_stand_here", "_law_place", "_law_was_skipped", "_law_kind", "_law_found", "_law_item", "_law_at"] "_law_drawn_on" (top 44) 0 b__law_drawn_on := fun f cdv A outer s H E c =>
  (b_cons (t_set 3 (s_if (c_val (s_blt (c_isi T.isa) nr_isi T.n_isinstance rfl (a_cons (s_var 1) (a_cons (s_ty T.n_str rfl) a_nil)))) (s_var 1) (s_ix c (s_ix c (s_var 0) (s_op o_sub nr_sub (s_var 1) s_int)) s_int)) c.nd)
  (b_cons (t_set 4 (s_op o_add nr_add (s_lst (a_cons (s_tup (a_cons (s_var 3) (a_cons (s_var 2) a_nil))) a_nil)) (s_lc (own := [("_law_at", 6), ("_law_item", 5)]) (t := (.many [6, 5])) c (i_enum (s_var 0) T.n_enumerate) (li_enum _) (blkOk_by (N := ["_law_stand_here", "_law_place", "_law_was_skipped", "_law_kind", "_law_found", "_law_item", "_law_at"]) (sc := defScope (top 44)) (by decide +kernel)) (by decide) (fun _ _ _ _ _ => (lg_many (c.blk _ _ _ _ _).calm (lgs_cons (c.blk _ _ _ _ _).nd (lgs_cons (c.blk _ _ _ _ _).nd lgs_nil)))) (fun _ _ _ _ _ => ts_nil) (fun _ _ _ _ _ => (s_if (c_cmp (o_eq (c.blk _ _ _ _ _).u64) nr_eqd (s_op o_add nr_add (s_var 6) s_int) (s_var 1)) (s_tup a_nil) (s_var 5))))) c.nd)
  (b_one (t_ret (s_typ c_tuple nr_tuple T.n_tuple rfl (a_cons (s_sl (s_var 4) p_no (p_e (s_blt c_len nr_len T.n_len rfl (a_cons (s_var 0) a_nil)))) a_nil))))))
theorem sc_Rule_cap : FnScope ["self"] ["self"] (defScope (inClass (top 32) 1)) := ⟨rfl, rfl, rfl, by decide +kernel, rfl, by decide +kernel, by decide +kernel⟩
theorem d_Rule_cap (T : Txt K mg base)  : Bd P w K mg base ["self"] "Rule.cap" (inClass (top 32) 1) 0 b_Rule_cap := fun f cdv A outer s H E c =>
  (b_one (t_ret (s_blt c_len nr_len T.n_len rfl (a_cons (s_fld T.fl_r_weights (s_var 0)) a_nil))))
theorem sc_Songs_contains : FnScope ["self", "kind"] ["self", "kind"] (defScope (inClass (top 15) 6)) := ⟨rfl, rfl, rfl, by decide +kernel, rfl, by decide +kernel, by decide +kernel⟩
theorem d_Songs_contains (T : Txt K mg base)  : Bd P w K mg base ["self", "kind"] "Songs.__contains__" (inClass (top 15) 6) 0 b_Songs_contains := fun f cdv A outer s H E c =>
  (b_one (t_ret (s_and (s_blt (c_isi T.isa) nr_isi T.n_isinstance rfl (a_cons (s_var 1) (a_cons (s_ty T.n_str rfl) a_nil))) (s_one (s_cmp (o_in c.hu c.u65) nr_in (s_var 1) (s_fld T.fl_s_numbers (s_var 0)))))))
theorem sc_is_item : FnScope ["songs", "thing"] ["songs", "thing"] (defScope (top 18)) := ⟨rfl, rfl, rfl, by decide +kernel, rfl, by decide +kernel, by decide +kernel⟩
theorem d_is_item (T : Txt K mg base) (h_Sp_Songs___contains__ : SpAt P w K mg base "Songs" "__contains__" 1 2 f_Songs_contains) : Bd P w K mg base ["songs", "thing"] "is_item" (top 18) 1 b_is_item := fun f cdv A outer s H E c =>
  (b_cons (t_if (PW.pt (c_or (c_not (c_val (s_blt (c_isi T.isa) nr_isi T.n_isinstance rfl (a_cons (s_var 1) (a_cons (s_ty T.n_tuple rfl) a_nil))))) (c_or1 (c_cmp (o_notIn c.hu c.u65) nr_in (s_blt c_len nr_len T.n_len rfl (a_cons (s_var 1) a_nil)) (s_tup (a_cons s_int (a_cons s_int a_nil)))))))
  (b_one (t_ret s_bl))
  b_nil)
  (b_one (t_ret (s_or (s_cmp (o_eq c.u64) nr_eqd (s_var 1) (s_tup a_nil)) (s_one (s_and (s_cmp (o_inO c h_Sp_Songs___contains__ (by decide)) nr_inO (s_ix c (s_var 1) s_int) (s_var 0)) (s_one (s_blt (c_isi T.isa) nr_isi T.n_isinstance rfl (a_cons (s_ix c (s_var 1) s_int) (a_cons (s_ty T.n_bool rfl) a_nil))))))))))
theorem sc_counts_in : FnScope ["standing", "found", "item"] ["standing"] (defScope (top 19)) := ⟨rfl, rfl, rfl, by decide +kernel, rfl, by decide +kernel, by decide +kernel⟩
theorem d_counts_in (T : Txt K mg base)  : Bd P w K mg base ["standing", "found", "item"] "counts_in" (top 19) 0 b_counts_in := fun f cdv A outer s H E c =>
  (b_cons (t_set 1 s_newD c.nd)
  (b_cons (t_for c (i_val (s_var 0)) (li_val _) (g_name 2 c.nd) (plain_name 2)
  (b_one (t_if (c_cmp (o_ne c.u64) nr_eqd (s_var 2) (s_tup a_nil))
  (b_one (t_asg (s_op o_add nr_add (s_get2 c (s_var 1) (s_ix c (s_var 2) s_int) s_int) s_int) (g_sub c (s_var 1) (s_ix c.wn (s_var 2) s_int)) (plain_sub _ _)))
  b_nil)))
  (b_one (t_ret (s_var 1)))))
theorem sc_need_kind : FnScope ["songs", "kind"] ["songs", "kind"] (defScope (top 16)) := ⟨rfl, rfl, rfl, by decide +kernel, rfl, by decide +kernel, by decide +kernel⟩
theorem d_need_kind (T : Txt K mg base)  : Bd P w K mg base ["songs", "kind"] "need_kind" (top 16) 0 b_need_kind := fun f cdv A outer s H E c =>
  (b_one (t_if (PW.pt (c_or (c_not (c_val (s_blt (c_isi T.isa) nr_isi T.n_isinstance rfl (a_cons (s_var 1) (a_cons (s_ty T.n_str rfl) a_nil))))) (c_or1 (c_cmp (o_notIn c.hu c.u65) nr_in (s_var 1) (s_fld T.fl_s_numbers (s_var 0))))))
  (b_one t_no)
  b_nil))
theorem sc_Songs_getitem : FnScope ["self", "kind"] ["self", "kind"] (defScope (inClass (top 15) 3)) := ⟨rfl, rfl, rfl, by decide +kernel, rfl, by decide +kernel, by decide +kernel⟩
theorem d_Songs_getitem (T : Txt K mg base) (h_Fn_need_kind : FnAt P w K mg base "need_kind" 1 2 f_need_kind) : Bd P w K mg base ["self", "kind"] "Songs.__getitem__" (inClass (top 15) 3) 1 b_Songs_getitem := fun f cdv A outer s H E c =>
  (b_cons (t_expr (s_call c h_Fn_need_kind (by decide) (a_cons (s_var 0) (a_cons (s_var 1) a_nil))))
  (b_one (t_ret (s_ix c (s_fld T.fl_s_numbers (s_var 0)) (s_var 1)))))
theorem sc_is_standing : FnScope ["rule", "songs", "thing", "counts", "item", "kind"] ["rule", "songs", "thing"] (defScope (top 20)) := ⟨rfl, rfl, rfl, by decide +kernel, rfl, by decide +kernel, by decide +kernel⟩
theorem d_is_standing (T : Txt K mg base) (h_Pr_Rule_cap : PrAt P w K mg base "Rule" "cap" 1 f_Rule_cap) (h_Fn_is_item : FnAt P w K mg base "is_item" 2 2 f_is_item) (h_Fn_counts_in : FnAt P w K mg base "counts_in" 1 1 f_counts_in) (h_Gi_Songs___getitem__ : GiAt P w K mg base "Songs" 2 2 f_Songs_getitem) : Bd P w K mg base ["rule", "songs", "thing", "counts", "item", "kind"] "is_standing" (top 20) 3 b_is_standing := fun f cdv A outer s H E c =>
  (b_cons (t_if (PW.pt (c_or (c_not (c_val (s_blt (c_isi T.isa) nr_isi T.n_isinstance rfl (a_cons (s_var 2) (a_cons (s_ty T.n_tuple rfl) a_nil))))) (c_or (c_cmp (o_ne c.u64) nr_eqd (s_blt c_len nr_len T.n_len rfl (a_cons (s_var 2) a_nil)) (s_op o_sub nr_sub (s_prop c h_Pr_Rule_cap (by decide) (s_var 0)) s_int)) (c_or1 (c_not (c_val (s_blt (c_all c.calm) nr_all T.n_all rfl (a_cons (s_lc (own := [("item", 4)]) (t := (.one 4)) c (i_val (s_var 2)) (li_val _) (blkOk_by (N := ["rule", "songs", "thing", "counts", "item", "kind"]) (sc := defScope (top 20)) (by decide +kernel)) (by decide) (fun _ _ _ _ _ => (lg_one (c.blk _ _ _ _ _).nd)) (fun _ _ _ _ _ => ts_nil) (fun _ _ _ _ _ => (s_call (c.blk _ _ _ _ _) h_Fn_is_item (by decide) (a_cons (s_var 1) (a_cons (s_var 4) a_nil))))) a_nil))))))))
  (b_one (t_ret s_bl))
  b_nil)
  (b_cons (t_set 3 (s_call c h_Fn_counts_in (by decide) (a_cons (s_var 2) a_nil)) c.nd)
  (b_one (t_ret (s_blt (c_all c.calm) nr_all T.n_all rfl (a_cons (s_lc (own := [("kind", 5)]) (t := (.one 5)) c (i_val (s_var 3)) (li_val _) (blkOk_by (N := ["rule", "songs", "thing", "counts", "item", "kind"]) (sc := defScope (top 20)) (by decide +kernel)) (by decide) (fun _ _ _ _ _ => (lg_one (c.blk _ _ _ _ _).nd)) (fun _ _ _ _ _ => ts_nil) (fun _ _ _ _ _ => (s_cmp o_le nr_ord (s_ix (c.blk _ _ _ _ _) (s_var 3) (s_var 5)) (s_ixO (c.blk _ _ _ _ _) h_Gi_Songs___getitem__ (by decide) (s_var 1) (s_var 5))))) a_nil))))))
theorem sc_need_standing : FnScope ["rule", "songs", "standing"] ["rule", "songs", "standing"] (defScope (top 21)) := ⟨rfl, rfl, rfl, by decide +kernel, rfl, by decide +kernel, by decide +kernel⟩
theorem d_need_standing (T : Txt K mg base) (h_Fn_is_standing : FnAt P w K mg base "is_standing" 4 3 f_is_standing) : Bd P w K mg base ["rule", "songs", "standing"] "need_standing" (top 21) 4 b_need_standing := fun f cdv A outer s H E c =>
  (b_one (t_if (c_not (c_val (s_call c h_Fn_is_standing (by decide) (a_cons (s_var 0) (a_cons (s_var 1) (a_cons (s_var 2) a_nil))))))
  (b_one t_no)
  b_nil))
theorem sc_ages_in : FnScope ["standing", "item", "at"] ["standing"] (defScope (top 23)) := ⟨rfl, rfl, rfl, by decide +kernel, rfl, by decide +kernel, by decide +kernel⟩
theorem d_ages_in (T : Txt K mg base)  : Bd P w K mg base ["standing", "item", "at"] "ages_in" (top 23) 0 b_ages_in := fun f cdv A outer s H E c =>
  (b_one (t_ret (s_lc (own := [("at", 2), ("item", 1)]) (t := (.many [2, 1])) c (i_enum (s_var 0) T.n_enumerate) (li_enum _) (blkOk_by (N := ["standing", "item", "at"]) (sc := defScope (top 23)) (by decide +kernel)) (by decide) (fun _ _ _ _ _ => (lg_many (c.blk _ _ _ _ _).calm (lgs_cons (c.blk _ _ _ _ _).nd (lgs_cons (c.blk _ _ _ _ _).nd lgs_nil)))) (fun _ _ _ _ _ => (ts_one (c_cmp (o_ne (c.blk _ _ _ _ _).u64) nr_eqd (s_var 1) (s_tup a_nil)))) (fun _ _ _ _ _ => (s_op o_add nr_add (s_var 2) s_int)))))
theorem sc_Songs_numbers : FnScope ["self"] ["self"] (defScope (inClass (top 15) 2)) := ⟨rfl, rfl, rfl, by decide +kernel, rfl, by decide +kernel, by decide +kernel⟩
theorem d_Songs_numbers (T : Txt K mg base)  : Bd P w K mg base ["self"] "Songs.numbers" (inClass (top 15) 2) 0 b_Songs_numbers := fun f cdv A outer s H E c =>
  (b_one (t_ret (s_typ (c_dict c.calm) nr_dict T.n_dict rfl (a_cons (s_fld T.fl_s_numbers (s_var 0)) a_nil))))
theorem sc_old_songs : FnScope ["songs", "standing", "counts", "numbers", "left", "kind"] ["songs", "standing"] (defScope (top 22)) := ⟨rfl, rfl, rfl, by decide +kernel, rfl, by decide +kernel, by decide +kernel⟩
theorem d_old_songs (T : Txt K mg base) (h_Pr_Songs_numbers : PrAt P w K mg base "Songs" "numbers" 1 f_Songs_numbers) (h_Fn_counts_in : FnAt P w K mg base "counts_in" 1 1 f_counts_in) : Bd P w K mg base ["songs", "standing", "counts", "numbers", "left", "kind"] "old_songs" (top 22) 2 b_old_songs := fun f cdv A outer s H E c =>
  (b_cons (t_asg (s_tup (a_cons (s_call c h_Fn_counts_in (by decide) (a_cons (s_var 1) a_nil)) (a_cons (s_prop c h_Pr_Songs_numbers (by decide) (s_var 0)) a_nil))) (g_tup c.calm (gs_cons (g_name 2 c.nd) (gs_cons (g_name 3 c.nd) gs_nil (plain_name 3)) (plain_name 2))) (plain_tup (plains_cons (plain_name 2) (plains_cons (plain_name 3) plains_nil))))
  (b_cons (t_set 4 (s_dc (own := [("kind", 5)]) (t := (.one 5)) c (i_val (s_var 3)) (li_val _) (blkOk_by (N := ["songs", "standing", "counts", "numbers", "left", "kind"]) (sc := defScope (top 22)) (by decide +kernel)) (by decide) (fun _ _ _ _ _ => (lg_one (c.blk _ _ _ _ _).nd)) (fun _ _ _ _ _ => ts_nil) (fun _ _ _ _ _ => (s_var 5)) (fun _ _ _ _ _ => (s_op o_sub nr_sub (s_ix (c.blk _ _ _ _ _) (s_var 3) (s_var 5)) (s_get2 (c.blk _ _ _ _ _) (s_var 2) (s_var 5) s_int)))) c.nd)
  (b_one (t_ret (s_dc (own := [("kind", 5)]) (t := (.one 5)) c (i_val (s_var 4)) (li_val _) (blkOk_by (N := ["songs", "standing", "counts", "numbers", "left", "kind"]) (sc := defScope (top 22)) (by decide +kernel)) (by decide) (fun _ _ _ _ _ => (lg_one (c.blk _ _ _ _ _).nd)) (fun _ _ _ _ _ => (ts_one (c_cmp o_gt nr_ord (s_ix (c.blk _ _ _ _ _) (s_var 4) (s_var 5)) s_int))) (fun _ _ _ _ _ => (s_var 5)) (fun _ _ _ _ _ => (s_ix (c.blk _ _ _ _ _) (s_var 4) (s_var 5))))))))
theorem sc_is_place : FnScope ["songs", "standing", "thing"] ["songs", "standing", "thing"] (defScope (top 24)) := ⟨rfl, rfl, rfl, by decide +kernel, rfl, by decide +kernel, by decide +kernel⟩
theorem d_is_place (T : Txt K mg base) (h_Fn_is_integer : FnAt P w K mg base "is_integer" 1 1 f_is_integer) (h_Fn_ages_in : FnAt P w K mg base "ages_in" 1 1 f_ages_in) (h_Fn_old_songs : FnAt P w K mg base "old_songs" 3 2 f_old_songs) : Bd P w K mg base ["songs", "standing", "thing"] "is_place" (top 24) 3 b_is_place := fun f cdv A outer s H E c =>
  (b_cons (t_if (c_val (s_call c h_Fn_is_integer (by decide) (a_cons (s_var 2) a_nil)))
  (b_one (t_ret (s_cmp (o_in c.hu c.u65) nr_in (s_var 2) (s_call c h_Fn_ages_in (by decide) (a_cons (s_var 1) a_nil)))))
  b_nil)
  (b_one (t_ret (s_and (s_blt (c_isi T.isa) nr_isi T.n_isinstance rfl (a_cons (s_var 2) (a_cons (s_ty T.n_str rfl) a_nil))) (s_one (s_cmp (o_in c.hu c.u65) nr_in (s_var 2) (s_call c h_Fn_old_songs (by decide) (a_cons (s_var 0) (a_cons (s_var 1) a_nil)))))))))
theorem sc_is_step : FnScope ["songs", "standing", "thing"] ["songs", "standing", "thing"] (defScope (top 26)) := ⟨rfl, rfl, rfl, by decide +kernel, rfl, by decide +kernel, by decide +kernel⟩
theorem d_is_step (T : Txt K mg base) (h_Fn_is_place : FnAt P w K mg base "is_place" 4 3 f_is_place) : Bd P w K mg base ["songs", "standing", "thing"] "is_step" (top 26) 4 b_is_step := fun f cdv A outer s H E c =>
  (b_cons (t_if (PW.pt (c_or (c_not (c_val (s_blt (c_isi T.isa) nr_isi T.n_isinstance rfl (a_cons (s_var 2) (a_cons (s_ty T.n_tuple rfl) a_nil))))) (c_or1 (c_cmp (o_ne c.u64) nr_eqd (s_blt c_len nr_len T.n_len rfl (a_cons (s_var 2) a_nil)) s_int))))
  (b_one (t_ret s_bl))
  b_nil)
  (b_one (t_ret (s_and (s_call c h_Fn_is_place (by decide) (a_cons (s_var 0) (a_cons (s_var 1) (a_cons (s_ix c (s_var 2) s_int) a_nil)))) (s_one (s_blt (c_isi T.isa) nr_isi T.n_isinstance rfl (a_cons (s_ix c (s_var 2) s_int) (a_cons (s_ty T.n_bool rfl) a_nil))))))))
theorem sc_drawn : FnScope ["standing", "place", "was_skipped", "kind", "rest", "item", "at"] ["standing", "place", "was_skipped"] (defScope (top 25)) := ⟨rfl, rfl, rfl, by decide +kernel, rfl, by decide +kernel, by decide +kernel⟩
theorem d_drawn (T : Txt K mg base) (h_Fn_is_integer : FnAt P w K mg base "is_integer" 1 1 f_is_integer) : Bd P w K mg base ["standing", "place", "was_skipped", "kind", "rest", "item", "at"] "drawn" (top 25) 1 b_drawn := fun f cdv A outer s H E c =>
  (b_cons (t_set 3 (s_if (c_val (s_call c h_Fn_is_integer (by decide) (a_cons (s_var 1) a_nil))) (s_ix c (s_ix c (s_var 0) (s_op o_sub nr_sub (s_var 1) s_int)) s_int) (s_var 1)) c.nd)
  (b_cons (t_setLc 4 (own := [("at", 6), ("item", 5)]) (t := (.many [6, 5])) c (i_enum (s_var 0) T.n_enumerate) (li_enum _) (blkOk_by (N := ["standing", "place", "was_skipped", "kind", "rest", "item", "at"]) (sc := defScope (top 25)) (by decide +kernel)) (by decide) (fun _ _ _ _ _ => (lg_many (c.blk _ _ _ _ _).calm (lgs_cons (c.blk _ _ _ _ _).nd (lgs_cons (c.blk _ _ _ _ _).nd lgs_nil)))) (fun _ _ _ _ _ => ts_nil) (fun _ _ _ _ _ => (s_if (c_cmp (o_eq (c.blk _ _ _ _ _).u64) nr_eqd (s_op o_add nr_add (s_var 6) s_int) (s_var 1)) (s_tup a_nil) (s_var 5))) (sw_true rfl rfl rfl (by decide +kernel)))
  (b_one (t_ret (s_sl (s_tup (a_cons (s_tup (a_cons (s_var 3) (a_cons (s_var 2) a_nil))) (a_star (s_var 4) a_nil))) p_no (p_e (s_blt c_len nr_len T.n_len rfl (a_cons (s_var 0) a_nil))))))))
theorem sc_behind : FnScope ["rule", "songs", "standing", "step"] ["rule", "songs", "standing", "step"] (defScope (top 27)) := ⟨rfl, rfl, rfl, by decide +kernel, rfl, by decide +kernel, by decide +kernel⟩
theorem d_behind (T : Txt K mg base) (h_Fn_need_standing : FnAt P w K mg base "need_standing" 5 3 f_need_standing) (h_Fn_is_step : FnAt P w K mg base "is_step" 5 3 f_is_step) (h_Fn_drawn : FnAt P w K mg base "drawn" 2 3 f_drawn) : Bd P w K mg base ["rule", "songs", "standing", "step"] "behind" (top 27) 5 b_behind := fun f cdv A outer s H E c =>
  (b_cons (t_expr (s_call c h_Fn_need_standing (by decide) (a_cons (s_var 0) (a_cons (s_var 1) (a_cons (s_var 2) a_nil)))))
  (b_cons (t_if (c_not (c_val (s_call c h_Fn_is_step (by decide) (a_cons (s_var 1) (a_cons (s_var 2) (a_cons (s_var 3) a_nil))))))
  (b_one t_no)
  b_nil)
  (b_one (t_ret (s_call c h_Fn_drawn (by decide) (a_cons (s_var 2) (a_cons (s_ix c (s_var 3) s_int) (a_cons (s_ix c (s_var 3) s_int) a_nil))))))))
theorem sc__law_first_one : FnScope ["_law_case"] ["_law_case"] (defScope (top 43)) := ⟨rfl, rfl, rfl, by decide +kernel, rfl, by decide +kernel, by decide +kernel⟩
theorem d__law_first_one (T : Txt K mg base)  : Bd P w K mg base ["_law_case"] "_law_first_one" (top 43) 0 b__law_first_one := fun f cdv A outer s H E c =>
  (b_one (t_ret (s_op (o_mulA o_mul) nr_mulA (s_tup (a_cons (s_tup a_nil) a_nil)) (s_op o_sub nr_sub (s_blt c_len nr_len T.n_len rfl (a_cons (s_ix c (s_var 0) s_str) a_nil)) s_int))))
theorem sc__law_of_songs : FnScope ["_law_case", "_law_plays", "_law_found", "_law_age", "_law_late", "_law_is_there", "_law_play"] ["_law_case", "_law_plays"] (defScope (top 45)) := ⟨rfl, rfl, rfl, by decide +kernel, rfl, by decide +kernel, by decide +kernel⟩
theorem d__law_of_songs (T : Txt K mg base)  : Bd P w K mg base ["_law_case", "_law_plays", "_law_found", "_law_age", "_law_late", "_law_is_there", "_law_play"] "_law_of_songs" (top 45) 0 b__law_of_songs := fun f cdv A outer s H E c =>
  (b_cons (t_set 2 (s_lst a_nil) c.nd)
  (b_cons (t_for c (i_rng2 s_int (s_blt c_len nr_len T.n_len rfl (a_cons (s_ix c (s_var 0) s_str) a_nil)) T.n_range) (li_rng2 _ _) (g_name 3 c.nd) (plain_name 3)
  (b_cons (t_set 4 (s_rev (s_var 1)) c.nd)
  (b_cons (t_set 5 (s_and (s_cmp o_le nr_ord (s_var 3) (s_blt c_len nr_len T.n_len rfl (a_cons (s_var 4) a_nil))) (s_one (s_cmp (o_notIn c.hu c.u65) nr_in (s_ix c (s_ix c (s_var 4) (s_op o_sub nr_sub (s_var 3) s_int)) s_int) (s_lc (own := [("_law_play", 6)]) (t := (.one 6)) c (i_val (s_sl (s_var 4) p_no (p_e (s_op o_sub nr_sub (s_var 3) s_int)))) (li_val _) (blkOk_by (N := ["_law_case", "_law_plays", "_law_found", "_law_age", "_law_late", "_law_is_there", "_law_play"]) (sc := defScope (top 45)) (by decide +kernel)) (by decide) (fun _ _ _ _ _ => (lg_one (c.blk _ _ _ _ _).nd)) (fun _ _ _ _ _ => ts_nil) (fun _ _ _ _ _ => (s_ix (c.blk _ _ _ _ _) (s_var 6) s_int)))))) c.nd)
  (b_one (t_expr (s_mt F.plainAttrs_list F.slot_list_append F.type_list_append m_append nr_append (s_var 2) (a_cons (s_if (c_val (s_var 5)) (s_tup (a_cons (s_ix c (s_ix c (s_ix c (s_var 4) (s_op o_sub nr_sub (s_var 3) s_int)) s_int) s_int) (a_cons (s_ix c (s_ix c (s_var 4) (s_op o_sub nr_sub (s_var 3) s_int)) s_int) a_nil))) (s_tup a_nil)) a_nil)))))))
  (b_one (t_ret (s_typ c_tuple nr_tuple T.n_tuple rfl (a_cons (s_var 2) a_nil))))))
theorem sc__law_rows_right : FnScope ["_law_draw", "_law_case", "_law_book", "_law_tunes", "_law_plays", "_law_stand", "_law_every", "_law_kind", "_law_turn", "_law_song", "_law_was_skipped", "_law_late", "_law_place", "_law_number", "_law_play"] ["_law_draw", "_law_case"] (defScope (top 46)) := ⟨rfl, rfl, rfl, by decide +kernel, rfl, by decide +kernel, by decide +kernel⟩
theorem d__law_rows_right (T : Txt K mg base) (h_Fn__law_songs_in : FnAt P w K mg base "_law_songs_in" 5 1 f__law_songs_in) (h_Fn__law_rule_of : FnAt P w K mg base "_law_rule_of" 6 1 f__law_rule_of) (h_Fn__law_first_one : FnAt P w K mg base "_law_first_one" 1 1 f__law_first_one) (h_Fn__law_take : FnAt P w K mg base "_law_take" 1 2 f__law_take) (h_Fn__law_pick : FnAt P w K mg base "_law_pick" 2 2 f__law_pick) (h_Fn_behind : FnAt P w K mg base "behind" 6 4 f_behind) (h_Fn__law_of_songs : FnAt P w K mg base "_law_of_songs" 1 2 f__law_of_songs) (h_Fn_is_standing : FnAt P w K mg base "is_standing" 4 3 f_is_standing) : Bd P w K mg base ["_law_draw", "_law_case", "_law_book", "_law_tunes", "_law_plays", "_law_stand", "_law_every", "_law_kind", "_law_turn", "_law_song", "_law_was_skipped", "_law_late", "_law_place", "_law_number", "_law_play"] "_law_rows_right" (top 46) 6 b__law_rows_right := fun f cdv A outer s H E c =>
  (b_cons (t_par 2 3 (a_cons (s_call c h_Fn__law_rule_of (by decide) (a_cons (s_var 1) a_nil)) (a_cons (s_call c h_Fn__law_songs_in (by decide) (a_cons (s_var 1) a_nil)) a_nil)) c.nd c.calm)
  (b_cons (t_par3 4 5 6 (a_cons (s_lst a_nil) (a_cons (s_call c h_Fn__law_first_one (by decide) (a_cons (s_var 1) a_nil)) (a_cons (s_lst a_nil) a_nil))) c.nd c.calm)
  (b_cons (t_for c (i_val (s_blt (c_sortS c.calm) nr_sortS T.n_sorted rfl (a_cons (s_ix c (s_var 1) s_str) a_nil))) (li_val _) (g_name 7 c.nd) (plain_name 7)
  (b_one (t_set 6 (s_op o_add nr_add (s_var 6) (s_lc (own := [("_law_number", 13)]) (t := (.one 13)) c (i_rng1 (s_ix c (s_ix c (s_var 1) s_str) (s_var 7)) T.n_range) (li_rng1 _) (blkOk_by (N := ["_law_draw", "_law_case", "_law_book", "_law_tunes", "_law_plays", "_law_stand", "_law_every", "_law_kind", "_law_turn", "_law_song", "_law_was_skipped", "_law_late", "_law_place", "_law_number", "_law_play"]) (sc := defScope (top 46)) (by decide +kernel)) (by decide) (fun _ _ _ _ _ => (lg_one (c.blk _ _ _ _ _).nd)) (fun _ _ _ _ _ => ts_nil) (fun _ _ _ _ _ => (s_tup (a_cons (s_var 7) (a_cons (s_var 13) a_nil)))))) c.nd)))
  (b_cons (t_for c (i_rng1 s_int T.n_range) (li_rng1 _) (g_name 8 c.nd) (plain_name 8)
  (b_cons (t_par 9 10 (a_cons (s_call c h_Fn__law_pick (by decide) (a_cons (s_var 0) (a_cons (s_var 6) a_nil))) (a_cons (s_cmp (o_eq c.u64) nr_eqd (s_call c h_Fn__law_take (by decide) (a_cons (s_var 0) (a_cons s_int a_nil))) s_int) a_nil)) c.nd c.calm)
  (b_cons (t_set 11 (s_sl (s_lc (own := [("_law_play", 14)]) (t := (.one 14)) c (i_val (s_rev (s_var 4))) (li_val _) (blkOk_by (N := ["_law_draw", "_law_case", "_law_book", "_law_tunes", "_law_plays", "_law_stand", "_law_every", "_law_kind", "_law_turn", "_law_song", "_law_was_skipped", "_law_late", "_law_place", "_law_number", "_law_play"]) (sc := defScope (top 46)) (by decide +kernel)) (by decide) (fun _ _ _ _ _ => (lg_one (c.blk _ _ _ _ _).nd)) (fun _ _ _ _ _ => ts_nil) (fun _ _ _ _ _ => (s_ix (c.blk _ _ _ _ _) (s_var 14) s_int))) p_no (p_e (s_op o_sub nr_sub (s_blt c_len nr_len T.n_len rfl (a_cons (s_ix c (s_var 1) s_str) a_nil)) s_int))) c.nd)
  (b_cons (t_set 12 (s_if (c_cmp (o_in c.hu c.u65) nr_in (s_var 9) (s_var 11)) (s_op o_add nr_add (s_mt F.plainAttrs_list F.slot_list_index F.type_list_index (m_index c.u65) nr_index (s_var 11) (a_cons (s_var 9) a_nil)) s_int) (s_ix c (s_var 9) s_int)) c.nd)
  (b_cons (t_expr (s_mt F.plainAttrs_list F.slot_list_append F.type_list_append m_append nr_append (s_var 4) (a_cons (s_tup (a_cons (s_var 9) (a_cons (s_var 10) a_nil))) a_nil)))
  (b_cons (t_set 5 (s_call c h_Fn_behind (by decide) (a_cons (s_var 2) (a_cons (s_var 3) (a_cons (s_var 5) (a_cons (s_tup (a_cons (s_var 12) (a_cons (s_var 10) a_nil))) a_nil))))) c.nd)
  (b_one (t_if (PW.pt (c_or (c_cmp (o_ne c.u64) nr_eqd (s_blt (c_repr T.sys c) nr_repr T.n_repr rfl (a_cons (s_var 5) a_nil)) (s_blt (c_repr T.sys c) nr_repr T.n_repr rfl (a_cons (s_call c h_Fn__law_of_songs (by decide) (a_cons (s_var 1) (a_cons (s_var 4) a_nil))) a_nil))) (c_or1 (c_not (c_val (s_call c h_Fn_is_standing (by decide) (a_cons (s_var 2) (a_cons (s_var 3) (a_cons (s_var 5) a_nil)))))))))
  (b_one (t_ret s_bl))
  b_nil))))))))
  (b_one (t_ret s_bl))))))
theorem sc_law : FnScope ["_law_script", "_law_draw", "_law_turn", "_law_case", "_law_book", "_law_tunes", "_law_stand", "_law_place", "_law_many", "_law_each", "_law_was_skipped", "_law_due"] ["_law_script"] (defScope (top 47)) := ⟨rfl, rfl, rfl, by decide +kernel, rfl, by decide +kernel, by decide +kernel⟩
theorem d_law (T : Txt K mg base) (h_Fn__law_begin : FnAt P w K mg base "_law_begin" 1 1 f__law_begin) (h_Fn__law_drawn_case : FnAt P w K mg base "_law_drawn_case" 4 4 f__law_drawn_case) (h_Fn__law_pick : FnAt P w K mg base "_law_pick" 2 2 f__law_pick) (h_Fn__law_songs_in : FnAt P w K mg base "_law_songs_in" 5 1 f__law_songs_in) (h_Fn__law_rule_of : FnAt P w K mg base "_law_rule_of" 6 1 f__law_rule_of) (h_Fn__law_any_standing : FnAt P w K mg base "_law_any_standing" 3 2 f__law_any_standing) (h_Fn__law_rows_at : FnAt P w K mg base "_law_rows_at" 1 2 f__law_rows_at) (h_Fn__law_drawn_on : FnAt P w K mg base "_law_drawn_on" 1 3 f__law_drawn_on) (h_Fn_behind : FnAt P w K mg base "behind" 6 4 f_behind) (h_FnK_behind : FnKw P w K mg base "behind" 6 4 f_behind 0 ["step", "standing", "songs", "rule"] [3, 2, 1, 0] []) (h_Fn__law_rows_right : FnAt P w K mg base "_law_rows_right" 7 2 f__law_rows_right) : Bd P w K mg base ["_law_script", "_law_draw", "_law_turn", "_law_case", "_law_book", "_law_tunes", "_law_stand", "_law_place", "_law_many", "_law_each", "_law_was_skipped", "_law_due"] "law" (top 47) 7 b_law := fun f cdv A outer s H E c =>
  (b_cons (t_set 1 (s_call c h_Fn__law_begin (by decide) (a_cons (s_var 0) a_nil)) c.nd)
  (b_cons (t_for c (i_rng1 (s_op o_add nr_add s_int (s_blt (c_min c.calm) nr_min T.n_min rfl (a_cons (s_blt c_len nr_len T.n_len rfl (a_cons (s_var 0) a_nil)) (a_cons s_int a_nil)))) T.n_range) (li_rng1 _) (g_name 2 c.nd) (plain_name 2)
  (b_cons (t_set 3 (s_call c h_Fn__law_drawn_case (by decide) (a_cons (s_var 1) (a_cons s_int (a_cons s_int (a_cons (s_call c h_Fn__law_pick (by decide) (a_cons (s_var 1) (a_cons (s_lst (a_cons s_int (a_cons s_int (a_cons s_int a_nil)))) a_nil))) a_nil))))) c.nd)
  (b_cons (t_par 4 5 (a_cons (s_call c h_Fn__law_rule_of (by decide) (a_cons (s_var 3) a_nil)) (a_cons (s_call c h_Fn__law_songs_in (by decide) (a_cons (s_var 3) a_nil)) a_nil)) c.nd c.calm)
  (b_cons (t_set 6 (s_call c h_Fn__law_any_standing (by decide) (a_cons (s_var 1) (a_cons (s_var 3) a_nil))) c.nd)
  (b_cons (t_for c (i_val (s_call c h_Fn__law_rows_at (by decide) (a_cons (s_var 3) (a_cons (s_var 6) a_nil)))) (li_val _) (g_tup c.calm (gs_cons (g_name 7 c.nd) (gs_cons (g_name 8 c.nd) (gs_cons (g_name 9 c.nd) gs_nil (plain_name 9)) (plain_name 8)) (plain_name 7))) (plain_tup (plains_cons (plain_name 7) (plains_cons (plain_name 8) (plains_cons (plain_name 9) plains_nil))))
  (b_one (t_for c (i_val (s_tup (a_cons s_bl (a_cons s_bl a_nil)))) (li_val _) (g_name 10 c.nd) (plain_name 10)
  (b_cons (t_set 11 (s_call c h_Fn__law_drawn_on (by decide) (a_cons (s_var 6) (a_cons (s_var 7) (a_cons (s_var 10) a_nil)))) c.nd)
  (b_cons (t_if (c_cmp (o_ne c.u64) nr_eqd (s_blt (c_repr T.sys c) nr_repr T.n_repr rfl (a_cons (s_call c h_Fn_behind (by decide) (a_cons (s_var 4) (a_cons (s_var 5) (a_cons (s_var 6) (a_cons (s_tup (a_cons (s_var 7) (a_cons (s_var 10) a_nil))) a_nil))))) a_nil)) (s_blt (c_repr T.sys c) nr_repr T.n_repr rfl (a_cons (s_var 11) a_nil)))
  (b_one (t_ret s_bl))
  b_nil)
  (b_one (t_if (c_cmp (o_ne c.u64) nr_eqd (s_callK0 c h_FnK_behind (by decide) (k_cons (s_tup (a_cons (s_var 7) (a_cons (s_var 10) a_nil))) (k_cons (s_var 6) (k_cons (s_var 5) (k_cons (s_var 4) k_nil))))) (s_var 11))
  (b_one (t_ret s_bl))
  b_nil)))))))
  (b_one (t_if (c_not (c_val (s_call c h_Fn__law_rows_right (by decide) (a_cons (s_var 1) (a_cons (s_var 3) a_nil)))))
  (b_one (t_ret s_bl))
  b_nil)))))))
  (b_one (t_ret s_bl))))
end
end U
/-! the law's end, printed by a program -/
namespace U
open PySem L2
section
theorem all_mk {P : Program} {w : World} {K : PySem.W.Frag} {h : Heap} {mg : Str → Option Value} {fa C_Songs C_Rule a__law_begin a__law_take a__law_pick a__law_some_names a__law_drawn_case a_is_name a_is_integer a_is_number a_Songs_init a__law_songs_in a_are_weights a_Rule_init a__law_rule_of a__law_any_standing a__law_rows_at a__law_drawn_on a_Rule_cap a_Songs_contains a_is_item a_counts_in a_need_kind a_Songs_getitem a_is_standing a_need_standing a_ages_in a_Songs_numbers a_old_songs a_is_place a_is_step a_drawn a_behind a__law_first_one a__law_of_songs a__law_rows_right a_law p_Songs_numbers p_Rule_cap T_Rule_init : Addr} {t_LETTERS t_LONGEST_NAME t_MOST_CAP t_MOST_KINDS t_MOST_WEIGHT tk_Rule_init_0 : Tok} {oc__law_begin kV__law_begin dc__law_begin pm__law_begin cd__law_begin ct__law_begin oc__law_take kV__law_take dc__law_take pm__law_take cd__law_take ct__law_take oc__law_pick kV__law_pick dc__law_pick pm__law_pick cd__law_pick ct__law_pick oc__law_some_names kV__law_some_names dc__law_some_names pm__law_some_names cd__law_some_names ct__law_some_names oc__law_drawn_case kV__law_drawn_case dc__law_drawn_case pm__law_drawn_case cd__law_drawn_case ct__law_drawn_case oc_is_name kV_is_name dc_is_name pm_is_name cd_is_name ct_is_name oc_is_integer kV_is_integer dc_is_integer pm_is_integer cd_is_integer ct_is_integer oc_is_number kV_is_number dc_is_number pm_is_number cd_is_number ct_is_number oc_Songs_init kV_Songs_init dc_Songs_init pm_Songs_init cd_Songs_init ct_Songs_init oc__law_songs_in kV__law_songs_in dc__law_songs_in pm__law_songs_in cd__law_songs_in ct__law_songs_in oc_are_weights kV_are_weights dc_are_weights pm_are_weights cd_are_weights ct_are_weights oc_Rule_init kV_Rule_init dc_Rule_init pm_Rule_init cd_Rule_init ct_Rule_init oc__law_rule_of kV__law_rule_of dc__law_rule_of pm__law_rule_of cd__law_rule_of ct__law_rule_of oc__law_any_standing kV__law_any_standing dc__law_any_standing pm__law_any_standing cd__law_any_standing ct__law_any_standing oc__law_rows_at kV__law_rows_at dc__law_rows_at pm__law_rows_at cd__law_rows_at ct__law_rows_at oc__law_drawn_on kV__law_drawn_on dc__law_drawn_on pm__law_drawn_on cd__law_drawn_on ct__law_drawn_on oc_Rule_cap kV_Rule_cap dc_Rule_cap pm_Rule_cap cd_Rule_cap ct_Rule_cap oc_Songs_contains kV_Songs_contains dc_Songs_contains pm_Songs_contains cd_Songs_contains ct_Songs_contains oc_is_item kV_is_item dc_is_item pm_is_item cd_is_item ct_is_item oc_counts_in kV_counts_in dc_counts_in pm_counts_in cd_counts_in ct_counts_in oc_need_kind kV_need_kind dc_need_kind pm_need_kind cd_need_kind ct_need_kind oc_Songs_getitem kV_Songs_getitem dc_Songs_getitem pm_Songs_getitem cd_Songs_getitem ct_Songs_getitem oc_is_standing kV_is_standing dc_is_standing pm_is_standing cd_is_standing ct_is_standing oc_need_standing kV_need_standing dc_need_standing pm_need_standing cd_need_standing ct_need_standing oc_ages_in kV_ages_in dc_ages_in pm_ages_in cd_ages_in ct_ages_in oc_Songs_numbers kV_Songs_numbers dc_Songs_numbers pm_Songs_numbers cd_Songs_numbers ct_Songs_numbers oc_old_songs kV_old_songs dc_old_songs pm_old_songs cd_old_songs ct_old_songs oc_is_place kV_is_place dc_is_place pm_is_place cd_is_place ct_is_place oc_is_step kV_is_step dc_is_step pm_is_step cd_is_step ct_is_step oc_drawn kV_drawn dc_drawn pm_drawn cd_drawn ct_drawn oc_behind kV_behind dc_behind pm_behind cd_behind ct_behind oc__law_first_one kV__law_first_one dc__law_first_one pm__law_first_one cd__law_first_one ct__law_first_one oc__law_of_songs kV__law_of_songs dc__law_of_songs pm__law_of_songs cd__law_of_songs ct__law_of_songs oc__law_rows_right kV__law_rows_right dc__law_rows_right pm__law_rows_right cd__law_rows_right ct__law_rows_right oc_law kV_law dc_law pm_law cd_law ct_law : Value} {od__law_begin an__law_begin : Option Addr} {sl__law_begin : Array (Option Value)} {od__law_take an__law_take : Option Addr} {sl__law_take : Array (Option Value)} {od__law_pick an__law_pick : Option Addr} {sl__law_pick : Array (Option Value)} {od__law_some_names an__law_some_names : Option Addr} {sl__law_some_names : Array (Option Value)} {od__law_drawn_case an__law_drawn_case : Option Addr} {sl__law_drawn_case : Array (Option Value)} {od_is_name an_is_name : Option Addr} {sl_is_name : Array (Option Value)} {od_is_integer an_is_integer : Option Addr} {sl_is_integer : Array (Option Value)} {od_is_number an_is_number : Option Addr} {sl_is_number : Array (Option Value)} {od_Songs_init an_Songs_init : Option Addr} {sl_Songs_init : Array (Option Value)} {od__law_songs_in an__law_songs_in : Option Addr} {sl__law_songs_in : Array (Option Value)} {od_are_weights an_are_weights : Option Addr} {sl_are_weights : Array (Option Value)} {od_Rule_init an_Rule_init : Option Addr} {sl_Rule_init : Array (Option Value)} {oT_Rule_init : Value} {dT_Rule_init : Option Addr} {sT_Rule_init : Array (Option Value)} {nT_Rule_init : Nat} {od__law_rule_of an__law_rule_of : Option Addr} {sl__law_rule_of : Array (Option Value)} {od__law_any_standing an__law_any_standing : Option Addr} {sl__law_any_standing : Array (Option Value)} {od__law_rows_at an__law_rows_at : Option Addr} {sl__law_rows_at : Array (Option Value)} {od__law_drawn_on an__law_drawn_on : Option Addr} {sl__law_drawn_on : Array (Option Value)} {od_Rule_cap an_Rule_cap : Option Addr} {sl_Rule_cap : Array (Option Value)} {rs_Rule_cap : List Value} {od_Songs_contains an_Songs_contains : Option Addr} {sl_Songs_contains : Array (Option Value)} {od_is_item an_is_item : Option Addr} {sl_is_item : Array (Option Value)} {od_counts_in an_counts_in : Option Addr} {sl_counts_in : Array (Option Value)} {od_need_kind an_need_kind : Option Addr} {sl_need_kind : Array (Option Value)} {od_Songs_getitem an_Songs_getitem : Option Addr} {sl_Songs_getitem : Array (Option Value)} {od_is_standing an_is_standing : Option Addr} {sl_is_standing : Array (Option Value)} {od_need_standing an_need_standing : Option Addr} {sl_need_standing : Array (Option Value)} {od_ages_in an_ages_in : Option Addr} {sl_ages_in : Array (Option Value)} {od_Songs_numbers an_Songs_numbers : Option Addr} {sl_Songs_numbers : Array (Option Value)} {rs_Songs_numbers : List Value} {od_old_songs an_old_songs : Option Addr} {sl_old_songs : Array (Option Value)} {od_is_place an_is_place : Option Addr} {sl_is_place : Array (Option Value)} {od_is_step an_is_step : Option Addr} {sl_is_step : Array (Option Value)} {od_drawn an_drawn : Option Addr} {sl_drawn : Array (Option Value)} {od_behind an_behind : Option Addr} {sl_behind : Array (Option Value)} {od__law_first_one an__law_first_one : Option Addr} {sl__law_first_one : Array (Option Value)} {od__law_of_songs an__law_of_songs : Option Addr} {sl__law_of_songs : Array (Option Value)} {od__law_rows_right an__law_rows_right : Option Addr} {sl__law_rows_right : Array (Option Value)} {od_law an_law : Option Addr} {sl_law : Array (Option Value)} (X : K.In h) (G : h.Ns mainGlobals mg) (hfa : mg "law" = some (.ref fa))
    (g_Songs : PySem.W.nsIn K mainGlobals "Songs" = some (some (.ref C_Songs)))
    (pg_Songs : PySem.W.plainGet K C_Songs Str.empty = true)
    (hd_Songs : PySem.W.hasDictIn K C_Songs = true)
    (po_Songs : PySem.W.plainOver K C_Songs = true)
    (sa_Songs : PySem.W.findIn K (.ref C_Songs) "__setattr__" = some (some (.builtin "object.__setattr__")))
    (ha_Songs : PySem.W.findIn K (.ref C_Songs) "__class__" = some (some (.builtin "object.__class__")))
    (hm_Songs : PySem.W.mroIn K C_Songs (.type "object") = some true)
    (bt_Songs_NoneType : PySem.W.kitOne K (.type "NoneType") (.ref C_Songs) = some false)
    (bt_Songs_bool : PySem.W.kitOne K (.type "bool") (.ref C_Songs) = some false)
    (bt_Songs_int : PySem.W.kitOne K (.type "int") (.ref C_Songs) = some false)
    (bt_Songs_str : PySem.W.kitOne K (.type "str") (.ref C_Songs) = some false)
    (bt_Songs_tuple : PySem.W.kitOne K (.type "tuple") (.ref C_Songs) = some false)
    (bt_Songs_list : PySem.W.kitOne K (.type "list") (.ref C_Songs) = some false)
    (bt_Songs_dict : PySem.W.kitOne K (.type "dict") (.ref C_Songs) = some false)
    (ty_Songs_bool : PySem.W.kitOne K (.ref C_Songs) (.type "bool") = some false)
    (ty_Songs_dict : PySem.W.kitOne K (.ref C_Songs) (.type "dict") = some false)
    (ty_Songs_int : PySem.W.kitOne K (.ref C_Songs) (.type "int") = some false)
    (ty_Songs_str : PySem.W.kitOne K (.ref C_Songs) (.type "str") = some false)
    (ty_Songs_tuple : PySem.W.kitOne K (.ref C_Songs) (.type "tuple") = some false)
    (kk_Songs_Songs : PySem.W.kitOne K (.ref C_Songs) (.ref C_Songs) = some true)
    (kk_Songs_Rule : PySem.W.kitOne K (.ref C_Rule) (.ref C_Songs) = some false)
    (na_Songs_r_skipped : PySem.W.findIn K (.ref C_Songs) "r_skipped" = some none)
    (na_Songs_r_spread : PySem.W.findIn K (.ref C_Songs) "r_spread" = some none)
    (na_Songs_r_weights : PySem.W.findIn K (.ref C_Songs) "r_weights" = some none)
    (na_Songs_s_numbers : PySem.W.findIn K (.ref C_Songs) "s_numbers" = some none)
    (g_Rule : PySem.W.nsIn K mainGlobals "Rule" = some (some (.ref C_Rule)))
    (pg_Rule : PySem.W.plainGet K C_Rule Str.empty = true)
    (hd_Rule : PySem.W.hasDictIn K C_Rule = true)
    (po_Rule : PySem.W.plainOver K C_Rule = true)
    (sa_Rule : PySem.W.findIn K (.ref C_Rule) "__setattr__" = some (some (.builtin "object.__setattr__")))
    (ha_Rule : PySem.W.findIn K (.ref C_Rule) "__class__" = some (some (.builtin "object.__class__")))
    (hm_Rule : PySem.W.mroIn K C_Rule (.type "object") = some true)
    (bt_Rule_NoneType : PySem.W.kitOne K (.type "NoneType") (.ref C_Rule) = some false)
    (bt_Rule_bool : PySem.W.kitOne K (.type "bool") (.ref C_Rule) = some false)
    (bt_Rule_int : PySem.W.kitOne K (.type "int") (.ref C_Rule) = some false)
    (bt_Rule_str : PySem.W.kitOne K (.type "str") (.ref C_Rule) = some false)
    (bt_Rule_tuple : PySem.W.kitOne K (.type "tuple") (.ref C_Rule) = some false)
    (bt_Rule_list : PySem.W.kitOne K (.type "list") (.ref C_Rule) = some false)
    (bt_Rule_dict : PySem.W.kitOne K (.type "dict") (.ref C_Rule) = some false)
    (ty_Rule_bool : PySem.W.kitOne K (.ref C_Rule) (.type "bool") = some false)
    (ty_Rule_dict : PySem.W.kitOne K (.ref C_Rule) (.type "dict") = some false)
    (ty_Rule_int : PySem.W.kitOne K (.ref C_Rule) (.type "int") = some false)
    (ty_Rule_str : PySem.W.kitOne K (.ref C_Rule) (.type "str") = some false)
    (ty_Rule_tuple : PySem.W.kitOne K (.ref C_Rule) (.type "tuple") = some false)
    (kk_Rule_Songs : PySem.W.kitOne K (.ref C_Songs) (.ref C_Rule) = some false)
    (kk_Rule_Rule : PySem.W.kitOne K (.ref C_Rule) (.ref C_Rule) = some true)
    (na_Rule_r_skipped : PySem.W.findIn K (.ref C_Rule) "r_skipped" = some none)
    (na_Rule_r_spread : PySem.W.findIn K (.ref C_Rule) "r_spread" = some none)
    (na_Rule_r_weights : PySem.W.findIn K (.ref C_Rule) "r_weights" = some none)
    (na_Rule_s_numbers : PySem.W.findIn K (.ref C_Rule) "s_numbers" = some none)
    (hn0 : PySem.W.specialIn K (.builtin "object.__class__") "__get__" = some (some (.builtin "getset_descriptor.__get__")))
    (htk0 : PySem.W.takesIn K (.builtin "object.__class__") = some true)
    (z_abs : PySem.W.nsIn K mainGlobals "abs" = some none)
    (z_all : PySem.W.nsIn K mainGlobals "all" = some none)
    (z_bool : PySem.W.nsIn K mainGlobals "bool" = some none)
    (z_dict : PySem.W.nsIn K mainGlobals "dict" = some none)
    (z_divmod : PySem.W.nsIn K mainGlobals "divmod" = some none)
    (z_enumerate : PySem.W.nsIn K mainGlobals "enumerate" = some none)
    (z_int : PySem.W.nsIn K mainGlobals "int" = some none)
    (z_isinstance : PySem.W.nsIn K mainGlobals "isinstance" = some none)
    (z_len : PySem.W.nsIn K mainGlobals "len" = some none)
    (z_list : PySem.W.nsIn K mainGlobals "list" = some none)
    (z_min : PySem.W.nsIn K mainGlobals "min" = some none)
    (z_range : PySem.W.nsIn K mainGlobals "range" = some none)
    (z_repr : PySem.W.nsIn K mainGlobals "repr" = some none)
    (z_sorted : PySem.W.nsIn K mainGlobals "sorted" = some none)
    (z_str : PySem.W.nsIn K mainGlobals "str" = some none)
    (z_sum : PySem.W.nsIn K mainGlobals "sum" = some none)
    (z_tuple : PySem.W.nsIn K mainGlobals "tuple" = some none)
    (k_LETTERS : PySem.W.nsIn K mainGlobals "LETTERS" = some (some (.str "abcdefghijklmnopqrstuvwxyz" t_LETTERS)))
    (k_LONGEST_NAME : PySem.W.nsIn K mainGlobals "LONGEST_NAME" = some (some (.int 8 t_LONGEST_NAME)))
    (k_MOST_CAP : PySem.W.nsIn K mainGlobals "MOST_CAP" = some (some (.int 4 t_MOST_CAP)))
    (k_MOST_KINDS : PySem.W.nsIn K mainGlobals "MOST_KINDS" = some (some (.int 3 t_MOST_KINDS)))
    (k_MOST_WEIGHT : PySem.W.nsIn K mainGlobals "MOST_WEIGHT" = some (some (.int 9 t_MOST_WEIGHT)))
    (f_a__law_begin : PySem.W.nsIn K mainGlobals "_law_begin" = some (some (.ref a__law_begin)))
    (l__law_begin : K.lookup a__law_begin = some ⟨oc__law_begin, od__law_begin, .func (PySem.W.fnOf "_law_begin" "_law_begin" (defArgs (top 34)) (defBody (top 34)) (defScope (top 34)) .none kV__law_begin dc__law_begin pm__law_begin an__law_begin cd__law_begin ct__law_begin), sl__law_begin⟩)
    (cd_ok__law_begin : PySem.W.codeIn K cd__law_begin "_law_begin" = true)
    (kp__law_begin : PySem.W.keepIn K (.ref a__law_begin) = true)
    (f_a__law_take : PySem.W.nsIn K mainGlobals "_law_take" = some (some (.ref a__law_take)))
    (l__law_take : K.lookup a__law_take = some ⟨oc__law_take, od__law_take, .func (PySem.W.fnOf "_law_take" "_law_take" (defArgs (top 35)) (defBody (top 35)) (defScope (top 35)) .none kV__law_take dc__law_take pm__law_take an__law_take cd__law_take ct__law_take), sl__law_take⟩)
    (cd_ok__law_take : PySem.W.codeIn K cd__law_take "_law_take" = true)
    (kp__law_take : PySem.W.keepIn K (.ref a__law_take) = true)
    (f_a__law_pick : PySem.W.nsIn K mainGlobals "_law_pick" = some (some (.ref a__law_pick)))
    (l__law_pick : K.lookup a__law_pick = some ⟨oc__law_pick, od__law_pick, .func (PySem.W.fnOf "_law_pick" "_law_pick" (defArgs (top 36)) (defBody (top 36)) (defScope (top 36)) .none kV__law_pick dc__law_pick pm__law_pick an__law_pick cd__law_pick ct__law_pick), sl__law_pick⟩)
    (cd_ok__law_pick : PySem.W.codeIn K cd__law_pick "_law_pick" = true)
    (kp__law_pick : PySem.W.keepIn K (.ref a__law_pick) = true)
    (f_a__law_some_names : PySem.W.nsIn K mainGlobals "_law_some_names" = some (some (.ref a__law_some_names)))
    (l__law_some_names : K.lookup a__law_some_names = some ⟨oc__law_some_names, od__law_some_names, .func (PySem.W.fnOf "_law_some_names" "_law_some_names" (defArgs (top 37)) (defBody (top 37)) (defScope (top 37)) .none kV__law_some_names dc__law_some_names pm__law_some_names an__law_some_names cd__law_some_names ct__law_some_names), sl__law_some_names⟩)
    (cd_ok__law_some_names : PySem.W.codeIn K cd__law_some_names "_law_some_names" = true)
    (kp__law_some_names : PySem.W.keepIn K (.ref a__law_some_names) = true)
    (f_a__law_drawn_case : PySem.W.nsIn K mainGlobals "_law_drawn_case" = some (some (.ref a__law_drawn_case)))
    (l__law_drawn_case : K.lookup a__law_drawn_case = some ⟨oc__law_drawn_case, od__law_drawn_case, .func (PySem.W.fnOf "_law_drawn_case" "_law_drawn_case" (defArgs (top 38)) (defBody (top 38)) (defScope (top 38)) .none kV__law_drawn_case dc__law_drawn_case pm__law_drawn_case an__law_drawn_case cd__law_drawn_case ct__law_drawn_case), sl__law_drawn_case⟩)
    (cd_ok__law_drawn_case : PySem.W.codeIn K cd__law_drawn_case "_law_drawn_case" = true)
    (kp__law_drawn_case : PySem.W.keepIn K (.ref a__law_drawn_case) = true)
    (f_a_is_name : PySem.W.nsIn K mainGlobals "is_name" = some (some (.ref a_is_name)))
    (l_is_name : K.lookup a_is_name = some ⟨oc_is_name, od_is_name, .func (PySem.W.fnOf "is_name" "is_name" (defArgs (top 14)) (defBody (top 14)) (defScope (top 14)) .none kV_is_name dc_is_name pm_is_name an_is_name cd_is_name ct_is_name), sl_is_name⟩)
    (cd_ok_is_name : PySem.W.codeIn K cd_is_name "is_name" = true)
    (kp_is_name : PySem.W.keepIn K (.ref a_is_name) = true)
    (f_a_is_integer : PySem.W.nsIn K mainGlobals "is_integer" = some (some (.ref a_is_integer)))
    (l_is_integer : K.lookup a_is_integer = some ⟨oc_is_integer, od_is_integer, .func (PySem.W.fnOf "is_integer" "is_integer" (defArgs (top 12)) (defBody (top 12)) (defScope (top 12)) .none kV_is_integer dc_is_integer pm_is_integer an_is_integer cd_is_integer ct_is_integer), sl_is_integer⟩)
    (cd_ok_is_integer : PySem.W.codeIn K cd_is_integer "is_integer" = true)
    (kp_is_integer : PySem.W.keepIn K (.ref a_is_integer) = true)
    (f_a_is_number : PySem.W.nsIn K mainGlobals "is_number" = some (some (.ref a_is_number)))
    (l_is_number : K.lookup a_is_number = some ⟨oc_is_number, od_is_number, .func (PySem.W.fnOf "is_number" "is_number" (defArgs (top 13)) (defBody (top 13)) (defScope (top 13)) .none kV_is_number dc_is_number pm_is_number an_is_number cd_is_number ct_is_number), sl_is_number⟩)
    (cd_ok_is_number : PySem.W.codeIn K cd_is_number "is_number" = true)
    (kp_is_number : PySem.W.keepIn K (.ref a_is_number) = true)
    (f_a_Songs_init : PySem.W.findIn K (.ref C_Songs) "__init__" = some (some (.ref a_Songs_init)))
    (f_i_Songs_init : PySem.W.isFn K (.ref a_Songs_init) = true)
    (f_m_Songs_init : PySem.W.makesIn K C_Songs = true)
    (f_c_Songs_init : PySem.W.keepIn K (.ref C_Songs) = true)
    (l_Songs_init : K.lookup a_Songs_init = some ⟨oc_Songs_init, od_Songs_init, .func (PySem.W.fnOf "__init__" "Songs.__init__" (defArgs (inClass (top 15) 0)) (defBody (inClass (top 15) 0)) (defScope (inClass (top 15) 0)) .none kV_Songs_init dc_Songs_init pm_Songs_init an_Songs_init cd_Songs_init ct_Songs_init), sl_Songs_init⟩)
    (cd_ok_Songs_init : PySem.W.codeIn K cd_Songs_init "Songs.__init__" = true)
    (kp_Songs_init : PySem.W.keepIn K (.ref a_Songs_init) = true)
    (f_a__law_songs_in : PySem.W.nsIn K mainGlobals "_law_songs_in" = some (some (.ref a__law_songs_in)))
    (l__law_songs_in : K.lookup a__law_songs_in = some ⟨oc__law_songs_in, od__law_songs_in, .func (PySem.W.fnOf "_law_songs_in" "_law_songs_in" (defArgs (top 40)) (defBody (top 40)) (defScope (top 40)) .none kV__law_songs_in dc__law_songs_in pm__law_songs_in an__law_songs_in cd__law_songs_in ct__law_songs_in), sl__law_songs_in⟩)
    (cd_ok__law_songs_in : PySem.W.codeIn K cd__law_songs_in "_law_songs_in" = true)
    (kp__law_songs_in : PySem.W.keepIn K (.ref a__law_songs_in) = true)
    (f_a_are_weights : PySem.W.nsIn K mainGlobals "are_weights" = some (some (.ref a_are_weights)))
    (l_are_weights : K.lookup a_are_weights = some ⟨oc_are_weights, od_are_weights, .func (PySem.W.fnOf "are_weights" "are_weights" (defArgs (top 31)) (defBody (top 31)) (defScope (top 31)) .none kV_are_weights dc_are_weights pm_are_weights an_are_weights cd_are_weights ct_are_weights), sl_are_weights⟩)
    (cd_ok_are_weights : PySem.W.codeIn K cd_are_weights "are_weights" = true)
    (kp_are_weights : PySem.W.keepIn K (.ref a_are_weights) = true)
    (f_a_Rule_init : PySem.W.findIn K (.ref C_Rule) "__init__" = some (some (.ref a_Rule_init)))
    (f_i_Rule_init : PySem.W.isFn K (.ref a_Rule_init) = true)
    (f_m_Rule_init : PySem.W.makesIn K C_Rule = true)
    (f_c_Rule_init : PySem.W.keepIn K (.ref C_Rule) = true)
    (l_Rule_init : K.lookup a_Rule_init = some ⟨oc_Rule_init, od_Rule_init, .func (PySem.W.fnOf "__init__" "Rule.__init__" (defArgs (inClass (top 32) 0)) (defBody (inClass (top 32) 0)) (defScope (inClass (top 32) 0)) (.ref T_Rule_init) kV_Rule_init dc_Rule_init pm_Rule_init an_Rule_init cd_Rule_init ct_Rule_init), sl_Rule_init⟩)
    (lT_Rule_init : K.lookup T_Rule_init = some ⟨oT_Rule_init, dT_Rule_init, .seq #[.int 0 tk_Rule_init_0] nT_Rule_init, sT_Rule_init⟩)
    (cd_ok_Rule_init : PySem.W.codeIn K cd_Rule_init "Rule.__init__" = true)
    (kp_Rule_init : PySem.W.keepIn K (.ref a_Rule_init) = true)
    (f_a__law_rule_of : PySem.W.nsIn K mainGlobals "_law_rule_of" = some (some (.ref a__law_rule_of)))
    (l__law_rule_of : K.lookup a__law_rule_of = some ⟨oc__law_rule_of, od__law_rule_of, .func (PySem.W.fnOf "_law_rule_of" "_law_rule_of" (defArgs (top 39)) (defBody (top 39)) (defScope (top 39)) .none kV__law_rule_of dc__law_rule_of pm__law_rule_of an__law_rule_of cd__law_rule_of ct__law_rule_of), sl__law_rule_of⟩)
    (cd_ok__law_rule_of : PySem.W.codeIn K cd__law_rule_of "_law_rule_of" = true)
    (kp__law_rule_of : PySem.W.keepIn K (.ref a__law_rule_of) = true)
    (f_a__law_any_standing : PySem.W.nsIn K mainGlobals "_law_any_standing" = some (some (.ref a__law_any_standing)))
    (l__law_any_standing : K.lookup a__law_any_standing = some ⟨oc__law_any_standing, od__law_any_standing, .func (PySem.W.fnOf "_law_any_standing" "_law_any_standing" (defArgs (top 41)) (defBody (top 41)) (defScope (top 41)) .none kV__law_any_standing dc__law_any_standing pm__law_any_standing an__law_any_standing cd__law_any_standing ct__law_any_standing), sl__law_any_standing⟩)
    (cd_ok__law_any_standing : PySem.W.codeIn K cd__law_any_standing "_law_any_standing" = true)
    (kp__law_any_standing : PySem.W.keepIn K (.ref a__law_any_standing) = true)
    (f_a__law_rows_at : PySem.W.nsIn K mainGlobals "_law_rows_at" = some (some (.ref a__law_rows_at)))
    (l__law_rows_at : K.lookup a__law_rows_at = some ⟨oc__law_rows_at, od__law_rows_at, .func (PySem.W.fnOf "_law_rows_at" "_law_rows_at" (defArgs (top 42)) (defBody (top 42)) (defScope (top 42)) .none kV__law_rows_at dc__law_rows_at pm__law_rows_at an__law_rows_at cd__law_rows_at ct__law_rows_at), sl__law_rows_at⟩)
    (cd_ok__law_rows_at : PySem.W.codeIn K cd__law_rows_at "_law_rows_at" = true)
    (kp__law_rows_at : PySem.W.keepIn K (.ref a__law_rows_at) = true)
    (f_a__law_drawn_on : PySem.W.nsIn K mainGlobals "_law_drawn_on" = some (some (.ref a__law_drawn_on)))
    (l__law_drawn_on : K.lookup a__law_drawn_on = some ⟨oc__law_drawn_on, od__law_drawn_on, .func (PySem.W.fnOf "_law_drawn_on" "_law_drawn_on" (defArgs (top 44)) (defBody (top 44)) (defScope (top 44)) .none kV__law_drawn_on dc__law_drawn_on pm__law_drawn_on an__law_drawn_on cd__law_drawn_on ct__law_drawn_on), sl__law_drawn_on⟩)
    (cd_ok__law_drawn_on : PySem.W.codeIn K cd__law_drawn_on "_law_drawn_on" = true)
    (kp__law_drawn_on : PySem.W.keepIn K (.ref a__law_drawn_on) = true)
    (f_p_Rule_cap : PySem.W.findIn K (.ref C_Rule) "cap" = some (some (.ref p_Rule_cap)))
    (f_g_Rule_cap : PySem.W.specialIn K (.ref p_Rule_cap) "__get__" = some (some (.builtin "property.__get__")))
    (f_t_Rule_cap : PySem.W.takesIn K (.ref p_Rule_cap) = some true)
    (f_r_Rule_cap : PySem.W.recIn K p_Rule_cap "property" = some (.ref a_Rule_cap :: rs_Rule_cap))
    (l_Rule_cap : K.lookup a_Rule_cap = some ⟨oc_Rule_cap, od_Rule_cap, .func (PySem.W.fnOf "cap" "Rule.cap" (defArgs (inClass (top 32) 1)) (defBody (inClass (top 32) 1)) (defScope (inClass (top 32) 1)) .none kV_Rule_cap dc_Rule_cap pm_Rule_cap an_Rule_cap cd_Rule_cap ct_Rule_cap), sl_Rule_cap⟩)
    (cd_ok_Rule_cap : PySem.W.codeIn K cd_Rule_cap "Rule.cap" = true)
    (kp_Rule_cap : PySem.W.keepIn K (.ref a_Rule_cap) = true)
    (f_a_Songs_contains : PySem.W.findIn K (.ref C_Songs) "__contains__" = some (some (.ref a_Songs_contains)))
    (f_i_Songs_contains : PySem.W.isFn K (.ref a_Songs_contains) = true)
    (l_Songs_contains : K.lookup a_Songs_contains = some ⟨oc_Songs_contains, od_Songs_contains, .func (PySem.W.fnOf "__contains__" "Songs.__contains__" (defArgs (inClass (top 15) 6)) (defBody (inClass (top 15) 6)) (defScope (inClass (top 15) 6)) .none kV_Songs_contains dc_Songs_contains pm_Songs_contains an_Songs_contains cd_Songs_contains ct_Songs_contains), sl_Songs_contains⟩)
    (cd_ok_Songs_contains : PySem.W.codeIn K cd_Songs_contains "Songs.__contains__" = true)
    (kp_Songs_contains : PySem.W.keepIn K (.ref a_Songs_contains) = true)
    (f_a_is_item : PySem.W.nsIn K mainGlobals "is_item" = some (some (.ref a_is_item)))
    (l_is_item : K.lookup a_is_item = some ⟨oc_is_item, od_is_item, .func (PySem.W.fnOf "is_item" "is_item" (defArgs (top 18)) (defBody (top 18)) (defScope (top 18)) .none kV_is_item dc_is_item pm_is_item an_is_item cd_is_item ct_is_item), sl_is_item⟩)
    (cd_ok_is_item : PySem.W.codeIn K cd_is_item "is_item" = true)
    (kp_is_item : PySem.W.keepIn K (.ref a_is_item) = true)
    (f_a_counts_in : PySem.W.nsIn K mainGlobals "counts_in" = some (some (.ref a_counts_in)))
    (l_counts_in : K.lookup a_counts_in = some ⟨oc_counts_in, od_counts_in, .func (PySem.W.fnOf "counts_in" "counts_in" (defArgs (top 19)) (defBody (top 19)) (defScope (top 19)) .none kV_counts_in dc_counts_in pm_counts_in an_counts_in cd_counts_in ct_counts_in), sl_counts_in⟩)
    (cd_ok_counts_in : PySem.W.codeIn K cd_counts_in "counts_in" = true)
    (kp_counts_in : PySem.W.keepIn K (.ref a_counts_in) = true)
    (f_a_need_kind : PySem.W.nsIn K mainGlobals "need_kind" = some (some (.ref a_need_kind)))
    (l_need_kind : K.lookup a_need_kind = some ⟨oc_need_kind, od_need_kind, .func (PySem.W.fnOf "need_kind" "need_kind" (defArgs (top 16)) (defBody (top 16)) (defScope (top 16)) .none kV_need_kind dc_need_kind pm_need_kind an_need_kind cd_need_kind ct_need_kind), sl_need_kind⟩)
    (cd_ok_need_kind : PySem.W.codeIn K cd_need_kind "need_kind" = true)
    (kp_need_kind : PySem.W.keepIn K (.ref a_need_kind) = true)
    (f_a_Songs_getitem : PySem.W.findIn K (.ref C_Songs) "__getitem__" = some (some (.ref a_Songs_getitem)))
    (f_i_Songs_getitem : PySem.W.isFn K (.ref a_Songs_getitem) = true)
    (l_Songs_getitem : K.lookup a_Songs_getitem = some ⟨oc_Songs_getitem, od_Songs_getitem, .func (PySem.W.fnOf "__getitem__" "Songs.__getitem__" (defArgs (inClass (top 15) 3)) (defBody (inClass (top 15) 3)) (defScope (inClass (top 15) 3)) .none kV_Songs_getitem dc_Songs_getitem pm_Songs_getitem an_Songs_getitem cd_Songs_getitem ct_Songs_getitem), sl_Songs_getitem⟩)
    (cd_ok_Songs_getitem : PySem.W.codeIn K cd_Songs_getitem "Songs.__getitem__" = true)
    (kp_Songs_getitem : PySem.W.keepIn K (.ref a_Songs_getitem) = true)
    (f_a_is_standing : PySem.W.nsIn K mainGlobals "is_standing" = some (some (.ref a_is_standing)))
    (l_is_standing : K.lookup a_is_standing = some ⟨oc_is_standing, od_is_standing, .func (PySem.W.fnOf "is_standing" "is_standing" (defArgs (top 20)) (defBody (top 20)) (defScope (top 20)) .none kV_is_standing dc_is_standing pm_is_standing an_is_standing cd_is_standing ct_is_standing), sl_is_standing⟩)
    (cd_ok_is_standing : PySem.W.codeIn K cd_is_standing "is_standing" = true)
    (kp_is_standing : PySem.W.keepIn K (.ref a_is_standing) = true)
    (f_a_need_standing : PySem.W.nsIn K mainGlobals "need_standing" = some (some (.ref a_need_standing)))
    (l_need_standing : K.lookup a_need_standing = some ⟨oc_need_standing, od_need_standing, .func (PySem.W.fnOf "need_standing" "need_standing" (defArgs (top 21)) (defBody (top 21)) (defScope (top 21)) .none kV_need_standing dc_need_standing pm_need_standing an_need_standing cd_need_standing ct_need_standing), sl_need_standing⟩)
    (cd_ok_need_standing : PySem.W.codeIn K cd_need_standing "need_standing" = true)
    (kp_need_standing : PySem.W.keepIn K (.ref a_need_standing) = true)
    (f_a_ages_in : PySem.W.nsIn K mainGlobals "ages_in" = some (some (.ref a_ages_in)))
    (l_ages_in : K.lookup a_ages_in = some ⟨oc_ages_in, od_ages_in, .func (PySem.W.fnOf "ages_in" "ages_in" (defArgs (top 23)) (defBody (top 23)) (defScope (top 23)) .none kV_ages_in dc_ages_in pm_ages_in an_ages_in cd_ages_in ct_ages_in), sl_ages_in⟩)
    (cd_ok_ages_in : PySem.W.codeIn K cd_ages_in "ages_in" = true)
    (kp_ages_in : PySem.W.keepIn K (.ref a_ages_in) = true)
    (f_p_Songs_numbers : PySem.W.findIn K (.ref C_Songs) "numbers" = some (some (.ref p_Songs_numbers)))
    (f_g_Songs_numbers : PySem.W.specialIn K (.ref p_Songs_numbers) "__get__" = some (some (.builtin "property.__get__")))
    (f_t_Songs_numbers : PySem.W.takesIn K (.ref p_Songs_numbers) = some true)
    (f_r_Songs_numbers : PySem.W.recIn K p_Songs_numbers "property" = some (.ref a_Songs_numbers :: rs_Songs_numbers))
    (l_Songs_numbers : K.lookup a_Songs_numbers = some ⟨oc_Songs_numbers, od_Songs_numbers, .func (PySem.W.fnOf "numbers" "Songs.numbers" (defArgs (inClass (top 15) 2)) (defBody (inClass (top 15) 2)) (defScope (inClass (top 15) 2)) .none kV_Songs_numbers dc_Songs_numbers pm_Songs_numbers an_Songs_numbers cd_Songs_numbers ct_Songs_numbers), sl_Songs_numbers⟩)
    (cd_ok_Songs_numbers : PySem.W.codeIn K cd_Songs_numbers "Songs.numbers" = true)
    (kp_Songs_numbers : PySem.W.keepIn K (.ref a_Songs_numbers) = true)
    (f_a_old_songs : PySem.W.nsIn K mainGlobals "old_songs" = some (some (.ref a_old_songs)))
    (l_old_songs : K.lookup a_old_songs = some ⟨oc_old_songs, od_old_songs, .func (PySem.W.fnOf "old_songs" "old_songs" (defArgs (top 22)) (defBody (top 22)) (defScope (top 22)) .none kV_old_songs dc_old_songs pm_old_songs an_old_songs cd_old_songs ct_old_songs), sl_old_songs⟩)
    (cd_ok_old_songs : PySem.W.codeIn K cd_old_songs "old_songs" = true)
    (kp_old_songs : PySem.W.keepIn K (.ref a_old_songs) = true)
    (f_a_is_place : PySem.W.nsIn K mainGlobals "is_place" = some (some (.ref a_is_place)))
    (l_is_place : K.lookup a_is_place = some ⟨oc_is_place, od_is_place, .func (PySem.W.fnOf "is_place" "is_place" (defArgs (top 24)) (defBody (top 24)) (defScope (top 24)) .none kV_is_place dc_is_place pm_is_place an_is_place cd_is_place ct_is_place), sl_is_place⟩)
    (cd_ok_is_place : PySem.W.codeIn K cd_is_place "is_place" = true)
    (kp_is_place : PySem.W.keepIn K (.ref a_is_place) = true)
    (f_a_is_step : PySem.W.nsIn K mainGlobals "is_step" = some (some (.ref a_is_step)))
    (l_is_step : K.lookup a_is_step = some ⟨oc_is_step, od_is_step, .func (PySem.W.fnOf "is_step" "is_step" (defArgs (top 26)) (defBody (top 26)) (defScope (top 26)) .none kV_is_step dc_is_step pm_is_step an_is_step cd_is_step ct_is_step), sl_is_step⟩)
    (cd_ok_is_step : PySem.W.codeIn K cd_is_step "is_step" = true)
    (kp_is_step : PySem.W.keepIn K (.ref a_is_step) = true)
    (f_a_drawn : PySem.W.nsIn K mainGlobals "drawn" = some (some (.ref a_drawn)))
    (l_drawn : K.lookup a_drawn = some ⟨oc_drawn, od_drawn, .func (PySem.W.fnOf "drawn" "drawn" (defArgs (top 25)) (defBody (top 25)) (defScope (top 25)) .none kV_drawn dc_drawn pm_drawn an_drawn cd_drawn ct_drawn), sl_drawn⟩)
    (cd_ok_drawn : PySem.W.codeIn K cd_drawn "drawn" = true)
    (kp_drawn : PySem.W.keepIn K (.ref a_drawn) = true)
    (f_a_behind : PySem.W.nsIn K mainGlobals "behind" = some (some (.ref a_behind)))
    (l_behind : K.lookup a_behind = some ⟨oc_behind, od_behind, .func (PySem.W.fnOf "behind" "behind" (defArgs (top 27)) (defBody (top 27)) (defScope (top 27)) .none kV_behind dc_behind pm_behind an_behind cd_behind ct_behind), sl_behind⟩)
    (cd_ok_behind : PySem.W.codeIn K cd_behind "behind" = true)
    (kp_behind : PySem.W.keepIn K (.ref a_behind) = true)
    (f_a__law_first_one : PySem.W.nsIn K mainGlobals "_law_first_one" = some (some (.ref a__law_first_one)))
    (l__law_first_one : K.lookup a__law_first_one = some ⟨oc__law_first_one, od__law_first_one, .func (PySem.W.fnOf "_law_first_one" "_law_first_one" (defArgs (top 43)) (defBody (top 43)) (defScope (top 43)) .none kV__law_first_one dc__law_first_one pm__law_first_one an__law_first_one cd__law_first_one ct__law_first_one), sl__law_first_one⟩)
    (cd_ok__law_first_one : PySem.W.codeIn K cd__law_first_one "_law_first_one" = true)
    (kp__law_first_one : PySem.W.keepIn K (.ref a__law_first_one) = true)
    (f_a__law_of_songs : PySem.W.nsIn K mainGlobals "_law_of_songs" = some (some (.ref a__law_of_songs)))
    (l__law_of_songs : K.lookup a__law_of_songs = some ⟨oc__law_of_songs, od__law_of_songs, .func (PySem.W.fnOf "_law_of_songs" "_law_of_songs" (defArgs (top 45)) (defBody (top 45)) (defScope (top 45)) .none kV__law_of_songs dc__law_of_songs pm__law_of_songs an__law_of_songs cd__law_of_songs ct__law_of_songs), sl__law_of_songs⟩)
    (cd_ok__law_of_songs : PySem.W.codeIn K cd__law_of_songs "_law_of_songs" = true)
    (kp__law_of_songs : PySem.W.keepIn K (.ref a__law_of_songs) = true)
    (f_a__law_rows_right : PySem.W.nsIn K mainGlobals "_law_rows_right" = some (some (.ref a__law_rows_right)))
    (l__law_rows_right : K.lookup a__law_rows_right = some ⟨oc__law_rows_right, od__law_rows_right, .func (PySem.W.fnOf "_law_rows_right" "_law_rows_right" (defArgs (top 46)) (defBody (top 46)) (defScope (top 46)) .none kV__law_rows_right dc__law_rows_right pm__law_rows_right an__law_rows_right cd__law_rows_right ct__law_rows_right), sl__law_rows_right⟩)
    (cd_ok__law_rows_right : PySem.W.codeIn K cd__law_rows_right "_law_rows_right" = true)
    (kp__law_rows_right : PySem.W.keepIn K (.ref a__law_rows_right) = true)
    (f_a_law : PySem.W.nsIn K mainGlobals "law" = some (some (.ref a_law)))
    (l_law : K.lookup a_law = some ⟨oc_law, od_law, .func (PySem.W.fnOf "law" "law" (defArgs (top 47)) (defBody (top 47)) (defScope (top 47)) .none kV_law dc_law pm_law an_law cd_law ct_law), sl_law⟩)
    (cd_ok_law : PySem.W.codeIn K cd_law "law" = true)
    (kp_law : PySem.W.keepIn K (.ref a_law) = true) :
    ∃ fd : FuncData, (∀ (s : Shared) (v : Value), BindsTo s fd ⟨[v], []⟩ [("_law_script", v)]) ∧ ∀ base : Heap, K.In base → base.Ns mainGlobals mg → SysAt base → FK P w K mg base 8 fa fd ["_law_script"] (spF ⟨K, mg⟩ f_law 1) := by
  have e := hfa.symm.trans (PySem.W.mg_of X G f_a_law)
  cases e
  have mg_Songs : mg "Songs" = some (.ref C_Songs) := PySem.W.mg_of X G g_Songs
  have cl_Songs : Cls K C_Songs := ⟨pg_Songs, hd_Songs, po_Songs, sa_Songs⟩
  have mg_Rule : mg "Rule" = some (.ref C_Rule) := PySem.W.mg_of X G g_Rule
  have cl_Rule : Cls K C_Rule := ⟨pg_Rule, hd_Rule, po_Rule, sa_Rule⟩
  have F__law_begin := fun_mk (st := (top 34)) l__law_begin cd_ok__law_begin kp__law_begin
  have b__law_begin := F__law_begin.binds (ps := ["_law_script"]) fun _ _ _ _ _ _ us hl => match us, hl with | [_], _ => rfl
  have F__law_take := fun_mk (st := (top 35)) l__law_take cd_ok__law_take kp__law_take
  have b__law_take := F__law_take.binds (ps := ["_law_draw", "_law_size"]) fun _ _ _ _ _ _ us hl => match us, hl with | [_, _], _ => rfl
  have F__law_pick := fun_mk (st := (top 36)) l__law_pick cd_ok__law_pick kp__law_pick
  have b__law_pick := F__law_pick.binds (ps := ["_law_draw", "_law_some"]) fun _ _ _ _ _ _ us hl => match us, hl with | [_, _], _ => rfl
  have F__law_some_names := fun_mk (st := (top 37)) l__law_some_names cd_ok__law_some_names kp__law_some_names
  have b__law_some_names := F__law_some_names.binds (ps := ["_law_draw", "_law_many"]) fun _ _ _ _ _ _ us hl => match us, hl with | [_, _], _ => rfl
  have F__law_drawn_case := fun_mk (st := (top 38)) l__law_drawn_case cd_ok__law_drawn_case kp__law_drawn_case
  have b__law_drawn_case := F__law_drawn_case.binds (ps := ["_law_draw", "_law_cap", "_law_kinds", "_law_most"]) fun _ _ _ _ _ _ us hl => match us, hl with | [_, _, _, _], _ => rfl
  have F_is_name := fun_mk (st := (top 14)) l_is_name cd_ok_is_name kp_is_name
  have b_is_name := F_is_name.binds (ps := ["thing"]) fun _ _ _ _ _ _ us hl => match us, hl with | [_], _ => rfl
  have F_is_integer := fun_mk (st := (top 12)) l_is_integer cd_ok_is_integer kp_is_integer
  have b_is_integer := F_is_integer.binds (ps := ["thing"]) fun _ _ _ _ _ _ us hl => match us, hl with | [_], _ => rfl
  have F_is_number := fun_mk (st := (top 13)) l_is_number cd_ok_is_number kp_is_number
  have b_is_number := F_is_number.binds (ps := ["thing"]) fun _ _ _ _ _ _ us hl => match us, hl with | [_], _ => rfl
  have F_Songs_init := fun_mk (st := (inClass (top 15) 0)) l_Songs_init cd_ok_Songs_init kp_Songs_init
  have b_Songs_init := F_Songs_init.binds (ps := ["self", "numbers"]) fun _ _ _ _ _ _ us hl => match us, hl with | [_, _], _ => rfl
  have F__law_songs_in := fun_mk (st := (top 40)) l__law_songs_in cd_ok__law_songs_in kp__law_songs_in
  have b__law_songs_in := F__law_songs_in.binds (ps := ["_law_case"]) fun _ _ _ _ _ _ us hl => match us, hl with | [_], _ => rfl
  have F_are_weights := fun_mk (st := (top 31)) l_are_weights cd_ok_are_weights kp_are_weights
  have b_are_weights := F_are_weights.binds (ps := ["thing", "least", "most"]) fun _ _ _ _ _ _ us hl => match us, hl with | [_, _, _], _ => rfl
  have F_Rule_init : FunD K "__init__" "Rule.__init__" (defArgs (inClass (top 32) 0)) (defBody (inClass (top 32) 0)) (defScope (inClass (top 32) 0)) [V.int 0] [] a_Rule_init _ := ⟨⟨_, _, _, _, _, _, _, _, _, _, rfl, l_Rule_init, cd_ok_Rule_init, .inr ⟨by simp, T_Rule_init, _, [.int 0 tk_Rule_init_0], _, rfl, lT_Rule_init, rfl, (.cons ⟨_, rfl⟩ .nil)⟩, .inl rfl⟩, kp_Rule_init⟩
  have F__law_rule_of := fun_mk (st := (top 39)) l__law_rule_of cd_ok__law_rule_of kp__law_rule_of
  have b__law_rule_of := F__law_rule_of.binds (ps := ["_law_case"]) fun _ _ _ _ _ _ us hl => match us, hl with | [_], _ => rfl
  have F__law_any_standing := fun_mk (st := (top 41)) l__law_any_standing cd_ok__law_any_standing kp__law_any_standing
  have b__law_any_standing := F__law_any_standing.binds (ps := ["_law_draw", "_law_case"]) fun _ _ _ _ _ _ us hl => match us, hl with | [_, _], _ => rfl
  have F__law_rows_at := fun_mk (st := (top 42)) l__law_rows_at cd_ok__law_rows_at kp__law_rows_at
  have b__law_rows_at := F__law_rows_at.binds (ps := ["_law_case", "_law_stand_here"]) fun _ _ _ _ _ _ us hl => match us, hl with | [_, _], _ => rfl
  have F__law_drawn_on := fun_mk (st := (top 44)) l__law_drawn_on cd_ok__law_drawn_on kp__law_drawn_on
  have b__law_drawn_on := F__law_drawn_on.binds (ps := ["_law_stand_here", "_law_place", "_law_was_skipped"]) fun _ _ _ _ _ _ us hl => match us, hl with | [_, _, _], _ => rfl
  have F_Rule_cap := fun_mk (st := (inClass (top 32) 1)) l_Rule_cap cd_ok_Rule_cap kp_Rule_cap
  have b_Rule_cap := F_Rule_cap.binds (ps := ["self"]) fun _ _ _ _ _ _ us hl => match us, hl with | [_], _ => rfl
  have F_Songs_contains := fun_mk (st := (inClass (top 15) 6)) l_Songs_contains cd_ok_Songs_contains kp_Songs_contains
  have b_Songs_contains := F_Songs_contains.binds (ps := ["self", "kind"]) fun _ _ _ _ _ _ us hl => match us, hl with | [_, _], _ => rfl
  have F_is_item := fun_mk (st := (top 18)) l_is_item cd_ok_is_item kp_is_item
  have b_is_item := F_is_item.binds (ps := ["songs", "thing"]) fun _ _ _ _ _ _ us hl => match us, hl with | [_, _], _ => rfl
  have F_counts_in := fun_mk (st := (top 19)) l_counts_in cd_ok_counts_in kp_counts_in
  have b_counts_in := F_counts_in.binds (ps := ["standing"]) fun _ _ _ _ _ _ us hl => match us, hl with | [_], _ => rfl
  have F_need_kind := fun_mk (st := (top 16)) l_need_kind cd_ok_need_kind kp_need_kind
  have b_need_kind := F_need_kind.binds (ps := ["songs", "kind"]) fun _ _ _ _ _ _ us hl => match us, hl with | [_, _], _ => rfl
  have F_Songs_getitem := fun_mk (st := (inClass (top 15) 3)) l_Songs_getitem cd_ok_Songs_getitem kp_Songs_getitem
  have b_Songs_getitem := F_Songs_getitem.binds (ps := ["self", "kind"]) fun _ _ _ _ _ _ us hl => match us, hl with | [_, _], _ => rfl
  have F_is_standing := fun_mk (st := (top 20)) l_is_standing cd_ok_is_standing kp_is_standing
  have b_is_standing := F_is_standing.binds (ps := ["rule", "songs", "thing"]) fun _ _ _ _ _ _ us hl => match us, hl with | [_, _, _], _ => rfl
  have F_need_standing := fun_mk (st := (top 21)) l_need_standing cd_ok_need_standing kp_need_standing
  have b_need_standing := F_need_standing.binds (ps := ["rule", "songs", "standing"]) fun _ _ _ _ _ _ us hl => match us, hl with | [_, _, _], _ => rfl
  have F_ages_in := fun_mk (st := (top 23)) l_ages_in cd_ok_ages_in kp_ages_in
  have b_ages_in := F_ages_in.binds (ps := ["standing"]) fun _ _ _ _ _ _ us hl => match us, hl with | [_], _ => rfl
  have F_Songs_numbers := fun_mk (st := (inClass (top 15) 2)) l_Songs_numbers cd_ok_Songs_numbers kp_Songs_numbers
  have b_Songs_numbers := F_Songs_numbers.binds (ps := ["self"]) fun _ _ _ _ _ _ us hl => match us, hl with | [_], _ => rfl
  have F_old_songs := fun_mk (st := (top 22)) l_old_songs cd_ok_old_songs kp_old_songs
  have b_old_songs := F_old_songs.binds (ps := ["songs", "standing"]) fun _ _ _ _ _ _ us hl => match us, hl with | [_, _], _ => rfl
  have F_is_place := fun_mk (st := (top 24)) l_is_place cd_ok_is_place kp_is_place
  have b_is_place := F_is_place.binds (ps := ["songs", "standing", "thing"]) fun _ _ _ _ _ _ us hl => match us, hl with | [_, _, _], _ => rfl
  have F_is_step := fun_mk (st := (top 26)) l_is_step cd_ok_is_step kp_is_step
  have b_is_step := F_is_step.binds (ps := ["songs", "standing", "thing"]) fun _ _ _ _ _ _ us hl => match us, hl with | [_, _, _], _ => rfl
  have F_drawn := fun_mk (st := (top 25)) l_drawn cd_ok_drawn kp_drawn
  have b_drawn := F_drawn.binds (ps := ["standing", "place", "was_skipped"]) fun _ _ _ _ _ _ us hl => match us, hl with | [_, _, _], _ => rfl
  have F_behind := fun_mk (st := (top 27)) l_behind cd_ok_behind kp_behind
  have b_behind := F_behind.binds (ps := ["rule", "songs", "standing", "step"]) fun _ _ _ _ _ _ us hl => match us, hl with | [_, _, _, _], _ => rfl
  have F__law_first_one := fun_mk (st := (top 43)) l__law_first_one cd_ok__law_first_one kp__law_first_one
  have b__law_first_one := F__law_first_one.binds (ps := ["_law_case"]) fun _ _ _ _ _ _ us hl => match us, hl with | [_], _ => rfl
  have F__law_of_songs := fun_mk (st := (top 45)) l__law_of_songs cd_ok__law_of_songs kp__law_of_songs
  have b__law_of_songs := F__law_of_songs.binds (ps := ["_law_case", "_law_plays"]) fun _ _ _ _ _ _ us hl => match us, hl with | [_, _], _ => rfl
  have F__law_rows_right := fun_mk (st := (top 46)) l__law_rows_right cd_ok__law_rows_right kp__law_rows_right
  have b__law_rows_right := F__law_rows_right.binds (ps := ["_law_draw", "_law_case"]) fun _ _ _ _ _ _ us hl => match us, hl with | [_, _], _ => rfl
  have F_law := fun_mk (st := (top 47)) l_law cd_ok_law kp_law
  have b_law := F_law.binds (ps := ["_law_script"]) fun _ _ _ _ _ _ us hl => match us, hl with | [_], _ => rfl
  refine ⟨_, fun s v => .of_eq (fd := PySem.W.fnOf "law" "law" (defArgs (top 47)) (defBody (top 47)) (defScope (top 47)) .none kV_law dc_law pm_law an_law cd_law ct_law) rfl, fun base _ _ sys => ?_⟩
  have T : Txt K mg base :=
    { sys := sys, isa := ⟨(allC_cons mg_Songs (⟨cl_Songs, ha_Songs, hn0, htk0, hm_Songs⟩) (allC_cons mg_Rule (⟨cl_Rule, ha_Rule, hn0, htk0, hm_Rule⟩) allC_nil)),
    isa_own (allC_cons mg_Songs ((allC_cons (p := fun D a => PySem.W.kitOne _ (.ref a) (.ref C_Songs) = some (decide (D = "Songs"))) mg_Songs (kk_Songs_Songs.trans (by decide +kernel)) (allC_cons (p := fun D a => PySem.W.kitOne _ (.ref a) (.ref C_Songs) = some (decide (D = "Songs"))) mg_Rule (kk_Songs_Rule.trans (by decide +kernel)) allC_nil))) (allC_cons mg_Rule ((allC_cons (p := fun D a => PySem.W.kitOne _ (.ref a) (.ref C_Rule) = some (decide (D = "Rule"))) mg_Songs (kk_Rule_Songs.trans (by decide +kernel)) (allC_cons (p := fun D a => PySem.W.kitOne _ (.ref a) (.ref C_Rule) = some (decide (D = "Rule"))) mg_Rule (kk_Rule_Rule.trans (by decide +kernel)) allC_nil))) allC_nil)),
    (allC_cons mg_Songs ((allT_cons (bt_Songs_NoneType) (allT_cons (bt_Songs_bool) (allT_cons (bt_Songs_int) (allT_cons (bt_Songs_str) (allT_cons (bt_Songs_tuple) (allT_cons (bt_Songs_list) (allT_cons (bt_Songs_dict) allT_nil)))))))) (allC_cons mg_Rule ((allT_cons (bt_Rule_NoneType) (allT_cons (bt_Rule_bool) (allT_cons (bt_Rule_int) (allT_cons (bt_Rule_str) (allT_cons (bt_Rule_tuple) (allT_cons (bt_Rule_list) (allT_cons (bt_Rule_dict) allT_nil)))))))) allC_nil)),
    (allC_cons mg_Songs ((allT_cons (ty_Songs_bool) (allT_cons (ty_Songs_dict) (allT_cons (ty_Songs_int) (allT_cons (ty_Songs_str) (allT_cons (ty_Songs_tuple) allT_nil)))))) (allC_cons mg_Rule ((allT_cons (ty_Rule_bool) (allT_cons (ty_Rule_dict) (allT_cons (ty_Rule_int) (allT_cons (ty_Rule_str) (allT_cons (ty_Rule_tuple) allT_nil)))))) allC_nil))⟩,
      n_abs := PySem.W.mg_none_of X G z_abs,
      n_all := PySem.W.mg_none_of X G z_all,
      n_bool := PySem.W.mg_none_of X G z_bool,
      n_dict := PySem.W.mg_none_of X G z_dict,
      n_divmod := PySem.W.mg_none_of X G z_divmod,
      n_enumerate := PySem.W.mg_none_of X G z_enumerate,
      n_int := PySem.W.mg_none_of X G z_int,
      n_isinstance := PySem.W.mg_none_of X G z_isinstance,
      n_len := PySem.W.mg_none_of X G z_len,
      n_list := PySem.W.mg_none_of X G z_list,
      n_min := PySem.W.mg_none_of X G z_min,
      n_range := PySem.W.mg_none_of X G z_range,
      n_repr := PySem.W.mg_none_of X G z_repr,
      n_sorted := PySem.W.mg_none_of X G z_sorted,
      n_str := PySem.W.mg_none_of X G z_str,
      n_sum := PySem.W.mg_none_of X G z_sum,
      n_tuple := PySem.W.mg_none_of X G z_tuple,
      g_LETTERS := ⟨t_LETTERS, PySem.W.mg_of X G k_LETTERS⟩,
      g_LONGEST_NAME := ⟨t_LONGEST_NAME, PySem.W.mg_of X G k_LONGEST_NAME⟩,
      g_MOST_CAP := ⟨t_MOST_CAP, PySem.W.mg_of X G k_MOST_CAP⟩,
      g_MOST_KINDS := ⟨t_MOST_KINDS, PySem.W.mg_of X G k_MOST_KINDS⟩,
      g_MOST_WEIGHT := ⟨t_MOST_WEIGHT, PySem.W.mg_of X G k_MOST_WEIGHT⟩,
      fl_r_skipped := (allC_cons mg_Songs (⟨cl_Songs, na_Songs_r_skipped⟩) (allC_cons mg_Rule (⟨cl_Rule, na_Rule_r_skipped⟩) allC_nil)),
      fl_r_spread := (allC_cons mg_Songs (⟨cl_Songs, na_Songs_r_spread⟩) (allC_cons mg_Rule (⟨cl_Rule, na_Rule_r_spread⟩) allC_nil)),
      fl_r_weights := (allC_cons mg_Songs (⟨cl_Songs, na_Songs_r_weights⟩) (allC_cons mg_Rule (⟨cl_Rule, na_Rule_r_weights⟩) allC_nil)),
      fl_s_numbers := (allC_cons mg_Songs (⟨cl_Songs, na_Songs_s_numbers⟩) (allC_cons mg_Rule (⟨cl_Rule, na_Rule_s_numbers⟩) allC_nil)) }
  have K__law_begin : FK P w K mg base 1 a__law_begin _ ["_law_script"] (spF ⟨K, mg⟩ f__law_begin 1) := fk_fn F__law_begin sc__law_begin rfl (d__law_begin T )
  have K__law_take : FK P w K mg base 1 a__law_take _ ["_law_draw", "_law_size"] (spF ⟨K, mg⟩ f__law_take 2) := fk_fn F__law_take sc__law_take rfl (d__law_take T )
  have K__law_pick : FK P w K mg base 2 a__law_pick _ ["_law_draw", "_law_some"] (spF ⟨K, mg⟩ f__law_pick 2) := fk_fn F__law_pick sc__law_pick rfl (d__law_pick T (by exact ⟨a__law_take, _, _, PySem.W.mg_of X G f_a__law_take, kp__law_take, b__law_take, K__law_take⟩))
  have K__law_some_names : FK P w K mg base 3 a__law_some_names _ ["_law_draw", "_law_many"] (spF ⟨K, mg⟩ f__law_some_names 2) := fk_fn F__law_some_names sc__law_some_names rfl (d__law_some_names T (by exact ⟨a__law_pick, _, _, PySem.W.mg_of X G f_a__law_pick, kp__law_pick, b__law_pick, K__law_pick⟩) (by exact ⟨a__law_take, _, _, PySem.W.mg_of X G f_a__law_take, kp__law_take, b__law_take, K__law_take⟩))
  have K__law_drawn_case : FK P w K mg base 4 a__law_drawn_case _ ["_law_draw", "_law_cap", "_law_kinds", "_law_most"] (spF ⟨K, mg⟩ f__law_drawn_case 4) := fk_fn F__law_drawn_case sc__law_drawn_case rfl (d__law_drawn_case T (by exact ⟨a__law_pick, _, _, PySem.W.mg_of X G f_a__law_pick, kp__law_pick, b__law_pick, K__law_pick⟩) (by exact ⟨a__law_take, _, _, PySem.W.mg_of X G f_a__law_take, kp__law_take, b__law_take, K__law_take⟩) (by exact ⟨a__law_some_names, _, _, PySem.W.mg_of X G f_a__law_some_names, kp__law_some_names, b__law_some_names, K__law_some_names⟩))
  have K_is_name : FK P w K mg base 1 a_is_name _ ["thing"] (spF ⟨K, mg⟩ f_is_name 1) := fk_fn F_is_name sc_is_name rfl (d_is_name T )
  have K_is_integer : FK P w K mg base 1 a_is_integer _ ["thing"] (spF ⟨K, mg⟩ f_is_integer 1) := fk_fn F_is_integer sc_is_integer rfl (d_is_integer T )
  have K_is_number : FK P w K mg base 2 a_is_number _ ["thing"] (spF ⟨K, mg⟩ f_is_number 1) := fk_fn F_is_number sc_is_number rfl (d_is_number T (by exact ⟨a_is_integer, _, _, PySem.W.mg_of X G f_a_is_integer, kp_is_integer, b_is_integer, K_is_integer⟩))
  have K_Songs_init : FK P w K mg base 3 a_Songs_init _ ["self", "numbers"] (spF ⟨K, mg⟩ f_Songs_init 2) := fk_fn F_Songs_init sc_Songs_init rfl (d_Songs_init T (by exact ⟨a_is_name, _, _, PySem.W.mg_of X G f_a_is_name, kp_is_name, b_is_name, K_is_name⟩) (by exact ⟨a_is_number, _, _, PySem.W.mg_of X G f_a_is_number, kp_is_number, b_is_number, K_is_number⟩))
  have K__law_songs_in : FK P w K mg base 5 a__law_songs_in _ ["_law_case"] (spF ⟨K, mg⟩ f__law_songs_in 1) := fk_fn F__law_songs_in sc__law_songs_in rfl (d__law_songs_in T (by exact ⟨C_Songs, a_Songs_init, _, _, [], [], mg_Songs, ⟨f_m_Songs_init, f_a_Songs_init, f_i_Songs_init, f_c_Songs_init⟩, b_Songs_init, .nil, fun _ _ => .nil, K_Songs_init⟩))
  have K_are_weights : FK P w K mg base 3 a_are_weights _ ["thing", "least", "most"] (spF ⟨K, mg⟩ f_are_weights 3) := fk_fn F_are_weights sc_are_weights rfl (d_are_weights T (by exact ⟨a_is_number, _, _, PySem.W.mg_of X G f_a_is_number, kp_is_number, b_is_number, K_is_number⟩))
  have K_Rule_init : FK P w K mg base 4 a_Rule_init _ ["self", "weights", "skipped", "spread"] (spF ⟨K, mg⟩ f_Rule_init 4) := fk_fd F_Rule_init sc_Rule_init rfl (d_Rule_init T (by exact ⟨a_are_weights, _, _, PySem.W.mg_of X G f_a_are_weights, kp_are_weights, b_are_weights, K_are_weights⟩) (by exact ⟨a_is_number, _, _, PySem.W.mg_of X G f_a_is_number, kp_is_number, b_is_number, K_is_number⟩))
  have K__law_rule_of : FK P w K mg base 6 a__law_rule_of _ ["_law_case"] (spF ⟨K, mg⟩ f__law_rule_of 1) := fk_fn F__law_rule_of sc__law_rule_of rfl (d__law_rule_of T (by exact ⟨C_Rule, a_Rule_init, _, _, [], [], mg_Rule, ⟨f_m_Rule_init, f_a_Rule_init, f_i_Rule_init, f_c_Rule_init⟩, binds_df 4 rfl fun s us kin hl => (match us, hl with | [_, _, _, _], _ => PySem.W.binds_K kin rfl lT_Rule_init rfl rfl rfl), .nil, fun _ _ => .nil, K_Rule_init⟩))
  have K__law_any_standing : FK P w K mg base 3 a__law_any_standing _ ["_law_draw", "_law_case"] (spF ⟨K, mg⟩ f__law_any_standing 2) := fk_fn F__law_any_standing sc__law_any_standing rfl (d__law_any_standing T (by exact ⟨a__law_take, _, _, PySem.W.mg_of X G f_a__law_take, kp__law_take, b__law_take, K__law_take⟩) (by exact ⟨a__law_pick, _, _, PySem.W.mg_of X G f_a__law_pick, kp__law_pick, b__law_pick, K__law_pick⟩))
  have K__law_rows_at : FK P w K mg base 1 a__law_rows_at _ ["_law_case", "_law_stand_here"] (spF ⟨K, mg⟩ f__law_rows_at 2) := fk_fn F__law_rows_at sc__law_rows_at rfl (d__law_rows_at T )
  have K__law_drawn_on : FK P w K mg base 1 a__law_drawn_on _ ["_law_stand_here", "_law_place", "_law_was_skipped"] (spF ⟨K, mg⟩ f__law_drawn_on 3) := fk_fn F__law_drawn_on sc__law_drawn_on rfl (d__law_drawn_on T )
  have K_Rule_cap : FK P w K mg base 1 a_Rule_cap _ ["self"] (spF ⟨K, mg⟩ f_Rule_cap 1) := fk_fn F_Rule_cap sc_Rule_cap rfl (d_Rule_cap T )
  have K_Songs_contains : FK P w K mg base 1 a_Songs_contains _ ["self", "kind"] (spF ⟨K, mg⟩ f_Songs_contains 2) := fk_fn F_Songs_contains sc_Songs_contains rfl (d_Songs_contains T )
  have K_is_item : FK P w K mg base 2 a_is_item _ ["songs", "thing"] (spF ⟨K, mg⟩ f_is_item 2) := fk_fn F_is_item sc_is_item rfl (d_is_item T (by exact ⟨C_Songs, a_Songs_contains, _, _, mg_Songs, f_a_Songs_contains, f_i_Songs_contains, b_Songs_contains, K_Songs_contains⟩))
  have K_counts_in : FK P w K mg base 1 a_counts_in _ ["standing"] (spF ⟨K, mg⟩ f_counts_in 1) := fk_fn F_counts_in sc_counts_in rfl (d_counts_in T )
  have K_need_kind : FK P w K mg base 1 a_need_kind _ ["songs", "kind"] (spF ⟨K, mg⟩ f_need_kind 2) := fk_fn F_need_kind sc_need_kind rfl (d_need_kind T )
  have K_Songs_getitem : FK P w K mg base 2 a_Songs_getitem _ ["self", "kind"] (spF ⟨K, mg⟩ f_Songs_getitem 2) := fk_fn F_Songs_getitem sc_Songs_getitem rfl (d_Songs_getitem T (by exact ⟨a_need_kind, _, _, PySem.W.mg_of X G f_a_need_kind, kp_need_kind, b_need_kind, K_need_kind⟩))
  have K_is_standing : FK P w K mg base 4 a_is_standing _ ["rule", "songs", "thing"] (spF ⟨K, mg⟩ f_is_standing 3) := fk_fn F_is_standing sc_is_standing rfl (d_is_standing T (by exact ⟨C_Rule, p_Rule_cap, a_Rule_cap, _, _, mg_Rule, cl_Rule, ⟨f_p_Rule_cap, f_g_Rule_cap, f_t_Rule_cap, ⟨_, f_r_Rule_cap⟩⟩, b_Rule_cap, K_Rule_cap⟩) (by exact ⟨a_is_item, _, _, PySem.W.mg_of X G f_a_is_item, kp_is_item, b_is_item, K_is_item⟩) (by exact ⟨a_counts_in, _, _, PySem.W.mg_of X G f_a_counts_in, kp_counts_in, b_counts_in, K_counts_in⟩) (by exact ⟨C_Songs, a_Songs_getitem, _, _, mg_Songs, f_a_Songs_getitem, (by unfold PySem.W.fnIn; rw [l_Songs_getitem]), f_i_Songs_getitem, b_Songs_getitem, K_Songs_getitem⟩))
  have K_need_standing : FK P w K mg base 5 a_need_standing _ ["rule", "songs", "standing"] (spF ⟨K, mg⟩ f_need_standing 3) := fk_fn F_need_standing sc_need_standing rfl (d_need_standing T (by exact ⟨a_is_standing, _, _, PySem.W.mg_of X G f_a_is_standing, kp_is_standing, b_is_standing, K_is_standing⟩))
  have K_ages_in : FK P w K mg base 1 a_ages_in _ ["standing"] (spF ⟨K, mg⟩ f_ages_in 1) := fk_fn F_ages_in sc_ages_in rfl (d_ages_in T )
  have K_Songs_numbers : FK P w K mg base 1 a_Songs_numbers _ ["self"] (spF ⟨K, mg⟩ f_Songs_numbers 1) := fk_fn F_Songs_numbers sc_Songs_numbers rfl (d_Songs_numbers T )
  have K_old_songs : FK P w K mg base 3 a_old_songs _ ["songs", "standing"] (spF ⟨K, mg⟩ f_old_songs 2) := fk_fn F_old_songs sc_old_songs rfl (d_old_songs T (by exact ⟨C_Songs, p_Songs_numbers, a_Songs_numbers, _, _, mg_Songs, cl_Songs, ⟨f_p_Songs_numbers, f_g_Songs_numbers, f_t_Songs_numbers, ⟨_, f_r_Songs_numbers⟩⟩, b_Songs_numbers, K_Songs_numbers⟩) (by exact ⟨a_counts_in, _, _, PySem.W.mg_of X G f_a_counts_in, kp_counts_in, b_counts_in, K_counts_in⟩))
  have K_is_place : FK P w K mg base 4 a_is_place _ ["songs", "standing", "thing"] (spF ⟨K, mg⟩ f_is_place 3) := fk_fn F_is_place sc_is_place rfl (d_is_place T (by exact ⟨a_is_integer, _, _, PySem.W.mg_of X G f_a_is_integer, kp_is_integer, b_is_integer, K_is_integer⟩) (by exact ⟨a_ages_in, _, _, PySem.W.mg_of X G f_a_ages_in, kp_ages_in, b_ages_in, K_ages_in⟩) (by exact ⟨a_old_songs, _, _, PySem.W.mg_of X G f_a_old_songs, kp_old_songs, b_old_songs, K_old_songs⟩))
  have K_is_step : FK P w K mg base 5 a_is_step _ ["songs", "standing", "thing"] (spF ⟨K, mg⟩ f_is_step 3) := fk_fn F_is_step sc_is_step rfl (d_is_step T (by exact ⟨a_is_place, _, _, PySem.W.mg_of X G f_a_is_place, kp_is_place, b_is_place, K_is_place⟩))
  have K_drawn : FK P w K mg base 2 a_drawn _ ["standing", "place", "was_skipped"] (spF ⟨K, mg⟩ f_drawn 3) := fk_fn F_drawn sc_drawn rfl (d_drawn T (by exact ⟨a_is_integer, _, _, PySem.W.mg_of X G f_a_is_integer, kp_is_integer, b_is_integer, K_is_integer⟩))
  have K_behind : FK P w K mg base 6 a_behind _ ["rule", "songs", "standing", "step"] (spF ⟨K, mg⟩ f_behind 4) := fk_fn F_behind sc_behind rfl (d_behind T (by exact ⟨a_need_standing, _, _, PySem.W.mg_of X G f_a_need_standing, kp_need_standing, b_need_standing, K_need_standing⟩) (by exact ⟨a_is_step, _, _, PySem.W.mg_of X G f_a_is_step, kp_is_step, b_is_step, K_is_step⟩) (by exact ⟨a_drawn, _, _, PySem.W.mg_of X G f_a_drawn, kp_drawn, b_drawn, K_drawn⟩))
  have K__law_first_one : FK P w K mg base 1 a__law_first_one _ ["_law_case"] (spF ⟨K, mg⟩ f__law_first_one 1) := fk_fn F__law_first_one sc__law_first_one rfl (d__law_first_one T )
  have K__law_of_songs : FK P w K mg base 1 a__law_of_songs _ ["_law_case", "_law_plays"] (spF ⟨K, mg⟩ f__law_of_songs 2) := fk_fn F__law_of_songs sc__law_of_songs rfl (d__law_of_songs T )
  have K__law_rows_right : FK P w K mg base 7 a__law_rows_right _ ["_law_draw", "_law_case"] (spF ⟨K, mg⟩ f__law_rows_right 2) := fk_fn F__law_rows_right sc__law_rows_right rfl (d__law_rows_right T (by exact ⟨a__law_songs_in, _, _, PySem.W.mg_of X G f_a__law_songs_in, kp__law_songs_in, b__law_songs_in, K__law_songs_in⟩) (by exact ⟨a__law_rule_of, _, _, PySem.W.mg_of X G f_a__law_rule_of, kp__law_rule_of, b__law_rule_of, K__law_rule_of⟩) (by exact ⟨a__law_first_one, _, _, PySem.W.mg_of X G f_a__law_first_one, kp__law_first_one, b__law_first_one, K__law_first_one⟩) (by exact ⟨a__law_take, _, _, PySem.W.mg_of X G f_a__law_take, kp__law_take, b__law_take, K__law_take⟩) (by exact ⟨a__law_pick, _, _, PySem.W.mg_of X G f_a__law_pick, kp__law_pick, b__law_pick, K__law_pick⟩) (by exact ⟨a_behind, _, _, PySem.W.mg_of X G f_a_behind, kp_behind, b_behind, K_behind⟩) (by exact ⟨a__law_of_songs, _, _, PySem.W.mg_of X G f_a__law_of_songs, kp__law_of_songs, b__law_of_songs, K__law_of_songs⟩) (by exact ⟨a_is_standing, _, _, PySem.W.mg_of X G f_a_is_standing, kp_is_standing, b_is_standing, K_is_standing⟩))
  have K_law : FK P w K mg base 8 fa _ ["_law_script"] (spF ⟨K, mg⟩ f_law 1) := fk_fn F_law sc_law rfl (d_law T (by exact ⟨a__law_begin, _, _, PySem.W.mg_of X G f_a__law_begin, kp__law_begin, b__law_begin, K__law_begin⟩) (by exact ⟨a__law_drawn_case, _, _, PySem.W.mg_of X G f_a__law_drawn_case, kp__law_drawn_case, b__law_drawn_case, K__law_drawn_case⟩) (by exact ⟨a__law_pick, _, _, PySem.W.mg_of X G f_a__law_pick, kp__law_pick, b__law_pick, K__law_pick⟩) (by exact ⟨a__law_songs_in, _, _, PySem.W.mg_of X G f_a__law_songs_in, kp__law_songs_in, b__law_songs_in, K__law_songs_in⟩) (by exact ⟨a__law_rule_of, _, _, PySem.W.mg_of X G f_a__law_rule_of, kp__law_rule_of, b__law_rule_of, K__law_rule_of⟩) (by exact ⟨a__law_any_standing, _, _, PySem.W.mg_of X G f_a__law_any_standing, kp__law_any_standing, b__law_any_standing, K__law_any_standing⟩) (by exact ⟨a__law_rows_at, _, _, PySem.W.mg_of X G f_a__law_rows_at, kp__law_rows_at, b__law_rows_at, K__law_rows_at⟩) (by exact ⟨a__law_drawn_on, _, _, PySem.W.mg_of X G f_a__law_drawn_on, kp__law_drawn_on, b__law_drawn_on, K__law_drawn_on⟩) (by exact ⟨a_behind, _, _, PySem.W.mg_of X G f_a_behind, kp_behind, b_behind, K_behind⟩) (by exact ⟨a_behind, _, _, [], [], PySem.W.mg_of X G f_a_behind, kp_behind, fun s us ws _ h1 h2 => (match us, ws, h1, h2 with | [], [_, _, _, _], _, _ => .of_eq rfl), .nil, fun _ _ => .nil, K_behind⟩) (by exact ⟨a__law_rows_right, _, _, PySem.W.mg_of X G f_a__law_rows_right, kp__law_rows_right, b__law_rows_right, K__law_rows_right⟩))
  exact K_law
end
end U
/-! Layer B, part 1: what a mirror's result must answer (no exception, no break), rule by rule. -/
namespace U
open PySem L2

/-- the result is a value, and Q holds of it -/
inductive Wp {α : Type} : Res α → (α → Hh → Prop) → Prop
  | ok {a : α} {h : Hh} {Q : α → Hh → Prop} : Q a h → Wp (.ok a h) Q
/-- the statement goes on, or returns -/
inductive WpF : Fl → (Loc → Hh → Prop) → (Val → Hh → Prop) → Prop
  | nx {σ : Loc} {h : Hh} {N : Loc → Hh → Prop} {R : Val → Hh → Prop} : N σ h → WpF (.nx σ h) N R
  | rt {v : Val} {h : Hh} {N : Loc → Hh → Prop} {R : Val → Hh → Prop} : R v h → WpF (.rt v h) N R
section
variable {α β : Type} {r : Res α} {Q Q' : α → Hh → Prop} {σ : Loc} {h : Hh} {N N' : Loc → Hh → Prop} {R R' : Val → Hh → Prop} {a b c : ME} {f g : Val → Val → Hh → Res Val} {QV : Val → Hh → Prop} {QB : Bool → Hh → Prop} {QL : List Val → Hh → Prop}
@[simp] theorem wp_ok (a : α) (h : Hh) : Wp (.ok a h) Q ↔ Q a h := ⟨fun w => by cases w; assumption, .ok⟩
@[simp] theorem wp_no : Wp (.no : Res α) Q ↔ False := ⟨fun w => (by cases w), False.elim⟩
@[simp] theorem wp_rs (x : Xc) (h : Hh) : Wp (.rs x h : Res α) Q ↔ False := ⟨fun w => (by cases w), False.elim⟩
@[simp] theorem wp_bind (k : α → Hh → Res β) (Q : β → Hh → Prop) : Wp (r.bind k) Q ↔ Wp r fun a h => Wp (k a h) Q := by cases r <;> simp
@[simp] theorem wp_nr : Wp r.nr Q ↔ Wp r Q := by cases r <;> simp [Res.nr]
theorem Wp.mono (w : Wp r Q) (k : ∀ a h, Q a h → Q' a h) : Wp r Q' := by
  cases w with
  | ok w => exact .ok (k _ _ w)
theorem Wp.ex (w : Wp r Q) : ∃ a h, r = .ok a h ∧ Q a h := by
  cases w with
  | ok w => exact ⟨_, _, rfl, w⟩
theorem wp_ite (p : Prop) [Decidable p] (x y : Res α) : Wp (if p then x else y) Q ↔ (if p then Wp x Q else Wp y Q) := by split <;> rfl
theorem wp_ifT {p : Prop} [Decidable p] {x y : Res α} (hp : p) (w : Wp x Q) : Wp (if p then x else y) Q := by rw [if_pos hp]; exact w
theorem wp_ifF {p : Prop} [Decidable p] {x y : Res α} (hp : ¬ p) (w : Wp y Q) : Wp (if p then x else y) Q := by rw [if_neg hp]; exact w
@[simp] theorem wpf_nx (σ : Loc) (h : Hh) : WpF (.nx σ h) N R ↔ N σ h := ⟨fun w => by cases w; assumption, .nx⟩
@[simp] theorem wpf_rt (v : Val) (h : Hh) : WpF (.rt v h) N R ↔ R v h := ⟨fun w => by cases w; assumption, .rt⟩
@[simp] theorem wpf_no : WpF .no N R ↔ False := ⟨fun w => (by cases w), False.elim⟩
@[simp] theorem wpf_bk (σ : Loc) (h : Hh) : WpF (.bk σ h) N R ↔ False := ⟨fun w => (by cases w), False.elim⟩
@[simp] theorem wpf_ct (σ : Loc) (h : Hh) : WpF (.ct σ h) N R ↔ False := ⟨fun w => (by cases w), False.elim⟩
@[simp] theorem wpf_rs (x : Xc) (σ : Loc) (h : Hh) : WpF (.rs x σ h) N R ↔ False := ⟨fun w => (by cases w), False.elim⟩
@[simp] theorem wpf_fl (k : α → Hh → Fl) : WpF (r.fl σ k) N R ↔ Wp r fun a h => WpF (k a h) N R := by cases r <;> simp
@[simp] theorem wpf_next (r : Fl) (k : MS) : WpF (r.next k) N R ↔ WpF r (fun σ h => WpF (k σ h) N R) R := by cases r <;> simp
theorem WpF.mono {r : Fl} (w : WpF r N R) (k1 : ∀ σ h, N σ h → N' σ h) (k2 : ∀ v h, R v h → R' v h) : WpF r N' R' := by
  cases w with
  | nx w => exact .nx (k1 _ _ w)
  | rt w => exact .rt (k2 _ _ w)
theorem wpf_ifT {p : Prop} [Decidable p] {x y : Fl} (hp : p) (w : WpF x N R) : WpF (if p then x else y) N R := by rw [if_pos hp]; exact w
theorem wpf_ifF {p : Prop} [Decidable p] {x y : Fl} (hp : ¬ p) (w : WpF y N R) : WpF (if p then x else y) N R := by rw [if_neg hp]; exact w
/-! the terms -/
@[simp] theorem w_C (v : Val) : Wp (mC v σ h) QV ↔ QV v h := wp_ok _ _
theorem w_var {i : Nat} {v : Val} (e : σ[i]? = some (some v)) : Wp (mVar i σ h) QV ↔ QV v h := by unfold mVar; rw [e]; exact wp_ok _ _
@[simp] theorem w_var0 (x : Val) (r : Loc) : mVar 0 (some x :: r) h = .ok x h := rfl
@[simp] theorem w_varS (n : Nat) (x : Option Val) (r : Loc) : mVar (n + 1) (x :: r) h = mVar n r h := by unfold mVar; simp
@[simp] theorem w_op : Wp (mOp f a b σ h) QV ↔ Wp (a σ h) fun x h1 => Wp (b σ h1) fun y h2 => Wp (f x y h2) QV := by simp [mOp]
@[simp] theorem w_un (f : Val → Hh → Res Val) : Wp (mUn f a σ h) QV ↔ Wp (a σ h) fun x h1 => Wp (f x h1) QV := by simp [mUn]
@[simp] theorem w_anil : Wp (maNil σ h) QL ↔ QL [] h := wp_ok _ _
@[simp] theorem w_acons (m : MA) : Wp (maCons a m σ h) QL ↔ Wp (a σ h) fun x h1 => Wp (m σ h1) fun xs h2 => QL (x :: xs) h2 := by simp [maCons]
@[simp] theorem w_app (F : Fn) (m : MA) : Wp (mApp F m σ h) QV ↔ Wp (m σ h) fun vs h1 => Wp (F vs h1) QV := by simp [mApp]
@[simp] theorem w_chain : Wp (mChain f g a b c σ h) QV ↔ Wp (a σ h) fun x h1 => Wp (b σ h1) fun y h2 => Wp (f x y h2) fun z h3 => (match z with
  | .bl true => Wp (c σ h3) fun w h4 => Wp (g y w h4) QV
  | .bl false => QV (.bl false) h3
  | _ => False) := by
  unfold mChain
  simp only [wp_bind]
  refine iff_of_eq (congrArg _ (funext fun x => funext fun h1 => congrArg _ (funext fun y => funext fun h2 => congrArg _ (funext fun z => funext fun h3 => ?_))))
  cases z with
  | bl b => cases b <;> simp
  | _ => simp
@[simp] theorem w_and : Wp (mAnd a b σ h) QV ↔ Wp (a σ h) fun x h1 => (match x with
  | .bl true => Wp (b σ h1) QV
  | .bl false => QV (.bl false) h1
  | _ => False) := by
  unfold mAnd
  simp only [wp_bind]
  refine iff_of_eq (congrArg _ (funext fun z => funext fun h3 => ?_))
  cases z with
  | bl b => cases b <;> simp
  | _ => simp
@[simp] theorem w_or : Wp (mOr a b σ h) QV ↔ Wp (a σ h) fun x h1 => (match x with
  | .bl true => QV (.bl true) h1
  | .bl false => Wp (b σ h1) QV
  | _ => False) := by
  unfold mOr
  simp only [wp_bind]
  refine iff_of_eq (congrArg _ (funext fun z => funext fun h3 => ?_))
  cases z with
  | bl b => cases b <;> simp
  | _ => simp
@[simp] theorem w_not : Wp (mNot a σ h) QV ↔ Wp (a σ h) fun x h1 => (match truth x h1 with
  | some b => QV (.bl !b) h1
  | none => False) := by
  unfold mNot
  simp only [wp_bind]
  refine iff_of_eq (congrArg _ (funext fun z => funext fun h3 => ?_))
  cases truth z h3 <;> simp
@[simp] theorem w_if (t : MT) : Wp (mIf t a b σ h) QV ↔ Wp (t σ h) fun c h1 => if c = true then Wp (a σ h1) QV else Wp (b σ h1) QV := by
  unfold mIf; simp only [wp_bind, wp_ite]
@[simp] theorem w_tval : Wp (tVal a σ h) QB ↔ Wp (a σ h) fun x h1 => (match truth x h1 with
  | some b => QB b h1
  | none => False) := by
  unfold tVal
  simp only [wp_bind]
  refine iff_of_eq (congrArg _ (funext fun z => funext fun h3 => ?_))
  cases truth z h3 <;> simp
@[simp] theorem w_tand (a b : MT) : Wp (tAnd2 a b σ h) QB ↔ Wp (a σ h) fun c h1 => if c = true then Wp (b σ h1) QB else QB false h1 := by
  unfold tAnd2; simp only [wp_bind, wp_ite, wp_ok]
@[simp] theorem w_tor (a b : MT) : Wp (tOr2 a b σ h) QB ↔ Wp (a σ h) fun c h1 => if c = true then QB true h1 else Wp (b σ h1) QB := by
  unfold tOr2; simp only [wp_bind, wp_ite, wp_ok]
@[simp] theorem w_tnot (a : MT) : Wp (tNot1 a σ h) QB ↔ Wp (a σ h) fun c h1 => QB (!c) h1 := by
  unfold tNot1; simp only [wp_bind, wp_ok]
@[simp] theorem w_tbl : Wp (tBl a σ h) QB ↔ Wp (a σ h) fun x h1 => (match x with
  | .bl b => QB b h1
  | _ => False) := by
  unfold tBl
  simp only [wp_bind]
  refine iff_of_eq (congrArg _ (funext fun z => funext fun h3 => ?_))
  cases z <;> simp
@[simp] theorem w_ttrue : Wp (tTrue σ h) QB ↔ QB true h := wp_ok _ _
/-! the statements -/
variable {ms mr : MS} {t : MT}
@[simp] theorem f_nil : WpF (msNil σ h) N R ↔ N σ h := wpf_nx _ _
@[simp] theorem f_seq : WpF (msSeq ms mr σ h) N R ↔ WpF (ms σ h) (fun σ h => WpF (mr σ h) N R) R := by simp [msSeq]
@[simp] theorem f_if : WpF (msIf t ms mr σ h) N R ↔ Wp (t σ h) fun c h1 => if c = true then WpF (ms σ h1) N R else WpF (mr σ h1) N R := by
  unfold msIf
  simp only [wpf_fl]
  refine iff_of_eq (congrArg _ (funext fun c => funext fun h3 => ?_))
  cases c <;> simp
@[simp] theorem f_ret : WpF (msRet a σ h) N R ↔ Wp (a σ h) R := by simp [msRet]
@[simp] theorem f_retN : WpF (msRetN σ h) N R ↔ R .non h := wpf_rt _ _
@[simp] theorem f_expr : WpF (msExpr a σ h) N R ↔ Wp (a σ h) fun _ h1 => N σ h1 := by simp [msExpr]
@[simp] theorem f_no : WpF (msNo σ h) N R ↔ False := wpf_no
@[simp] theorem f_asg (g : MG) : WpF (msAsg a g σ h) N R ↔ Wp (a σ h) fun v h1 => WpF (g v σ h1) N R := by simp [msAsg]
@[simp] theorem f_name (i : Nat) (v : Val) : WpF (mgName i v σ h) N R ↔ N (σ.set i (some v)) h := wpf_nx _ _
@[simp] theorem f_tup (n : Nat) (gs : MGs) (vs : List Val) : WpF (mgTup n gs (.tup vs) σ h) N R ↔ vs.length = n ∧ WpF (gs vs σ h) N R := by
  unfold mgTup
  by_cases e : vs.length = n <;> simp [e]
@[simp] theorem f_gnil : WpF (mgNil [] σ h) N R ↔ N σ h := wpf_nx _ _
@[simp] theorem f_gcons (g : MG) (gs : MGs) (v : Val) (vs : List Val) : WpF (mgCons g gs (v :: vs) σ h) N R ↔ WpF (g v σ h) (fun σ h => WpF (gs vs σ h) N R) R := by simp [mgCons]
@[simp] theorem f_sub (mo mi : ME) (v : Val) : WpF (mgSub mo mi v σ h) N R ↔ Wp (mo σ h) fun o h1 => Wp (mi σ h1) fun i h2 => (match vSet o i v h2 with
  | some h3 => N σ h3
  | none => False) := by
  unfold mgSub
  cases mo σ h with
  | ok o h1 =>
    simp only [wp_ok]
    cases mi σ h1 with
    | ok i h2 =>
      simp only [wp_ok]
      cases vSet o i v h2 <;> simp
    | _ => simp
  | _ => simp
@[simp] theorem f_par (i j : Nat) (m : MA) : WpF (msPar i j m σ h) N R ↔ Wp (m σ h) fun vs h1 => (match vs with
  | [v, w] => N ((σ.set i (some v)).set j (some w)) h1
  | _ => False) := by
  unfold msPar
  simp only [wpf_fl]
  refine iff_of_eq (congrArg _ (funext fun vs => funext fun h3 => ?_))
  match vs with
  | [] => simp
  | [_] => simp
  | [_, _] => simp
  | _ :: _ :: _ :: _ => simp
@[simp] theorem f_par3 (i j l : Nat) (m : MA) : WpF (msPar3 i j l m σ h) N R ↔ Wp (m σ h) fun vs h1 => (match vs with
  | [u, v, w] => N (((σ.set i (some u)).set j (some v)).set l (some w)) h1
  | _ => False) := by
  unfold msPar3
  simp only [wpf_fl]
  refine iff_of_eq (congrArg _ (funext fun vs => funext fun h3 => ?_))
  match vs with
  | [] => simp
  | [_] => simp
  | [_, _] => simp
  | [_, _, _] => simp
  | _ :: _ :: _ :: _ :: _ => simp
def setF (cs : List Str) (f : Str) (x y : Val) (h : Hh) : Option Hh := match x with
  | .ref n => (match h[n]? with
    | some (.ins C fs) => if C ∈ cs ∧ fs.length < 1000 then some (h.set n (.ins C (putFv f y fs))) else none
    | _ => none)
  | _ => none
theorem setF_ok {cs : List Str} {f C : Str} {n : Nat} {y : Val} {fs : List (Str × Val)} (e : h[n]? = some (.ins C fs)) (hc : C ∈ cs) (hf : fs.length < 1000) : setF cs f (.ref n) y h = some (h.set n (.ins C (putFv f y fs))) := by
  simp only [setF, e, if_pos (And.intro hc hf)]
@[simp] theorem f_fld (cs : List Str) (f : Str) (mo mv : ME) : WpF (msFld cs f mo mv σ h) N R ↔ Wp (mv σ h) fun y h1 => Wp (mo σ h1) fun x h2 => (match setF cs f x y h2 with
  | some h3 => N σ h3
  | none => False) := by
  unfold msFld
  simp only [wpf_fl]
  refine iff_of_eq (congrArg _ (funext fun y => funext fun h1 => congrArg _ (funext fun x => funext fun h2 => ?_)))
  unfold setF
  cases x with
  | ref n =>
    dsimp only
    cases h2[n]? with
    | none => simp
    | some o =>
      cases o with
      | ins C fs =>
        dsimp only
        split <;> simp
      | _ => simp
  | _ => simp
/-! defs -/
theorem w_fn (n : Nat) (b : MS) (vs : List Val) : Wp (mkFn n b vs h) QV ↔ WpF (b (vs.map some ++ List.replicate (n - vs.length) none) h) (fun _ h' => QV .non h') QV := by
  unfold mkFn
  cases b (vs.map some ++ List.replicate (n - vs.length) none) h <;> simp
@[simp] theorem w_callF (n : Nat) (F : Fn) (vs : List Val) : Wp (callF n F vs h) QV ↔ vs.length = n ∧ Wp (F vs h) QV := by
  unfold callF
  by_cases e : vs.length = n <;> simp [e]
/-! loops -/
theorem forV_wp {src : Hh → Prop} {body : Val → MS} (I : Nat → Loc → Hh → Prop) (hs : ∀ k σ h, I k σ h → src h) : ∀ (vs : List Val) (k : Nat) {σ : Loc} {h : Hh}, I k σ h →
    (∀ j v σ' h', vs[j]? = some v → I (k + j) σ' h' → WpF (body v σ' h') (I (k + j + 1)) R) → (∀ σ' h', I (k + vs.length) σ' h' → N σ' h') → WpF (forV src body vs σ h) N R
  | [], k, σ, h, i, _, e => by
    unfold forV
    rw [if_pos (hs k σ h i)]
    exact .nx (e σ h i)
  | v :: vs, k, σ, h, i, st, e => by
    unfold forV
    rw [if_pos (hs k σ h i)]
    have w := st 0 v σ h rfl i
    cases q : body v σ h with
    | nx σ' h' =>
      rw [q, wpf_nx] at w
      refine forV_wp I hs vs (k + 1) (show I (k + 1) σ' h' from w) (fun j v σ' h' ev i' => ?_) fun σ' h' i' => e σ' h' (by rw [List.length_cons, show k + (vs.length + 1) = k + 1 + vs.length by omega]; exact i')
      have := st (j + 1) v σ' h' (by simpa using ev) (by rw [show k + (j + 1) = k + 1 + j by omega]; exact i')
      rw [show k + (j + 1) + 1 = k + 1 + j + 1 by omega] at this
      exact this
    | rt v' h' => rw [q, wpf_rt] at w; exact .rt w
    | bk _ _ => rw [q] at w; cases w
    | ct _ _ => rw [q] at w; cases w
    | rs _ _ _ => rw [q] at w; cases w
    | no => rw [q] at w; cases w
theorem f_for {mi : MI} {g : MG} {b : MS} (I : Nat → Loc → Hh → Prop) (w : Wp (mi σ h) fun it h1 => it.lk = none ∧ I 0 σ h1 ∧ (∀ k σ' h', I k σ' h' → it.src h') ∧
    (∀ k v σ' h', it.items[k]? = some v → I k σ' h' → WpF (g v σ' h') (fun σ2 h2 => WpF (b σ2 h2) (I (k + 1)) R) R) ∧ ∀ σ' h', I it.items.length σ' h' → N σ' h') : WpF (msFor mi g b σ h) N R := by
  unfold msFor
  rw [wpf_fl]
  refine w.mono fun it h1 ⟨w1, w2, w3, w4, w5⟩ => ?_
  rw [w1]
  show WpF (forV it.src (fun v σ h => (g v σ h).next b) it.items σ h1) N R
  refine forV_wp I w3 it.items 0 w2 (fun j v σ' h' ev i => ?_) fun σ' h' i => w5 σ' h' (by simpa using i)
  rw [wpf_next]
  have := w4 j v σ' h' ev (by simpa using i)
  simpa using this
theorem lcV_wp {src : Hh → Prop} {n : Nat} {body : Val → Hh → Res (Option Val)} {Q : Unit → Hh → Prop} (I : Nat → List Val → Hh → Prop) (hs : ∀ k acc h, I k acc h → src h) : ∀ (vs : List Val) (k : Nat) {acc : List Val} {h : Hh}, I k acc h → h[n]? = some (.lst acc) → acc.length + vs.length ≤ sizeLine →
    (∀ j v acc' h', vs[j]? = some v → I (k + j) acc' h' → h'[n]? = some (.lst acc') → Wp (body v h') fun o h2 => h2[n]? = some (.lst acc') ∧ (match o with
      | none => I (k + j + 1) acc' h2
      | some y => I (k + j + 1) (acc' ++ [y]) (h2.set n (.lst (acc' ++ [y]))))) → (∀ acc' h', I (k + vs.length) acc' h' → h'[n]? = some (.lst acc') → Q () h') → Wp (lcV src n body vs h) Q
  | [], k, acc, h, i, hn, _, _, e => by
    unfold lcV
    rw [if_pos (hs k acc h i)]
    exact .ok (e acc h i hn)
  | v :: vs, k, acc, h, i, hn, hz, st, e => by
    unfold lcV
    rw [if_pos (hs k acc h i)]
    have w := st 0 v acc h rfl i hn
    rw [List.length_cons] at hz
    have st' : ∀ j v acc' h', vs[j]? = some v → I (k + 1 + j) acc' h' → h'[n]? = some (.lst acc') → Wp (body v h') fun o h2 => h2[n]? = some (.lst acc') ∧ (match o with
      | none => I (k + 1 + j + 1) acc' h2
      | some y => I (k + 1 + j + 1) (acc' ++ [y]) (h2.set n (.lst (acc' ++ [y])))) := fun j v acc' h' ev i' hn' => by
      have := st (j + 1) v acc' h' (by simpa using ev) (by rw [show k + (j + 1) = k + 1 + j by omega]; exact i') hn'
      rw [show k + (j + 1) + 1 = k + 1 + j + 1 by omega] at this
      exact this
    have e' : ∀ acc' h', I (k + 1 + vs.length) acc' h' → h'[n]? = some (.lst acc') → Q () h' := fun acc' h' i' => e acc' h' (by rw [List.length_cons, show k + (vs.length + 1) = k + 1 + vs.length by omega]; exact i')
    cases q : body v h with
    | ok o h' =>
      rw [q, wp_ok] at w
      cases o with
      | none => exact lcV_wp I hs vs (k + 1) (show I (k + 1) acc h' from w.2) w.1 (by omega) st' e'
      | some y =>
        have hp : push1 n y h' = some (h'.set n (.lst (acc ++ [y]))) := by
          unfold push1
          rw [w.1]
          dsimp only
          rw [if_pos (by omega)]
        dsimp only
        rw [hp]
        have hl : n < h'.length := (List.getElem?_eq_some_iff.mp w.1).1
        exact lcV_wp I hs vs (k + 1) (show I (k + 1) (acc ++ [y]) _ from w.2) (List.getElem?_set_self hl) (by rw [List.length_append, List.length_singleton]; omega) st' e'
    | rs _ _ => rw [q] at w; cases w
    | no => rw [q] at w; cases w
theorem w_lc {mi : MI} {vs : List Nat} {tg : Tg} {c : MT} {e : ME} (I : Itb → Hh → Nat → List Val → Hh → Prop) (w : Wp (mi σ h) fun it h1 => it.items.length ≤ sizeLine ∧ I it h1 0 [] (h1 ++ [.lst []]) ∧ (∀ k acc h', I it h1 k acc h' → it.src h') ∧
    (∀ k v acc h', it.items[k]? = some v → I it h1 k acc h' → h'[h1.length]? = some (.lst acc) → Wp (lcB vs tg c e σ v h') fun o h2 => h2[h1.length]? = some (.lst acc) ∧ (match o with
      | none => I it h1 (k + 1) acc h2
      | some y => I it h1 (k + 1) (acc ++ [y]) (h2.set h1.length (.lst (acc ++ [y]))))) ∧
    ∀ acc h', I it h1 it.items.length acc h' → h'[h1.length]? = some (.lst acc) → ∃ h3, unlH it.lk h' = some h3 ∧ QV (.ref h1.length) h3) : Wp (mLc mi vs tg c e σ h) QV := by
  unfold mLc
  rw [wp_bind]
  refine w.mono fun it h1 ⟨w0, w2, w3, w4, w5⟩ => ?_
  rw [wp_bind]
  refine lcV_wp (I it h1) w3 it.items 0 w2 (by simp) (by simpa using w0) (fun j v acc h' ev i hn => ?_) fun acc h' i hn => ?_
  · have := w4 j v acc h' ev (by simpa using i) hn
    simpa using this
  · obtain ⟨h3, q1, q2⟩ := w5 acc h' (by simpa using i) hn
    rw [q1]
    exact .ok q2
theorem f_forE {mi : MI} {g : MG} {b : MS} {it : Itb} {h1 : Hh} (I : Nat → Loc → Hh → Prop) (hm : mi σ h = .ok it h1) (hl : it.lk = none) (i0 : I 0 σ h1) (hs : ∀ k σ' h', I k σ' h' → it.src h')
    (st : ∀ k v σ' h', it.items[k]? = some v → I k σ' h' → WpF (g v σ' h') (fun σ2 h2 => WpF (b σ2 h2) (I (k + 1)) R) R) (e : ∀ σ' h', I it.items.length σ' h' → N σ' h') : WpF (msFor mi g b σ h) N R :=
  f_for I (by rw [hm]; exact .ok ⟨hl, i0, hs, st, e⟩)
/-! primitives at values -/
@[simp] theorem add_int (i j : Int) (h : Hh) : vAdd (.int i) (.int j) h = .ok (.int (i + j)) h := rfl
@[simp] theorem sub_int (i j : Int) (h : Hh) : vSub (.int i) (.int j) h = .ok (.int (i - j)) h := rfl
theorem mul_int {i j : Int} (h : Hh) (hj : -(2 ^ 64) < j ∧ j < 2 ^ 64) : vMulA (.int i) (.int j) h = .ok (.int (i * j)) h := by
  have : vMulI i j = true := by
    unfold vMulI
    rw [decide_eq_true hj.1, decide_eq_true hj.2]; simp
  simp [vMulA, isTup, vMul, this]
theorem mod_int {i j : Int} (h : Hh) (hj : 0 < j) : vMod (.int i) (.int j) h = .ok (.int (i % j)) h := by simp [vMod, hj]
theorem pow_int {i j : Int} (h : Hh) (hj : 0 ≤ j ∧ j ≤ 1000000 ∧ i.natAbs < 2 ^ 64) : vPow (.int i) (.int j) h = .ok (.int (i ^ j.toNat)) h := by simp only [vPow, if_pos hj]
@[simp] theorem int_int (i : Int) (h : Hh) : vInt [.int i] h = .ok (.int i) h := rfl
theorem tup_v {vs : List Val} (h : Hh) (hz : vs.length ≤ sizeLine) : vTup vs h = .ok (.tup vs) h := by simp only [vTup, if_pos hz]
theorem lst_v {vs : List Val} (h : Hh) (hz : vs.length ≤ sizeLine) : vLst vs h = .ok (.ref h.length) (h ++ [.lst vs]) := by simp only [vLst, if_pos hz]
theorem add_lst {m n : Nat} {xs ys : List Val} {h : Hh} (e1 : h[m]? = some (.lst xs)) (e2 : h[n]? = some (.lst ys)) (hz : xs.length + ys.length ≤ sizeLine) : vAdd (.ref m) (.ref n) h = .ok (.ref h.length) (h ++ [.lst (xs ++ ys)]) := by
  simp only [vAdd, e1, e2, if_pos hz]
theorem add_tup {xs ys : List Val} {h : Hh} (hz : xs.length + ys.length ≤ sizeLine) : vAdd (.tup xs) (.tup ys) h = .ok (.tup (xs ++ ys)) h := by simp only [vAdd, if_pos hz]
theorem val_lst {m : ME} {n : Nat} {vs : List Val} {h1 : Hh} (e : m σ h = .ok (.ref n) h1) (e1 : h1[n]? = some (.lst vs)) : miVal m σ h = .ok ⟨vs, fun h => h[n]? = some (.lst vs), none⟩ h1 := by
  unfold miVal; rw [e]; simp only [bind_ok, e1]
theorem val_tup {m : ME} {vs : List Val} {h1 : Hh} (e : m σ h = .ok (.tup vs) h1) : miVal m σ h = .ok ⟨vs, fun _ => True, none⟩ h1 := by
  unfold miVal; rw [e]; rfl
theorem val_rng {m : ME} {j : Int} {h1 : Hh} (e : m σ h = .ok (.int j) h1) (hj : -(2 ^ 62) ≤ j ∧ j < 2 ^ 62) : miRng1 m σ h = .ok ⟨(List.range j.toNat).map fun i => .int ((i : Nat) : Int), fun _ => True, none⟩ h1 := by
  unfold miRng1; rw [e]; simp only [bind_ok, if_pos hj]
end
end U
/-! Layer B, part 2: heaps, the draw, take, pick. -/
namespace U
open PySem L2
theorem str_inj (a b : String) : (Str.ofString a = Str.ofString b) = (a = b) := by
  apply propext
  constructor
  · intro h
    rw [Str.ofString_eq_toList, Str.ofString_eq_toList] at h
    injection h with h
    have h2 : a.toList.map Char.toNat = b.toList.map Char.toNat := by simpa using h
    have inj : ∀ (x y : List Char), x.map Char.toNat = y.map Char.toNat → x = y := by
      intro x
      induction x with
      | nil => intro y e; cases y with
        | nil => rfl
        | cons _ _ => cases e
      | cons c x ih => intro y e; cases y with
        | nil => cases e
        | cons d y =>
          simp only [List.map_cons, List.cons.injEq] at e
          have : c = d := Char.toNat_inj.mp e.1
          rw [this, ih y e.2]
    exact String.toList_inj.mp (inj _ _ h2)
  · intro h; rw [h]
/-- the heap grows; but at S all objects stay -/
structure Kp (S : List Nat) (h h' : Hh) : Prop where
  len : h.length ≤ h'.length
  at_ : ∀ i o, h[i]? = some o → i ∉ S → h'[i]? = some o
section
variable {S S' : List Nat} {h h1 h2 : Hh}
theorem Kp.refl (S : List Nat) (h : Hh) : Kp S h h := ⟨Nat.le_refl _, fun _ _ e _ => e⟩
theorem Kp.trans (a : Kp S h h1) (b : Kp S h1 h2) : Kp S h h2 := ⟨Nat.le_trans a.len b.len, fun i o e n => b.at_ i o (a.at_ i o e n) n⟩
theorem Kp.app (l : Hh) (a : Kp S h h1) : Kp S h (h1 ++ l) := ⟨by rw [List.length_append]; have := a.len; omega, fun i o e n => by
  have := a.at_ i o e n
  rw [List.getElem?_append_left (List.getElem?_eq_some_iff.mp this).1]; exact this⟩
theorem Kp.set (i : Nat) (o : Ob) (hi : i ∈ S ∨ h.length ≤ i) (a : Kp S h h1) : Kp S h (h1.set i o) := ⟨by rw [List.length_set]; exact a.len, fun j o' e n => by
  have hj : j < h.length := (List.getElem?_eq_some_iff.mp e).1
  rw [List.getElem?_set_ne (fun z => by subst z; rcases hi with hi | hi; exact n hi; omega)]
  exact a.at_ j o' e n⟩
theorem Kp.weak (a : Kp S h h1) (hs : ∀ i ∈ S, i ∈ S' ∨ h.length ≤ i) : Kp S' h h1 := ⟨a.len, fun i o e n => a.at_ i o e fun z => by
  rcases hs i z with q | q
  · exact n q
  · have := (List.getElem?_eq_some_iff.mp e).1; omega⟩
end
theorem app_at {h : Hh} {i : Nat} {o : Ob} (l : Hh) (e : h[i]? = some o) : (h ++ l)[i]? = some o := by
  rw [List.getElem?_append_left (List.getElem?_eq_some_iff.mp e).1]; exact e
theorem app_new (h : Hh) (o : Ob) : (h ++ [o])[h.length]? = some o := by simp
theorem set_at {h : Hh} {i j : Nat} {o o' : Ob} (e : h[i]? = some o) (n : j ≠ i) : (h.set j o')[i]? = some o := by rw [List.getElem?_set_ne n]; exact e
theorem set_self {h : Hh} {i : Nat} {o o' : Ob} (e : h[i]? = some o) : (h.set i o')[i]? = some o' := List.getElem?_set_self (List.getElem?_eq_some_iff.mp e).1
/-! ### the draw -/
def drawD (lg ce : Nat) (r t m : Int) : List (Val × Val) := [(.str "large", .ref lg), (.str "cells", .ref ce), (.str "rest", .int r), (.str "turn", .int t), (.str "mix", .int m)]
section
variable (lg ce : Nat) (r t m i : Int)
@[simp] theorem dg_large : dGet (drawD lg ce r t m) (.str "large") = some (.ref lg) := by simp [drawD, dGet, keyOf, str_inj]
@[simp] theorem dg_cells : dGet (drawD lg ce r t m) (.str "cells") = some (.ref ce) := by simp [drawD, dGet, keyOf, str_inj]
@[simp] theorem dg_rest : dGet (drawD lg ce r t m) (.str "rest") = some (.int r) := by simp [drawD, dGet, keyOf, str_inj]
@[simp] theorem dg_turn : dGet (drawD lg ce r t m) (.str "turn") = some (.int t) := by simp [drawD, dGet, keyOf, str_inj]
@[simp] theorem dg_mix : dGet (drawD lg ce r t m) (.str "mix") = some (.int m) := by simp [drawD, dGet, keyOf, str_inj]
@[simp] theorem dp_rest : dPut (drawD lg ce r t m) (.str "rest") (.int i) = drawD lg ce i t m := by simp [drawD, dPut, keyOf, str_inj]
@[simp] theorem dp_turn : dPut (drawD lg ce r t m) (.str "turn") (.int i) = drawD lg ce r i m := by simp [drawD, dPut, keyOf, str_inj]
@[simp] theorem dp_mix : dPut (drawD lg ce r t m) (.str "mix") (.int i) = drawD lg ce r t i := by simp [drawD, dPut, keyOf, str_inj]
end
/-- the draw lies at dr, its lists at lg and ce -/
structure DrS (dr lg ce : Nat) (L C : List Int) (r t m : Int) (h : Hh) : Prop where
  ne1 : dr ≠ lg
  ne2 : dr ≠ ce
  ne3 : lg ≠ ce
  d : h[dr]? = some (.dct (drawD lg ce r t m))
  l : h[lg]? = some (.lst (L.map .int))
  c : h[ce]? = some (.lst (C.map .int))
section
variable {dr lg ce : Nat} {L C : List Int} {r t m : Int} {h : Hh}
theorem DrS.app (D : DrS dr lg ce L C r t m h) (l : Hh) : DrS dr lg ce L C r t m (h ++ l) := ⟨D.ne1, D.ne2, D.ne3, app_at l D.d, app_at l D.l, app_at l D.c⟩
theorem DrS.kp (D : DrS dr lg ce L C r t m h) {S : List Nat} {h' : Hh} (k : Kp S h h') (h1 : dr ∉ S) (h2 : lg ∉ S) (h3 : ce ∉ S) : DrS dr lg ce L C r t m h' := ⟨D.ne1, D.ne2, D.ne3, k.at_ _ _ D.d h1, k.at_ _ _ D.l h2, k.at_ _ _ D.c h3⟩
theorem DrS.rest (D : DrS dr lg ce L C r t m h) : vIx (.ref dr) (.str "rest") h = .ok (.int r) h := by simp [vIx, D.d, keyOf]
theorem DrS.turn (D : DrS dr lg ce L C r t m h) : vIx (.ref dr) (.str "turn") h = .ok (.int t) h := by simp [vIx, D.d, keyOf]
theorem DrS.mix (D : DrS dr lg ce L C r t m h) : vIx (.ref dr) (.str "mix") h = .ok (.int m) h := by simp [vIx, D.d, keyOf]
theorem DrS.large (D : DrS dr lg ce L C r t m h) : vIx (.ref dr) (.str "large") h = .ok (.ref lg) h := by simp [vIx, D.d, keyOf]
theorem DrS.cells (D : DrS dr lg ce L C r t m h) : vIx (.ref dr) (.str "cells") h = .ok (.ref ce) h := by simp [vIx, D.d, keyOf]
theorem size5 : 5 < sizeLine := by decide
theorem DrS.sRest (D : DrS dr lg ce L C r t m h) (i : Int) : vSet (.ref dr) (.str "rest") (.int i) h = some (h.set dr (.dct (drawD lg ce i t m))) := by
  simp [vSet, D.d, keyOf]; exact size5
theorem DrS.sTurn (D : DrS dr lg ce L C r t m h) (i : Int) : vSet (.ref dr) (.str "turn") (.int i) h = some (h.set dr (.dct (drawD lg ce r i m))) := by
  simp [vSet, D.d, keyOf]; exact size5
theorem DrS.sMix (D : DrS dr lg ce L C r t m h) (i : Int) : vSet (.ref dr) (.str "mix") (.int i) h = some (h.set dr (.dct (drawD lg ce r t i))) := by
  simp [vSet, D.d, keyOf]; exact size5
theorem DrS.put (D : DrS dr lg ce L C r t m h) (r' t' m' : Int) : DrS dr lg ce L C r' t' m' (h.set dr (.dct (drawD lg ce r' t' m'))) := ⟨D.ne1, D.ne2, D.ne3, set_self D.d, set_at D.l D.ne1, set_at D.c D.ne2⟩
theorem DrS.pop (D : DrS dr lg ce L C r t m h) (L' : List Int) : DrS dr lg ce L' C r t m (h.set lg (.lst (L'.map .int))) := ⟨D.ne1, D.ne2, D.ne3, set_at D.d (Ne.symm D.ne1), set_self D.l, set_at D.c D.ne3⟩
end
structure Dr (dr lg ce : Nat) (h : Hh) : Prop where
  ex : ∃ (L C : List Int) (r t m : Int), DrS dr lg ce L C r t m h ∧ 0 ≤ m ∧ m < 2147483629 ∧ C.length ≤ 63
/-! data -/
@[simp] theorem toD_int (n : Nat) (h : Hh) (i : Int) : toD (n + 1) h (.int i) = some (.int i) := by simp [toD]
@[simp] theorem toD_str (n : Nat) (h : Hh) (i : Str) : toD (n + 1) h (.str i) = some (.str i) := by simp [toD]
@[simp] theorem toD_bl (n : Nat) (h : Hh) (i : Bool) : toD (n + 1) h (.bl i) = some (.bool i) := by simp [toD]
@[simp] theorem toD_non (n : Nat) (h : Hh) : toD (n + 1) h .non = some .none := by simp [toD]
theorem toDs_ints (n : Nat) (h : Hh) : ∀ L : List Int, toDs (n + 1) h (L.map .int) = some (L.map .int)
  | [] => by simp [toDs]
  | i :: L => by rw [List.map_cons, toDs, toD_int, toDs_ints n h L]; rfl
theorem noDs_ints : ∀ L : List Int, noDs (L.map .int) = true
  | [] => by simp [noDs]
  | i :: L => by simp [noDs, noD, noDs_ints L]
theorem canLay_ints : ∀ L : List Int, PyData.canLayAll0 (L.map .int) = true
  | [] => by simp [PyData.canLayAll0]
  | i :: L => by simp [PyData.canLayAll0, PyData.canLay0, canLay_ints L]
theorem shaped_int (i : Int) : SeqAt.shaped (.int i) = true := by simp [SeqAt.shaped, PyData.canLay0, PyData.depth]
theorem shaped_ints (L : List Int) : SeqAt.shaped (.list (L.map .int)) = true := by simp [SeqAt.shaped, PyData.canLay0, PyData.depth, canLay_ints, PySem.W.depth_ints]
theorem eqv_int (i j : Int) : PyData.eqv (.int i) (.int j) = decide (i = j) := by
  simp only [PyData.eqv]
  by_cases e : i = j <;> simp [e]
theorem eqD_int (neg : Bool) (i j : Int) (h : Hh) : vEqD neg (.int i) (.int j) h = .ok (.bl (if neg then !decide (i = j) else decide (i = j))) h := by
  simp [vEqD, vEqO, strs2, noD, shaped_int, eqv_int]
theorem eqv_nil : ∀ L : List Int, PyData.eqv (.list (L.map .int)) (.list []) = L.isEmpty
  | [] => by simp [PyData.eqv, PyData.eqvAll]
  | i :: L => by simp [PyData.eqv, PyData.eqvAll]
theorem neD_nil {lg : Nat} {L : List Int} {h : Hh} (e : h[lg]? = some (.lst (L.map .int))) : vEqD true (.ref lg) (.ref h.length) (h ++ [.lst []]) = .ok (.bl (!L.isEmpty)) (h ++ [.lst []]) := by
  have e2 := app_at [.lst []] e
  have e3 := app_new h (.lst [])
  have t1 : toD 30 (h ++ [.lst []]) (.ref lg) = some (.list (L.map .int)) := by
    show toD (29 + 1) _ _ = _
    simp only [toD]; rw [e2]; simp [toDs_ints]
  have t2 : toD 30 (h ++ [.lst []]) (.ref h.length) = some (.list []) := by
    show toD (29 + 1) _ _ = _
    simp only [toD]; rw [e3]; simp [toDs]
  have s0 := shaped_ints []
  unfold vEqD vEqO
  rw [show strs2 (.ref lg) (.ref h.length) = none from rfl]
  dsimp only
  rw [t1, t2]
  simp only [noD, noDs_ints, shaped_ints, eqv_nil]
  simp at s0
  simp [s0, noDs]
theorem lst0 (h : Hh) : vLst [] h = .ok (.ref h.length) (h ++ [.lst []]) := by simp [vLst]
theorem dr_pos (m : Int) (c : Int) : 0 ≤ m → 0 ≤ (m * 69621 + c * 48271 + 12345) % 2147483629 ∧ (m * 69621 + c * 48271 + 12345) % 2147483629 < 2147483629 := fun _ => ⟨Int.emod_nonneg _ (by decide), Int.emod_lt_of_pos _ (by decide)⟩
theorem take_ok {dr lg ce : Nat} {h : Hh} {n : Int} (D : Dr dr lg ce h) (h1 : 1 ≤ n) (h2 : n < 1073741824) {Q : Val → Hh → Prop} (q : ∀ (k : Int) h', 0 ≤ k → k < n → Dr dr lg ce h' → Kp [dr, lg] h h' → Q (.int k) h') : Wp (f__law_take [.ref dr, .int n] h) Q := by
  obtain ⟨L, C, r, t, m, D, m0, m1, lc⟩ := D
  unfold f__law_take b__law_take b__law_take_4 b__law_take_3 b__law_take_2 b__law_take_1
  rw [w_fn, f_seq]
  let P : Loc → Hh → Prop := fun σ h' => ∃ (L : List Int) (r t m : Int) (x : Option Val), σ = [some (.ref dr), some (.int n), x, none] ∧ DrS dr lg ce L C r t m h' ∧ 0 ≤ m ∧ m < 2147483629 ∧ Kp [dr, lg] h h'
  refine WpF.mono (N := P) (R := fun _ _ => False) ?_ ?_ fun _ _ z => z.elim
  · -- what is taken from
    have k0 := Kp.refl [dr, lg] h
    have D1 := D.app [.lst []]
    have k1 := k0.app [.lst []]
    by_cases e0 : r = 0
    · subst e0
      by_cases e1 : L = []
      · subst e1
        simp [D.rest, eqD_int, D.large, lst0, neD_nil D.l, D1.rest, D1.turn, vAdd, D1.sTurn]
        have D2 := D1.put 0 (t + 1) m
        have k2 : Kp [dr, lg] h _ := k1.set dr (.dct (drawD lg ce 0 (t + 1) m)) (.inl (by simp))
        generalize (h ++ [Ob.lst []]).set dr (.dct (drawD lg ce 0 (t + 1) m)) = g at D2 k2 ⊢
        -- the mixing
        have s63 : (64 : Nat) ≤ sizeLine := by decide
        have D3 := D2.app [.lst [.int (t + 1)]]
        have c3 := D3.c
        have n3 := app_new g (.lst [.int (t + 1)])
        have hdr : dr < g.length := (List.getElem?_eq_some_iff.mp D2.d).1
        have D4 := D3.app [.lst ([.int (t + 1)] ++ C.map .int)]
        have z1 : [Val.int (t + 1)].length ≤ sizeLine := by simp only [List.length_singleton]; omega
        have z2 : [Val.int (t + 1)].length + (C.map Val.int).length ≤ sizeLine := by simp only [List.length_singleton, List.length_map]; omega
        have hm : miVal (mOp vAdd (mApp vLst (maCons (mOp vIx (mVar 0) (mC (.str "turn"))) maNil)) (mOp vIx (mVar 0) (mC (.str "cells")))) [some (.ref dr), some (.int n), none, none] g = .ok ⟨.int (t + 1) :: C.map .int, fun h => h[g.length + 1]? = some (.lst (.int (t + 1) :: C.map .int)), none⟩ (g ++ [.lst [.int (t + 1)]] ++ [.lst ([.int (t + 1)] ++ C.map .int)]) :=
          val_lst (n := g.length + 1) (by
            simp only [mOp, mApp, maCons, maNil, mC, w_var0, bind_ok, D2.turn, lst_v _ z1, D3.cells, add_lst n3 c3 z2]
            simp) (by simp)
        refine f_forE (fun _ σ h' => ∃ (m : Int) (x : Option Val), σ = [some (.ref dr), some (.int n), x, none] ∧ DrS dr lg ce [] C 0 (t + 1) m h' ∧ 0 ≤ m ∧ m < 2147483629 ∧ Kp [dr, lg] h h' ∧ h'[g.length + 1]? = some (.lst (.int (t + 1) :: C.map .int))) hm rfl ?_ ?_ ?_ ?_
        · exact ⟨m, none, rfl, D4, m0, m1, (k2.app [.lst [.int (t + 1)]]).app [.lst ([.int (t + 1)] ++ C.map .int)], by simp⟩
        · rintro k σ' h' ⟨m, x, rfl, D, _, _, _, e⟩
          exact e
        · rintro k v σ' h' ev ⟨m, x, rfl, D, m0, m1, K, e⟩
          obtain ⟨c, rfl⟩ : ∃ c, v = .int c := by
            have : v ∈ (Val.int (t + 1) :: C.map .int) := List.mem_of_getElem? ev
            simp at this
            rcases this with rfl | ⟨c, _, rfl⟩
            · exact ⟨_, rfl⟩
            · exact ⟨c, rfl⟩
          simp [D.mix, mul_int, mod_int, D.sMix]
          exact ⟨_, D.put _ _ _, (dr_pos m c m0).1, (dr_pos m c m0).2, K.set _ _ (.inl (by simp)), set_at e (by omega)⟩
        · rintro σ' h' ⟨m, x, rfl, D, m0, m1, K, e⟩
          have hp : 0 ≤ (5 : Int) ∧ (5 : Int) ≤ 1000000 ∧ m.natAbs < 2 ^ 64 := by omega
          simp [D.mix, pow_int _ hp, mod_int, D.sRest]
          exact ⟨[], _, t + 1, m, x, rfl, D.put _ _ _, m0, m1, K.set _ _ (.inl (by simp))⟩
      · obtain ⟨i, L, rfl⟩ : ∃ i L', L = i :: L' := by
          cases L with
          | nil => exact absurd rfl e1
          | cons i L => exact ⟨i, L, rfl⟩
        have D2 := D1.pop L
        simp [D.rest, eqD_int, D.large, lst0, neD_nil D.l, mMt, D1.large, isT, D1.l, vPop, seqIndex?, D2.sRest]
        exact ⟨L, i, t, m, none, rfl, D2.put i t m, m0, m1, (k1.set _ _ (.inl (by simp))).set _ _ (.inl (by simp))⟩
    · simp [D.rest, eqD_int, e0]
      exact ⟨L, r, t, m, none, rfl, D, m0, m1, k0⟩
  · rintro σ h' ⟨L, r, t, m, x, rfl, D, m0, m1, K⟩
    simp [D.rest, vDm, show 0 < n by omega, h2, D.sRest]
    exact q _ _ (Int.emod_nonneg _ (by omega)) (Int.emod_lt_of_pos _ (by omega)) ⟨L, C, _, t, m, D.put _ t m, m0, m1, lc⟩ (K.set _ _ (.inl (by simp)))
end U
/-! Layer B, part 3: pick, begin, numbers and weights. -/
namespace U
open PySem L2
section
variable {σ : Loc} {h h1 : Hh} {QV : Val → Hh → Prop}
theorem atI_ok {α : Type} {xs : List α} {i : Int} (h0 : 0 ≤ i) (h1 : i < xs.length) : ∃ x, L2.atI xs i = some x ∧ x ∈ xs ∧ xs[i.toNat]? = some x := by
  have hl : i.toNat < xs.length := by omega
  refine ⟨xs[i.toNat], ?_, List.getElem_mem _, List.getElem?_eq_getElem hl⟩
  unfold L2.atI L2.ixN
  rw [if_pos h0, if_pos h1]
  exact List.getElem?_eq_getElem hl
theorem len_lst {n : Nat} {vs : List Val} (e : h[n]? = some (.lst vs)) : vLen [.ref n] h = .ok (.int vs.length) h := by simp only [vLen, e]
@[simp] theorem len_tup (vs : List Val) (h : Hh) : vLen [.tup vs] h = .ok (.int vs.length) h := rfl
theorem ix_lst {n : Nat} {vs : List Val} {i : Int} {v : Val} (e : h[n]? = some (.lst vs)) (e2 : L2.atI vs i = some v) : vIx (.ref n) (.int i) h = .ok v h := by simp only [vIx, e, e2]
theorem pick_ok {dr lg ce n : Nat} {vs : List Val} (D : Dr dr lg ce h) (e : h[n]? = some (.lst vs)) (hn : n ∉ [dr, lg]) (l1 : 1 ≤ vs.length) (l2 : vs.length < 1073741824)
    (q : ∀ v h', v ∈ vs → Dr dr lg ce h' → Kp [dr, lg] h h' → QV v h') : Wp (f__law_pick [.ref dr, .ref n] h) QV := by
  unfold f__law_pick b__law_pick
  rw [w_fn]
  simp [len_lst e]
  refine take_ok D (by omega) (by omega) fun k h' k0 k1 D' K => ?_
  obtain ⟨v, v1, v2, _⟩ := atI_ok (xs := vs) k0 k1
  rw [ix_lst (K.at_ _ _ e hn) v1]
  exact .ok (q v h' v2 D' K)
theorem pick_str {dr lg ce : Nat} {z : Str} (D : Dr dr lg ce h) (l1 : 1 ≤ z.length) (l2 : z.length ≤ 1000)
    (q : ∀ c h', c ∈ z.cps.toList → Dr dr lg ce h' → Kp [dr, lg] h h' → QV (.str ⟨#[c]⟩) h') : Wp (f__law_pick [.ref dr, .str z] h) QV := by
  have hz : z.length ≤ sizeLine := Nat.le_trans l2 (by decide)
  have hc : z.cps.toList.length = z.length := by rw [Array.length_toList]; rfl
  unfold f__law_pick b__law_pick
  rw [w_fn]
  simp [vLen, hz]
  refine take_ok D (by omega) (by omega) fun k h' k0 k1 D' K => ?_
  obtain ⟨v, v1, v2, _⟩ := atI_ok (xs := z.cps.toList) k0 (by omega)
  simp only [vIx, if_pos hz, v1]
  exact .ok (q v h' v2 D' K)
/-! ### a comprehension whose body leaves the heap -/
theorem lc_pure {mi : MI} {vs : List Nat} {tg : Tg} {c : MT} {e : ME} {it : Itb} (F : Val → Option Val) (hm : mi σ h = .ok it h1) (hl : it.lk = none) (hz : it.items.length ≤ sizeLine) (hs : ∀ l, it.src (h1 ++ [l]))
    (hb : ∀ v ∈ it.items, ∀ l, lcB vs tg c e σ v (h1 ++ [l]) = .ok (F v) (h1 ++ [l])) : mLc mi vs tg c e σ h = .ok (.ref h1.length) (h1 ++ [.lst (it.items.filterMap F)]) := by
  have w : Wp (mLc mi vs tg c e σ h) fun v h' => v = .ref h1.length ∧ h' = h1 ++ [.lst (it.items.filterMap F)] := by
    refine w_lc (fun it h1 k acc h' => acc = (it.items.take k).filterMap F ∧ h' = h1 ++ [.lst acc]) ?_
    rw [hm]
    refine .ok ⟨hz, ⟨by simp, rfl⟩, fun k acc h' ⟨_, e2⟩ => by rw [e2]; exact hs _, fun k v acc h' ev ⟨e1, e2⟩ hn => ?_, fun acc h' ⟨e1, e2⟩ hn => ?_⟩
    · subst e2
      rw [hb v (List.mem_of_getElem? ev)]
      refine .ok ⟨by simp, ?_⟩
      have ht : it.items.take (k + 1) = it.items.take k ++ [v] := by
        rw [List.take_add_one, ev]; rfl
      cases q : F v with
      | none => exact ⟨by rw [ht, List.filterMap_append, e1]; simp [q], rfl⟩
      | some y => exact ⟨by rw [ht, List.filterMap_append, e1]; simp [q], by simp⟩
    · refine ⟨h', by rw [hl]; rfl, rfl, ?_⟩
      rw [e2, e1, List.take_length]
  obtain ⟨a, b, e1, e2, e3⟩ := w.ex
  rw [e1, e2, e3]
/-! ### displays of dicts -/
@[simp] theorem w_pnil {Q : List (Val × Val) → Hh → Prop} : Wp (mPairs [] σ h) Q ↔ Q [] h := wp_ok _ _
@[simp] theorem w_pcons {Q : List (Val × Val) → Hh → Prop} (a b : ME) (r : List (ME × ME)) : Wp (mPairs ((a, b) :: r) σ h) Q ↔ Wp (a σ h) fun x h1 => Wp (b σ h1) fun y h2 => Wp (mPairs r σ h2) fun ps h3 => Q ((x, y) :: ps) h3 := by simp [mPairs]
theorem w_disp (ms : List (ME × ME)) (w : Wp (mPairs ms σ (h ++ [.dct []])) fun ps h1 => h1[h.length]? = some (.dct []) ∧ keysOk ps = true ∧ ps.length ≤ 15 ∧ QV (.ref h.length) (h1.set h.length (.dct (dMerge [] ps)))) : Wp (mDisp ms σ h) QV := by
  unfold mDisp
  rw [wp_bind]
  refine w.mono fun ps h1 ⟨e1, e2, e3, e4⟩ => ?_
  simp only [e1, if_pos (And.intro e2 e3)]
  exact .ok e4
theorem list_fro {n : Nat} {vs : List Val} (e : h[n]? = some (.fro vs)) : vList [.ref n] h = .ok (.ref h.length) (h ++ [.lst vs]) := by simp only [vList, e]
/-! ### begin -/
theorem val_fro {m : ME} {n : Nat} {vs : List Val} (e : m σ h = .ok (.ref n) h1) (e1 : h1[n]? = some (.fro vs)) : miVal m σ h = .ok ⟨vs, fun h => h[n]? = some (.fro vs), none⟩ h1 := by
  unfold miVal; rw [e]; simp only [bind_ok, e1]
@[simp] theorem abs_int (i : Int) (h : Hh) : vAbs [.int i] h = .ok (.int (if i < 0 then -i else i)) h := rfl
@[simp] theorem ge_int (i j : Int) (h : Hh) : vGe (.int i) (.int j) h = .ok (.bl (decide (j ≤ i))) h := rfl
@[simp] theorem le_int (i j : Int) (h : Hh) : vLe (.int i) (.int j) h = .ok (.bl (decide (i ≤ j))) h := rfl
@[simp] theorem lt_int (i j : Int) (h : Hh) : vLt (.int i) (.int j) h = .ok (.bl (decide (i < j))) h := rfl
@[simp] theorem gt_int (i j : Int) (h : Hh) : vGt (.int i) (.int j) h = .ok (.bl (decide (j < i))) h := rfl
theorem begin_ok {s : Nat} {ns : List Int} (e : h[s]? = some (.fro (ns.map .int))) (hl : ns.length ≤ 63) (q : ∀ h', Dr (h.length + 1) h.length (h.length + 2) h' → Kp [] h h' → h'.length = h.length + 3 → QV (.ref (h.length + 1)) h') : Wp (f__law_begin [.ref s] h) QV := by
  unfold f__law_begin b__law_begin b__law_begin_1
  rw [w_fn]
  let F : Val → Option Val := fun v => match v with
    | .int i => if (10 : Int) ^ 18 ≤ (if i < 0 then -i else i) then some (.int (if i < 0 then -i else i)) else none
    | _ => none
  have s63 : (64 : Nat) ≤ sizeLine := by decide
  have hm : miVal (mVar 0) [some (.ref s), none, none] h = .ok _ h := val_fro rfl e
  have hp : 0 ≤ (18 : Int) ∧ (18 : Int) ≤ 1000000 ∧ (10 : Int).natAbs < 2 ^ 64 := by decide
  have lc := lc_pure (vs := [2]) (tg := .one 2) (c := tBl (mOp vGe (mApp vAbs (maCons (mVar 2) maNil)) (mOp vPow (mC (.int 10)) (mC (.int 18))))) (e := mApp vAbs (maCons (mVar 2) maNil)) F hm rfl (by simp; omega) (fun l => app_at [l] e) (fun v hv l => by
    simp at hv
    obtain ⟨i, _, rfl⟩ := hv
    simp only [lcB, Tg.bd, wipeL, List.set, tBl, mOp, mApp, maCons, maNil, mC, mVar, List.getElem?_cons_succ, List.getElem?_cons_zero, bind_ok, abs_int, pow_int _ hp, ge_int, nr_ok, F]
    by_cases hc : (10 : Int) ^ 18 ≤ (if i < 0 then -i else i)
    · rw [if_pos hc, decide_eq_true (show (10 : Int) ^ (18 : Int).toNat ≤ _ from hc)]
      rfl
    · rw [if_neg hc, decide_eq_false (show ¬ (10 : Int) ^ (18 : Int).toNat ≤ _ from hc)]
      rfl)
  let L : List Int := ns.filterMap fun i => if (10 : Int) ^ 18 ≤ (if i < 0 then -i else i) then some (if i < 0 then -i else i) else none
  have hL : (ns.map Val.int).filterMap F = L.map Val.int := by
    rw [List.filterMap_map, List.map_filterMap]
    congr 1
    funext i
    show (if (10 : Int) ^ 18 ≤ (if i < 0 then -i else i) then some (Val.int (if i < 0 then -i else i)) else none) = Option.map Val.int (if (10 : Int) ^ 18 ≤ (if i < 0 then -i else i) then some (if i < 0 then -i else i) else none)
    by_cases hc : (10 : Int) ^ 18 ≤ (if i < 0 then -i else i)
    · rw [if_pos hc, if_pos hc]; rfl
    · rw [if_neg hc, if_neg hc]; rfl
  show WpF (msSeq _ _ [some (.ref s), none, none] h) _ _
  rw [f_seq, f_asg, lc]
  simp only [wp_ok, f_name, List.set, f_ret]
  rw [hL]
  refine w_disp _ ?_
  have e1 : (h ++ [Ob.lst (L.map Val.int)] ++ [.dct []])[s]? = some (.fro (ns.map .int)) := app_at _ (app_at _ e)
  simp only [w_pcons, w_pnil, w_C, w_var0, w_varS, wp_ok, w_app, w_acons, w_anil, list_fro e1]
  refine ⟨by simp, by simp [keysOk, keyOf], by simp, ?_⟩
  have hd : dMerge [] [(Val.str "large", Val.ref h.length), (.str "cells", .ref (h ++ [Ob.lst (L.map Val.int)] ++ [Ob.dct []]).length), (.str "rest", .int 0), (.str "turn", .int 0), (.str "mix", .int 7)] = drawD h.length (h.length + 2) 0 0 7 := by
    simp [dMerge, dPut, drawD, keyOf, str_inj]
  rw [hd]
  have hlen : (h ++ [Ob.lst (L.map Val.int)]).length = h.length + 1 := by simp
  rw [hlen]
  have hall : h ++ [Ob.lst (L.map Val.int)] ++ [.dct []] ++ [.lst (ns.map Val.int)] = h ++ [Ob.lst (L.map Val.int), .dct [], .lst (ns.map Val.int)] := by simp
  rw [hall]
  have hset : (h ++ [Ob.lst (L.map Val.int), .dct [], .lst (ns.map Val.int)]).set (h.length + 1) (.dct (drawD h.length (h.length + 2) 0 0 7)) = h ++ [Ob.lst (L.map Val.int), .dct (drawD h.length (h.length + 2) 0 0 7), .lst (ns.map Val.int)] := by
    rw [List.set_append_right _ _ (by omega)]
    simp
  rw [hset]
  refine q _ ⟨L, ns, 0, 0, 7, ⟨by omega, by omega, by omega, ?_, ?_, ?_⟩, by decide, by decide, hl⟩ ((Kp.refl [] h).app _) (by simp)
  · rw [List.getElem?_append_right (by omega)]; simp
  · rw [List.getElem?_append_right (by omega)]; simp
  · rw [List.getElem?_append_right (by omega)]; simp
end
end U
/-! Layer B, part 4: numbers, weights, rules. -/
namespace U
open PySem L2
theorem kb_ii : kitB "int" "int" = some true := by kernel_rfl
theorem kb_ib : kitB "int" "bool" = some false := by kernel_rfl
theorem kb_tt : kitB "tuple" "tuple" = some true := by kernel_rfl
theorem kb_ss : kitB "str" "str" = some true := by kernel_rfl
theorem kb_dd : kitB "dict" "dict" = some true := by kernel_rfl
section
variable {σ : Loc} {h h1 : Hh} {QV : Val → Hh → Prop} {cs : List Str} {tys : List String}
theorem isi_b {x : Val} {a b : String} {r : Bool} (e : tyNm x h = some (.inl a)) (k : kitB a b = some r) : vIsi cs tys [x, .ty b] h = .ok (.bl r) h := by simp only [vIsi, e, isa1, k]
theorem isi_g {x : Val} {a : String} {C : Str} (e : tyNm x h = some (.inl a)) (k : C ∈ cs) : vIsi cs tys [x, .gl C] h = .ok (.bl false) h := by simp only [vIsi, e, isa1, if_pos k]
theorem isi_o {x : Val} {C D : Str} (e : tyNm x h = some (.inr D)) (k : D ∈ cs ∧ C ∈ cs) : vIsi cs tys [x, .gl C] h = .ok (.bl (decide (D = C))) h := by simp only [vIsi, e, isa1, if_pos k]
theorem is_integer_int (i : Int) (h : Hh) : f_is_integer [.int i] h = .ok (.bl true) h := by
  have e1 : vIsi kCs kTys [.int i, .ty "int"] h = .ok (.bl true) h := isi_b rfl kb_ii
  have e2 : vIsi kCs kTys [.int i, .ty "bool"] h = .ok (.bl false) h := isi_b rfl kb_ib
  simp [f_is_integer, b_is_integer, mkFn, msRet, mAnd, mApp, maCons, maNil, mC, mNot, e1, e2, truth]
theorem is_number_int (i : Int) (h : Hh) : f_is_number [.int i] h = .ok (.bl (decide (0 ≤ i))) h := by
  simp [f_is_number, b_is_number, mkFn, msRet, mAnd, mApp, maCons, maNil, mC, mOp, callF, is_integer_int]
/-- weights as they may be -/
def okW (ws : List Int) : Prop := ∀ w ∈ ws, 0 ≤ w ∧ w ≤ 9
theorem fm_true : ∀ ws : List Int, List.filterMap (fun _ => some (Val.bl true)) (ws.map Val.int) = (ws.map fun _ => true).map Val.bl
  | [] => rfl
  | i :: ws => by
    show Val.bl true :: List.filterMap (fun _ => some (Val.bl true)) (ws.map Val.int) = _
    rw [fm_true ws]; rfl
theorem are_weights_ok {ws : List Int} {a b : Int} (hw : okW ws) (ha : a ≤ ws.length) (hb : (ws.length : Int) ≤ b) (hl : ws.length ≤ 1000) (q : ∀ h', Kp [] h h' → QV (.bl true) h') : Wp (f_are_weights [.tup (ws.map .int), .int a, .int b] h) QV := by
  unfold f_are_weights b_are_weights b_are_weights_1
  rw [w_fn]
  have e1 : vIsi kCs kTys [.tup (ws.map .int), .ty "tuple"] h = .ok (.bl true) h := isi_b rfl kb_tt
  show WpF (msSeq _ _ [some (.tup (ws.map .int)), some (.int a), some (.int b), none] h) _ _
  have lc := lc_pure (σ := [some (.tup (ws.map .int)), some (.int a), some (.int b), none]) (h := h) (h1 := h) (mi := miVal (mVar 0)) (vs := [3]) (tg := .one 3) (c := tTrue) (e := mAnd (mApp (callF 1 f_is_number) (maCons (mVar 3) maNil)) (mOp vLe (mVar 3) (mC (.int 9)))) (fun _ => some (.bl true)) (val_tup rfl) rfl (by
    show (ws.map Val.int).length ≤ sizeLine
    rw [List.length_map]; exact Nat.le_trans hl (by decide)) (fun l => trivial) (fun v hv l => by
    have hv' : v ∈ ws.map Val.int := hv
    simp at hv'
    obtain ⟨i, hi, rfl⟩ := hv'
    have := hw i hi
    simp [lcB, Tg.bd, wipeL, tTrue, mAnd, mApp, maCons, maNil, mOp, mC, callF, is_number_int, this.1, this.2])
  simp [e1, truth, ha, hb]
  rw [lc]
  simp only [wp_ok]
  have hf := fm_true ws
  have ee : vAll [.ref h.length] (h ++ [.lst ((ws.map fun _ => true).map Val.bl)]) = .ok (.bl true) (h ++ [.lst ((ws.map fun _ => true).map Val.bl)]) := by
    have := app_new h (.lst ((ws.map fun _ => true).map Val.bl))
    simp only [vAll, this, blsOf_map]
    simp
  rw [show List.filterMap (fun _ => some (Val.bl true)) _ = _ from hf, ee, wp_ok]
  exact q _ ((Kp.refl [] h).app _)
/-- a rule's attributes -/
def ruleF (ws ss : List Int) (sp : Int) : List (Str × Val) := [("r_weights", .tup (ws.map .int)), ("r_skipped", .tup (ss.map .int)), ("r_spread", .int sp)]
def ruleF1 (ws : List Int) : List (Str × Val) := [("r_weights", .tup (ws.map .int))]
def ruleF2 (ws ss : List Int) : List (Str × Val) := [("r_weights", .tup (ws.map .int)), ("r_skipped", .tup (ss.map .int))]
/-- a rule as it may be -/
structure okR (ws ss : List Int) (sp : Int) : Prop where
  w : okW ws
  s : okW ss
  l1 : 1 ≤ ws.length
  l4 : ws.length ≤ 4
  ls : ss.length + 1 = ws.length
  p0 : 0 ≤ sp
  p1 : sp < ws.length
theorem rule_in : ("Rule" : Str) ∈ kCs := by decide
theorem songs_in : ("Songs" : Str) ∈ kCs := by decide
theorem rule_init {n : Nat} {ws ss : List Int} {sp : Int} (ok : okR ws ss sp) (e : h[n]? = some (.ins "Rule" [])) (q : ∀ h', h'[n]? = some (.ins "Rule" (ruleF ws ss sp)) → Kp [n] h h' → QV .non h') : Wp (f_Rule_init [.ref n, .tup (ws.map .int), .tup (ss.map .int), .int sp] h) QV := by
  unfold f_Rule_init b_Rule_init b_Rule_init_5 b_Rule_init_4 b_Rule_init_3 b_Rule_init_2 b_Rule_init_1
  rw [w_fn]
  have l1 := ok.l1
  have l4 := ok.l4
  have ls := ok.ls
  have p0 := ok.p0
  have p1 := ok.p1
  simp
  refine are_weights_ok ok.w (by omega) (by omega) (by omega) fun h1 k1 => ?_
  simp [truth]
  refine are_weights_ok ok.s (by omega) (by omega) (by omega) fun h2 k2 => ?_
  have e2 := k2.at_ _ _ (k1.at_ _ _ e (by simp)) (by simp)
  have k2' : Kp [n] h h2 := (k1.trans k2).weak (by simp)
  have r1 : putFv "r_weights" (.tup (ws.map .int)) [] = ruleF1 ws := rfl
  have r2 : putFv "r_skipped" (.tup (ss.map .int)) (ruleF1 ws) = ruleF2 ws ss := by simp [putFv, str_inj, ruleF1, ruleF2]
  have r3 : putFv "r_spread" (.int sp) (ruleF2 ws ss) = ruleF ws ss sp := by simp [putFv, str_inj, ruleF, ruleF2]
  have e3 := set_self (o' := .ins "Rule" (ruleF1 ws)) e2
  have e4 := set_self (o' := .ins "Rule" (ruleF2 ws ss)) e3
  have e5 := set_self (o' := .ins "Rule" (ruleF ws ss sp)) e4
  simp [truth, is_number_int, p0, p1, show ¬ ((ws.length : Int) ≤ sp) by omega, setF_ok e2 rule_in (by simp), r1, -List.set_set]
  simp [setF_ok e3 rule_in (by simp [ruleF1]), r2, -List.set_set]
  simp [setF_ok e4 rule_in (by simp [ruleF2]), r3, -List.set_set]
  exact q _ e5 (((k2'.set _ _ (.inl (by simp))).set _ _ (.inl (by simp))).set _ _ (.inl (by simp)))
end
end U
/-! Layer B, part 5: comprehensions that draw, names. -/
namespace U
open PySem L2
section
variable {σ : Loc} {h h1 : Hh} {QV : Val → Hh → Prop}
theorem Kp.set' {S : List Nat} {h h1 : Hh} {i : Nat} {o : Ob} (a : Kp S h h1) (hi : h.length ≤ i) : Kp S h (h1.set i o) := a.set i o (.inr hi)
/-- each turn gives a value, with effects at S -/
theorem lc_each {mi : MI} {vs : List Nat} {tg : Tg} {c : MT} {e : ME} {it : Itb} {S : List Nat} (P : Nat → Val → Prop) (I : Hh → Prop) (hm : mi σ h = .ok it h1) (hl : it.lk = none) (hz : it.items.length ≤ sizeLine) (hS : ∀ i ∈ S, i < h1.length)
    (i0 : I h1) (hI : ∀ g g', I g → Kp [h1.length] g g' → I g') (hs : ∀ g, Kp S h1 g → it.src g)
    (hb : ∀ k v g, it.items[k]? = some v → I g → Kp S h1 g → Wp (lcB vs tg c e σ v g) fun o g2 => I g2 ∧ Kp S g g2 ∧ ∃ y, o = some y ∧ P k y)
    (q : ∀ ys g, ys.length = it.items.length → (∀ k y, ys[k]? = some y → P k y) → I g → Kp S h1 g → h1.length < g.length → g[h1.length]? = some (.lst ys) → QV (.ref h1.length) g) : Wp (mLc mi vs tg c e σ h) QV := by
  refine w_lc (fun _ _ k acc g => acc.length = k ∧ (∀ j y, acc[j]? = some y → P j y) ∧ I g ∧ Kp S h1 g) ?_
  rw [hm]
  refine .ok ⟨hz, ⟨rfl, by simp, hI _ _ i0 ((Kp.refl _ _).app _), (Kp.refl _ _).app _⟩, fun k acc g ⟨_, _, _, k4⟩ => hs g k4, fun k v acc g ev ⟨k1, k2, k3, k4⟩ hn => ?_, fun acc g ⟨k1, k2, k3, k4⟩ hn => ?_⟩
  · refine (hb k v g ev k3 k4).mono fun o g2 ⟨a1, a2, y, a3, a4⟩ => ?_
    have hn2 := a2.at_ _ _ hn (fun z => Nat.lt_irrefl _ (hS _ z))
    subst a3
    refine ⟨hn2, by rw [List.length_append, k1]; rfl, fun j z ez => ?_, hI _ _ a1 ((Kp.refl _ _).set _ _ (.inl (by simp))), (k4.trans a2).set' (Nat.le_refl _)⟩
    by_cases hj : j < acc.length
    · rw [List.getElem?_append_left hj] at ez; exact k2 j z ez
    · have hj2 := (List.getElem?_eq_some_iff.mp ez).1
      rw [List.length_append, List.length_singleton] at hj2
      have : j = k := by omega
      subst this
      rw [List.getElem?_append_right (by omega), k1, Nat.sub_self] at ez
      simp at ez
      subst ez
      exact a4
  · refine ⟨g, by rw [hl]; rfl, q acc g (by rw [k1]) k2 k3 k4 (List.getElem?_eq_some_iff.mp hn).1 hn⟩
/-- each turn's value is told by F; new objects alone -/
theorem lc_det {mi : MI} {vs : List Nat} {tg : Tg} {c : MT} {e : ME} {it : Itb} (F : Val → Option Val) (hm : mi σ h = .ok it h1) (hl : it.lk = none) (hz : it.items.length ≤ sizeLine) (hs : ∀ g, Kp [] h1 g → it.src g)
    (hb : ∀ v ∈ it.items, ∀ g, Kp [] h1 g → Wp (lcB vs tg c e σ v g) fun o g2 => Kp [] g g2 ∧ o = F v)
    (q : ∀ g, Kp [] h1 g → g[h1.length]? = some (.lst (it.items.filterMap F)) → QV (.ref h1.length) g) : Wp (mLc mi vs tg c e σ h) QV := by
  refine w_lc (fun _ _ k acc g => acc = (it.items.take k).filterMap F ∧ Kp [] h1 g) ?_
  rw [hm]
  refine .ok ⟨hz, ⟨by simp, (Kp.refl _ _).app _⟩, fun k acc g ⟨_, k4⟩ => hs g k4, fun k v acc g ev ⟨k1, k4⟩ hn => ?_, fun acc g ⟨k1, k4⟩ hn => ?_⟩
  · refine (hb v (List.mem_of_getElem? ev) g k4).mono fun o g2 ⟨a2, a3⟩ => ?_
    have hn2 := a2.at_ _ _ hn (by simp)
    have ht : it.items.take (k + 1) = it.items.take k ++ [v] := by rw [List.take_add_one, ev]; rfl
    subst a3
    refine ⟨hn2, ?_⟩
    cases e : F v with
    | none => exact ⟨by rw [ht, List.filterMap_append, k1]; simp [e], k4.trans a2⟩
    | some y => exact ⟨by rw [ht, List.filterMap_append, k1]; simp [e], (k4.trans a2).set' (Nat.le_refl _)⟩
  · refine ⟨g, by rw [hl]; rfl, q g k4 ?_⟩
    rw [hn, k1, List.take_length]
/-! ### names -/
structure okName (x : Str) : Prop where
  l1 : 1 ≤ x.length
  l8 : x.length ≤ 8
  s : ∀ c ∈ x.cps.toList, 97 ≤ c ∧ c ≤ 122
def lets : Str := "abcdefghijklmnopqrstuvwxyz"
theorem lets_cps : lets.cps.toList = List.range' 97 26 := by decide +kernel
theorem lets_len : lets.length = 26 := by decide +kernel
theorem lets_size : lets.cps.size = 26 := lets_len
theorem lets_eq : (Str.ofString "abcdefghijklmnopqrstuvwxyz") = lets := rfl
theorem pig {α : Type} [DecidableEq α] : ∀ (ys xs : List α), ys.Nodup → (∀ y ∈ ys, y ∈ xs) → ys.length ≤ xs.length
  | [], xs, _, _ => Nat.zero_le _
  | y :: ys, xs, nd, hs => by
    have hy := hs y (by simp)
    have nd' := List.nodup_cons.mp nd
    have := pig ys (xs.erase y) nd'.2 fun z hz => by
      have hne : z ≠ y := fun e => nd'.1 (e ▸ hz)
      exact (List.mem_erase_of_ne hne).mpr (hs z (by simp [hz]))
    rw [List.length_erase_of_mem hy] at this
    have h0 : 0 < xs.length := List.length_pos_of_mem hy
    rw [List.length_cons]; omega
theorem str_len (x : Str) : x.cps.toList.length = x.length := by rw [Array.length_toList]; rfl
theorem str_app (x y : Str) : (x ++ y).cps.toList = x.cps.toList ++ y.cps.toList := by
  show (x.cps ++ y.cps).toList = _
  rw [Array.toList_append]
/-- the names near to a word -/
def nearOf (w : Str) : List Str := w :: lets.cps.toList.map fun c => cutS w none (some 7) ++ (⟨#[c]⟩ : Str)
theorem cut7 (w : Str) : (cutS w none (some 7)).cps.toList = w.cps.toList.take 7 := by
  unfold cutS
  show ((w.cps.toList.drop 0).take (HT.sIx w.length w.length (some ((7 : Nat) : Int)) - 0)) = _
  rw [HT.sIx_nat, List.drop_zero, Nat.sub_zero, ← str_len]
  rw [List.take_eq_take_iff]
  omega
theorem near_ok {w : Str} (o : okName w) : ∀ x ∈ nearOf w, okName x := by
  intro x hx
  unfold nearOf at hx
  rcases List.mem_cons.mp hx with rfl | hx
  · exact o
  · obtain ⟨c, hc, rfl⟩ := List.mem_map.mp hx
    rw [lets_cps] at hc
    have hc2 : 97 ≤ c ∧ c ≤ 122 := by
      have := List.mem_range'_1.mp hc
      omega
    have e : ((cutS w none (some 7)) ++ (⟨#[c]⟩ : Str)).cps.toList = w.cps.toList.take 7 ++ [c] := by rw [str_app, cut7]
    have o8 := o.l8
    refine ⟨?_, ?_, fun d hd => ?_⟩
    · rw [← str_len, e, List.length_append]; simp
    · rw [← str_len, e, List.length_append, List.length_take, str_len]; simp; omega
    · rw [e, List.mem_append] at hd
      rcases hd with hd | hd
      · exact o.s d (List.mem_of_mem_take hd)
      · simp at hd; subst hd; exact hc2
theorem near_free {w : Str} {xs : List Str} (hx : xs.length < 26) : ∃ y ys, (nearOf w).filter (fun x => decide (x ∉ xs)) = y :: ys := by
  cases e : (nearOf w).filter (fun x => decide (x ∉ xs)) with
  | cons y ys => exact ⟨y, ys, rfl⟩
  | nil =>
    exfalso
    have hall : ∀ y ∈ nearOf w, y ∈ xs := fun y hy => by
      have := List.filter_eq_nil_iff.mp e y hy
      simpa using this
    have nd : (lets.cps.toList.map fun c => cutS w none (some 7) ++ (⟨#[c]⟩ : Str)).Nodup := by
      rw [lets_cps]
      refine List.Pairwise.map _ (fun a b hab => ?_) (List.nodup_range' (n := 26) (s := 97))
      intro z
      have : (cutS w none (some 7) ++ (⟨#[a]⟩ : Str)).cps.toList = (cutS w none (some 7) ++ (⟨#[b]⟩ : Str)).cps.toList := by rw [z]
      rw [str_app, str_app] at this
      have := List.append_cancel_left this
      simp at this
      exact hab this
    have := pig _ xs nd fun y hy => hall y (by unfold nearOf; exact List.mem_cons_of_mem _ hy)
    rw [List.length_map, str_len, lets_len] at this
    omega
/-! ### the draw at its place -/
abbrev Dw (h : Hh) : Prop := Dr 2 1 3 h
abbrev Kd (h h' : Hh) : Prop := Kp [2, 1] h h'
theorem Dw.len (D : Dw h) : 4 ≤ h.length := by
  obtain ⟨L, C, r, t, m, D, _⟩ := D
  have := (List.getElem?_eq_some_iff.mp D.c).1
  omega
theorem Kp.d {h h' : Hh} {n : Nat} {o : Ob} (K : Kd h h') (e : h[n]? = some o) (g : 4 ≤ n) : h'[n]? = some o := K.at_ _ _ e (by simp; omega)
theorem Kp.k {h h' : Hh} {n : Nat} {o : Ob} (K : Kp [] h h') (e : h[n]? = some o) : h'[n]? = some o := K.at_ _ _ e (by simp)
theorem Kp.kd {h h' : Hh} (K : Kp [] h h') : Kd h h' := K.weak (by simp)
theorem Dw.kp {S : List Nat} {h' : Hh} (D : Dw h) (K : Kp S h h') (hS : ∀ i ∈ S, 4 ≤ i) : Dw h' := by
  obtain ⟨L, C, r, t, m, D, m0, m1, lc⟩ := D
  exact ⟨L, C, r, t, m, D.kp K (fun z => absurd (hS _ z) (by omega)) (fun z => absurd (hS _ z) (by omega)) (fun z => absurd (hS _ z) (by omega)), m0, m1, lc⟩
theorem Dw.k {h' : Hh} (D : Dw h) (K : Kp [] h h') : Dw h' := D.kp K (by simp)
theorem lt_of {n : Nat} {o : Ob} (e : h[n]? = some o) : n < h.length := (List.getElem?_eq_some_iff.mp e).1
theorem take_d {n : Int} (D : Dw h) (h1 : 1 ≤ n) (h2 : n < 1073741824) (q : ∀ (k : Int) h', 0 ≤ k → k < n → Dw h' → Kd h h' → QV (.int k) h') : Wp (f__law_take [.ref 2, .int n] h) QV := take_ok D h1 h2 q
theorem pick_d {n : Nat} {vs : List Val} (D : Dw h) (e : h[n]? = some (.lst vs)) (hn : 4 ≤ n) (l1 : 1 ≤ vs.length) (l2 : vs.length < 1073741824)
    (q : ∀ v h', v ∈ vs → Dw h' → Kd h h' → QV v h') : Wp (f__law_pick [.ref 2, .ref n] h) QV := pick_ok D e (by simp; omega) l1 l2 q
theorem pick_s {z : Str} (D : Dw h) (l1 : 1 ≤ z.length) (l2 : z.length ≤ 1000)
    (q : ∀ c h', c ∈ z.cps.toList → Dw h' → Kd h h' → QV (.str ⟨#[c]⟩) h') : Wp (f__law_pick [.ref 2, .str z] h) QV := pick_str D l1 l2 q
/-! ### new objects -/
@[simp] theorem szl {n : Nat} (hn : n ≤ 1000) : n ≤ sizeLine := Nat.le_trans hn (by decide)
@[simp] theorem szlt {n : Nat} (hn : n ≤ 1000) : n < sizeLine := Nat.lt_of_le_of_lt hn (by decide)
theorem k_lst {vs : List Val} (hz : vs.length ≤ sizeLine) (q : ∀ n g, g[n]? = some (.lst vs) → h.length ≤ n → Kp [] h g → QV (.ref n) g) : Wp (vLst vs h) QV := by
  rw [lst_v h hz]
  exact .ok (q _ _ (app_new h _) (Nat.le_refl _) ((Kp.refl _ _).app _))
theorem k_tup {vs : List Val} (hz : vs.length ≤ sizeLine) (q : QV (.tup vs) h) : Wp (vTup vs h) QV := by
  rw [tup_v h hz]; exact .ok q
theorem k_addL {m n : Nat} {xs ys : List Val} (e1 : h[m]? = some (.lst xs)) (e2 : h[n]? = some (.lst ys)) (hz : xs.length + ys.length ≤ sizeLine)
    (q : ∀ n g, g[n]? = some (.lst (xs ++ ys)) → h.length ≤ n → Kp [] h g → QV (.ref n) g) : Wp (vAdd (.ref m) (.ref n) h) QV := by
  rw [add_lst e1 e2 hz]
  exact .ok (q _ _ (app_new h _) (Nat.le_refl _) ((Kp.refl _ _).app _))
theorem pure_k {m : ME} {v : Val} (e : m σ h = .ok v h1) (q : QV v h1) : Wp (m σ h) QV := by rw [e]; exact .ok q
/-! ### a word -/
theorem join_cps : ∀ xs : List Str, (Txt.join "" xs).cps.toList = xs.flatMap fun x => x.cps.toList := by
  intro xs
  rw [show Txt.join "" xs = Str.join "" xs from StrLaws.glued_eq_join "" xs]
  have e0 : ((("" : Str)).cps.toList : List Nat) = [] := by decide
  induction xs with
  | nil => rfl
  | cons x xs ih =>
    cases xs with
    | nil => simp [Str.join]
    | cons y ys =>
      show (x ++ "" ++ Str.join "" (y :: ys)).cps.toList = _
      rw [str_app, str_app, ih, e0]
      simp
theorem strsOf_of : ∀ (ys : List Val), (∀ y ∈ ys, ∃ c : Nat, 97 ≤ c ∧ c ≤ 122 ∧ y = .str ⟨#[c]⟩) → ∃ cs : List Nat, cs.length = ys.length ∧ (∀ c ∈ cs, 97 ≤ c ∧ c ≤ 122) ∧ strsOf ys = some (cs.map fun c => ⟨#[c]⟩)
  | [], _ => ⟨[], rfl, by simp, rfl⟩
  | y :: ys, hy => by
    obtain ⟨c, c1, c2, rfl⟩ := hy y (by simp)
    obtain ⟨cs, h1, h2, h3⟩ := strsOf_of ys fun z hz => hy z (by simp [hz])
    exact ⟨c :: cs, by simp [h1], by simpa using ⟨⟨c1, c2⟩, fun a ha => h2 a ha⟩, by simp [strsOf, h3]⟩
theorem flat_one : ∀ cs : List Nat, (cs.map fun c => (⟨#[c]⟩ : Str)).flatMap (fun x => x.cps.toList) = cs
  | [] => rfl
  | c :: cs => by simp [flat_one cs]
theorem word_ok {n : Nat} {ys : List Val} (e : h[n]? = some (.lst ys)) (l1 : 1 ≤ ys.length) (l8 : ys.length ≤ 8) (hy : ∀ y ∈ ys, ∃ c : Nat, 97 ≤ c ∧ c ≤ 122 ∧ y = .str ⟨#[c]⟩) : ∃ w, okName w ∧ vJoin [.str "", .ref n] h = .ok (.str w) h := by
  obtain ⟨cs, h1, h2, h3⟩ := strsOf_of ys hy
  have hc : (Txt.join "" (cs.map fun c => (⟨#[c]⟩ : Str))).cps.toList = cs := by rw [join_cps, flat_one]
  have hs : ((cs.map fun c => (⟨#[c]⟩ : Str)).map (·.length)).sum + (cs.map fun c => (⟨#[c]⟩ : Str)).length * ("" : Str).length ≤ 16777216 := by
    have : ∀ cs : List Nat, ((cs.map fun c => (⟨#[c]⟩ : Str)).map (·.length)).sum = cs.length := by
      intro cs
      induction cs with
      | nil => rfl
      | cons c cs ih =>
        simp only [List.map_cons, List.sum_cons, ih, List.length_cons]
        show 1 + cs.length = _
        omega
    rw [this]
    have : ("" : Str).length = 0 := by decide
    rw [this]; omega
  refine ⟨Txt.join "" (cs.map fun c => (⟨#[c]⟩ : Str)), ⟨?_, ?_, ?_⟩, ?_⟩
  · rw [← str_len, hc]; omega
  · rw [← str_len, hc]; omega
  · rw [hc]; exact h2
  · simp only [vJoin, e, h3, if_pos hs]
end
end U
/-! Layer B, part 6: some names. -/
namespace U
open PySem L2
section
variable {σ : Loc} {h h1 : Hh} {QV : Val → Hh → Prop} {N : Loc → Hh → Prop} {R : Val → Hh → Prop}
def pool : List Str := ["a", "b", "ab", "kind", "song", "play", "pop", "zzzzzzzz"]
theorem pool_ok : ∀ w ∈ pool, okName w := by
  have : ∀ w ∈ pool, 1 ≤ w.length ∧ w.length ≤ 8 ∧ w.cps.toList.all (fun c => decide (97 ≤ c) && decide (c ≤ 122)) = true := by decide +kernel
  intro w hw
  obtain ⟨a, b, c⟩ := this w hw
  refine ⟨a, b, fun d hd => ?_⟩
  have := List.all_eq_true.mp c d hd
  simpa using this
theorem ix0_lst {n : Nat} {v : Val} {vs : List Val} (e : h[n]? = some (.lst (v :: vs))) : vIx (.ref n) (.int 0) h = .ok v h := by
  have : L2.atI (v :: vs) 0 = some v := by simp [L2.atI, L2.ixN]
  simp only [vIx, e, this]
theorem eqF_str (a b : Str) : eqF (.str a) (.str b) = decide (b = a) := by
  show (a == b) = _
  by_cases e : b = a
  · subst e; simp
  · have : ¬ a = b := fun z => e z.symm
    simp [e, this]
theorem any_strs (x : Str) : ∀ xs : List Str, (xs.map Val.str).any (fun y => eqF y (.str x)) = decide (x ∈ xs)
  | [] => rfl
  | y :: ys => by
    rw [List.map_cons, List.any_cons, any_strs x ys, eqF_str]
    by_cases e : x = y <;> simp [e]
theorem in_strs (neg : Bool) {n : Nat} {xs : List Str} {x : Str} (e : h[n]? = some (.lst (xs.map .str))) : vIn neg (.str x) (.ref n) h = .ok (.bl (if neg then !decide (x ∈ xs) else decide (x ∈ xs))) h := by
  have h1 : (xs.map Val.str).all flat = true := by simp [flat]
  simp only [vIn, e, inSeq, h1, any_strs, flat, Bool.and_self, if_true]
/-- one name more -/
theorem some_names_step {pl fo : Nat} {xs : List Str} {m : Int} {w : Str} {x5 x7 : Option Val} (D : Dw h) (ow : okName w) (lx : xs.length < 26) (nd : xs.Nodup) (ok : ∀ x ∈ xs, okName x) (ef : h[fo]? = some (.lst (xs.map .str))) (hf : 4 ≤ fo)
    (q : ∀ y x7 g, y ∉ xs → okName y → g[fo]? = some (.lst ((xs ++ [y]).map .str)) → Kp [fo] h g → N [some (.ref 2), some (.int m), some (.ref pl), some (.str lets), some (.ref fo), x5, some (.str w), some x7, none, none, none] g) :
    WpF (b__law_some_names_2 [some (.ref 2), some (.int m), some (.ref pl), some (.str lets), some (.ref fo), x5, some (.str w), x7, none, none, none] h) N R := by
  unfold b__law_some_names_2
  rw [f_seq, f_asg, w_op, w_app, w_acons, w_varS, w_varS, w_varS, w_varS, w_varS, w_varS, w_var0, wp_ok, w_anil]
  refine k_lst (by simp) fun n1 g1 e1 l1 k1 => ?_
  have hlen : w.length ≤ sizeLine := Nat.le_trans ow.l8 (by decide)
  have hm : miVal (mVar 3) [some (.ref 2), some (.int m), some (.ref pl), some (.str lets), some (.ref fo), x5, some (.str w), x7, none, none, none] g1 = .ok ⟨lets.cps.toList.map fun c => .str ⟨#[c]⟩, fun _ => True, none⟩ g1 := rfl
  have c7 : (cutS w none (some 7)).length ≤ 7 := by rw [← str_len, cut7, List.length_take]; omega
  refine pure_k (lc_pure (fun v => match v with | .str c => some (.str (cutS w none (some 7) ++ c)) | _ => none) hm rfl (by
    show (lets.cps.toList.map fun c => Val.str ⟨#[c]⟩).length ≤ sizeLine
    rw [List.length_map, str_len, lets_len]; simp) (fun _ => trivial) fun v hv l => ?_) ?_
  · obtain ⟨c, hc, rfl⟩ := List.mem_map.mp (show v ∈ lets.cps.toList.map fun c => Val.str ⟨#[c]⟩ from hv)
    have hz : (cutS w none (some 7)).length + (⟨#[c]⟩ : Str).length ≤ sizeLine := by
      have : (⟨#[c]⟩ : Str).length = 1 := rfl
      rw [this]; exact szl (by omega)
    simp [lcB, Tg.bd, wipeL, tTrue, mOp, mSl, mpNo, mpE, mC, vSl, hlen, vAdd, hz]
  · have e2 := app_new g1 (.lst ((lets.cps.toList.map fun c => Val.str ⟨#[c]⟩).filterMap fun v => match v with | .str c => some (.str (cutS w none (some 7) ++ c)) | _ => none))
    have hfm : ((lets.cps.toList.map fun c => Val.str ⟨#[c]⟩).filterMap fun v => match v with | .str c => some (.str (cutS w none (some 7) ++ c)) | _ => none) = (lets.cps.toList.map fun c => cutS w none (some 7) ++ (⟨#[c]⟩ : Str)).map Val.str := by
      rw [List.filterMap_map, List.map_map]
      show List.filterMap (fun c => some (Val.str (cutS w none (some 7) ++ (⟨#[c]⟩ : Str)))) _ = _
      rw [List.filterMap_eq_map']
      rfl
    rw [hfm] at e2 ⊢
    have k2 : Kp [] h _ := k1.app [.lst ((lets.cps.toList.map fun c => cutS w none (some 7) ++ (⟨#[c]⟩ : Str)).map Val.str)]
    have e1' := app_at [.lst ((lets.cps.toList.map fun c => cutS w none (some 7) ++ (⟨#[c]⟩ : Str)).map Val.str)] e1
    generalize g1 ++ [Ob.lst ((lets.cps.toList.map fun c => cutS w none (some 7) ++ (⟨#[c]⟩ : Str)).map Val.str)] = g2 at e2 k2 e1' ⊢
    refine k_addL e1' e2 (by simp [lets_size]) fun n3 g3 e3 l3 k3 => ?_
    have e3' : g3[n3]? = some (.lst ((nearOf w).map .str)) := by rw [e3]; rfl
    have k3' := k2.trans k3
    have ef3 := k3'.k ef
    rw [f_name]
    show WpF (b__law_some_names_1 [some (.ref 2), some (.int m), some (.ref pl), some (.str lets), some (.ref fo), x5, some (.str w), some (.ref n3), none, none, none] g3) N R
    unfold b__law_some_names_1
    rw [f_expr]
    unfold mMt
    have hi : isT "list" (.ref fo) g3 = true := by simp [isT, ef3]
    simp only [wp_bind, w_varS, w_var0, wp_ok, hi, if_true, w_acons, w_op, w_C, w_anil]
    have hm2 : miVal (mVar 7) [some (.ref 2), some (.int m), some (.ref pl), some (.str lets), some (.ref fo), x5, some (.str w), some (.ref n3), none, none, none] g3 = .ok ⟨(nearOf w).map .str, fun h => h[n3]? = some (.lst ((nearOf w).map .str)), none⟩ g3 := val_lst rfl e3'
    refine pure_k (lc_pure (fun v => match v with | .str c => if c ∈ xs then none else some (.str c) | _ => none) hm2 rfl (by
      show ((nearOf w).map Val.str).length ≤ sizeLine
      simp [nearOf, lets_size]) (fun l => app_at [l] e3') fun v hv l => ?_) ?_
    · obtain ⟨c, hc, rfl⟩ := List.mem_map.mp (show v ∈ (nearOf w).map Val.str from hv)
      have hin := in_strs true (x := c) (app_at [l] ef3)
      simp [lcB, Tg.bd, wipeL, tBl, mOp, mC, hin, mVar]
      by_cases hc : c ∈ xs
      · simp [hc]
      · simp [hc]
    · have hfm2 : (((nearOf w).map Val.str).filterMap fun v => match v with | .str c => if c ∈ xs then none else some (.str c) | _ => none) = ((nearOf w).filter fun x => decide (x ∉ xs)).map Val.str := by
        rw [List.filterMap_map, ← List.filterMap_eq_filter, List.map_filterMap]
        congr 1
        funext c
        simp only [Function.comp, Option.guard]
        by_cases hc : c ∈ xs <;> simp [hc]
      rw [hfm2]
      obtain ⟨y, ys, hy⟩ := near_free (w := w) lx
      have hy0 : y ∈ (nearOf w).filter fun x => decide (x ∉ xs) := by rw [hy]; simp
      obtain ⟨hy1, hy2⟩ := List.mem_filter.mp hy0
      rw [hy]
      have e4 := app_new g3 (.lst ((y :: ys).map Val.str))
      have ef4 := app_at [.lst ((y :: ys).map Val.str)] ef3
      have k4 := k3'.app [.lst ((y :: ys).map Val.str)]
      generalize g3 ++ [Ob.lst ((y :: ys).map Val.str)] = g4 at e4 ef4 k4 ⊢
      rw [ix0_lst e4]
      simp only [wp_ok, vAppend, ef4, List.length_map]
      rw [if_pos (szlt (by omega))]
      simp only [wp_ok]
      refine q y _ _ (by simpa using hy2) (near_ok ow y hy1) ?_ ?_
      · rw [set_self ef4]; simp
      · exact (k4.weak (by simp)).set _ _ (.inl (by simp))
theorem some_names_ok {m : Nat} (D : Dw h) (hm : m ≤ 26)
    (q : ∀ (xs : List Str) n g, xs.length = m → xs.Nodup → (∀ x ∈ xs, okName x) → g[n]? = some (.lst (xs.map .str)) → h.length ≤ n → Dw g → Kd h g → QV (.ref n) g) : Wp (f__law_some_names [.ref 2, .int m] h) QV := by
  unfold f__law_some_names b__law_some_names
  rw [w_fn]
  show WpF (msSeq _ _ [some (.ref 2), some (.int m), none, none, none, none, none, none, none, none, none] h) _ _
  rw [f_seq, f_asg]
  simp only [w_app, w_acons, w_C, w_anil]
  refine k_lst (by simp) fun pl g1 e1 l1 k1 => ?_
  rw [f_name]
  unfold b__law_some_names_6
  rw [f_seq, f_asg]
  simp only [w_app, w_acons, w_C, w_anil]
  refine k_lst (by simp) fun fo g2 e2 l2 k2 => ?_
  refine k_tup (by simp) ?_
  simp only [lets_eq, f_tup, f_gcons, f_gnil, f_name]
  refine ⟨rfl, ?_⟩
  have hl := D.len
  have k12 := k1.trans k2
  have lpl := lt_of e1
  have D2 := D.k k12
  have ep2 : g2[pl]? = some (.lst (pool.map .str)) := by
    have := k2.k e1
    exact this
  have ll := k1.len
  show WpF (b__law_some_names_5 [some (.ref 2), some (.int m), some (.ref pl), some (.str lets), some (.ref fo), none, none, none, none, none, none] g2) _ _
  unfold b__law_some_names_5
  rw [f_seq]
  have hmi : miRng1 (mVar 1) [some (.ref 2), some (.int m), some (.ref pl), some (.str lets), some (.ref fo), none, none, none, none, none, none] g2 = .ok ⟨(List.range m).map fun i => .int ((i : Nat) : Int), fun _ => True, none⟩ g2 := by
    have := val_rng (σ := [some (.ref 2), some (.int m), some (.ref pl), some (.str lets), some (.ref fo), none, none, none, none, none, none]) (h := g2) (m := mVar 1) (j := (m : Int)) (h1 := g2) rfl (by omega)
    rw [this, Int.toNat_natCast]
  refine f_forE (it := ⟨(List.range m).map fun i => .int ((i : Nat) : Int), fun _ => True, none⟩) (h1 := g2) (fun k σ g => ∃ (xs : List Str) (x5 x6 x7 : Option Val), σ = [some (.ref 2), some (.int m), some (.ref pl), some (.str lets), some (.ref fo), x5, x6, x7, none, none, none] ∧ xs.length = k ∧ xs.Nodup ∧ (∀ x ∈ xs, okName x) ∧
    g[fo]? = some (.lst (xs.map .str)) ∧ g[pl]? = some (.lst (pool.map .str)) ∧ Dw g ∧ Kd h g) hmi rfl ⟨[], none, none, none, rfl, rfl, List.nodup_nil, by simp, e2, ep2, D2, k12.kd⟩ (fun _ _ _ _ => trivial) ?_ ?_
  · rintro k v σ' g ev ⟨xs, x5, x6, x7, rfl, lx, nd, ok, ef, ep, D, K⟩
    have hk : k < m := by
      have := (List.getElem?_eq_some_iff.mp ev).1
      simpa using this
    simp only [f_name, List.set, f_seq, f_asg, w_app, w_acons, w_varS, w_var0, wp_ok, w_anil, w_callF]
    refine ⟨rfl, pick_d D ep (by omega) (by simp [pool]) (by simp [pool]) fun w g3 hw D3 K3 => ?_⟩
    obtain ⟨w, hw', rfl⟩ := List.mem_map.mp hw
    have ow := pool_ok w hw'
    have ef3 := K3.d ef (by omega)
    have ep3 := K3.d ep (by omega)
    unfold b__law_some_names_3
    simp only [f_seq, f_if, w_tbl, w_op, w_app, w_acons, w_varS, w_var0, wp_ok, w_anil, w_callF, w_C]
    refine ⟨rfl, take_d D3 (by omega) (by omega) fun t g4 t0 t1 D4 K4 => ?_⟩
    rw [eqD_int]
    have ef4 := K4.d ef3 (by omega)
    have ep4 := K4.d ep3 (by omega)
    have K34 := (K.trans K3).trans K4
    have fin : ∀ (w : Str) (g : Hh), okName w → g[fo]? = some (.lst (xs.map .str)) → g[pl]? = some (.lst (pool.map .str)) → Dw g → Kd h g →
        WpF (b__law_some_names_2 [some (.ref 2), some (.int m), some (.ref pl), some (.str lets), some (.ref fo), some v, some (.str w), x7, none, none, none] g) (fun σ g => ∃ (xs : List Str) (x5 x6 x7 : Option Val), σ = [some (.ref 2), some (.int m), some (.ref pl), some (.str lets), some (.ref fo), x5, x6, x7, none, none, none] ∧ xs.length = k + 1 ∧ xs.Nodup ∧ (∀ x ∈ xs, okName x) ∧
          g[fo]? = some (.lst (xs.map .str)) ∧ g[pl]? = some (.lst (pool.map .str)) ∧ Dw g ∧ Kd h g) QV := fun w g ow ef ep D K => by
      refine some_names_step D ow (by omega) nd ok ef (by omega) fun y x7 g' hy oy ef' K' => ?_
      refine ⟨xs ++ [y], _, _, _, rfl, by simp [lx], ?_, ?_, ef', K'.at_ _ _ ep (by simp; omega), D.kp K' (by simp; omega), ?_⟩
      · exact List.nodup_append.mpr ⟨nd, by simp, fun a ha b hb => by
          simp at hb; subst hb; exact fun z => hy (z ▸ ha)⟩
      · intro x hx
        rcases List.mem_append.mp hx with hx | hx
        · exact ok x hx
        · simp at hx; subst hx; exact oy
      · exact ⟨Nat.le_trans K.len K'.len, fun i o e n => K'.at_ i o (K.at_ i o e n) (by
          have := lt_of e
          simp; omega)⟩
    by_cases t00 : t = 0
    · subst t00
      simp only [wp_ok, decide_true, if_true, Bool.false_eq_true, if_false]
      rw [f_asg]
      unfold mMt
      simp only [wp_bind, w_C, isT, w_acons, beq_self_eq_true, if_true, w_anil]
      have hm : Wp (miRng1 (mApp (callF 2 f__law_pick) (maCons (mVar 0) (maCons (mApp vLst (maCons (mC (.int 1)) (maCons (mC (.int 2)) (maCons (mC (.int 3)) (maCons (mC (.int 8)) maNil))))) maNil))) [some (.ref 2), some (.int m), some (.ref pl), some (.str lets), some (.ref fo), some v, some (.str w), x7, none, none, none] g4) fun it g5 => ∃ t : Nat, 1 ≤ t ∧ t ≤ 8 ∧ it = ⟨(List.range t).map fun i => .int ((i : Nat) : Int), fun _ => True, none⟩ ∧ Dw g5 ∧ Kd g4 g5 := by
        unfold miRng1
        simp only [wp_bind, w_app, w_acons, w_varS, w_var0, wp_ok, w_C, w_anil, w_callF]
        refine k_lst (by simp) fun n5 g5 e5 l5 k5 => ⟨rfl, ?_⟩
        have hl4 := D4.len
        refine pick_d (D4.k k5) e5 (by omega) (by simp) (by simp) fun u g6 hu D6 K6 => ?_
        have : ∃ t : Nat, 1 ≤ t ∧ t ≤ 8 ∧ u = .int (t : Int) := by
          simp at hu
          rcases hu with rfl | rfl | rfl | rfl
          · exact ⟨1, by omega, by omega, rfl⟩
          · exact ⟨2, by omega, by omega, rfl⟩
          · exact ⟨3, by omega, by omega, rfl⟩
          · exact ⟨8, by omega, by omega, rfl⟩
        obtain ⟨t, t1, t2, rfl⟩ := this
        dsimp only
        rw [if_pos (by omega)]
        exact .ok ⟨t, t1, t2, by simp, D6, k5.kd.trans K6⟩
      obtain ⟨it, g5, hm, t, t1, t2, rfl, D5, K5⟩ := hm.ex
      have hl5 := D5.len
      refine lc_each (S := [2, 1]) (fun _ y => ∃ c : Nat, 97 ≤ c ∧ c ≤ 122 ∧ y = .str ⟨#[c]⟩) Dw hm rfl (szl (by simp; omega)) (by simp; omega) D5 (fun g g' D K => D.kp K (by simp; omega)) (fun _ _ => trivial) (fun j u g ej Dg Kg => ?_) fun ys g ly hy Dg Kg lg eg => ?_
      · unfold lcB
        simp only [Tg.bd, wipeL, List.set, tTrue, nr_ok, bind_ok, if_true, wp_bind, wp_nr, w_app, w_acons, w_varS, w_var0, wp_ok, w_anil, w_callF]
        refine ⟨rfl, pick_s Dg (by rw [lets_len]; omega) (by rw [lets_len]; omega) fun c g' hc D' K' => ⟨D', K', _, rfl, c, ?_, ?_, rfl⟩⟩
        · rw [lets_cps] at hc; have := List.mem_range'_1.mp hc; omega
        · rw [lets_cps] at hc; have := List.mem_range'_1.mp hc; omega
      · have hl : ys.length = t := by simpa using ly
        obtain ⟨w', ow', ew⟩ := word_ok eg (by omega) (by omega) fun y hy' => by
          obtain ⟨j, hj⟩ := List.getElem?_of_mem hy'
          exact hy j y hj
        rw [ew]
        simp only [wp_ok, f_name, List.set]
        have K45 := K5.trans Kg
        exact fin w' g ow' (K45.d ef4 (by omega)) (K45.d ep4 (by omega)) Dg (K34.trans K45)
    · simp only [wp_ok, decide_eq_false t00, Bool.false_eq_true, if_false, f_nil]
      exact fin w g4 ow ef4 ep4 D4 K34
  · rintro σ' g ⟨xs, x5, x6, x7, rfl, lx, nd, ok, ef, ep, D, K⟩
    unfold b__law_some_names_4
    simp only [f_ret, w_varS, w_var0, wp_ok]
    refine q xs fo g (by simpa using lx) nd ok ef (by omega) D K
end
end U
/-! Layer B, part 7: dicts by texts, drawn cases. -/
namespace U
open PySem L2
/-- a dict with texts as keys -/
def sd (l : List (Str × Val)) : List (Val × Val) := l.map fun p => (.str p.1, p.2)
def nd (l : List (Str × Int)) : List (Val × Val) := l.map fun p => (.str p.1, .int p.2)
theorem nd_sd (l : List (Str × Int)) : nd l = sd (l.map fun p => (p.1, .int p.2)) := by simp [nd, sd]
@[simp] theorem key_str (a b : Str) : (keyOf (.str a) = keyOf (.str b)) ↔ a = b := by simp [keyOf]
theorem dget_sd (l : List (Str × Val)) (x : Str) : dGet (sd l) (.str x) = l.lookup x := by
  induction l with
  | nil => rfl
  | cons p l ih =>
    obtain ⟨a, v⟩ := p
    show (if keyOf (.str a) = keyOf (.str x) then some v else dGet (sd l) (.str x)) = _
    rw [List.lookup_cons, ih]
    by_cases e : a = x
    · subst e; simp
    · have : (x == a) = false := by simpa using fun z => e z.symm
      simp [e, this]
theorem lookup_nd (l : List (Str × Int)) (x : Str) : dGet (nd l) (.str x) = (l.lookup x).map .int := by
  rw [nd_sd, dget_sd]
  induction l with
  | nil => rfl
  | cons p l ih =>
    obtain ⟨a, v⟩ := p
    rw [List.map_cons, List.lookup_cons, List.lookup_cons]
    cases x == a <;> simp [ih]
/-- put in by a text -/
def sput {α : Type} (l : List (Str × α)) (x : Str) (v : α) : List (Str × α) := if l.any (fun p => decide (p.1 = x)) = true then l.map (fun p => if p.1 = x then (p.1, v) else p) else l ++ [(x, v)]
theorem dput_sd (l : List (Str × Val)) (x : Str) (v : Val) : dPut (sd l) (.str x) v = sd (sput l x v) := by
  unfold dPut sput
  have e1 : (sd l).any (fun kv => decide (keyOf kv.1 = keyOf (.str x))) = l.any (fun p => decide (p.1 = x)) := by
    unfold sd
    rw [List.any_map]
    congr 1
    funext p
    simp
  rw [e1]
  split
  · unfold sd
    rw [List.map_map, List.map_map]
    congr 1
    funext p
    simp only [Function.comp]
    by_cases e : p.1 = x <;> simp [e]
  · simp [sd]
theorem dput_nd (l : List (Str × Int)) (x : Str) (v : Int) : dPut (nd l) (.str x) (.int v) = nd (sput l x v) := by
  rw [nd_sd, dput_sd, nd_sd]
  congr 1
  unfold sput
  have e1 : (l.map fun p => (p.1, Val.int p.2)).any (fun p => decide (p.1 = x)) = l.any (fun p => decide (p.1 = x)) := by
    rw [List.any_map]; rfl
  rw [e1]
  split
  · rw [List.map_map, List.map_map]
    congr 1
    funext p
    simp only [Function.comp]
    by_cases e : p.1 = x <;> simp [e]
  · simp
theorem sput_new {α : Type} {l : List (Str × α)} {x : Str} {v : α} (hx : x ∉ l.map (·.1)) : sput l x v = l ++ [(x, v)] := by
  unfold sput
  rw [if_neg]
  intro z
  obtain ⟨p, hp, e⟩ := List.any_eq_true.mp z
  exact hx (List.mem_map.mpr ⟨p, hp, by simpa using e⟩)
theorem sput_head {α : Type} {l : List (Str × α)} {x : Str} {v w : α} (hx : x ∉ l.map (·.1)) : sput ((x, w) :: l) x v = (x, v) :: l := by
  unfold sput
  rw [if_pos (by simp), List.map_cons]
  simp only [if_true]
  congr 1
  rw [List.map_congr_left (g := id)]
  · simp
  · intro p hp
    rw [if_neg]; rfl
    intro e
    exact hx (List.mem_map.mpr ⟨p, hp, e⟩)
theorem merge_sd : ∀ (l m : List (Str × Val)), ((m ++ l).map (·.1)).Nodup → dMerge (sd m) (sd l) = sd (m ++ l)
  | [], m, _ => by simp [dMerge, sd]
  | (x, v) :: l, m, nd => by
    have hx : x ∉ m.map (·.1) := fun z => by
      rw [List.map_append, List.map_cons] at nd
      exact (List.nodup_append.mp nd).2.2 x z x (by simp) rfl
    show dMerge (dPut (sd m) (.str x) v) (sd l) = _
    rw [dput_sd, sput_new hx, merge_sd l (m ++ [(x, v)]) (by simpa using nd)]
    simp
theorem merge_sd0 {l : List (Str × Val)} (n : (l.map (·.1)).Nodup) : dMerge [] (sd l) = sd l := by
  have := merge_sd l [] (by simpa using n)
  simpa [sd] using this
theorem pairs_sd : ∀ l : List (Str × Val), pairsOf (l.map fun p => .tup [.str p.1, p.2]) = some (sd l)
  | [] => rfl
  | (x, v) :: l => by
    show (if (keyOf (.str x)).isSome = true then (pairsOf (l.map fun p => .tup [.str p.1, p.2])).map ((Val.str x, v) :: ·) else none) = _
    rw [pairs_sd l]; rfl
theorem keys_ok_sd : ∀ l : List (Str × Val), keysOk (sd l) = true
  | [] => rfl
  | (x, v) :: l => by
    show ((keyOf (.str x)).isSome && keysOk (sd l)) = true
    rw [keys_ok_sd l]; rfl
/-! ### numbers of songs -/
structure okNum (l : List (Str × Int)) (K : Nat) (M : Int) : Prop where
  l1 : 1 ≤ l.length
  lK : l.length ≤ K
  nd : (l.map (·.1)).Nodup
  nm : ∀ p ∈ l, okName p.1
  vl : ∀ p ∈ l, 0 ≤ p.2 ∧ p.2 ≤ M
  po : 0 < (l.map (·.2)).sum
def caseD (ws ss : List Int) (sp : Int) (n : Nat) : List (Val × Val) := [(.str "weights", .tup (ws.map .int)), (.str "skipped", .tup (ss.map .int)), (.str "spread", .int sp), (.str "numbers", .ref n)]
/-- a drawn case lies at c, its numbers at n -/
structure Case (c n : Nat) (ws ss : List Int) (sp : Int) (l : List (Str × Int)) (h : Hh) : Prop where
  c4 : 4 ≤ c
  n4 : 4 ≤ n
  ne : n ≠ c
  ec : h[c]? = some (.dct (caseD ws ss sp n))
  en : h[n]? = some (.dct (nd l))
section
variable {σ : Loc} {h h1 : Hh} {QV : Val → Hh → Prop} {N : Loc → Hh → Prop} {R : Val → Hh → Prop}
variable {c n : Nat} {ws ss : List Int} {sp : Int} {l : List (Str × Int)}
theorem Case.d {h' : Hh} (C : Case c n ws ss sp l h) (K : Kd h h') : Case c n ws ss sp l h' := ⟨C.c4, C.n4, C.ne, K.d C.ec C.c4, K.d C.en C.n4⟩
theorem Case.k {h' : Hh} (C : Case c n ws ss sp l h) (K : Kp [] h h') : Case c n ws ss sp l h' := C.d K.kd
theorem Case.weights (C : Case c n ws ss sp l h) : vIx (.ref c) (.str "weights") h = .ok (.tup (ws.map .int)) h := by simp [vIx, C.ec, keyOf, caseD, dGet, str_inj]
theorem Case.skipped (C : Case c n ws ss sp l h) : vIx (.ref c) (.str "skipped") h = .ok (.tup (ss.map .int)) h := by simp [vIx, C.ec, keyOf, caseD, dGet, str_inj]
theorem Case.spread (C : Case c n ws ss sp l h) : vIx (.ref c) (.str "spread") h = .ok (.int sp) h := by simp [vIx, C.ec, keyOf, caseD, dGet, str_inj]
theorem Case.numbers (C : Case c n ws ss sp l h) : vIx (.ref c) (.str "numbers") h = .ok (.ref n) h := by simp [vIx, C.ec, keyOf, caseD, dGet, str_inj]
theorem tuple_lst {n : Nat} {vs : List Val} (e : h[n]? = some (.lst vs)) : vTuple [.ref n] h = .ok (.tup vs) h := by simp only [vTuple, e]
theorem vals_dct {n : Nat} {kvs : List (Val × Val)} (e : h[n]? = some (.dct kvs)) : vVals (.ref n) h = .ok (.ref h.length) (h ++ [.lst (kvs.map (·.2))]) := by simp only [vVals, e]
theorem list_dct {n : Nat} {kvs : List (Val × Val)} (e : h[n]? = some (.dct kvs)) : vList [.ref n] h = .ok (.ref h.length) (h ++ [.lst (keysV kvs)]) := by simp only [vList, e]
theorem sum_lst {n : Nat} {is : List Int} (e : h[n]? = some (.lst (is.map .int))) : vSum [.ref n] h = .ok (.int is.sum) h := by simp only [vSum, e, intsOf_map]
@[simp] theorem w_vals (a : ME) : Wp (mVals a σ h) QV ↔ Wp (a σ h) fun x h1 => Wp (vVals x h1) QV := by simp [mVals]
theorem k_vals {n : Nat} {kvs : List (Val × Val)} (e : h[n]? = some (.dct kvs)) (q : ∀ m g, g[m]? = some (.lst (kvs.map (·.2))) → h.length ≤ m → Kp [] h g → QV (.ref m) g) : Wp (vVals (.ref n) h) QV := by
  rw [vals_dct e]
  exact .ok (q _ _ (app_new h _) (Nat.le_refl _) ((Kp.refl _ _).app _))
theorem k_list_dct {n : Nat} {kvs : List (Val × Val)} (e : h[n]? = some (.dct kvs)) (q : ∀ m g, g[m]? = some (.lst (keysV kvs)) → h.length ≤ m → Kp [] h g → QV (.ref m) g) : Wp (vList [.ref n] h) QV := by
  rw [list_dct e]
  exact .ok (q _ _ (app_new h _) (Nat.le_refl _) ((Kp.refl _ _).app _))
theorem nd_vals (l : List (Str × Int)) : (nd l).map (·.2) = (l.map (·.2)).map Val.int := by simp [nd]
theorem nd_keys (l : List (Str × Int)) : keysV (nd l) = (l.map (·.1)).map Val.str := by simp [nd, keysV]
/-- picks of weights -/
theorem loads_ok {mi : MI} {e : ME} {it : Itb} {t mn : Nat} {ms : List Int} (hm : mi σ h = .ok it h) (hi : it = ⟨(List.range t).map fun i => .int ((i : Nat) : Int), fun _ => True, none⟩) (ht : t ≤ 4) (D : Dw h) (em : h[mn]? = some (.lst (ms.map .int))) (hmn : 4 ≤ mn)
    (hb : ∀ v g, Dw g → g[mn]? = some (.lst (ms.map .int)) → Wp (e ((wipeL σ [10]).set 10 (some v)) g) fun y g2 => Dw g2 ∧ Kd g g2 ∧ ∃ w : Int, y = .int w ∧ 0 ≤ w ∧ w ≤ 9)
    (q : ∀ (ws : List Int) g, ws.length = t → okW ws → Dw g → Kd h g → QV (.tup (ws.map .int)) g) : Wp (mLc mi [10] (.one 10) tTrue e σ h) fun v g => Wp (vTuple [v] g) QV := by
  subst hi
  have hl := D.len
  have lm := lt_of em
  refine lc_each (S := [2, 1]) (fun _ y => ∃ w : Int, y = .int w ∧ 0 ≤ w ∧ w ≤ 9) (fun g => Dw g ∧ g[mn]? = some (.lst (ms.map .int))) hm rfl (szl (by simp; omega)) (by simp; omega) ⟨D, em⟩ (fun g g' D K => ⟨D.1.kp K (by simp; omega), K.at_ _ _ D.2 (by simp; omega)⟩) (fun _ _ => trivial) (fun j u g ej Dg Kg => ?_) fun ys g ly hy Dg Kg lg eg => ?_
  · unfold lcB
    simp only [Tg.bd, tTrue, nr_ok, bind_ok, if_true, wp_bind, wp_nr]
    refine (hb u g Dg.1 Dg.2).mono fun y g2 ⟨D2, K2, w, e1, e2, e3⟩ => ?_
    exact ⟨⟨D2, K2.d Dg.2 hmn⟩, K2, y, rfl, w, e1, e2, e3⟩
  · have hl : ys.length = t := by simpa using ly
    rw [tuple_lst eg]
    have : ∃ ws : List Int, ys = ws.map .int ∧ okW ws := by
      have : ∀ y ∈ ys, ∃ w : Int, y = .int w ∧ 0 ≤ w ∧ w ≤ 9 := fun y hy' => by
        obtain ⟨j, hj⟩ := List.getElem?_of_mem hy'
        exact hy j y hj
      clear hy ly hl eg
      induction ys with
      | nil => exact ⟨[], rfl, by simp [okW]⟩
      | cons y ys ih =>
        obtain ⟨w, rfl, w1, w2⟩ := this y (by simp)
        obtain ⟨ws, rfl, ow⟩ := ih fun z hz => this z (by simp [hz])
        exact ⟨w :: ws, rfl, by
          intro z hz
          rcases List.mem_cons.mp hz with rfl | hz
          · exact ⟨w1, w2⟩
          · exact ow z hz⟩
    obtain ⟨ws, rfl, ow⟩ := this
    exact .ok (q ws g (by simpa using hl) ow Dg.1 Kg)
end
end U
/-! Layer B, part 8: a drawn case. -/
namespace U
open PySem L2
section
variable {σ : Loc} {h h1 : Hh} {QV : Val → Hh → Prop} {N : Loc → Hh → Prop} {R : Val → Hh → Prop}
theorem w_rng1 {m : ME} {Q : Itb → Hh → Prop} (w : Wp (m σ h) fun v h1 => ∃ t : Nat, v = .int (t : Int) ∧ t ≤ 1000000 ∧ Q ⟨(List.range t).map fun i => .int ((i : Nat) : Int), fun _ => True, none⟩ h1) : Wp (miRng1 m σ h) Q := by
  unfold miRng1
  rw [wp_bind]
  refine w.mono fun v h1 ⟨t, e, l, q⟩ => ?_
  subst e
  dsimp only
  rw [if_pos (by omega), Int.toNat_natCast]
  exact .ok q
theorem dict_lst {n : Nat} {ps : List (Str × Val)} (e : h[n]? = some (.lst (ps.map fun p => .tup [.str p.1, p.2]))) (hn : (ps.map (·.1)).Nodup) : vDict [.ref n] h = .ok (.ref h.length) (h ++ [.dct (sd ps)]) := by
  simp only [vDict, e, pairs_sd, merge_sd0 hn]
theorem eq_ints : ∀ (is : List Int), (∀ i ∈ is, 0 ≤ i) → is.sum = 0 → ∀ i ∈ is, i = 0
  | [], _, _, i, hi => by cases hi
  | j :: is, h0, hs, i, hi => by
    have hnn : ∀ l : List Int, (∀ i ∈ l, 0 ≤ i) → 0 ≤ l.sum := by
      intro l hl
      induction l with
      | nil => simp
      | cons a l ih => rw [List.sum_cons]; have := hl a (by simp); have := ih fun i hi => hl i (by simp [hi]); omega
    rw [List.sum_cons] at hs
    have := h0 j (by simp)
    have := hnn is fun i hi => h0 i (by simp [hi])
    rcases List.mem_cons.mp hi with rfl | hi
    · omega
    · exact eq_ints is (fun i hi => h0 i (by simp [hi])) (by omega) i hi
theorem sum_nn : ∀ (l : List Int), (∀ i ∈ l, 0 ≤ i) → 0 ≤ l.sum
  | [], _ => by simp
  | a :: l, hl => by rw [List.sum_cons]; have := hl a (by simp); have := sum_nn l fun i hi => hl i (by simp [hi]); omega
theorem nums_of : ∀ (xs : List Str) (ys : List Val) (M : Int), ys.length = xs.length → (∀ (k : Nat) (y : Val), ys[k]? = some y → ∃ (x : Str) (i : Int), xs[k]? = some x ∧ y = .tup [.str x, .int i] ∧ 0 ≤ i ∧ i ≤ M) →
    ∃ l : List (Str × Int), l.map (·.1) = xs ∧ (∀ p ∈ l, 0 ≤ p.2 ∧ p.2 ≤ M) ∧ ys = (l.map fun p => (p.1, Val.int p.2)).map fun p => .tup [.str p.1, p.2]
  | [], ys, M, hl, _ => ⟨[], rfl, by simp, by
    have : ys = [] := List.length_eq_zero_iff.mp hl
    rw [this]; rfl⟩
  | x :: xs, [], M, hl, _ => by cases hl
  | x :: xs, y :: ys, M, hl, hy => by
    obtain ⟨x', i, e1, e2, i0, i1⟩ := hy 0 y rfl
    simp at e1
    subst e1
    obtain ⟨l, l1, l2, l3⟩ := nums_of xs ys M (by simpa using hl) fun k y' ey => by
      obtain ⟨x', i, e1, e2⟩ := hy (k + 1) y' (by simpa using ey)
      exact ⟨x', i, by simpa using e1, e2⟩
    refine ⟨(x, i) :: l, by simp [l1], ?_, by rw [l3, e2]; rfl⟩
    intro p hp
    rcases List.mem_cons.mp hp with rfl | hp
    · exact ⟨i0, i1⟩
    · exact l2 p hp
theorem drawn_case_ok {cap K : Nat} {M : Int} (D : Dw h) (hc : 1 ≤ cap ∧ cap ≤ 4) (hK : 1 ≤ K ∧ K ≤ 26) (hM : 1 ≤ M ∧ M ≤ 1000000)
    (q : ∀ ws ss sp l c n g, okR ws ss sp → ws.length ≤ cap → okNum l K M → Case c n ws ss sp l g → h.length ≤ n → h.length ≤ c → Dw g → Kd h g → QV (.ref c) g) : Wp (f__law_drawn_case [.ref 2, .int cap, .int K, .int M] h) QV := by
  unfold f__law_drawn_case b__law_drawn_case
  rw [w_fn]
  show WpF (msSeq _ _ [some (.ref 2), some (.int cap), some (.int K), some (.int M), none, none, none, none, none, none, none, none] h) _ _
  have hl := D.len
  simp only [f_seq, f_asg, w_app, w_acons, w_anil, w_C, w_op, w_callF, w_varS, w_var0, wp_ok]
  refine ⟨rfl, take_d D (by omega) (by omega) fun t g1 t0 t1 D1 K1 => ?_⟩
  rw [add_int, wp_ok]
  refine k_lst (by simp) fun n1 g2 e1 l2 k2 => ?_
  refine k_lst (by simp) fun n2 g3 e2 l3 k3 => ?_
  refine k_lst (by simp) fun n3 g4 e3 l4 k4 => ?_
  refine k_lst (by simp) fun n4 g5 e4 l5 k5 => ?_
  refine k_lst (by simp) fun n5 g6 e5 l6 k6 => ?_
  refine k_lst (by simp) fun n6 g7 e6 l7 k7 => ⟨rfl, ?_⟩
  have k57 := k6.trans k7
  have k47 := k5.trans k57
  have k37 := k4.trans k47
  have k27 := k3.trans k37
  have k17 := k2.trans k27
  have len1 := K1.len
  have a1 := k2.len
  have a2 := k3.len
  have a3 := k4.len
  have a4 := k5.len
  have a5 := k6.len
  refine pick_d (D1.k k17) e6 (by omega) (by simp) (by simp) fun v g8 hv D8 K8 => ?_
  have K18 : Kd h g8 := (K1.trans k17.kd).trans K8
  obtain ⟨mn, ms, hmn, rfl, em, om, lm1, lm2⟩ : ∃ mn ms, 4 ≤ mn ∧ v = .ref mn ∧ g8[mn]? = some (.lst (List.map Val.int ms)) ∧ okW ms ∧ 1 ≤ ms.length ∧ ms.length ≤ 4 := by
    simp at hv
    rcases hv with rfl | rfl | rfl | rfl | rfl
    · exact ⟨n1, [0, 1], by omega, rfl, K8.d (k27.k e1) (by omega), by simp [okW], by simp, by simp⟩
    · exact ⟨n2, [0, 0, 1, 2], by omega, rfl, K8.d (k37.k e2) (by omega), by simp [okW], by simp, by simp⟩
    · exact ⟨n3, [1, 2, 3], by omega, rfl, K8.d (k47.k e3) (by omega), by simp [okW], by simp, by simp⟩
    · exact ⟨n4, [0, 1, 5, 9], by omega, rfl, K8.d (k57.k e4) (by omega), by simp [okW], by simp, by simp⟩
    · exact ⟨n5, [0, 3], by omega, rfl, K8.d (k7.k e5) (by omega), by simp [okW], by simp, by simp⟩
  refine k_tup (by simp) ?_
  simp only [f_tup, f_gcons, f_gnil, f_name, List.set]
  refine ⟨rfl, ?_⟩
  clear hv e1 e2 e3 e4 e5 e6 k57 k47 k37 k27 k17 k2 k3 k4 k5 k6 k7 K1 K8
  obtain ⟨t, rfl⟩ : ∃ t' : Nat, t = t' := ⟨t.toNat, by omega⟩
  -- the weights
  unfold b__law_drawn_case_6
  simp only [f_seq, f_asg, w_app, w_acons, w_anil]
  have hl8 := D8.len
  have hm1 : miRng1 (mVar 4) [some (.ref 2), some (.int cap), some (.int K), some (.int M), some (.int (1 + (t : Int))), some (.ref mn), none, none, none, none, none, none] g8 = .ok ⟨(List.range (1 + t)).map fun i => .int ((i : Nat) : Int), fun _ => True, none⟩ g8 := by
    rw [val_rng (j := 1 + (t : Int)) (h1 := g8) rfl (by omega), show (1 + (t : Int)).toNat = 1 + t by omega]
  refine loads_ok hm1 rfl (by omega) D8 em hmn (fun v g Dg eg => ?_) fun ws g9 lw ow D9 K9 => ?_
  · simp only [wipeL, List.set, w_app, w_acons, w_anil, w_varS, w_var0, wp_ok, w_callF]
    refine ⟨rfl, pick_d Dg eg hmn (by simpa using lm1) (by simp; omega) fun v g2 hv D2 K2 => ?_⟩
    obtain ⟨w, hw, rfl⟩ := List.mem_map.mp hv
    exact ⟨D2, K2, w, rfl, om w hw⟩
  simp only [f_name, List.set]
  have em9 := K9.d em hmn
  -- the skipped ones
  unfold b__law_drawn_case_5
  simp only [f_seq, f_asg, w_app, w_acons, w_anil]
  have hl9 := D9.len
  have hm2 : miRng1 (mOp vSub (mVar 4) (mC (.int 1))) [some (.ref 2), some (.int cap), some (.int K), some (.int M), some (.int (1 + (t : Int))), some (.ref mn), some (.tup (ws.map .int)), none, none, none, none, none] g9 = .ok ⟨(List.range t).map fun i => .int ((i : Nat) : Int), fun _ => True, none⟩ g9 := by
    rw [val_rng (j := 1 + (t : Int) - 1) (h1 := g9) rfl (by omega), show (1 + (t : Int) - 1).toNat = t by omega]
  refine loads_ok hm2 rfl (by omega) D9 em9 hmn (fun v g Dg eg => ?_) fun ss g10 ls os D10 K10 => ?_
  · have hlg := Dg.len
    simp only [wipeL, List.set, w_app, w_acons, w_anil, w_varS, w_var0, wp_ok, w_callF, w_op, w_C]
    refine k_lst (by simp) fun n1 g1 e1 l1 k1 => ?_
    refine k_addL (k1.k eg) e1 (szl (by simp; omega)) fun n2 g2 e2 l2 k2 => ⟨rfl, ?_⟩
    have := k1.len
    refine pick_d ((Dg.k k1).k k2) e2 (by omega) (by simp) (by simp; omega) fun v g3 hv D3 K3 => ?_
    refine ⟨D3, (k1.trans k2).kd.trans K3, ?_⟩
    rcases List.mem_append.mp hv with hv | hv
    · obtain ⟨w, hw, rfl⟩ := List.mem_map.mp hv
      exact ⟨w, rfl, om w hw⟩
    · simp at hv
      exact ⟨0, hv, by omega, by omega⟩
  simp only [f_name, List.set]
  -- the names
  unfold b__law_drawn_case_4
  simp only [f_seq, f_asg, w_app, w_acons, w_anil, w_C, w_op, w_callF, w_varS, w_var0, wp_ok]
  refine ⟨rfl, take_d D10 (by omega) (by omega) fun u g11 u0 u1 D11 K11 => ?_⟩
  rw [add_int, wp_ok]
  refine ⟨rfl, ?_⟩
  obtain ⟨u, rfl⟩ : ∃ t' : Nat, u = t' := ⟨u.toNat, by omega⟩
  have eu : (1 + (u : Int)) = ((1 + u : Nat) : Int) := by omega
  rw [eu]
  have hl11 := D11.len
  refine some_names_ok D11 (by omega) fun xs nx g12 lx nx2 ox ex hx D12 K12 => ?_
  simp only [f_name, List.set]
  have hl12 := D12.len
  -- the numbers
  unfold b__law_drawn_case_3
  simp only [f_seq, f_asg, w_app, w_acons, w_anil]
  have hm3 : miVal (mVar 8) [some (.ref 2), some (.int cap), some (.int K), some (.int M), some (.int (1 + (t : Int))), some (.ref mn), some (.tup (ws.map .int)), some (.tup (ss.map .int)), some (.ref nx), none, none, none] g12 = .ok ⟨xs.map .str, fun h => h[nx]? = some (.lst (xs.map .str)), none⟩ g12 := val_lst rfl ex
  have lnx := lt_of ex
  refine lc_each (S := [2, 1]) (fun k y => ∃ (x : Str) (i : Int), xs[k]? = some x ∧ y = .tup [.str x, .int i] ∧ 0 ≤ i ∧ i ≤ M) Dw hm3 rfl (szl (by simp; omega)) (by simp; omega) D12 (fun g g' D K => D.kp K (by simp; omega)) (fun g Kg => Kg.d ex (by omega)) (fun j v g ej Dg Kg => ?_) fun ys g13 ly hy D13 K13 lg13 e13 => ?_
  · have ej' : (xs.map Val.str)[j]? = some v := ej
    rw [List.getElem?_map] at ej'
    cases exj : xs[j]? with
    | none => rw [exj] at ej'; cases ej'
    | some x =>
      rw [exj] at ej'
      simp at ej'
      subst ej'
      unfold lcB
      simp only [Tg.bd, wipeL, List.set, tTrue, nr_ok, bind_ok, if_true, wp_bind, wp_nr, w_app, w_acons, w_anil, w_C, w_op, w_callF, w_varS, w_var0, wp_ok, add_int]
      refine ⟨rfl, take_d Dg (by omega) (by omega) fun i g2 i0 i1 D2 K2 => ?_⟩
      refine k_tup (by simp) ?_
      exact ⟨D2, K2, _, rfl, x, i, rfl, rfl, i0, by omega⟩
  obtain ⟨l, l1, l2, l3⟩ := nums_of xs ys M (by simpa using ly) hy
  rw [l3] at e13
  have ndl : ((l.map fun p => (p.1, Val.int p.2)).map (·.1)).Nodup := by
    rw [List.map_map]
    show (l.map fun p => p.1).Nodup
    rw [l1]; exact nx2
  rw [dict_lst e13 ndl, ← nd_sd, wp_ok, f_name]
  simp only [List.set]
  have ll : l.length = 1 + u := by rw [← lx, ← l1, List.length_map]
  have e14 := app_new g13 (.dct (nd l))
  have D14 := D13.k ((Kp.refl [] g13).app [.dct (nd l)])
  have K14 := K13.app [.dct (nd l)]
  generalize g13 ++ [Ob.dct (nd l)] = g14 at e14 D14 K14 ⊢
  have fin : ∀ (l : List (Str × Int)) (g : Hh), okNum l K M → g[g13.length]? = some (.dct (nd l)) → Dw g → Kd h g →
      WpF (b__law_drawn_case_1 [some (.ref 2), some (.int cap), some (.int K), some (.int M), some (.int (1 + (t : Int))), some (.ref mn), some (.tup (ws.map .int)), some (.tup (ss.map .int)), some (.ref nx), some (.ref g13.length), none, none] g) (fun _ h' => QV .non h') QV := fun l g ol e D K => by
    unfold b__law_drawn_case_1
    rw [f_ret]
    refine w_disp _ ?_
    have D' := D.k ((Kp.refl [] g).app [.dct []])
    have hlg := D.len
    have hll := K.len
    simp only [w_pcons, w_pnil, w_C, w_varS, w_var0, wp_ok, w_app, w_acons, w_anil, w_callF]
    refine ⟨rfl, take_d D' (by omega) (by omega) fun sp g2 s0 s1 D2 K2 => ⟨K2.d (app_new g _) (by omega), rfl, by simp, ?_⟩⟩
    have hd : dMerge [] [(Val.str "weights", Val.tup (ws.map .int)), (.str "skipped", .tup (ss.map .int)), (.str "spread", .int sp), (.str "numbers", .ref g13.length)] = caseD ws ss sp g13.length := by
      simp [dMerge, dPut, caseD, keyOf, str_inj]
    rw [hd]
    have e' := K2.d (app_at [.dct []] e) (by omega)
    have lgt := lt_of e
    have hk := K12.len
    have hk2 := K13.len
    have hk3 := K11.len
    have hk4 := K10.len
    have hk5 := K9.len
    have hk6 := K18.len
    refine q ws ss sp l g.length g13.length _ ⟨ow, os, by omega, by omega, by omega, s0, by omega⟩ (by omega) ol ⟨by omega, by omega, by omega, set_self (K2.d (app_new g _) (by omega)), set_at e' (by omega)⟩ (by omega) (by omega) (D2.kp ((Kp.refl [g.length] g2).set _ _ (.inl (by simp))) (by simp; omega)) ?_
    exact (((K.app [.dct []]).trans K2)).set' hll
  have Kall : Kd h g14 := (((((K18.trans K9).trans K10).trans K11).trans K12).trans K14)
  have nml : ∀ p ∈ l, okName p.1 := fun p hp => ox p.1 (by rw [← l1]; exact List.mem_map.mpr ⟨p, hp, rfl⟩)
  have nndl : (l.map (·.1)).Nodup := by rw [l1]; exact nx2
  unfold b__law_drawn_case_2
  simp only [f_seq, f_if, w_tbl, w_op, w_app, w_acons, w_anil, w_vals, w_varS, w_var0, wp_ok]
  refine k_vals e14 fun nv g15 e15 l15 k15 => ?_
  rw [nd_vals] at e15
  rw [sum_lst e15, wp_ok, w_C, eqD_int, wp_ok]
  have e14' := k15.k e14
  have hlast := Kall.len
  have h13 := K13.len
  by_cases hs : (l.map (·.2)).sum = 0
  · rw [decide_eq_true hs]
    simp only [Bool.false_eq_true, if_false, if_true, f_asg, w_C, f_sub, w_varS, w_var0, wp_ok, w_op, w_app, w_acons, w_anil]
    refine k_list_dct e14' fun nk g16 e16 l16 k16 => ?_
    rw [nd_keys] at e16
    obtain ⟨x, i, l', rfl⟩ : ∃ x i l', l = (x, i) :: l' := by
      cases l with
      | nil => simp at ll; omega
      | cons p l' => exact ⟨p.1, p.2, l', rfl⟩
    rw [ix0_lst e16]
    have e14'' := k16.k e14'
    have hvs : vSet (.ref g13.length) (.str x) (.int 1) g16 = some (g16.set g13.length (.dct (nd ((x, 1) :: l')))) := by
      have hp : dPut (nd ((x, i) :: l')) (.str x) (.int 1) = nd ((x, 1) :: l') := by
        rw [dput_nd, sput_head]
        simp at nndl
        simpa using nndl.1
      simp only [vSet, e14'', keyOf, hp]
      rw [if_pos (szlt (by simp [nd] at ll ⊢; omega))]
    simp only [wp_ok, hvs]
    refine fin _ _ ⟨by simp, ?_, by simpa using nndl, ?_, ?_, ?_⟩ (set_self e14'') ((D14.k (k15.trans k16)).kp ((Kp.refl [g13.length] g16).set _ _ (.inl (by simp))) (by simp; omega)) ?_
    · simp at ll ⊢; omega
    · intro p hp
      rcases List.mem_cons.mp hp with rfl | hp
      · exact nml (x, i) (by simp)
      · exact nml p (by simp [hp])
    · intro p hp
      rcases List.mem_cons.mp hp with rfl | hp
      · exact ⟨by simp, hM.1⟩
      · exact l2 p (by simp [hp])
    · rw [List.map_cons, List.sum_cons]
      have := sum_nn (l'.map (·.2)) fun i hi => by
        obtain ⟨p, hp, rfl⟩ := List.mem_map.mp hi
        exact (l2 p (by simp [hp])).1
      show 0 < 1 + _
      omega
    · have hk : h.length ≤ g13.length := by
        have hk := K12.len
        have hk3 := K11.len
        have hk4 := K10.len
        have hk5 := K9.len
        have hk6 := K18.len
        omega
      exact ((Kall.trans (k15.trans k16).kd)).set' hk
  · rw [decide_eq_false hs]
    simp only [Bool.false_eq_true, if_false, f_nil]
    refine fin l g15 ⟨by omega, by omega, nndl, nml, l2, ?_⟩ e14' (D14.k k15) (Kall.trans k15.kd)
    have := sum_nn (l.map (·.2)) fun i hi => by
      obtain ⟨p, hp, rfl⟩ := List.mem_map.mp hi
      exact (l2 p hp).1
    omega
end
end U
/-! Layer B, part 9: data: repr and ==. -/
namespace U
open PySem L2
mutual
/-- the size of data; huge numbers and odd texts count as too great -/
def dz : PyData → Nat
  | .none => 1
  | .bool _ => 1
  | .int i => if i.natAbs < 10 ^ 40 then 140 else 1000000000
  | .str x => if x.cps.all (· < 0x110000) = true then x.cps.size + 1 else 1000000000
  | .list xs => dzs xs + 1
  | .tuple xs => dzs xs + 1
  | .dict kvs => dzk kvs + 1
def dzs : List PyData → Nat
  | [] => 0
  | x :: xs => dz x + 1 + dzs xs
def dzk : List (PyData × PyData) → Nat
  | [] => 0
  | (k, v) :: r => dz k + dz v + 2 + dzk r
end
theorem int_shown {i : Int} (h : i.natAbs < 10 ^ 40) : (PyData.shown (.int i)).length ≤ 41 ∧ i.natAbs.log2 < 1920 ∧ (if i == 0 then 0 else i.natAbs.log2 + 1) ≤ 140 := by
  have h3 : i.natAbs.log2 < 133 := by
    by_cases e : i.natAbs = 0
    · rw [e]; decide
    · exact (Nat.log2_lt e).mpr (Nat.lt_trans h (by decide))
  refine ⟨?_, by omega, by split <;> omega⟩
  have hr : ∀ m : Nat, m < 10 ^ 40 → (Nat.repr m).length ≤ 40 := fun m hm => by
    unfold Nat.repr
    rw [String.length_ofList]
    exact PyProof.Rows.digits10_le (by omega) hm
  have hs : ∀ s : String, (Str.ofString s).length = s.length := fun s => by
    rw [Str.ofString_eq_toList]
    show ((s.toList.map Char.toNat).toArray).size = _
    simp only [List.size_toArray, List.length_map]
    exact String.length_toList
  show (Str.ofString (toString i)).length ≤ 41
  rw [hs]
  cases i with
  | ofNat m =>
    show (Nat.repr m).length ≤ 41
    have := hr m h
    omega
  | negSucc m =>
    show ("-" ++ Nat.repr (m + 1)).length ≤ 41
    rw [String.length_append]
    have := hr (m + 1) h
    have : ("-" : String).length = 1 := by decide
    omega
mutual
theorem dz_ok : ∀ d : PyData, dz d ≤ 1000000 → d.showable = true ∧ d.leavesShort 41 = true ∧ d.weight ≤ dz d
  | .none, _ => by simp [PyData.showable, PyData.leavesShort, PyData.weight]
  | .bool b, _ => by simp [PyData.showable, PyData.leavesShort, PyData.weight]
  | .int i, h => by
    unfold dz at h ⊢
    split at h
    · rename_i hi
      obtain ⟨a, b, c⟩ := int_shown hi
      rw [if_pos hi]
      exact ⟨by simpa [PyData.showable] using b, by simpa [PyData.leavesShort] using a, by simpa [PyData.weight] using c⟩
    · omega
  | .str x, h => by
    unfold dz at h ⊢
    split at h
    · rename_i hx
      rw [if_pos hx]
      refine ⟨rfl, ?_, by simp [PyData.weight]⟩
      simp only [PyData.leavesShort, List.all_eq_true, decide_eq_true_eq]
      intro c hc
      have := Array.all_eq_true_iff_forall_mem.mp hx c (by simpa using hc)
      have : c < 0x110000 := by simpa using this
      omega
    · omega
  | .list xs, h => by
    unfold dz at h ⊢
    obtain ⟨a, b, c⟩ := dzs_ok xs (by omega)
    exact ⟨by simpa [PyData.showable] using a, by simpa [PyData.leavesShort] using b, by simp only [PyData.weight]; omega⟩
  | .tuple xs, h => by
    unfold dz at h ⊢
    obtain ⟨a, b, c⟩ := dzs_ok xs (by omega)
    exact ⟨by simpa [PyData.showable] using a, by simpa [PyData.leavesShort] using b, by simp only [PyData.weight]; omega⟩
  | .dict kvs, h => by
    unfold dz at h ⊢
    obtain ⟨a, b, c⟩ := dzk_ok kvs (by omega)
    exact ⟨by simpa [PyData.showable] using a, by simpa [PyData.leavesShort] using b, by simp only [PyData.weight]; omega⟩
theorem dzs_ok : ∀ xs : List PyData, dzs xs ≤ 1000000 → PyData.showableAll xs = true ∧ PyData.leavesShortAll 41 xs = true ∧ PyData.weightAll xs ≤ dzs xs
  | [], _ => by simp [PyData.showableAll, PyData.leavesShortAll, PyData.weightAll]
  | x :: xs, h => by
    unfold dzs at h ⊢
    obtain ⟨a, b, c⟩ := dz_ok x (by omega)
    obtain ⟨a', b', c'⟩ := dzs_ok xs (by omega)
    exact ⟨by simp [PyData.showableAll, a, a'], by simp [PyData.leavesShortAll, b, b'], by simp only [PyData.weightAll]; omega⟩
theorem dzk_ok : ∀ xs : List (PyData × PyData), dzk xs ≤ 1000000 → PyData.showableKv xs = true ∧ PyData.leavesShortKv 41 xs = true ∧ PyData.weightKv xs ≤ dzk xs
  | [], _ => by simp [PyData.showableKv, PyData.leavesShortKv, PyData.weightKv]
  | (k, v) :: xs, h => by
    unfold dzk at h ⊢
    obtain ⟨a, b, c⟩ := dz_ok k (by omega)
    obtain ⟨a1, b1, c1⟩ := dz_ok v (by omega)
    obtain ⟨a', b', c'⟩ := dzk_ok xs (by omega)
    exact ⟨by simp [PyData.showableKv, a, a', a1], by simp [PyData.leavesShortKv, b, b', b1], by simp only [PyData.weightKv]; omega⟩
end
mutual
theorem toD_depth : ∀ (n : Nat) {h : Hh} {v : Val} {d : PyData}, toD n h v = some d → d.depth ≤ n
  | 0, _, _, _, e => by simp [toD] at e
  | n + 1, h, v, d, e => by
    cases v with
    | non => simp [toD] at e; subst e; simp [PyData.depth]
    | bl b => simp [toD] at e; subst e; simp [PyData.depth]
    | int b => simp [toD] at e; subst e; simp [PyData.depth]
    | str b => simp [toD] at e; subst e; simp [PyData.depth]
    | tup vs =>
      simp only [toD] at e
      cases q : toDs n h vs with
      | none => rw [q] at e; cases e
      | some ds => rw [q] at e; cases e; have := toDs_depth n q; simp only [PyData.depth]; omega
    | ref i =>
      simp only [toD] at e
      split at e
      · rename_i vs _
        cases q : toDs n h vs with
        | none => rw [q] at e; cases e
        | some ds => rw [q] at e; cases e; have := toDs_depth n q; simp only [PyData.depth]; omega
      · rename_i vs _
        cases q : toDs n h vs with
        | none => rw [q] at e; cases e
        | some ds => rw [q] at e; cases e; have := toDs_depth n q; simp only [PyData.depth]; omega
      · rename_i vs _
        cases q : toDk n h vs with
        | none => rw [q] at e; cases e
        | some ds => rw [q] at e; cases e; have := toDk_depth n q; simp only [PyData.depth]; omega
      · rename_i vs _
        cases q : toDk n h vs with
        | none => rw [q] at e; cases e
        | some ds => rw [q] at e; cases e; have := toDk_depth n q; simp only [PyData.depth]; omega
      · cases e
    | ty _ => simp [toD] at e
    | gl _ => simp [toD] at e
theorem toDs_depth : ∀ (n : Nat) {h : Hh} {vs : List Val} {ds : List PyData}, toDs n h vs = some ds → PyData.depthAll ds ≤ n
  | n, h, [], ds, e => by simp [toDs] at e; subst e; simp [PyData.depthAll]
  | n, h, v :: vs, ds, e => by
    simp only [toDs] at e
    split at e
    · rename_i d es q1 q2
      cases e
      have a := toD_depth n q1
      have b := toDs_depth n q2
      simp only [PyData.depthAll]; omega
    · cases e
theorem toDk_depth : ∀ (n : Nat) {h : Hh} {vs : List (Val × Val)} {ds : List (PyData × PyData)}, toDk n h vs = some ds → PyData.depthKv ds ≤ n
  | n, h, [], ds, e => by simp [toDk] at e; subst e; simp [PyData.depthKv]
  | n, h, (k, v) :: vs, ds, e => by
    simp only [toDk] at e
    split at e
    · rename_i d es q1 q2 q3 q4
      cases e
      have a := toD_depth n q2
      have a2 := toD_depth n q3
      have b := toDk_depth n q4
      simp only [PyData.depthKv]; omega
    · cases e
end
theorem repr_ok {h : Hh} {x : Val} {d : PyData} (e : toD 30 h x = some d) (hz : dz d ≤ 300000) : vRepr [x] h = .ok (.str d.shown) h := by
  obtain ⟨a, b, c⟩ := dz_ok d (by omega)
  have hl := PyData.shown_le 41 (by omega) d b
  have hs : d.shown.length ≤ sizeLine := by
    have : sizeLine = 16777216 := rfl
    rw [this]
    have : (41 + 2) * d.weight ≤ 43 * 300000 := Nat.mul_le_mul_left _ (by omega)
    omega
  have hd := toD_depth 30 e
  simp only [vRepr, e, if_pos (show d.showable = true ∧ d.depth ≤ 32 ∧ d.shown.length ≤ sizeLine from ⟨a, by omega, hs⟩)]
mutual
theorem noD_of : ∀ d : PyData, d.canLay0 = true → noD d = true
  | .none, _ => rfl
  | .bool _, _ => rfl
  | .int _, _ => rfl
  | .str _, _ => rfl
  | .list xs, h => by simp only [noD]; exact noDs_of xs (by simpa [PyData.canLay0] using h)
  | .tuple xs, h => by simp only [noD]; exact noDs_of xs (by simpa [PyData.canLay0] using h)
  | .dict xs, h => by simp [PyData.canLay0] at h
theorem noDs_of : ∀ d : List PyData, PyData.canLayAll0 d = true → noDs d = true
  | [], _ => rfl
  | x :: xs, h => by
    have h' : x.canLay0 = true ∧ PyData.canLayAll0 xs = true := by simpa [PyData.canLayAll0] using h
    simp [noDs, noD_of x h'.1, noDs_of xs h'.2]
end
theorem eqD_ok {h : Hh} {x y : Val} {d e : PyData} (neg : Bool) (hst : strs2 x y = none) (e1 : toD 30 h x = some d) (e2 : toD 30 h y = some e) (h1 : d.canLay0 = true) (h2 : e.canLay0 = true) : vEqD neg x y h = .ok (.bl (if neg then !PyData.eqv d e else PyData.eqv d e)) h := by
  have s1 : SeqAt.shaped d = true := by
    have := toD_depth 30 e1
    simp [SeqAt.shaped, h1]; omega
  have s2 : SeqAt.shaped e = true := by
    have := toD_depth 30 e2
    simp [SeqAt.shaped, h2]; omega
  simp only [vEqD, hst, vEqO, e1, e2, noD_of d h1, noD_of e h2, s1, s2, Bool.and_self, if_true]
@[simp] theorem eqD_str {h : Hh} (neg : Bool) {x y : Str} : vEqD neg (.str x) (.str y) h = .ok (.bl (if neg then !decide (x = y) else decide (x = y))) h := rfl
end U
/-! Layer B, part 10: rules. -/
namespace U
open PySem L2
section
variable {σ : Loc} {h h1 : Hh} {QV : Val → Hh → Prop} {N : Loc → Hh → Prop} {R : Val → Hh → Prop}
/-! instances -/
@[simp] theorem w_prop (C : Str) (F : Fn) (a : ME) : Wp (mProp C F a σ h) QV ↔ Wp (a σ h) fun x h1 => isIn C x h1 = true ∧ Wp (F [x] h1) QV := by
  unfold mProp
  simp only [wp_bind]
  refine iff_of_eq (congrArg _ (funext fun x => funext fun h3 => ?_))
  by_cases e : isIn C x h3 = true <;> simp [e]
@[simp] theorem w_meth (C m : Str) (n : Nat) (F : Fn) (a : ME) (mm : MA) : Wp (mMeth C m n F a mm σ h) QV ↔ Wp (a σ h) fun x h1 => isI C m x h1 = true ∧ Wp (mm σ h1) fun xs h2 => Wp (callF n F (x :: xs) h2) QV := by
  unfold mMeth
  simp only [wp_bind]
  refine iff_of_eq (congrArg _ (funext fun x => funext fun h3 => ?_))
  by_cases e : isI C m x h3 = true <;> simp [e]
@[simp] theorem w_methK (C m : Str) (n nk : Nat) (ix : List Nat) (ds : List Val) (k : Nat) (F : Fn) (a : ME) (mm mk : MA) : Wp (mMethK C m n nk ix ds k F a mm mk σ h) QV ↔ Wp (a σ h) fun x h1 => isI C m x h1 = true ∧ Wp (mm σ h1) fun xs h2 => Wp (mk σ h2) fun zs h3 => Wp (kwF n nk ix ds k F (x :: xs) zs h3) QV := by
  unfold mMethK
  simp only [wp_bind]
  refine iff_of_eq (congrArg _ (funext fun x => funext fun h3 => ?_))
  by_cases e : isI C m x h3 = true <;> simp [e]
@[simp] theorem w_mkK' (C : Str) (n m : Nat) (ix : List Nat) (ds : List Val) (k : Nat) (F : Fn) (mm mk : MA) : Wp (mMkK C n m ix ds k F mm mk σ h) QV ↔ Wp (mm σ h) fun vs h1 => Wp (mk σ h1) fun zs h2 => Wp (mkK C n m ix ds k F vs zs h2) QV := by simp [mMkK]
@[simp] theorem w_kw (n m : Nat) (ix : List Nat) (ds : List Val) (k : Nat) (F : Fn) (mm mk : MA) : Wp (mKw n m ix ds k F mm mk σ h) QV ↔ Wp (mm σ h) fun vs h1 => Wp (mk σ h1) fun zs h2 => Wp (kwF n m ix ds k F vs zs h2) QV := by simp [mKw]
theorem w_kwF {n m : Nat} {ix : List Nat} {ds vs zs ws : List Val} {k : Nat} {F : Fn} (h1 : vs.length = n) (h2 : zs.length = m) (e : pick ix (vs ++ (zs ++ ds)) = ws) (h3 : ws.length = k) (w : Wp (F ws h) QV) : Wp (kwF n m ix ds k F vs zs h) QV := by
  unfold kwF
  rw [if_pos ⟨h1, h2⟩, e, if_pos h3]
  exact w
theorem isIn_of {C : Str} {n : Nat} {fs : List (Str × Val)} (e : h[n]? = some (.ins C fs)) : isIn C (.ref n) h = true := by simp [isIn, e]
theorem isI_of {C m : Str} {n : Nat} {fs : List (Str × Val)} (e : h[n]? = some (.ins C fs)) (hm : getFv m fs = none) : isI C m (.ref n) h = true := by simp [isI, e, hm]
theorem fld_of {C f : Str} {n : Nat} {fs : List (Str × Val)} {v : Val} (e : h[n]? = some (.ins C fs)) (hC : C ∈ kCs) (hf : getFv f fs = some v) : vFld kCs f (.ref n) h = .ok v h := by simp [vFld, e, hC, hf]
/-- a rule lies at n -/
abbrev RuleAt (n : Nat) (ws ss : List Int) (sp : Int) (h : Hh) : Prop := h[n]? = some (.ins "Rule" (ruleF ws ss sp))
variable {n : Nat} {ws ss : List Int} {sp : Int}
@[simp] theorem gf_w : getFv "r_weights" (ruleF ws ss sp) = some (.tup (ws.map .int)) := by simp [getFv, ruleF]
@[simp] theorem gf_s : getFv "r_skipped" (ruleF ws ss sp) = some (.tup (ss.map .int)) := by simp [getFv, ruleF, str_inj]
@[simp] theorem gf_p : getFv "r_spread" (ruleF ws ss sp) = some (.int sp) := by simp [getFv, ruleF, str_inj]
theorem rule_cap (e : RuleAt n ws ss sp h) : f_Rule_cap [.ref n] h = .ok (.int ws.length) h := by
  simp [f_Rule_cap, b_Rule_cap, mkFn, msRet, mApp, maCons, maNil, mUn, fld_of e rule_in gf_w]
/-- a new rule -/
theorem k_rule (ok : okR ws ss sp) (q : ∀ n g, RuleAt n ws ss sp g → h.length ≤ n → Kp [] h g → QV (.ref n) g) : Wp (mkI "Rule" 4 f_Rule_init [.tup (ws.map .int), .tup (ss.map .int), .int sp] h) QV := by
  unfold mkI
  refine wp_ifT rfl ?_
  rw [wp_bind]
  refine rule_init ok (app_new h _) fun g e K => ?_
  exact .ok (q _ g e (Nat.le_refl _) ((((Kp.refl [] h).app [.ins "Rule" []]).weak (by simp)).trans K |>.weak (by simp)))
theorem rule_kw (ok : okR ws ss sp) (q : ∀ n g, RuleAt n ws ss sp g → h.length ≤ n → Kp [] h g → QV (.ref n) g) : Wp (mkK "Rule" 0 3 [0, 3, 2, 1] [] 4 f_Rule_init [] [.int sp, .tup (ss.map .int), .tup (ws.map .int)] h) QV := by
  unfold mkK
  rw [wp_bind]
  refine w_kwF rfl rfl rfl rfl ?_
  refine rule_init ok (app_new h _) fun g e K => ?_
  exact .ok (q _ g e (Nat.le_refl _) ((((Kp.refl [] h).app [.ins "Rule" []]).weak (by simp)).trans K |>.weak (by simp)))
theorem rule_of_ok {c m : Nat} {l : List (Str × Int)} (C : Case c m ws ss sp l h) (ok : okR ws ss sp) (q : ∀ n g, RuleAt n ws ss sp g → h.length ≤ n → Kp [] h g → QV (.ref n) g) : Wp (f__law_rule_of [.ref c] h) QV := by
  unfold f__law_rule_of b__law_rule_of
  rw [w_fn]
  show WpF (msRet _ [some (.ref c)] h) _ _
  simp only [f_ret, w_app, w_acons, w_anil, w_op, w_C, w_var0, wp_ok, C.weights, C.skipped, C.spread]
  exact k_rule ok q
/-! ### data of numbers -/
theorem eqvAll_ints : ∀ xs ys : List Int, PyData.eqvAll (xs.map .int) (ys.map .int) = decide (xs = ys)
  | [], [] => by simp [PyData.eqvAll]
  | [], _ :: _ => by simp [PyData.eqvAll]
  | _ :: _, [] => by simp [PyData.eqvAll]
  | x :: xs, y :: ys => by
    simp only [List.map_cons, PyData.eqvAll, eqv_int, eqvAll_ints xs ys]
    by_cases e : x = y <;> simp [e]
theorem dzs_ints : ∀ xs : List Int, (∀ x ∈ xs, x.natAbs < 10 ^ 40) → dzs (xs.map .int) = 141 * xs.length
  | [], _ => by simp [dzs]
  | x :: xs, hx => by
    rw [List.map_cons, dzs, dz, if_pos (hx x (by simp)), dzs_ints xs fun y hy => hx y (by simp [hy]), List.length_cons]
    omega
theorem okW.small {ws : List Int} (ok : okW ws) : ∀ x ∈ ws, x.natAbs < 10 ^ 40 := fun x hx => by have := ok x hx; omega
theorem toD_tup {k : Nat} {vs : List Val} {ds : List PyData} (e : toDs k h vs = some ds) : toD (k + 1) h (.tup vs) = some (.tuple ds) := by simp only [toD, e]; rfl
theorem toD_lst {k m : Nat} {vs : List Val} {ds : List PyData} (e1 : h[m]? = some (.lst vs)) (e : toDs k h vs = some ds) : toD (k + 1) h (.ref m) = some (.list ds) := by simp only [toD, e1, e]; rfl
theorem toDs_cons {k : Nat} {v : Val} {vs : List Val} {d : PyData} {ds : List PyData} (e1 : toD k h v = some d) (e2 : toDs k h vs = some ds) : toDs k h (v :: vs) = some (d :: ds) := by simp only [toDs, e1, e2]
theorem toDs_nil {k : Nat} : toDs k h [] = some [] := by simp [toDs]
theorem toD_ints (k : Nat) (ws : List Int) : toD (k + 2) h (.tup (ws.map .int)) = some (.tuple (ws.map .int)) := toD_tup (toDs_ints k h ws)
/-! ### told -/
/-! ### == -/
theorem toD_2t (k : Nat) (ws ss : List Int) : toD (k + 3) h (.tup [.tup (ws.map .int), .tup (ss.map .int)]) = some (.tuple [.tuple (ws.map .int), .tuple (ss.map .int)]) := toD_tup (toDs_cons (toD_ints k ws) (toDs_cons (toD_ints k ss) toDs_nil))
end
end U
/-! Layer B, part 11: barring, spreads, songs. -/
namespace U
open PySem L2
theorem cut_from {α : Type} (xs : List α) (k : Nat) : cutL xs (some (k : Int)) none = xs.drop k := by
  unfold cutL
  rw [HT.sIx_nat, HT.sIx_none]
  by_cases h : k ≤ xs.length
  · rw [Nat.min_eq_left h, List.take_of_length_le (by rw [List.length_drop]; omega)]
  · rw [Nat.min_eq_right (by omega), Nat.sub_self, List.take_zero, List.drop_of_length_le (by omega)]
theorem cut_to {α : Type} (xs : List α) (k : Nat) : cutL xs none (some (k : Int)) = xs.take k := by
  unfold cutL
  rw [HT.sIx_nat, HT.sIx_none, List.drop_zero, Nat.sub_zero]
  by_cases h : k ≤ xs.length
  · rw [Nat.min_eq_left h]
  · rw [Nat.min_eq_right (by omega), List.take_of_length_le (Nat.le_refl _), List.take_of_length_le (by omega)]
theorem cut_m1 {α : Type} (xs : List α) : cutL xs none (some (-1)) = xs.take (xs.length - 1) := by
  unfold cutL
  have : HT.sIx xs.length xs.length (some (-1)) = xs.length - 1 := by
    show (if (-1 : Int) < 0 then ((-1 : Int) + (xs.length : Int)).toNat else min (-1 : Int).toNat xs.length) = _
    rw [if_pos (by omega)]; omega
  rw [this, HT.sIx_none, List.drop_zero, Nat.sub_zero]
theorem atI_nat {α : Type} (xs : List α) (k : Nat) : L2.atI xs (k : Int) = xs[k]? := by
  unfold L2.atI L2.ixN
  rw [if_pos (by omega)]
  by_cases h : k < xs.length
  · rw [if_pos (by omega)]; simp
  · rw [if_neg (by omega)]; simp; omega
theorem atI_m1 {α : Type} (xs : List α) (h : 1 ≤ xs.length) : L2.atI xs (-1) = xs[xs.length - 1]? := by
  unfold L2.atI L2.ixN
  rw [if_neg (by omega), if_pos (by omega)]
  simp only [Option.bind_some]
  congr 1
  omega
section
variable {σ : Loc} {h h1 : Hh} {QV : Val → Hh → Prop} {N : Loc → Hh → Prop} {R : Val → Hh → Prop}
variable {n : Nat} {ws ss : List Int} {sp : Int}
@[simp] theorem w_sl (a : ME) (lo hi : MP) : Wp (mSl a lo hi σ h) QV ↔ Wp (a σ h) fun x h1 => Wp (lo σ h1) fun l h2 => Wp (hi σ h2) fun u h3 => Wp (vSl x l u h3) QV := by simp [mSl]
@[simp] theorem w_mpNo {Q : Option Int → Hh → Prop} : Wp (mpNo σ h) Q ↔ Q none h := wp_ok _ _
@[simp] theorem w_mpE {Q : Option Int → Hh → Prop} (a : ME) : Wp (mpE a σ h) Q ↔ Wp (a σ h) fun v h1 => (match v with
  | .int i => Q (some i) h1
  | _ => False) := by
  unfold mpE
  simp only [wp_bind]
  refine iff_of_eq (congrArg _ (funext fun z => funext fun h3 => ?_))
  cases z <;> simp
@[simp] theorem sl_tup (vs : List Val) (lo hi : Option Int) (h : Hh) : vSl (.tup vs) lo hi h = .ok (.tup (cutL vs lo hi)) h := rfl
theorem fm_const {α : Type} (v : Val) : ∀ xs : List α, xs.filterMap (fun _ => some v) = List.replicate xs.length v
  | [] => rfl
  | x :: xs => by
    show v :: xs.filterMap (fun _ => some v) = _
    rw [fm_const v xs]; rfl
/-- the rule with so many first weights 0 -/
def barW (k : Nat) (ws : List Int) : List Int := List.replicate k 0 ++ ws.drop k
theorem barR {k : Nat} (ok : okR ws ss sp) (hk : k < ws.length) : okR (barW k ws) (barW k ss) sp := by
  have l1 := ok.l1
  have l4 := ok.l4
  have ls := ok.ls
  have p1 := ok.p1
  have hw : ∀ {ws : List Int}, okW ws → okW (barW k ws) := fun {ws} ow x hx => by
    unfold barW at hx
    rcases List.mem_append.mp hx with hx | hx
    · have := List.eq_of_mem_replicate hx; omega
    · exact ow x (List.mem_of_mem_drop hx)
  have ll : (barW k ws).length = ws.length := by simp [barW]; omega
  have l2 : (barW k ss).length = ss.length := by simp [barW]; omega
  exact ⟨hw ok.w, hw ok.s, by omega, by omega, by omega, ok.p0, by omega⟩
/-! ### a comprehension over a dict -/
theorem lc_dct {m : ME} {vs : List Nat} {tg : Tg} {c : MT} {e : ME} {kvs : List (Val × Val)} (F : Val → Option Val) (em : m σ h = .ok (.ref n) h) (en : h[n]? = some (.dct kvs)) (hz : kvs.length ≤ sizeLine)
    (hb : ∀ v ∈ kvs.map (·.1), ∀ g, Kp [n] h g → g[n]? = some (.fdc kvs) → Wp (lcB vs tg c e σ v g) fun o g2 => Kp [] g g2 ∧ o = F v)
    (q : ∀ r g, Kp [] h g → g[r]? = some (.lst ((kvs.map (·.1)).filterMap F)) → h.length ≤ r → QV (.ref r) g) : Wp (mLc (miVal m) vs tg c e σ h) QV := by
  have hl := lt_of en
  have hm : miVal m σ h = .ok ⟨kvs.map (·.1), fun h => h[n]? = some (.fdc kvs), some n⟩ (h.set n (.fdc kvs)) := by
    unfold miVal; rw [em]; simp only [bind_ok, en]
  have hlen : (h.set n (.fdc kvs)).length = h.length := List.length_set
  refine w_lc (fun _ _ k acc g => acc = ((kvs.map (·.1)).take k).filterMap F ∧ Kp [n] h g ∧ g[n]? = some (.fdc kvs)) ?_
  rw [hm]
  refine .ok ⟨by rw [List.length_map]; exact hz, ⟨by simp, (((Kp.refl [n] h).set n _ (.inl (by simp))).app _), app_at _ (set_self en)⟩, fun k acc g ⟨_, _, k4⟩ => k4, fun k v acc g ev ⟨k1, k4, k5⟩ hn => ?_, fun acc g ⟨k1, k4, k5⟩ hn => ?_⟩
  · refine (hb v (List.mem_of_getElem? ev) g k4 k5).mono fun o g2 ⟨a2, a3⟩ => ?_
    have hn2 := a2.k hn
    have k5' := a2.k k5
    have k4' : Kp [n] h g2 := k4.trans (a2.weak (by simp))
    have ht : (kvs.map (·.1)).take (k + 1) = (kvs.map (·.1)).take k ++ [v] := by rw [List.take_add_one, ev]; rfl
    subst a3
    refine ⟨hn2, ?_⟩
    rw [hlen] at hn2 ⊢
    cases e : F v with
    | none => exact ⟨by rw [ht, List.filterMap_append, k1]; simp [e], k4', k5'⟩
    | some y => exact ⟨by rw [ht, List.filterMap_append, k1]; simp [e], k4'.set' (Nat.le_refl _), set_at k5' (by omega)⟩
  · refine ⟨g.set n (.dct kvs), by simp only [unlH, k5], ?_⟩
    rw [hlen] at hn ⊢
    refine q _ _ ⟨by rw [List.length_set]; exact k4.len, fun i o ei _ => ?_⟩ ?_ (Nat.le_refl _)
    · by_cases hi : i = n
      · subst hi
        rw [en] at ei; cases ei
        exact set_self k5
      · exact set_at (k4.at_ i o ei (by simpa using hi)) (fun z => hi z.symm)
    · have : (kvs.map (·.1)).take (kvs.map (·.1)).length = kvs.map (·.1) := List.take_length
      rw [set_at hn (by omega), k1, this]
/-! ### names -/
theorem sign_in {c : Nat} (hc : 97 ≤ c ∧ c ≤ 122) (h : Hh) : vIn false (.str ⟨#[c]⟩) (.str lets) h = .ok (.bl true) h := by
  have : c ∈ lets.cps.toList := by rw [lets_cps]; exact List.mem_range'_1.mpr (by omega)
  simp [vIn, sign?, show c ∈ lets.cps by simpa using this]
theorem is_name_ok {x : Str} (o : okName x) (q : ∀ g, Kp [] h g → QV (.bl true) g) : Wp (f_is_name [.str x] h) QV := by
  unfold f_is_name b_is_name
  rw [w_fn]
  show WpF (msSeq _ _ [some (.str x), none] h) _ _
  have o1 := o.l1
  have o8 := o.l8
  have i1 : vIsi kCs kTys [.str x, .ty "str"] h = .ok (.bl true) h := isi_b rfl kb_ss
  have ln : vLen [.str x] h = .ok (.int x.length) h := by simp only [vLen, if_pos (szl (show x.length ≤ 1000 by omega))]
  have c1 : decide ((1 : Int) ≤ (x.length : Int)) = true := decide_eq_true (by omega)
  have c2 : decide ((x.length : Int) ≤ 8) = true := decide_eq_true (by omega)
  simp only [f_seq, f_if, w_tor, w_tnot, w_tval, w_app, w_acons, w_anil, w_C, w_var0, w_varS, wp_ok, i1, truth, Bool.not_true, Bool.false_eq_true, if_false, w_tbl, w_chain, ln, le_int, c1, c2, f_nil]
  unfold b_is_name_1
  simp only [f_ret, w_app, w_acons, w_anil, lets_eq]
  have hm : miVal (mVar 0) [some (.str x), none] h = .ok ⟨x.cps.toList.map fun c => .str ⟨#[c]⟩, fun _ => True, none⟩ h := rfl
  refine pure_k (lc_pure (fun _ => some (.bl true)) hm rfl (szl (by simp; show x.length ≤ 1000; omega)) (fun _ => trivial) fun v hv l => ?_) ?_
  · obtain ⟨c, hc, rfl⟩ := List.mem_map.mp (show v ∈ x.cps.toList.map fun c => Val.str ⟨#[c]⟩ from hv)
    simp [lcB, Tg.bd, wipeL, tTrue, mOp, mC, sign_in (o.s c hc)]
  · rw [fm_const]
    have e1 := app_new h (.lst (List.replicate (x.cps.toList.map fun c => Val.str ⟨#[c]⟩).length (Val.bl true)))
    have : ∀ k, blsOf (List.replicate k (Val.bl true)) = some (List.replicate k true) := fun k => by
      have := blsOf_map (List.replicate k true)
      rwa [List.map_replicate] at this
    simp only [vAll, e1, this, wp_ok]
    rw [show (List.replicate (x.cps.toList.map fun c => Val.str ⟨#[c]⟩).length true).all id = true by simp]
    exact q _ ((Kp.refl [] h).app _)
end
end U
/-! Layer B, part 12: songs are made. -/
namespace U
open PySem L2
theorem sSort_perm (xs : List Str) : (sSort xs).Perm xs := List.mergeSort_perm xs strLe
theorem sum_perm {xs ys : List Int} (p : xs.Perm ys) : xs.sum = ys.sum := by
  induction p with
  | nil => rfl
  | cons x _ ih => simp [ih]
  | swap x y l => simp only [List.sum_cons]; omega
  | trans _ _ a b => rw [a, b]
/-- the numbers by ascending kinds -/
def srt (l : List (Str × Int)) : List (Str × Int) := (sSort (l.map (·.1))).map fun x => (x, (l.lookup x).getD 0)
theorem lookup_mem : ∀ {l : List (Str × Int)} {p : Str × Int}, (l.map (·.1)).Nodup → p ∈ l → l.lookup p.1 = some p.2
  | (x, i) :: l, p, nd, hp => by
    rw [List.map_cons] at nd
    have nd' := List.nodup_cons.mp nd
    rw [List.lookup_cons]
    rcases List.mem_cons.mp hp with rfl | hp
    · simp
    · have : (p.1 == x) = false := by
        have : p.1 ≠ x := fun z => nd'.1 (List.mem_map.mpr ⟨p, hp, z⟩)
        simpa using this
      rw [this]
      exact lookup_mem nd'.2 hp
theorem map_lookup {l : List (Str × Int)} (nd : (l.map (·.1)).Nodup) : ((l.map (·.1)).map fun x => (x, (l.lookup x).getD 0)) = l := by
  rw [List.map_map]
  have : l.map ((fun x => (x, (l.lookup x).getD 0)) ∘ fun p : Str × Int => p.1) = l.map id := List.map_congr_left fun p hp => by
    simp only [Function.comp, lookup_mem nd hp, id]; rfl
  rw [this, List.map_id]
theorem srt_perm {l : List (Str × Int)} (nd : (l.map (·.1)).Nodup) : (srt l).Perm l := by
  have h1 : (srt l).Perm ((l.map (·.1)).map fun x => (x, (l.lookup x).getD 0)) := (sSort_perm _).map _
  rwa [map_lookup nd] at h1
theorem srt_keys (l : List (Str × Int)) : (srt l).map (·.1) = sSort (l.map (·.1)) := by
  unfold srt
  rw [List.map_map]
  exact List.map_id _
theorem srt_nodup {l : List (Str × Int)} (nd : (l.map (·.1)).Nodup) : ((srt l).map (·.1)).Nodup := by
  rw [srt_keys]; exact (sSort_perm _).nodup_iff.mpr nd
theorem srt_okN {l : List (Str × Int)} {K : Nat} {M : Int} (o : okNum l K M) : okNum (srt l) K M := by
  have p := srt_perm o.nd
  have hl := p.length_eq
  exact ⟨by rw [hl]; exact o.l1, by rw [hl]; exact o.lK, srt_nodup o.nd, fun q hq => o.nm q (p.mem_iff.mp hq), fun q hq => o.vl q (p.mem_iff.mp hq), by rw [sum_perm (p.map (·.2))]; exact o.po⟩
/-- the attributes of songs -/
def songsF (d : Nat) : List (Str × Val) := [("s_numbers", .ref d)]
section
variable {σ : Loc} {h h1 : Hh} {QV : Val → Hh → Prop} {N : Loc → Hh → Prop} {R : Val → Hh → Prop}
variable {n m : Nat} {l : List (Str × Int)} {K : Nat} {M : Int}
@[simp] theorem gf_n {d : Nat} : getFv "s_numbers" (songsF d) = some (.ref d) := by simp [getFv, songsF]
theorem k_newD (q : ∀ n g, g[n]? = some (.dct []) → h.length ≤ n → Kp [] h g → QV (.ref n) g) : Wp (vNewD σ h) QV := by
  unfold vNewD
  exact .ok (q _ _ (app_new h _) (Nat.le_refl _) ((Kp.refl _ _).app _))
theorem ix_nd {x : Str} {i : Int} (e : h[n]? = some (.dct (nd l))) (hx : l.lookup x = some i) : vIx (.ref n) (.str x) h = .ok (.int i) h := by
  have : dGet (nd l) (.str x) = some (.int i) := by rw [lookup_nd, hx]; rfl
  simp only [vIx, e, keyOf, this]
theorem all_true {n k : Nat} (e : h[n]? = some (.lst (List.replicate k (Val.bl true)))) : vAll [.ref n] h = .ok (.bl true) h := by
  have : blsOf (List.replicate k (Val.bl true)) = some (List.replicate k true) := by
    have := blsOf_map (List.replicate k true)
    rwa [List.map_replicate] at this
  simp only [vAll, e, this]
  simp
theorem songs_init (ok : okNum l 3 M) (en : h[n]? = some (.ins "Songs" [])) (em : h[m]? = some (.dct (nd l)))
    (q : ∀ d g, g[n]? = some (.ins "Songs" (songsF d)) → g[d]? = some (.dct (nd (srt l))) → h.length ≤ d → Kp [n] h g → QV .non g) : Wp (f_Songs_init [.ref n, .ref m] h) QV := by
  have hne : n ≠ m := fun z => by subst z; rw [en] at em; cases em
  unfold f_Songs_init b_Songs_init
  rw [w_fn]
  show WpF (msSeq _ _ [some (.ref n), some (.ref m), none] h) _ _
  have l1 := ok.l1
  have l3 := ok.lK
  have i1 : vIsi kCs kTys [.ref m, .ty "dict"] h = .ok (.bl true) h := isi_b (a := "dict") (by simp [tyNm, em]) kb_dd
  have ln : vLen [.ref m] h = .ok (.int l.length) h := by simp [vLen, em, nd]
  have c1 : decide ((1 : Int) ≤ (l.length : Int)) = true := decide_eq_true (by omega)
  have c2 : decide ((l.length : Int) ≤ 3) = true := decide_eq_true (by omega)
  simp only [f_seq, f_if, w_tor, w_tnot, w_tval, w_app, w_acons, w_anil, w_C, w_var0, w_varS, wp_ok, i1, truth, Bool.not_true, Bool.false_eq_true, if_false, w_tbl, w_chain, ln, le_int, c1, c2, f_nil]
  unfold b_Songs_init_5
  simp only [f_seq, f_if, w_tnot, w_tval, w_app, w_acons, w_anil]
  refine lc_dct (n := m) (kvs := nd l) (fun _ => some (.bl true)) rfl em (szl (by simp [nd]; omega)) (fun v hv g K5 e5 => ?_) fun r g1 k1 e1 lr => ?_
  · rw [show (nd l).map (·.1) = (l.map (·.1)).map Val.str from nd_keys l] at hv
    obtain ⟨x, hx, rfl⟩ := List.mem_map.mp hv
    obtain ⟨p, hp, rfl⟩ := List.mem_map.mp hx
    unfold lcB
    simp only [Tg.bd, wipeL, List.set, tTrue, nr_ok, bind_ok, if_true, wp_bind, wp_nr, w_app, w_acons, w_anil, w_varS, w_var0, wp_ok, w_callF]
    exact ⟨rfl, is_name_ok (ok.nm p hp) fun g2 k2 => ⟨k2, rfl⟩⟩
  rw [fm_const] at e1
  rw [all_true e1]
  simp only [wp_ok, truth, Bool.not_true, Bool.false_eq_true, if_false, f_nil]
  have en1 := k1.k en
  have em1 := k1.k em
  unfold b_Songs_init_4
  simp only [f_seq, f_fld]
  refine k_newD fun d g2 e2 l2 k2 => ?_
  have en2 := k2.k en1
  have em2 := k2.k em1
  have ln2 := lt_of en
  have lm2 := lt_of em
  have lk1 := k1.len
  have lk2 := k2.len
  have ld2 := lt_of e2
  simp only [w_var0, wp_ok, setF_ok en2 songs_in (by simp)]
  have hput : putFv "s_numbers" (.ref d) [] = songsF d := rfl
  rw [hput]
  have en3 := set_self (o' := .ins "Songs" (songsF d)) en2
  have em3 := set_at (o' := .ins "Songs" (songsF d)) em2 hne
  have ed3 := set_at (o' := .ins "Songs" (songsF d)) e2 (show n ≠ d by omega)
  have k3 : Kp [n] h (g2.set n (.ins "Songs" (songsF d))) := ((k1.trans k2).weak (by simp)).set _ _ (.inl (by simp))
  have hl3 : (g2.set n (.ins "Songs" (songsF d))).length = g2.length := List.length_set
  generalize g2.set n (.ins "Songs" (songsF d)) = g3 at en3 em3 ed3 k3 hl3 ⊢
  -- the loop
  unfold b_Songs_init_3
  rw [f_seq]
  have hs : vSortS [.ref m] g3 = .ok (.ref g3.length) (g3 ++ [.lst ((sSort (l.map (·.1))).map Val.str)]) := by
    simp only [vSortS, em3, nd_keys, strsOf'_map]
    rw [if_pos (by simp; omega)]
  have hm : miVal (mApp vSortS (maCons (mVar 1) maNil)) [some (.ref n), some (.ref m), none] g3 = .ok ⟨(sSort (l.map (·.1))).map Val.str, fun h => h[g3.length]? = some (.lst ((sSort (l.map (·.1))).map Val.str)), none⟩ (g3 ++ [.lst ((sSort (l.map (·.1))).map Val.str)]) :=
    val_lst (n := g3.length) (by simp [mApp, maCons, maNil, hs]) (app_new g3 _)
  have k4 := k3.app [.lst ((sSort (l.map (·.1))).map Val.str)]
  refine f_forE (fun k σ g => ∃ x2, σ = [some (.ref n), some (.ref m), x2] ∧ g[n]? = some (.ins "Songs" (songsF d)) ∧ g[m]? = some (.dct (nd l)) ∧ g[d]? = some (.dct (nd ((srt l).take k))) ∧ Kp [n] h g ∧ g[g3.length]? = some (.lst ((sSort (l.map (·.1))).map Val.str))) hm rfl
    ⟨none, rfl, app_at _ en3, app_at _ em3, app_at _ ed3, k4, app_new g3 _⟩ (fun k σ g ⟨_, _, _, _, _, _, e⟩ => e) ?_ ?_
  · rintro k v σ g ev ⟨x2, rfl, en, em, ed, K, es⟩
    have ev' : ((sSort (l.map (·.1))).map Val.str)[k]? = some v := ev
    rw [List.getElem?_map] at ev'
    cases ex : (sSort (l.map (·.1)))[k]? with
    | none => rw [ex] at ev'; cases ev'
    | some x =>
      rw [ex] at ev'
      simp at ev'
      subst ev'
      have hx : x ∈ l.map (·.1) := (sSort_perm _).mem_iff.mp (List.mem_of_getElem? ex)
      obtain ⟨p, hp, rfl⟩ := List.mem_map.mp hx
      have hlk := lookup_mem ok.nd hp
      have hv := ok.vl p hp
      have hix := ix_nd em hlk
      simp only [f_name, List.set, f_seq, f_if, w_tnot, w_tval, w_app, w_acons, w_anil, w_op, w_var0, w_varS, wp_ok, hix, w_callF, is_number_int]
      refine ⟨rfl, ?_⟩
      rw [decide_eq_true hv.1]
      simp only [truth, Bool.not_true, Bool.false_eq_true, if_false, f_nil]
      unfold b_Songs_init_1
      simp only [f_asg, w_op, w_var0, w_varS, wp_ok, hix, f_sub, w_un, fld_of en songs_in gf_n]
      have hsk : (srt l)[k]? = some (p.1, p.2) := by
        unfold srt
        rw [List.getElem?_map, ex]
        simp [hlk]
      have hnew : p.1 ∉ ((srt l).take k).map (·.1) := fun z => by
        have nd := srt_nodup ok.nd
        rw [List.map_take] at z
        obtain ⟨j, hj, ej⟩ := List.getElem_of_mem z
        have hkl : k < ((srt l).map (·.1)).length := by rw [List.length_map]; exact (List.getElem?_eq_some_iff.mp hsk).1
        have ek : ((srt l).map (·.1))[k] = p.1 := by
          have : ((srt l).map (·.1))[k]? = some p.1 := by rw [List.getElem?_map, hsk]; rfl
          exact (List.getElem?_eq_some_iff.mp this).2
        rw [List.length_take] at hj
        rw [List.getElem_take] at ej
        have := (List.getElem_inj nd).mp (ej.trans ek.symm)
        omega
      have hset : vSet (.ref d) (.str p.1) (.int p.2) g = some (g.set d (.dct (nd ((srt l).take (k + 1))))) := by
        have ht : (srt l).take (k + 1) = (srt l).take k ++ [(p.1, p.2)] := by rw [List.take_add_one, hsk]; rfl
        simp only [vSet, ed, keyOf, dput_nd, sput_new hnew, ht]
        rw [if_pos (szlt (by
          have := (srt_perm ok.nd).length_eq
          simp only [nd, List.length_map, List.length_take]; omega))]
      simp only [hset]
      refine ⟨_, rfl, set_at en (by omega), set_at em (by omega), set_self ed, K.set' (by omega), set_at es (by omega)⟩
  · rintro σ g ⟨x2, rfl, en, em, ed, K, es⟩
    have hlen : (srt l).length = ((sSort (l.map (·.1))).map Val.str).length := by unfold srt; simp
    rw [show (⟨(sSort (l.map (·.1))).map Val.str, fun h => h[g3.length]? = some (.lst ((sSort (l.map (·.1))).map Val.str)), none⟩ : Itb).items.length = (srt l).length from hlen.symm, List.take_length] at ed
    unfold b_Songs_init_2
    simp only [f_if, w_tbl, w_op, w_app, w_acons, w_anil, w_vals, w_un, w_var0, wp_ok, fld_of en songs_in gf_n]
    refine k_vals ed fun r g5 e5 l5 k5 => ?_
    rw [nd_vals] at e5
    have hpo : ¬ ((srt l).map (·.2)).sum = 0 := by have := (srt_okN ok).po; omega
    rw [sum_lst e5, wp_ok, w_C, eqD_int, decide_eq_false hpo]
    simp only [wp_ok, Bool.false_eq_true, if_false, f_nil]
    exact q d g5 (k5.k en) (k5.k ed) (by omega) (K.trans (k5.weak (by simp)))
/-- songs lie at n, their numbers at d -/
structure SongsAt (n d : Nat) (l : List (Str × Int)) (h : Hh) : Prop where
  e : h[n]? = some (.ins "Songs" (songsF d))
  ed : h[d]? = some (.dct (nd l))
theorem SongsAt.k {d : Nat} {g : Hh} (S : SongsAt n d l h) (K : Kp [] h g) : SongsAt n d l g := ⟨K.k S.e, K.k S.ed⟩
theorem SongsAt.d {d : Nat} {g : Hh} (S : SongsAt n d l h) (K : Kd h g) (h1 : 4 ≤ n) (h2 : 4 ≤ d) : SongsAt n d l g := ⟨K.d S.e h1, K.d S.ed h2⟩
theorem k_songs (ok : okNum l 3 M) (em : h[m]? = some (.dct (nd l))) (q : ∀ n d g, SongsAt n d (srt l) g → h.length ≤ n → h.length ≤ d → Kp [] h g → QV (.ref n) g) : Wp (mkI "Songs" 2 f_Songs_init [.ref m] h) QV := by
  unfold mkI
  refine wp_ifT rfl ?_
  rw [wp_bind]
  refine songs_init ok (app_new h _) (app_at _ em) fun d g e ed ld K => ?_
  refine .ok (q _ d g ⟨e, ed⟩ (Nat.le_refl _) (by simp at ld; omega) ((((Kp.refl [] h).app [.ins "Songs" []]).weak (by simp)).trans K |>.weak (by simp)))
end
end U
/-! Standings, part 1: items, counts, songs that are asked. -/
namespace U
open PySem L2
/-- an item of a standing -/
abbrev Itm := Option (Str × Bool)
def itV : Itm → Val
  | none => .tup []
  | some (k, b) => .tup [.str k, .bl b]
def itD : Itm → PyData
  | none => .tuple []
  | some (k, b) => .tuple [.str k, .bool b]
def stV (st : List Itm) : Val := .tup (st.map itV)
/-- a text without odd signs -/
def nmOk (k : Str) : Prop := k.cps.all (· < 0x110000) = true
theorem okName.nm {x : Str} (o : okName x) : nmOk x := by
  unfold nmOk
  rw [Array.all_eq_true_iff_forall_mem]
  intro c hc
  have := o.s c (by simpa using hc)
  simp; omega
def itOk (i : Itm) : Prop := ∀ k b, i = some (k, b) → nmOk k
def isK (k : Str) (i : Itm) : Bool := match i with
  | none => false
  | some p => decide (p.1 = k)
def cnt (st : List Itm) (k : Str) : Nat := st.countP (isK k)
theorem toD_it (n : Nat) (h : Hh) (i : Itm) : toD (n + 2) h (itV i) = some (itD i) := by
  cases i with
  | none => simp [itV, itD, toD, toDs]
  | some p => obtain ⟨k, b⟩ := p; simp [itV, itD, toD, toDs]
theorem canLay_it {i : Itm} (o : itOk i) : (itD i).canLay0 = true := by
  cases i with
  | none => simp [itD, PyData.canLay0, PyData.canLayAll0]
  | some p =>
    obtain ⟨k, b⟩ := p
    have := o k b rfl
    unfold nmOk at this
    simp only [itD, PyData.canLay0, PyData.canLayAll0, PyData.strOk, this, Bool.and_self]
theorem eqv_it0 (i : Itm) : PyData.eqv (itD i) (.tuple []) = !i.isSome := by
  cases i with
  | none => simp [itD, PyData.eqv, PyData.eqvAll]
  | some p => obtain ⟨k, b⟩ := p; simp [itD, PyData.eqv, PyData.eqvAll]
section
variable {σ : Loc} {h h1 : Hh} {QV : Val → Hh → Prop} {N : Loc → Hh → Prop} {R : Val → Hh → Prop}
theorem tup0 (h : Hh) : vTup [] h = .ok (.tup []) h := tup_v h (by simp)
theorem ne_it {i : Itm} (o : itOk i) (h : Hh) : vEqD true (itV i) (.tup []) h = .ok (.bl i.isSome) h := by
  have hs : strs2 (itV i) (.tup []) = none := by cases i <;> rfl
  rw [eqD_ok true hs (toD_it 28 h i) (toD_it 28 h none) (canLay_it o) (canLay_it (by intro k b e; cases e)), show itD none = .tuple [] from rfl, eqv_it0]
  simp
theorem eq_it {i : Itm} (o : itOk i) (h : Hh) : vEqD false (itV i) (.tup []) h = .ok (.bl !i.isSome) h := by
  have hs : strs2 (itV i) (.tup []) = none := by cases i <;> rfl
  rw [eqD_ok false hs (toD_it 28 h i) (toD_it 28 h none) (canLay_it o) (canLay_it (by intro k b e; cases e)), show itD none = .tuple [] from rfl, eqv_it0]
  simp
theorem ix_tup {vs : List Val} {k : Nat} {v : Val} (e : vs[k]? = some v) (h : Hh) : vIx (.tup vs) (.int (k : Int)) h = .ok v h := by
  simp only [vIx, atI_nat, e]
theorem it_0 (k : Str) (b : Bool) (h : Hh) : vIx (itV (some (k, b))) (.int 0) h = .ok (.str k) h := ix_tup (k := 0) rfl h
theorem it_1 (k : Str) (b : Bool) (h : Hh) : vIx (itV (some (k, b))) (.int 1) h = .ok (.bl b) h := ix_tup (k := 1) rfl h
/-! ### dicts with numbers -/
theorem get_nd {n : Nat} {l : List (Str × Int)} {z : Val} (e : h[n]? = some (.dct (nd l))) (x : Str) : vGet (.ref n) (.str x) z h = .ok (((l.lookup x).map .int).getD z) h := by
  simp only [vGet, e, keyOf, lookup_nd]
@[simp] theorem w_get2 (a b c : ME) : Wp (mGet2 a b c σ h) QV ↔ Wp (a σ h) fun x h1 => isDct x h1 = true ∧ Wp (b σ h1) fun y h2 => Wp (c σ h2) fun z h3 => Wp (vGet x y z h3) QV := by
  unfold mGet2
  simp only [wp_bind]
  refine iff_of_eq (congrArg _ (funext fun x => funext fun h3 => ?_))
  by_cases e : isDct x h3 = true <;> simp [e]
theorem isDct_of {n : Nat} {kvs : List (Val × Val)} (e : h[n]? = some (.dct kvs)) : isDct (.ref n) h = true := by simp [isDct, e]
theorem isDct_fdc {n : Nat} {kvs : List (Val × Val)} (e : h[n]? = some (.fdc kvs)) : isDct (.ref n) h = true := by simp [isDct, e]
theorem set_nd {n : Nat} {l : List (Str × Int)} {x : Str} {i : Int} (e : h[n]? = some (.dct (nd l))) (hl : l.length ≤ 1000) : vSet (.ref n) (.str x) (.int i) h = some (h.set n (.dct (nd (sput l x i)))) := by
  simp only [vSet, e, keyOf, dput_nd]
  rw [if_pos (szlt (by simpa [nd] using hl))]
theorem lookup_sput (l : List (Str × Int)) (x y : Str) (v : Int) : (sput l x v).lookup y = if y = x then some v else l.lookup y := by
  unfold sput
  by_cases ha : l.any (fun p => decide (p.1 = x)) = true
  · rw [if_pos ha]
    have key : ∀ l : List (Str × Int), (l.map fun p => if p.1 = x then (p.1, v) else p).lookup y = if y = x then (if l.any (fun p => decide (p.1 = x)) = true then some v else none) else l.lookup y := by
      intro l
      induction l with
      | nil => simp
      | cons p l ih =>
        obtain ⟨a, i⟩ := p
        rw [List.map_cons, List.lookup_cons]
        by_cases e1 : a = x
        · subst e1
          by_cases e2 : y = a
          · subst e2; simp
          · have : (y == a) = false := by simpa using e2
            simp only [if_true, this, List.lookup_cons, if_neg e2, ih]
        · by_cases e2 : y = x
          · subst e2
            have : (y == a) = false := by simpa using fun z => e1 z.symm
            simp only [if_neg e1, this, ih, List.any_cons, decide_eq_false e1, Bool.false_or, if_true]
          · simp only [if_neg e1, List.lookup_cons, ih, if_neg e2]
    rw [key, if_pos ha]
  · rw [if_neg ha, List.lookup_append]
    have hn : ∀ p ∈ l, p.1 ≠ x := fun p hp z => ha (List.any_eq_true.mpr ⟨p, hp, by simpa using z⟩)
    have hx : l.lookup x = none := by
      rw [List.lookup_eq_none_iff]
      intro p hp
      simpa using fun z => hn p hp z.symm
    by_cases e : y = x
    · subst e; rw [hx]; simp
    · have : (y == x) = false := by simpa using e
      rw [if_neg e]
      simp [List.lookup_cons, this]
theorem sput_keys (l : List (Str × Int)) (x : Str) (v : Int) : (sput l x v).map (·.1) = if x ∈ l.map (·.1) then l.map (·.1) else l.map (·.1) ++ [x] := by
  unfold sput
  have e : (l.any (fun p => decide (p.1 = x)) = true) ↔ x ∈ l.map (·.1) := by
    rw [List.any_eq_true, List.mem_map]
    constructor
    · rintro ⟨p, hp, e⟩; exact ⟨p, hp, by simpa using e⟩
    · rintro ⟨p, hp, e⟩; exact ⟨p, hp, by simpa using e⟩
  by_cases hx : x ∈ l.map (·.1)
  · rw [if_pos (e.mpr hx), if_pos hx, List.map_map]
    congr 1
    funext p
    simp only [Function.comp]
    by_cases z : p.1 = x <;> simp [z]
  · rw [if_neg (fun z => hx (e.mp z)), if_neg hx]; simp
theorem sput_nodup {l : List (Str × Int)} {x : Str} {v : Int} (n : (l.map (·.1)).Nodup) : ((sput l x v).map (·.1)).Nodup := by
  rw [sput_keys]
  split
  · exact n
  · rename_i hx
    exact List.nodup_append.mpr ⟨n, by simp, fun a ha b hb => by simp at hb; subst hb; exact fun z => hx (z ▸ ha)⟩
/-! ### counts -/
def ctAdd (acc : List (Str × Int)) (i : Itm) : List (Str × Int) := match i with
  | none => acc
  | some p => sput acc p.1 ((acc.lookup p.1).getD 0 + 1)
def cts (st : List Itm) : List (Str × Int) := st.foldl ctAdd []
theorem cts_lookup_gen (k : Str) : ∀ (st : List Itm) (acc : List (Str × Int)), (st.foldl ctAdd acc).lookup k = if cnt st k = 0 then acc.lookup k else some ((acc.lookup k).getD 0 + (cnt st k : Int))
  | [], acc => by simp [cnt]
  | i :: st, acc => by
    rw [List.foldl_cons, cts_lookup_gen k st]
    cases i with
    | none =>
      have : cnt (none :: st) k = cnt st k := by simp [cnt, isK]
      rw [this]; rfl
    | some p =>
      obtain ⟨x, b⟩ := p
      simp only [ctAdd, lookup_sput]
      by_cases e : k = x
      · subst e
        have : cnt (some (k, b) :: st) k = cnt st k + 1 := by simp [cnt, isK]
        rw [this]
        simp only [if_true, Nat.add_one_ne_zero, if_false]
        by_cases z : cnt st k = 0
        · simp [z]
        · simp only [z, if_false, Option.getD_some]
          congr 1
          omega
      · have : cnt (some (x, b) :: st) k = cnt st k := by simp [cnt, isK, Ne.symm e]
        rw [this]
        simp only [if_neg e]
theorem cts_lookup (st : List Itm) (k : Str) : (cts st).lookup k = if cnt st k = 0 then none else some (cnt st k : Int) := by
  unfold cts
  rw [cts_lookup_gen]
  simp
theorem cts_nodup (st : List Itm) : ((cts st).map (·.1)).Nodup := by
  have : ∀ (st : List Itm) (acc : List (Str × Int)), (acc.map (·.1)).Nodup → ((st.foldl ctAdd acc).map (·.1)).Nodup := by
    intro st
    induction st with
    | nil => exact fun acc n => n
    | cons i st ih =>
      intro acc n
      rw [List.foldl_cons]
      refine ih _ ?_
      cases i with
      | none => exact n
      | some p => exact sput_nodup n
  exact this st [] (by simp)
theorem sput_len (l : List (Str × Int)) (x : Str) (v : Int) : (sput l x v).length ≤ l.length + 1 := by
  unfold sput
  split <;> simp
theorem cts_len (st : List Itm) : (cts st).length ≤ st.length := by
  have : ∀ (st : List Itm) (acc : List (Str × Int)), (st.foldl ctAdd acc).length ≤ acc.length + st.length := by
    intro st
    induction st with
    | nil => intro acc; simp
    | cons i st ih =>
      intro acc
      rw [List.foldl_cons]
      have h1 := ih (ctAdd acc i)
      have h2 : (ctAdd acc i).length ≤ acc.length + 1 := by
        cases i with
        | none => simp [ctAdd]
        | some p => exact sput_len _ _ _
      simp only [List.length_cons]
      omega
  have := this st []
  simpa [cts] using this
theorem counts_in_ok {st : List Itm} (o : ∀ i ∈ st, itOk i) (hl : st.length ≤ 900) (q : ∀ n g, g[n]? = some (.dct (nd (cts st))) → h.length ≤ n → Kp [] h g → QV (.ref n) g) : Wp (f_counts_in [stV st] h) QV := by
  unfold f_counts_in b_counts_in
  rw [w_fn]
  show WpF (msSeq _ _ [some (stV st), none, none] h) _ _
  simp only [f_seq, f_asg, f_name, f_tup, f_gcons, f_gnil, f_ret, f_retN, f_expr, f_if, f_nil, f_par, f_par3, f_fld, f_sub, w_op, w_un, w_app, w_acons, w_anil, w_C, w_var0, w_varS, w_callF, w_and, w_or, w_not, w_if, w_tval, w_tand, w_tor, w_tnot, w_tbl, w_ttrue, w_chain, w_prop, w_meth, w_methK, w_mkK', w_kw, w_sl, w_mpE, w_mpNo, w_vals, wp_ok, wp_bind, wp_nr, List.set, List.length_cons, List.length_nil, Nat.zero_add, Nat.reduceAdd, add_int, sub_int, le_int, lt_int, ge_int, gt_int, eqD_int, eqD_str, sl_tup, len_tup, truth, true_and, and_true, Bool.not_true, Bool.not_false, Bool.false_eq_true, if_false, if_true, List.cons_append, List.nil_append, List.append_nil, decide_true, decide_false]
  refine k_newD fun n g1 e1 l1 k1 => ?_
  unfold b_counts_in_2
  simp only [f_seq, f_asg, f_name, f_tup, f_gcons, f_gnil, f_ret, f_retN, f_expr, f_if, f_nil, f_par, f_par3, f_fld, f_sub, w_op, w_un, w_app, w_acons, w_anil, w_C, w_var0, w_varS, w_callF, w_and, w_or, w_not, w_if, w_tval, w_tand, w_tor, w_tnot, w_tbl, w_ttrue, w_chain, w_prop, w_meth, w_methK, w_mkK', w_kw, w_sl, w_mpE, w_mpNo, w_vals, wp_ok, wp_bind, wp_nr, List.set, List.length_cons, List.length_nil, Nat.zero_add, Nat.reduceAdd, add_int, sub_int, le_int, lt_int, ge_int, gt_int, eqD_int, eqD_str, sl_tup, len_tup, truth, true_and, and_true, Bool.not_true, Bool.not_false, Bool.false_eq_true, if_false, if_true, List.cons_append, List.nil_append, List.append_nil, decide_true, decide_false]
  have hm : miVal (mVar 0) [some (stV st), some (.ref n), none] g1 = .ok ⟨st.map itV, fun _ => True, none⟩ g1 := val_tup rfl
  refine f_forE (fun k σ g => ∃ x2, σ = [some (stV st), some (.ref n), x2] ∧ g[n]? = some (.dct (nd ((st.take k).foldl ctAdd []))) ∧ Kp [] h g) hm rfl ⟨none, rfl, by simpa [nd] using e1, k1⟩ (fun _ _ _ _ => trivial) ?_ ?_
  · rintro k v σ g ev ⟨x2, rfl, en, K⟩
    have ev' : (st.map itV)[k]? = some v := ev
    rw [List.getElem?_map] at ev'
    cases ei : st[k]? with
    | none => rw [ei] at ev'; cases ev'
    | some i =>
      rw [ei] at ev'
      simp at ev'
      subst ev'
      have oi := o i (List.mem_of_getElem? ei)
      have ht : (st.take (k + 1)).foldl ctAdd [] = ctAdd ((st.take k).foldl ctAdd []) i := by
        rw [List.take_add_one, ei, List.foldl_append]; rfl
      simp only [f_seq, f_asg, f_name, f_tup, f_gcons, f_gnil, f_ret, f_retN, f_expr, f_if, f_nil, f_par, f_par3, f_fld, f_sub, w_op, w_un, w_app, w_acons, w_anil, w_C, w_var0, w_varS, w_callF, w_and, w_or, w_not, w_if, w_tval, w_tand, w_tor, w_tnot, w_tbl, w_ttrue, w_chain, w_prop, w_meth, w_methK, w_mkK', w_kw, w_sl, w_mpE, w_mpNo, w_vals, wp_ok, wp_bind, wp_nr, List.set, List.length_cons, List.length_nil, Nat.zero_add, Nat.reduceAdd, add_int, sub_int, le_int, lt_int, ge_int, gt_int, eqD_int, eqD_str, sl_tup, len_tup, truth, true_and, and_true, Bool.not_true, Bool.not_false, Bool.false_eq_true, if_false, if_true, List.cons_append, List.nil_append, List.append_nil, decide_true, decide_false, tup0, ne_it oi]
      cases i with
      | none =>
        simp only [f_seq, f_asg, f_name, f_tup, f_gcons, f_gnil, f_ret, f_retN, f_expr, f_if, f_nil, f_par, f_par3, f_fld, f_sub, w_op, w_un, w_app, w_acons, w_anil, w_C, w_var0, w_varS, w_callF, w_and, w_or, w_not, w_if, w_tval, w_tand, w_tor, w_tnot, w_tbl, w_ttrue, w_chain, w_prop, w_meth, w_methK, w_mkK', w_kw, w_sl, w_mpE, w_mpNo, w_vals, wp_ok, wp_bind, wp_nr, List.set, List.length_cons, List.length_nil, Nat.zero_add, Nat.reduceAdd, add_int, sub_int, le_int, lt_int, ge_int, gt_int, eqD_int, eqD_str, sl_tup, len_tup, truth, true_and, and_true, Bool.not_true, Bool.not_false, Bool.false_eq_true, if_false, if_true, List.cons_append, List.nil_append, List.append_nil, decide_true, decide_false, Option.isSome_none]
        exact ⟨_, rfl, by rw [ht]; exact en, K⟩
      | some p =>
        obtain ⟨x, b⟩ := p
        have hlen : ((st.take k).foldl ctAdd []).length ≤ 1000 := by
          have := cts_len (st.take k)
          unfold cts at this
          have h2 : (st.take k).length ≤ st.length := by simp [List.length_take]; omega
          omega
        simp only [f_seq, f_asg, f_name, f_tup, f_gcons, f_gnil, f_ret, f_retN, f_expr, f_if, f_nil, f_par, f_par3, f_fld, f_sub, w_op, w_un, w_app, w_acons, w_anil, w_C, w_var0, w_varS, w_callF, w_and, w_or, w_not, w_if, w_tval, w_tand, w_tor, w_tnot, w_tbl, w_ttrue, w_chain, w_prop, w_meth, w_methK, w_mkK', w_kw, w_sl, w_mpE, w_mpNo, w_vals, wp_ok, wp_bind, wp_nr, List.set, List.length_cons, List.length_nil, Nat.zero_add, Nat.reduceAdd, add_int, sub_int, le_int, lt_int, ge_int, gt_int, eqD_int, eqD_str, sl_tup, len_tup, truth, true_and, and_true, Bool.not_true, Bool.not_false, Bool.false_eq_true, if_false, if_true, List.cons_append, List.nil_append, List.append_nil, decide_true, decide_false, Option.isSome_some, w_get2, isDct_of en, it_0, get_nd en]
        have hg : ((((st.take k).foldl ctAdd []).lookup x).map Val.int).getD (.int 0) = .int ((((st.take k).foldl ctAdd []).lookup x).getD 0) := by
          cases ((st.take k).foldl ctAdd []).lookup x <;> rfl
        rw [hg]
        simp only [f_seq, f_asg, f_name, f_tup, f_gcons, f_gnil, f_ret, f_retN, f_expr, f_if, f_nil, f_par, f_par3, f_fld, f_sub, w_op, w_un, w_app, w_acons, w_anil, w_C, w_var0, w_varS, w_callF, w_and, w_or, w_not, w_if, w_tval, w_tand, w_tor, w_tnot, w_tbl, w_ttrue, w_chain, w_prop, w_meth, w_methK, w_mkK', w_kw, w_sl, w_mpE, w_mpNo, w_vals, wp_ok, wp_bind, wp_nr, List.set, List.length_cons, List.length_nil, Nat.zero_add, Nat.reduceAdd, add_int, sub_int, le_int, lt_int, ge_int, gt_int, eqD_int, eqD_str, sl_tup, len_tup, truth, true_and, and_true, Bool.not_true, Bool.not_false, Bool.false_eq_true, if_false, if_true, List.cons_append, List.nil_append, List.append_nil, decide_true, decide_false, it_0, set_nd en hlen]
        exact ⟨_, rfl, by rw [ht]; exact set_self en, K.set' l1⟩
  · rintro σ g ⟨x2, rfl, en, K⟩
    unfold b_counts_in_1
    simp only [f_seq, f_asg, f_name, f_tup, f_gcons, f_gnil, f_ret, f_retN, f_expr, f_if, f_nil, f_par, f_par3, f_fld, f_sub, w_op, w_un, w_app, w_acons, w_anil, w_C, w_var0, w_varS, w_callF, w_and, w_or, w_not, w_if, w_tval, w_tand, w_tor, w_tnot, w_tbl, w_ttrue, w_chain, w_prop, w_meth, w_methK, w_mkK', w_kw, w_sl, w_mpE, w_mpNo, w_vals, wp_ok, wp_bind, wp_nr, List.set, List.length_cons, List.length_nil, Nat.zero_add, Nat.reduceAdd, add_int, sub_int, le_int, lt_int, ge_int, gt_int, eqD_int, eqD_str, sl_tup, len_tup, truth, true_and, and_true, Bool.not_true, Bool.not_false, Bool.false_eq_true, if_false, if_true, List.cons_append, List.nil_append, List.append_nil, decide_true, decide_false]
    refine q n g ?_ l1 K
    rw [show (⟨st.map itV, fun _ => True, none⟩ : Itb).items.length = st.length from List.length_map .., List.take_length] at en
    exact en
/-! ### songs that are asked -/
variable {n d : Nat} {l : List (Str × Int)}
theorem in_dct {m : Nat} {x : Str} (neg : Bool) (e : h[m]? = some (.dct (nd l))) : vIn neg (.str x) (.ref m) h = .ok (.bl (if neg then !(l.lookup x).isSome else (l.lookup x).isSome)) h := by
  have : (dGet (nd l) (.str x)).isSome = (l.lookup x).isSome := by rw [lookup_nd]; simp
  simp only [vIn, e, keyOf, this]
theorem contains_str (S : SongsAt n d l h) (x : Str) : f_Songs_contains [.ref n, .str x] h = .ok (.bl (l.lookup x).isSome) h := by
  have i1 : vIsi kCs kTys [.str x, .ty "str"] h = .ok (.bl true) h := isi_b rfl kb_ss
  simp [f_Songs_contains, b_Songs_contains, mkFn, msRet, mAnd, mApp, maCons, maNil, mC, mOp, mUn, i1, fld_of S.e songs_in gf_n, in_dct false S.ed]
theorem in_songs (neg : Bool) (S : SongsAt n d l h) (x : Str) : vInO "Songs" 2 f_Songs_contains neg (.str x) (.ref n) h = .ok (.bl (if neg then !(l.lookup x).isSome else (l.lookup x).isSome)) h := by
  simp [vInO, isIn_of S.e, callF, contains_str S]
theorem need_kind_ok (S : SongsAt n d l h) {x : Str} {i : Int} (e : l.lookup x = some i) : f_need_kind [.ref n, .str x] h = .ok .non h := by
  have i1 : vIsi kCs kTys [.str x, .ty "str"] h = .ok (.bl true) h := isi_b rfl kb_ss
  simp [f_need_kind, b_need_kind, mkFn, msIf, tOr2, tNot1, tVal, tBl, mOp, mUn, mApp, maCons, maNil, mC, i1, truth, fld_of S.e songs_in gf_n, in_dct true S.ed, e, msNil]
theorem getitem_ok (S : SongsAt n d l h) {x : Str} {i : Int} (e : l.lookup x = some i) : f_Songs_getitem [.ref n, .str x] h = .ok (.int i) h := by
  simp [f_Songs_getitem, b_Songs_getitem, b_Songs_getitem_1, mkFn, msSeq, msExpr, msRet, mOp, mUn, mApp, maCons, maNil, callF, need_kind_ok S e, fld_of S.e songs_in gf_n, ix_nd S.ed e]
theorem ix_songs (S : SongsAt n d l h) {x : Str} {i : Int} (e : l.lookup x = some i) : vIxO "Songs" 2 f_Songs_getitem (.ref n) (.str x) h = .ok (.int i) h := by
  simp [vIxO, isIn_of S.e, callF, getitem_ok S e]
theorem kb_bb : kitB "bool" "bool" = some true := by kernel_rfl
theorem is_item_ok (S : SongsAt n d l h) {i : Itm} (o : itOk i) (hk : ∀ k b, i = some (k, b) → (l.lookup k).isSome = true) : f_is_item [.ref n, itV i] h = .ok (.bl true) h := by
  have it : vIsi kCs kTys [itV i, .ty "tuple"] h = .ok (.bl true) h := isi_b (by cases i <;> rfl) kb_tt
  have e0 := eq_it o h
  cases i with
  | none =>
    have hin : vIn true (.int 0) (.tup [.int 0, .int 2]) h = .ok (.bl false) h := by simp [vIn, inSeq, flat, eqF]
    have t2 : ∀ a b : Val, vTup [a, b] h = .ok (.tup [a, b]) h := fun a b => tup_v h (by simp)
    simp only [itV] at it e0
    simp [f_is_item, b_is_item, b_is_item_1, mkFn, msSeq, msIf, msRet, tOr2, tNot1, tVal, tBl, mOp, mApp, maCons, maNil, mC, itV, it, truth, t2, hin, msNil, mOr, tup0, e0]
  | some p =>
    obtain ⟨k, b⟩ := p
    have hin : vIn true (.int 2) (.tup [.int 0, .int 2]) h = .ok (.bl false) h := by simp [vIn, inSeq, flat, eqF]
    have t2 : ∀ a b : Val, vTup [a, b] h = .ok (.tup [a, b]) h := fun a b => tup_v h (by simp)
    have ib : vIsi kCs kTys [.bl b, .ty "bool"] h = .ok (.bl true) h := isi_b rfl kb_bb
    have h0 := it_0 k b h
    have h1' := it_1 k b h
    simp only [itV] at it e0 h0 h1'
    simp [f_is_item, b_is_item, b_is_item_1, mkFn, msSeq, msIf, msRet, tOr2, tNot1, tVal, tBl, mOp, mApp, maCons, maNil, mC, itV, it, truth, t2, hin, msNil, mOr, mAnd, tup0, e0, h0, h1', in_songs false S, hk k b rfl, ib]
end
end U
/-! Standings, part 2: dict comprehensions, standings that are judged, old songs. -/
namespace U
open PySem L2
section
variable {σ : Loc} {h h1 : Hh} {QV : Val → Hh → Prop} {N : Loc → Hh → Prop} {R : Val → Hh → Prop}
theorem dcV_wp {src : Hh → Prop} {n : Nat} {body : Val → Hh → Res (Option (Val × Val))} {Q : Unit → Hh → Prop} (I : Nat → List (Val × Val) → Hh → Prop) (hs : ∀ k acc h, I k acc h → src h) : ∀ (vs : List Val) (k : Nat) {acc : List (Val × Val)} {h : Hh}, I k acc h → h[n]? = some (.dct acc) → acc.length ≤ k → k + vs.length ≤ 1000 →
    (∀ j v acc' h', vs[j]? = some v → I (k + j) acc' h' → h'[n]? = some (.dct acc') → Wp (body v h') fun o h2 => h2[n]? = some (.dct acc') ∧ (match o with
      | none => I (k + j + 1) acc' h2
      | some (y, z) => (keyOf y).isSome = true ∧ I (k + j + 1) (dPut acc' y z) (h2.set n (.dct (dPut acc' y z))))) → (∀ acc' h', I (k + vs.length) acc' h' → h'[n]? = some (.dct acc') → Q () h') → Wp (dcV src n body vs h) Q
  | [], k, acc, h, i, hn, _, _, _, e => by
    unfold dcV
    rw [if_pos (hs k acc h i)]
    exact .ok (e acc h i hn)
  | v :: vs, k, acc, h, i, hn, hk, hz, st, e => by
    unfold dcV
    rw [if_pos (hs k acc h i)]
    have w := st 0 v acc h rfl i hn
    rw [List.length_cons] at hz
    have st' : ∀ j v acc' h', vs[j]? = some v → I (k + 1 + j) acc' h' → h'[n]? = some (.dct acc') → Wp (body v h') fun o h2 => h2[n]? = some (.dct acc') ∧ (match o with
      | none => I (k + 1 + j + 1) acc' h2
      | some (y, z) => (keyOf y).isSome = true ∧ I (k + 1 + j + 1) (dPut acc' y z) (h2.set n (.dct (dPut acc' y z)))) := fun j v acc' h' ev i' hn' => by
      have := st (j + 1) v acc' h' (by simpa using ev) (by rw [show k + (j + 1) = k + 1 + j by omega]; exact i') hn'
      rw [show k + (j + 1) + 1 = k + 1 + j + 1 by omega] at this
      exact this
    have e' : ∀ acc' h', I (k + 1 + vs.length) acc' h' → h'[n]? = some (.dct acc') → Q () h' := fun acc' h' i' => e acc' h' (by rw [List.length_cons, show k + (vs.length + 1) = k + 1 + vs.length by omega]; exact i')
    cases q : body v h with
    | ok o h' =>
      rw [q, wp_ok] at w
      cases o with
      | none => exact dcV_wp I hs vs (k + 1) (show I (k + 1) acc h' from w.2) w.1 (by omega) (by omega) st' e'
      | some yz =>
        obtain ⟨y, z⟩ := yz
        obtain ⟨w1, w2, w3⟩ := w
        have hp : put1 n y z h' = some (h'.set n (.dct (dPut acc y z))) := by
          unfold put1
          rw [w1]
          dsimp only
          obtain ⟨kk, hkk⟩ := Option.isSome_iff_exists.mp w2
          rw [hkk]
          dsimp only
          rw [if_pos (szlt (by omega))]
        dsimp only
        rw [hp]
        have hl : n < h'.length := (List.getElem?_eq_some_iff.mp w1).1
        have hlen : (dPut acc y z).length ≤ acc.length + 1 := by
          unfold dPut
          split <;> simp
        exact dcV_wp I hs vs (k + 1) (show I (k + 1) (dPut acc y z) _ from w3) (List.getElem?_set_self hl) (by omega) (by omega) st' e'
    | rs _ _ => rw [q] at w; cases w
    | no => rw [q] at w; cases w
/-- {x: G x of this dict's number} over a dict of numbers -/
theorem dc_nd {m : ME} {vs : List Nat} {tg : Tg} {c : MT} {ek ev : ME} {n : Nat} {l : List (Str × Int)} (G : Str → Int → Option Int) (em : m σ h = .ok (.ref n) h1) (en : h1[n]? = some (.dct (nd l))) (hz : l.length ≤ 900) (hnd : (l.map (·.1)).Nodup)
    (hb : ∀ p ∈ l, ∀ g, Kp [n] h1 g → g[n]? = some (.fdc (nd l)) → Wp (dcB vs tg c ek ev σ (.str p.1) g) fun o g2 => Kp [] g g2 ∧ o = (G p.1 p.2).map fun j => (.str p.1, .int j))
    (q : ∀ r g, Kp [] h1 g → g[r]? = some (.dct (nd (l.filterMap fun p => (G p.1 p.2).map fun j => (p.1, j)))) → h1.length ≤ r → QV (.ref r) g) : Wp (mDc (miVal m) vs tg c ek ev σ h) QV := by
  have hl := lt_of en
  have hm : miVal m σ h = .ok ⟨(nd l).map (·.1), fun h => h[n]? = some (.fdc (nd l)), some n⟩ (h1.set n (.fdc (nd l))) := by
    unfold miVal; rw [em]; simp only [bind_ok, en]
  have hlen : (h1.set n (.fdc (nd l))).length = h1.length := List.length_set
  let P : Nat → List (Str × Int) := fun k => (l.take k).filterMap fun p => (G p.1 p.2).map fun j => (p.1, j)
  unfold mDc
  rw [hm, bind_ok, wp_bind]
  have hll : ((nd l).map (·.1)).length = l.length := by simp [nd]
  refine dcV_wp (fun k acc g => acc = nd (P k) ∧ Kp [n] h1 g ∧ g[n]? = some (.fdc (nd l))) (fun k acc g ⟨_, _, e⟩ => e) _ 0 (acc := []) ⟨by simp [P, nd], ((Kp.refl [n] h1).set n _ (.inl (by simp))).app _, app_at _ (set_self en)⟩ (by simp) (by simp) (by rw [Nat.zero_add]; show ((nd l).map (·.1)).length ≤ 1000; omega) ?_ ?_
  · intro k v acc g ev ⟨ha, K, en'⟩ hr
    rw [Nat.zero_add] at ha ⊢
    have ev' : ((nd l).map (·.1))[k]? = some v := ev
    rw [show (nd l).map (·.1) = (l.map (·.1)).map Val.str from nd_keys l, List.getElem?_map, List.getElem?_map] at ev'
    cases ep : l[k]? with
    | none => rw [ep] at ev'; cases ev'
    | some p =>
      rw [ep] at ev'
      simp at ev'
      subst ev'
      refine (hb p (List.mem_of_getElem? ep) g K en').mono fun o g2 ⟨a2, a3⟩ => ?_
      have hP : P (k + 1) = P k ++ ((G p.1 p.2).map fun j => (p.1, j)).toList := by
        show ((l.take (k + 1)).filterMap _) = _
        rw [List.take_add_one, ep, List.filterMap_append]
        congr 1
      have K2 : Kp [n] h1 g2 := K.trans (a2.weak (by simp))
      have en2 := a2.k en'
      rw [hlen] at hr ⊢
      refine ⟨a2.k hr, ?_⟩
      subst a3
      cases hG : G p.1 p.2 with
      | none =>
        rw [hG] at hP
        exact ⟨by rw [ha, hP]; simp, K2, en2⟩
      | some j =>
        rw [hG] at hP
        have hnew : p.1 ∉ (P k).map (·.1) := fun z => by
          have hkl : k < (l.map (·.1)).length := by rw [List.length_map]; exact (List.getElem?_eq_some_iff.mp ep).1
          have ek : (l.map (·.1))[k] = p.1 := by
            have : (l.map (·.1))[k]? = some p.1 := by rw [List.getElem?_map, ep]; rfl
            exact (List.getElem?_eq_some_iff.mp this).2
          obtain ⟨q, hq, eq⟩ := List.mem_map.mp z
          obtain ⟨r, hr, er⟩ := List.mem_filterMap.mp hq
          have e1 : r.1 = p.1 := by
            cases hh : G r.1 r.2 with
            | none => rw [hh] at er; cases er
            | some j => rw [hh] at er; simp at er; rw [← eq, ← er]
          have hm : p.1 ∈ (l.take k).map (·.1) := List.mem_map.mpr ⟨r, hr, e1⟩
          rw [List.map_take] at hm
          obtain ⟨i, hi, ei⟩ := List.getElem_of_mem hm
          rw [List.length_take] at hi
          rw [List.getElem_take] at ei
          have := (List.getElem_inj hnd).mp (ei.trans ek.symm)
          omega
        have hput : dPut acc (.str p.1) (.int j) = nd (P (k + 1)) := by
          rw [ha, dput_nd, sput_new hnew, hP]; rfl
        refine ⟨rfl, ?_, K2.set' (Nat.le_refl _), set_at en2 (by omega)⟩
        exact hput
  · intro acc g ⟨ha, K, en'⟩ hr
    simp only [unlH, en']
    rw [hlen] at hr ⊢
    refine .ok (q _ _ ⟨by rw [List.length_set]; exact K.len, fun i o ei _ => ?_⟩ ?_ (Nat.le_refl _))
    · by_cases hi : i = n
      · subst hi
        rw [en] at ei; cases ei
        exact set_self en'
      · exact set_at (K.at_ i o ei (by simpa using hi)) (fun z => hi z.symm)
    · rw [set_at hr (by omega), ha]
      rw [Nat.zero_add]
      have : P ((nd l).map (·.1)).length = P l.length := by rw [hll]
      show some (Ob.dct (nd (P ((nd l).map (·.1)).length))) = _
      rw [this]
      show some (Ob.dct (nd ((l.take l.length).filterMap _))) = _
      rw [List.take_length]
/-- a standing as it may be -/
structure okSt (l : List (Str × Int)) (n : Nat) (st : List Itm) : Prop where
  len : st.length = n
  kd : ∀ k b, some (k, b) ∈ st → (l.lookup k).isSome = true
  le : ∀ k i, l.lookup k = some i → (cnt st k : Int) ≤ i
variable {n d m : Nat} {l : List (Str × Int)} {st : List Itm} {ws ss : List Int} {sp : Int}
def nmsOk (l : List (Str × Int)) : Prop := ∀ p ∈ l, nmOk p.1
theorem lookup_some_mem : ∀ {l : List (Str × Int)} {x : Str} {i : Int}, l.lookup x = some i → (x, i) ∈ l
  | (a, j) :: l, x, i, e => by
    rw [List.lookup_cons] at e
    by_cases z : x = a
    · subst z
      simp at e
      subst e
      simp
    · have : (x == a) = false := by simpa using z
      rw [this] at e
      exact List.mem_cons_of_mem _ (lookup_some_mem e)
theorem okSt.it {l : List (Str × Int)} {k : Nat} (o : okSt l k st) (hn : nmsOk l) : ∀ i ∈ st, itOk i := fun i hi k b e => by
  subst e
  obtain ⟨j, ej⟩ := Option.isSome_iff_exists.mp (o.kd k b hi)
  exact hn _ (lookup_some_mem ej)
theorem fm_true' {α : Type} (F : α → Option Val) : ∀ (xs : List α), (∀ x ∈ xs, F x = some (.bl true)) → xs.filterMap F = List.replicate xs.length (Val.bl true)
  | [], _ => rfl
  | x :: xs, hx => by
    rw [List.filterMap_cons, hx x (by simp)]
    show Val.bl true :: xs.filterMap F = _
    rw [fm_true' F xs fun y hy => hx y (by simp [hy])]; rfl
theorem is_standing_ok {r : Nat} (er : RuleAt r ws ss sp h) (S : SongsAt n d l h) (hn : nmsOk l) (o : okSt l (ws.length - 1) st) (l1 : 1 ≤ ws.length) (l4 : ws.length ≤ 4) (q : ∀ g, Kp [] h g → QV (.bl true) g) : Wp (f_is_standing [.ref r, .ref n, stV st] h) QV := by
  unfold f_is_standing b_is_standing
  rw [w_fn]
  show WpF (msSeq _ _ [some (.ref r), some (.ref n), some (stV st), none, none, none] h) _ _
  have it : vIsi kCs kTys [stV st, .ty "tuple"] h = .ok (.bl true) h := isi_b rfl kb_tt
  have ln : vLen [stV st] h = .ok (.int (st.length : Nat)) h := by simp [stV]
  have hlen := o.len
  have c1 : decide ((st.length : Int) = (ws.length : Int) - 1) = true := decide_eq_true (by omega)
  simp only [f_seq, f_asg, f_name, f_tup, f_gcons, f_gnil, f_ret, f_retN, f_expr, f_if, f_nil, f_par, f_par3, f_fld, f_sub, w_op, w_un, w_app, w_acons, w_anil, w_C, w_var0, w_varS, w_callF, w_and, w_or, w_not, w_if, w_tval, w_tand, w_tor, w_tnot, w_tbl, w_ttrue, w_chain, w_prop, w_meth, w_methK, w_mkK', w_kw, w_sl, w_mpE, w_mpNo, w_vals, wp_ok, wp_bind, wp_nr, List.set, List.length_cons, List.length_nil, Nat.zero_add, Nat.reduceAdd, add_int, sub_int, le_int, lt_int, ge_int, gt_int, eqD_int, eqD_str, sl_tup, len_tup, truth, true_and, and_true, Bool.not_true, Bool.not_false, Bool.false_eq_true, if_false, if_true, List.cons_append, List.nil_append, List.append_nil, decide_true, decide_false, it, ln, isIn_of er, rule_cap er, c1]
  have hm : miVal (mVar 2) [some (.ref r), some (.ref n), some (stV st), none, none, none] h = .ok ⟨st.map itV, fun _ => True, none⟩ h := val_tup rfl
  refine lc_det (fun _ => some (.bl true)) hm rfl (szl (by simp; omega)) (fun _ _ => trivial) (fun v hv g kg => ?_) fun g1 k1 e1 => ?_
  · obtain ⟨i, hi, rfl⟩ := List.mem_map.mp (show v ∈ st.map itV from hv)
    have oi := o.it hn i hi
    have hii := is_item_ok (S.k kg) oi fun k b e => o.kd k b (e ▸ hi)
    unfold lcB
    simp only [Tg.bd, wipeL, List.set, tTrue, nr_ok, bind_ok, if_true, wp_bind, wp_nr]
    simp only [f_seq, f_asg, f_name, f_tup, f_gcons, f_gnil, f_ret, f_retN, f_expr, f_if, f_nil, f_par, f_par3, f_fld, f_sub, w_op, w_un, w_app, w_acons, w_anil, w_C, w_var0, w_varS, w_callF, w_and, w_or, w_not, w_if, w_tval, w_tand, w_tor, w_tnot, w_tbl, w_ttrue, w_chain, w_prop, w_meth, w_methK, w_mkK', w_kw, w_sl, w_mpE, w_mpNo, w_vals, wp_ok, wp_bind, wp_nr, List.set, List.length_cons, List.length_nil, Nat.zero_add, Nat.reduceAdd, add_int, sub_int, le_int, lt_int, ge_int, gt_int, eqD_int, eqD_str, sl_tup, len_tup, truth, true_and, and_true, Bool.not_true, Bool.not_false, Bool.false_eq_true, if_false, if_true, List.cons_append, List.nil_append, List.append_nil, decide_true, decide_false, hii]
    exact Kp.refl [] g
  · rw [fm_const] at e1
    rw [all_true e1]
    simp only [f_seq, f_asg, f_name, f_tup, f_gcons, f_gnil, f_ret, f_retN, f_expr, f_if, f_nil, f_par, f_par3, f_fld, f_sub, w_op, w_un, w_app, w_acons, w_anil, w_C, w_var0, w_varS, w_callF, w_and, w_or, w_not, w_if, w_tval, w_tand, w_tor, w_tnot, w_tbl, w_ttrue, w_chain, w_prop, w_meth, w_methK, w_mkK', w_kw, w_sl, w_mpE, w_mpNo, w_vals, wp_ok, wp_bind, wp_nr, List.set, List.length_cons, List.length_nil, Nat.zero_add, Nat.reduceAdd, add_int, sub_int, le_int, lt_int, ge_int, gt_int, eqD_int, eqD_str, sl_tup, len_tup, truth, true_and, and_true, Bool.not_true, Bool.not_false, Bool.false_eq_true, if_false, if_true, List.cons_append, List.nil_append, List.append_nil, decide_true, decide_false]
    unfold b_is_standing_2
    simp only [f_seq, f_asg, f_name, f_tup, f_gcons, f_gnil, f_ret, f_retN, f_expr, f_if, f_nil, f_par, f_par3, f_fld, f_sub, w_op, w_un, w_app, w_acons, w_anil, w_C, w_var0, w_varS, w_callF, w_and, w_or, w_not, w_if, w_tval, w_tand, w_tor, w_tnot, w_tbl, w_ttrue, w_chain, w_prop, w_meth, w_methK, w_mkK', w_kw, w_sl, w_mpE, w_mpNo, w_vals, wp_ok, wp_bind, wp_nr, List.set, List.length_cons, List.length_nil, Nat.zero_add, Nat.reduceAdd, add_int, sub_int, le_int, lt_int, ge_int, gt_int, eqD_int, eqD_str, sl_tup, len_tup, truth, true_and, and_true, Bool.not_true, Bool.not_false, Bool.false_eq_true, if_false, if_true, List.cons_append, List.nil_append, List.append_nil, decide_true, decide_false]
    refine counts_in_ok (o.it hn) (by omega) fun c g2 e2 l2 k2 => ?_
    unfold b_is_standing_1
    simp only [f_seq, f_asg, f_name, f_tup, f_gcons, f_gnil, f_ret, f_retN, f_expr, f_if, f_nil, f_par, f_par3, f_fld, f_sub, w_op, w_un, w_app, w_acons, w_anil, w_C, w_var0, w_varS, w_callF, w_and, w_or, w_not, w_if, w_tval, w_tand, w_tor, w_tnot, w_tbl, w_ttrue, w_chain, w_prop, w_meth, w_methK, w_mkK', w_kw, w_sl, w_mpE, w_mpNo, w_vals, wp_ok, wp_bind, wp_nr, List.set, List.length_cons, List.length_nil, Nat.zero_add, Nat.reduceAdd, add_int, sub_int, le_int, lt_int, ge_int, gt_int, eqD_int, eqD_str, sl_tup, len_tup, truth, true_and, and_true, Bool.not_true, Bool.not_false, Bool.false_eq_true, if_false, if_true, List.cons_append, List.nil_append, List.append_nil, decide_true, decide_false]
    refine lc_dct (n := c) (kvs := nd (cts st)) (fun _ => some (.bl true)) rfl e2 (szl (by have := cts_len st; simp [nd]; omega)) (fun v hv g K5 e5 => ?_) fun r3 g3 k3 e3 l3 => ?_
    · rw [show (nd (cts st)).map (·.1) = ((cts st).map (·.1)).map Val.str from nd_keys _] at hv
      obtain ⟨x, hx, rfl⟩ := List.mem_map.mp hv
      obtain ⟨p, hp, rfl⟩ := List.mem_map.mp hx
      have hlk := lookup_mem (cts_nodup st) hp
      have hc : cnt st p.1 ≠ 0 ∧ p.2 = (cnt st p.1 : Int) := by
        rw [cts_lookup] at hlk
        by_cases z : cnt st p.1 = 0
        · rw [if_pos z] at hlk; cases hlk
        · rw [if_neg z] at hlk; exact ⟨z, (Option.some.inj hlk).symm⟩
      have hin : ∃ b, some (p.1, b) ∈ st := by
        have : 0 < cnt st p.1 := by omega
        obtain ⟨i, hi, e⟩ := List.countP_pos_iff.mp this
        cases i with
        | none => cases e
        | some q => obtain ⟨x, b⟩ := q; simp [isK] at e; subst e; exact ⟨b, hi⟩
      obtain ⟨b, hb⟩ := hin
      obtain ⟨i, hi⟩ := Option.isSome_iff_exists.mp (o.kd p.1 b hb)
      have hle := o.le p.1 i hi
      have hix : vIx (.ref c) (.str p.1) g = .ok (.int p.2) g := by
        have : dGet (nd (cts st)) (.str p.1) = some (.int p.2) := by rw [lookup_nd, hlk]; rfl
        simp only [vIx, e5, keyOf, this]
      have lc : n < g2.length ∧ d < g2.length ∧ n ≠ c ∧ d ≠ c := by
        have a1 := lt_of (k1.k S.e)
        have a2 := lt_of (k1.k S.ed)
        have a3 := k2.len
        omega
      have S2 : SongsAt n d l g := ⟨K5.at_ _ _ (k2.k (k1.k S.e)) (by simp; omega), K5.at_ _ _ (k2.k (k1.k S.ed)) (by simp; omega)⟩
      unfold lcB
      simp only [Tg.bd, wipeL, List.set, tTrue, nr_ok, bind_ok, if_true, wp_bind, wp_nr]
      simp only [f_seq, f_asg, f_name, f_tup, f_gcons, f_gnil, f_ret, f_retN, f_expr, f_if, f_nil, f_par, f_par3, f_fld, f_sub, w_op, w_un, w_app, w_acons, w_anil, w_C, w_var0, w_varS, w_callF, w_and, w_or, w_not, w_if, w_tval, w_tand, w_tor, w_tnot, w_tbl, w_ttrue, w_chain, w_prop, w_meth, w_methK, w_mkK', w_kw, w_sl, w_mpE, w_mpNo, w_vals, wp_ok, wp_bind, wp_nr, List.set, List.length_cons, List.length_nil, Nat.zero_add, Nat.reduceAdd, add_int, sub_int, le_int, lt_int, ge_int, gt_int, eqD_int, eqD_str, sl_tup, len_tup, truth, true_and, and_true, Bool.not_true, Bool.not_false, Bool.false_eq_true, if_false, if_true, List.cons_append, List.nil_append, List.append_nil, decide_true, decide_false, hix, ix_songs S2 hi]
      rw [decide_eq_true (show p.2 ≤ i by omega)]
      exact ⟨Kp.refl [] g, rfl⟩
    · rw [fm_const] at e3
      rw [all_true e3, wp_ok]
      exact q g3 ((k1.trans k2).trans k3)
theorem need_standing_ok {r : Nat} (er : RuleAt r ws ss sp h) (S : SongsAt n d l h) (hn : nmsOk l) (o : okSt l (ws.length - 1) st) (l1 : 1 ≤ ws.length) (l4 : ws.length ≤ 4) (q : ∀ g, Kp [] h g → QV .non g) : Wp (f_need_standing [.ref r, .ref n, stV st] h) QV := by
  unfold f_need_standing b_need_standing
  rw [w_fn]
  show WpF (msIf _ _ _ [some (.ref r), some (.ref n), some (stV st)] h) _ _
  simp only [f_seq, f_asg, f_name, f_tup, f_gcons, f_gnil, f_ret, f_retN, f_expr, f_if, f_nil, f_par, f_par3, f_fld, f_sub, w_op, w_un, w_app, w_acons, w_anil, w_C, w_var0, w_varS, w_callF, w_and, w_or, w_not, w_if, w_tval, w_tand, w_tor, w_tnot, w_tbl, w_ttrue, w_chain, w_prop, w_meth, w_methK, w_mkK', w_kw, w_sl, w_mpE, w_mpNo, w_vals, wp_ok, wp_bind, wp_nr, List.set, List.length_cons, List.length_nil, Nat.zero_add, Nat.reduceAdd, add_int, sub_int, le_int, lt_int, ge_int, gt_int, eqD_int, eqD_str, sl_tup, len_tup, truth, true_and, and_true, Bool.not_true, Bool.not_false, Bool.false_eq_true, if_false, if_true, List.cons_append, List.nil_append, List.append_nil, decide_true, decide_false]
  refine is_standing_ok er S hn o l1 l4 fun g k => ?_
  simp only [f_seq, f_asg, f_name, f_tup, f_gcons, f_gnil, f_ret, f_retN, f_expr, f_if, f_nil, f_par, f_par3, f_fld, f_sub, w_op, w_un, w_app, w_acons, w_anil, w_C, w_var0, w_varS, w_callF, w_and, w_or, w_not, w_if, w_tval, w_tand, w_tor, w_tnot, w_tbl, w_ttrue, w_chain, w_prop, w_meth, w_methK, w_mkK', w_kw, w_sl, w_mpE, w_mpNo, w_vals, wp_ok, wp_bind, wp_nr, List.set, List.length_cons, List.length_nil, Nat.zero_add, Nat.reduceAdd, add_int, sub_int, le_int, lt_int, ge_int, gt_int, eqD_int, eqD_str, sl_tup, len_tup, truth, true_and, and_true, Bool.not_true, Bool.not_false, Bool.false_eq_true, if_false, if_true, List.cons_append, List.nil_append, List.append_nil, decide_true, decide_false]
  exact q g k
/-! ### old songs -/
def olds (l : List (Str × Int)) (st : List Itm) : List (Str × Int) := l.filterMap fun p => if 0 < p.2 - (cnt st p.1 : Int) then some (p.1, p.2 - (cnt st p.1 : Int)) else none
theorem numbers_ok (S : SongsAt n d l h) : f_Songs_numbers [.ref n] h = .ok (.ref h.length) (h ++ [.dct (nd l)]) := by
  simp [f_Songs_numbers, b_Songs_numbers, mkFn, msRet, mUn, mApp, maCons, maNil, fld_of S.e songs_in gf_n, vDict, S.ed]
theorem cnt_get (st : List Itm) (x : Str) : (((cts st).lookup x).map Val.int).getD (.int 0) = .int (cnt st x : Int) := by
  rw [cts_lookup]
  by_cases z : cnt st x = 0
  · rw [if_pos z, z]; rfl
  · rw [if_neg z]; rfl
theorem olds_eq (l : List (Str × Int)) (st : List Itm) : ((l.filterMap fun p => (some (p.2 - (cnt st p.1 : Int))).map fun j => (p.1, j)).filterMap fun p => (if 0 < p.2 then some p.2 else none).map fun j => (p.1, j)) = olds l st := by
  unfold olds
  rw [List.filterMap_filterMap]
  congr 1
  funext p
  simp only [Option.map_some, Option.bind_some]
  by_cases z : 0 < p.2 - (cnt st p.1 : Int) <;> simp [z]
theorem old_songs_ok (S : SongsAt n d l h) (o : ∀ i ∈ st, itOk i) (hl : st.length ≤ 900) (hll : l.length ≤ 900) (hnd : (l.map (·.1)).Nodup) (q : ∀ m g, g[m]? = some (.dct (nd (olds l st))) → h.length ≤ m → Kp [] h g → QV (.ref m) g) : Wp (f_old_songs [.ref n, stV st] h) QV := by
  unfold f_old_songs b_old_songs
  rw [w_fn]
  show WpF (msSeq _ _ [some (.ref n), some (stV st), none, none, none, none] h) _ _
  simp only [f_seq, f_asg, f_name, f_tup, f_gcons, f_gnil, f_ret, f_retN, f_expr, f_if, f_nil, f_par, f_par3, f_fld, f_sub, w_op, w_un, w_app, w_acons, w_anil, w_C, w_var0, w_varS, w_callF, w_and, w_or, w_not, w_if, w_tval, w_tand, w_tor, w_tnot, w_tbl, w_ttrue, w_chain, w_prop, w_meth, w_methK, w_mkK', w_kw, w_sl, w_mpE, w_mpNo, w_vals, wp_ok, wp_bind, wp_nr, List.set, List.length_cons, List.length_nil, Nat.zero_add, Nat.reduceAdd, add_int, sub_int, le_int, lt_int, ge_int, gt_int, eqD_int, eqD_str, sl_tup, len_tup, truth, true_and, and_true, Bool.not_true, Bool.not_false, Bool.false_eq_true, if_false, if_true, List.cons_append, List.nil_append, List.append_nil, decide_true, decide_false]
  refine counts_in_ok o hl fun c g1 e1 l1 k1 => ?_
  have S1 := S.k k1
  rw [numbers_ok S1]
  simp only [f_seq, f_asg, f_name, f_tup, f_gcons, f_gnil, f_ret, f_retN, f_expr, f_if, f_nil, f_par, f_par3, f_fld, f_sub, w_op, w_un, w_app, w_acons, w_anil, w_C, w_var0, w_varS, w_callF, w_and, w_or, w_not, w_if, w_tval, w_tand, w_tor, w_tnot, w_tbl, w_ttrue, w_chain, w_prop, w_meth, w_methK, w_mkK', w_kw, w_sl, w_mpE, w_mpNo, w_vals, wp_ok, wp_bind, wp_nr, List.set, List.length_cons, List.length_nil, Nat.zero_add, Nat.reduceAdd, add_int, sub_int, le_int, lt_int, ge_int, gt_int, eqD_int, eqD_str, sl_tup, len_tup, truth, true_and, and_true, Bool.not_true, Bool.not_false, Bool.false_eq_true, if_false, if_true, List.cons_append, List.nil_append, List.append_nil, decide_true, decide_false, isIn_of S1.e]
  have e2 := app_new g1 (.dct (nd l))
  have k2 := k1.app [.dct (nd l)]
  have ec := app_at [.dct (nd l)] e1
  have lc := lt_of e1
  have hlen1 := k1.len
  generalize hr : g1.length = r at e2 ⊢
  generalize g1 ++ [Ob.dct (nd l)] = g2 at e2 k2 ec ⊢
  refine k_tup (by simp) ?_
  simp only [f_seq, f_asg, f_name, f_tup, f_gcons, f_gnil, f_ret, f_retN, f_expr, f_if, f_nil, f_par, f_par3, f_fld, f_sub, w_op, w_un, w_app, w_acons, w_anil, w_C, w_var0, w_varS, w_callF, w_and, w_or, w_not, w_if, w_tval, w_tand, w_tor, w_tnot, w_tbl, w_ttrue, w_chain, w_prop, w_meth, w_methK, w_mkK', w_kw, w_sl, w_mpE, w_mpNo, w_vals, wp_ok, wp_bind, wp_nr, List.set, List.length_cons, List.length_nil, Nat.zero_add, Nat.reduceAdd, add_int, sub_int, le_int, lt_int, ge_int, gt_int, eqD_int, eqD_str, sl_tup, len_tup, truth, true_and, and_true, Bool.not_true, Bool.not_false, Bool.false_eq_true, if_false, if_true, List.cons_append, List.nil_append, List.append_nil, decide_true, decide_false]
  unfold b_old_songs_2
  simp only [f_seq, f_asg, f_name, f_tup, f_gcons, f_gnil, f_ret, f_retN, f_expr, f_if, f_nil, f_par, f_par3, f_fld, f_sub, w_op, w_un, w_app, w_acons, w_anil, w_C, w_var0, w_varS, w_callF, w_and, w_or, w_not, w_if, w_tval, w_tand, w_tor, w_tnot, w_tbl, w_ttrue, w_chain, w_prop, w_meth, w_methK, w_mkK', w_kw, w_sl, w_mpE, w_mpNo, w_vals, wp_ok, wp_bind, wp_nr, List.set, List.length_cons, List.length_nil, Nat.zero_add, Nat.reduceAdd, add_int, sub_int, le_int, lt_int, ge_int, gt_int, eqD_int, eqD_str, sl_tup, len_tup, truth, true_and, and_true, Bool.not_true, Bool.not_false, Bool.false_eq_true, if_false, if_true, List.cons_append, List.nil_append, List.append_nil, decide_true, decide_false]
  refine dc_nd (n := r) (l := l) (fun x i => some (i - (cnt st x : Int))) rfl e2 hll hnd (fun p hp g K5 e5 => ?_) fun r3 g3 k3 e3 l3 => ?_
  · have hix : vIx (.ref r) (.str p.1) g = .ok (.int p.2) g := by
      have : dGet (nd l) (.str p.1) = some (.int p.2) := by rw [lookup_nd, lookup_mem hnd hp]; rfl
      simp only [vIx, e5, keyOf, this]
    have ecg := K5.at_ _ _ ec (by simp; omega)
    unfold dcB
    simp only [Tg.bd, wipeL, List.set, tTrue, nr_ok, bind_ok, if_true, wp_bind, wp_nr]
    simp only [f_seq, f_asg, f_name, f_tup, f_gcons, f_gnil, f_ret, f_retN, f_expr, f_if, f_nil, f_par, f_par3, f_fld, f_sub, w_op, w_un, w_app, w_acons, w_anil, w_C, w_var0, w_varS, w_callF, w_and, w_or, w_not, w_if, w_tval, w_tand, w_tor, w_tnot, w_tbl, w_ttrue, w_chain, w_prop, w_meth, w_methK, w_mkK', w_kw, w_sl, w_mpE, w_mpNo, w_vals, wp_ok, wp_bind, wp_nr, List.set, List.length_cons, List.length_nil, Nat.zero_add, Nat.reduceAdd, add_int, sub_int, le_int, lt_int, ge_int, gt_int, eqD_int, eqD_str, sl_tup, len_tup, truth, true_and, and_true, Bool.not_true, Bool.not_false, Bool.false_eq_true, if_false, if_true, List.cons_append, List.nil_append, List.append_nil, decide_true, decide_false, hix, w_get2, isDct_of ecg, get_nd ecg, cnt_get]
    exact ⟨Kp.refl [] g, rfl⟩
  · unfold b_old_songs_1
    simp only [f_seq, f_asg, f_name, f_tup, f_gcons, f_gnil, f_ret, f_retN, f_expr, f_if, f_nil, f_par, f_par3, f_fld, f_sub, w_op, w_un, w_app, w_acons, w_anil, w_C, w_var0, w_varS, w_callF, w_and, w_or, w_not, w_if, w_tval, w_tand, w_tor, w_tnot, w_tbl, w_ttrue, w_chain, w_prop, w_meth, w_methK, w_mkK', w_kw, w_sl, w_mpE, w_mpNo, w_vals, wp_ok, wp_bind, wp_nr, List.set, List.length_cons, List.length_nil, Nat.zero_add, Nat.reduceAdd, add_int, sub_int, le_int, lt_int, ge_int, gt_int, eqD_int, eqD_str, sl_tup, len_tup, truth, true_and, and_true, Bool.not_true, Bool.not_false, Bool.false_eq_true, if_false, if_true, List.cons_append, List.nil_append, List.append_nil, decide_true, decide_false]
    refine dc_nd (n := r3) (l := l.filterMap fun p => (some (p.2 - (cnt st p.1 : Int))).map fun j => (p.1, j)) (fun x i => if 0 < i then some i else none) rfl e3 (Nat.le_trans (List.length_filterMap_le _ _) hll) ?_ (fun p hp g K5 e5 => ?_) fun r4 g4 k4 e4 l4 => ?_
    · have : (l.filterMap fun p => (some (p.2 - (cnt st p.1 : Int))).map fun j => (p.1, j)).map (·.1) = l.map (·.1) := by
        simp only [Option.map_some]
        rw [List.filterMap_eq_map', List.map_map]
        rfl
      rw [this]; exact hnd
    · have hnd2 : ((l.filterMap fun p => (some (p.2 - (cnt st p.1 : Int))).map fun j => (p.1, j)).map (·.1)).Nodup := by
        have : (l.filterMap fun p => (some (p.2 - (cnt st p.1 : Int))).map fun j => (p.1, j)).map (·.1) = l.map (·.1) := by
          simp only [Option.map_some]
          rw [List.filterMap_eq_map', List.map_map]
          rfl
        rw [this]; exact hnd
      have hix : vIx (.ref r3) (.str p.1) g = .ok (.int p.2) g := by
        have : dGet (nd (l.filterMap fun p => (some (p.2 - (cnt st p.1 : Int))).map fun j => (p.1, j))) (.str p.1) = some (.int p.2) := by rw [lookup_nd, lookup_mem hnd2 hp]; rfl
        simp only [vIx, e5, keyOf, this]
      unfold dcB
      simp only [Tg.bd, wipeL, List.set, wp_bind, wp_nr]
      simp only [f_seq, f_asg, f_name, f_tup, f_gcons, f_gnil, f_ret, f_retN, f_expr, f_if, f_nil, f_par, f_par3, f_fld, f_sub, w_op, w_un, w_app, w_acons, w_anil, w_C, w_var0, w_varS, w_callF, w_and, w_or, w_not, w_if, w_tval, w_tand, w_tor, w_tnot, w_tbl, w_ttrue, w_chain, w_prop, w_meth, w_methK, w_mkK', w_kw, w_sl, w_mpE, w_mpNo, w_vals, wp_ok, wp_bind, wp_nr, List.set, List.length_cons, List.length_nil, Nat.zero_add, Nat.reduceAdd, add_int, sub_int, le_int, lt_int, ge_int, gt_int, eqD_int, eqD_str, sl_tup, len_tup, truth, true_and, and_true, Bool.not_true, Bool.not_false, Bool.false_eq_true, if_false, if_true, List.cons_append, List.nil_append, List.append_nil, decide_true, decide_false, hix]
      by_cases z : 0 < p.2
      · rw [decide_eq_true z, if_pos z]
        simp only [f_seq, f_asg, f_name, f_tup, f_gcons, f_gnil, f_ret, f_retN, f_expr, f_if, f_nil, f_par, f_par3, f_fld, f_sub, w_op, w_un, w_app, w_acons, w_anil, w_C, w_var0, w_varS, w_callF, w_and, w_or, w_not, w_if, w_tval, w_tand, w_tor, w_tnot, w_tbl, w_ttrue, w_chain, w_prop, w_meth, w_methK, w_mkK', w_kw, w_sl, w_mpE, w_mpNo, w_vals, wp_ok, wp_bind, wp_nr, List.set, List.length_cons, List.length_nil, Nat.zero_add, Nat.reduceAdd, add_int, sub_int, le_int, lt_int, ge_int, gt_int, eqD_int, eqD_str, sl_tup, len_tup, truth, true_and, and_true, Bool.not_true, Bool.not_false, Bool.false_eq_true, if_false, if_true, List.cons_append, List.nil_append, List.append_nil, decide_true, decide_false, hix]
        exact ⟨Kp.refl [] g, rfl⟩
      · rw [decide_eq_false z, if_neg z]
        simp only [f_seq, f_asg, f_name, f_tup, f_gcons, f_gnil, f_ret, f_retN, f_expr, f_if, f_nil, f_par, f_par3, f_fld, f_sub, w_op, w_un, w_app, w_acons, w_anil, w_C, w_var0, w_varS, w_callF, w_and, w_or, w_not, w_if, w_tval, w_tand, w_tor, w_tnot, w_tbl, w_ttrue, w_chain, w_prop, w_meth, w_methK, w_mkK', w_kw, w_sl, w_mpE, w_mpNo, w_vals, wp_ok, wp_bind, wp_nr, List.set, List.length_cons, List.length_nil, Nat.zero_add, Nat.reduceAdd, add_int, sub_int, le_int, lt_int, ge_int, gt_int, eqD_int, eqD_str, sl_tup, len_tup, truth, true_and, and_true, Bool.not_true, Bool.not_false, Bool.false_eq_true, if_false, if_true, List.cons_append, List.nil_append, List.append_nil, decide_true, decide_false]
        exact ⟨Kp.refl [] g, rfl⟩
    · rw [olds_eq] at e4
      refine q r4 g4 e4 ?_ ((k2.trans k3).trans k4)
      have := k2.len
      have := k3.len
      omega
end
end U
/-! Standings, part 3: ages, places, draws. -/
namespace U
open PySem L2
def agesFrom : Nat → List Itm → List Int
  | _, [] => []
  | k, none :: r => agesFrom (k + 1) r
  | k, some _ :: r => ((k : Int) + 1) :: agesFrom (k + 1) r
def ages (st : List Itm) : List Int := agesFrom 0 st
theorem mem_agesFrom : ∀ (st : List Itm) (k : Nat) (a : Int), a ∈ agesFrom k st ↔ ∃ (j : Nat) (p : Str × Bool), st[j]? = some (some p) ∧ a = (k : Int) + j + 1
  | [], k, a => by simp [agesFrom]
  | none :: r, k, a => by
    rw [agesFrom, mem_agesFrom r (k + 1) a]
    constructor
    · rintro ⟨j, p, h1, h2⟩; exact ⟨j + 1, p, by simpa using h1, by omega⟩
    · rintro ⟨j, p, h1, h2⟩
      cases j with
      | zero => simp at h1
      | succ j => exact ⟨j, p, by simpa using h1, by omega⟩
  | some q :: r, k, a => by
    rw [agesFrom, List.mem_cons, mem_agesFrom r (k + 1) a]
    constructor
    · rintro (h | ⟨j, p, h1, h2⟩)
      · exact ⟨0, q, rfl, by omega⟩
      · exact ⟨j + 1, p, by simpa using h1, by omega⟩
    · rintro ⟨j, p, h1, h2⟩
      cases j with
      | zero => exact .inl (by omega)
      | succ j => exact .inr ⟨j, p, by simpa using h1, by omega⟩
theorem mem_ages {st : List Itm} {a : Int} : a ∈ ages st ↔ ∃ (j : Nat) (p : Str × Bool), st[j]? = some (some p) ∧ a = (j : Int) + 1 := by
  unfold ages
  rw [mem_agesFrom]
  constructor
  · rintro ⟨j, p, h1, h2⟩; exact ⟨j, p, h1, by omega⟩
  · rintro ⟨j, p, h1, h2⟩; exact ⟨j, p, h1, by omega⟩
def blankFrom : Nat → Option Int → List Itm → List Itm
  | _, _, [] => []
  | k, a, i :: r => (if a = some ((k : Int) + 1) then none else i) :: blankFrom (k + 1) a r
def blank (a : Option Int) (st : List Itm) : List Itm := blankFrom 0 a st
theorem blankFrom_len (a : Option Int) : ∀ (st : List Itm) (k : Nat), (blankFrom k a st).length = st.length
  | [], _ => rfl
  | i :: r, k => by rw [blankFrom, List.length_cons, List.length_cons, blankFrom_len a r]
theorem blank_len (a : Option Int) (st : List Itm) : (blank a st).length = st.length := blankFrom_len a st 0
/-- the standing behind a draw -/
def drawnS (st : List Itm) (a : Option Int) (k : Str) (b : Bool) : List Itm := (some (k, b) :: blank a st).take st.length
/-- a place: its age, or none, and its kind -/
inductive PlAt (l : List (Str × Int)) (st : List Itm) : Val → Option Int → Str → Prop
  | age {j : Nat} {k : Str} {b : Bool} : st[j]? = some (some (k, b)) → PlAt l st (.int ((j : Int) + 1)) (some ((j : Int) + 1)) k
  | old {x : Str} : ((olds l st).lookup x).isSome = true → nmOk x → PlAt l st (.str x) none x
section
variable {σ : Loc} {h h1 : Hh} {QV : Val → Hh → Prop} {N : Loc → Hh → Prop} {R : Val → Hh → Prop}
variable {n d m : Nat} {l : List (Str × Int)} {st : List Itm} {ws ss : List Int} {sp : Int} {pv : Val} {a : Option Int} {k : Str}
theorem val_enumT {m : ME} {vs : List Val} (e : m σ h = .ok (.tup vs) h1) : miEnum m σ h = .ok ⟨enumV 0 vs, fun _ => True, none⟩ h1 := by
  unfold miEnum; rw [e]; rfl
def fAge (v : Val) : Option Val := match v with
  | .tup [.int i, .tup xs] => if xs.isEmpty = true then none else some (.int (i + 1))
  | _ => none
theorem enum_ages : ∀ (st : List Itm) (k : Nat), (enumV k (st.map itV)).filterMap fAge = (agesFrom k st).map Val.int
  | [], _ => rfl
  | none :: r, k => by
    show (enumV (k + 1) (r.map itV)).filterMap fAge = _
    rw [enum_ages r (k + 1)]; rfl
  | some (x, b) :: r, k => by
    show Val.int ((k : Int) + 1) :: (enumV (k + 1) (r.map itV)).filterMap fAge = _
    rw [enum_ages r (k + 1)]; rfl
theorem enum_mem {v : Val} : ∀ {vs : List Val} {k : Nat}, v ∈ enumV k vs → ∃ (i : Nat) (w : Val), w ∈ vs ∧ v = .tup [.int (i : Int), w]
  | [], _, h => by cases h
  | w :: r, k, h => by
    rcases List.mem_cons.mp h with rfl | h
    · exact ⟨k, w, by simp, rfl⟩
    · obtain ⟨i, u, hu, e⟩ := enum_mem h
      exact ⟨i, u, by simp [hu], e⟩
theorem ages_in_ok (o : ∀ i ∈ st, itOk i) (hl : st.length ≤ 900) : f_ages_in [stV st] h = .ok (.ref h.length) (h ++ [.lst ((ages st).map .int)]) := by
  have hm : miEnum (mVar 0) [some (stV st), none, none] h = .ok ⟨enumV 0 (st.map itV), fun _ => True, none⟩ h := val_enumT rfl
  have lc := lc_pure (vs := [2, 1]) (tg := .many [2, 1]) (c := tBl (mOp (vEqD true) (mVar 1) (mApp vTup maNil))) (e := mOp vAdd (mVar 2) (mC (.int 1))) fAge hm rfl (szl (by rw [show (⟨enumV 0 (st.map itV), fun _ => True, none⟩ : Itb).items.length = (st.map itV).length from enumV_len _ _]; simp; omega)) (fun _ => trivial) (fun v hv l => by
    obtain ⟨i, w, hw, rfl⟩ := enum_mem (show v ∈ enumV 0 (st.map itV) from hv)
    obtain ⟨it, hit, rfl⟩ := List.mem_map.mp hw
    have hne := ne_it (o it hit) (h ++ [l])
    cases it with
    | none => simp only [itV] at hne ⊢; simp [lcB, Tg.bd, wipeL, setAll, tBl, mOp, mApp, maNil, mVar, tup0, hne, fAge]
    | some p => obtain ⟨x, b⟩ := p; simp only [itV] at hne ⊢; simp [lcB, Tg.bd, wipeL, setAll, tBl, mOp, mApp, maNil, mVar, mC, tup0, hne, fAge])
  rw [show (⟨enumV 0 (st.map itV), fun _ => True, none⟩ : Itb).items.filterMap fAge = (ages st).map Val.int from enum_ages st 0] at lc
  unfold f_ages_in b_ages_in mkFn
  show (match msRet _ [some (stV st), none, none] h with | .nx _ h' => Res.ok Val.non h' | .rt v h' => .ok v h' | .rs x _ h' => .rs x h' | _ => .no) = _
  unfold msRet
  rw [lc]
  rfl
theorem any_ints (a : Int) : ∀ xs : List Int, (xs.map Val.int).any (fun y => eqF y (.int a)) = decide (a ∈ xs)
  | [] => rfl
  | y :: ys => by
    rw [List.map_cons, List.any_cons, any_ints a ys]
    have : eqF (.int y) (.int a) = decide (a = y) := by
      show (y == a) = _
      by_cases e : a = y
      · subst e; simp
      · have : ¬ y = a := fun z => e z.symm
        simp [e, this]
    rw [this]
    by_cases e : a = y <;> simp [e]
theorem in_ints (neg : Bool) {n : Nat} {xs : List Int} {a : Int} (e : h[n]? = some (.lst (xs.map .int))) : vIn neg (.int a) (.ref n) h = .ok (.bl (if neg then !decide (a ∈ xs) else decide (a ∈ xs))) h := by
  have h1 : (xs.map Val.int).all flat = true := by simp [flat]
  simp only [vIn, e, inSeq, h1, any_ints, flat, Bool.and_self, if_true]
theorem kb_si : kitB "str" "int" = some false := by kernel_rfl
theorem kb_is : kitB "int" "str" = some false := by kernel_rfl
theorem is_integer_str (x : Str) (h : Hh) : f_is_integer [.str x] h = .ok (.bl false) h := by
  have e1 : vIsi kCs kTys [.str x, .ty "int"] h = .ok (.bl false) h := isi_b rfl kb_si
  simp [f_is_integer, b_is_integer, mkFn, msRet, mAnd, mApp, maCons, maNil, mC, e1]
theorem is_place_ok (S : SongsAt n d l h) (o : ∀ i ∈ st, itOk i) (hl : st.length ≤ 900) (hll : l.length ≤ 900) (hnd : (l.map (·.1)).Nodup) (P : PlAt l st pv a k) (q : ∀ g, Kp [] h g → QV (.bl true) g) : Wp (f_is_place [.ref n, stV st, pv] h) QV := by
  unfold f_is_place b_is_place
  rw [w_fn]
  show WpF (msSeq _ _ [some (.ref n), some (stV st), some pv] h) _ _
  cases P with
  | @age j k b hj =>
    simp only [f_seq, f_asg, f_name, f_tup, f_gcons, f_gnil, f_ret, f_retN, f_expr, f_if, f_nil, f_par, f_par3, f_fld, f_sub, w_op, w_un, w_app, w_acons, w_anil, w_C, w_var0, w_varS, w_callF, w_and, w_or, w_not, w_if, w_tval, w_tand, w_tor, w_tnot, w_tbl, w_ttrue, w_chain, w_prop, w_meth, w_methK, w_mkK', w_kw, w_sl, w_mpE, w_mpNo, w_vals, wp_ok, wp_bind, wp_nr, List.set, List.length_cons, List.length_nil, Nat.zero_add, Nat.reduceAdd, add_int, sub_int, le_int, lt_int, ge_int, gt_int, eqD_int, eqD_str, sl_tup, len_tup, truth, true_and, and_true, Bool.not_true, Bool.not_false, Bool.false_eq_true, if_false, if_true, List.cons_append, List.nil_append, List.append_nil, decide_true, decide_false, is_integer_int, ages_in_ok o hl]
    rw [in_ints false (app_new h _), decide_eq_true (mem_ages.mpr ⟨j, (k, b), hj, rfl⟩)]
    exact .ok (q _ ((Kp.refl [] h).app _))
  | @old x hx nx =>
    simp only [f_seq, f_asg, f_name, f_tup, f_gcons, f_gnil, f_ret, f_retN, f_expr, f_if, f_nil, f_par, f_par3, f_fld, f_sub, w_op, w_un, w_app, w_acons, w_anil, w_C, w_var0, w_varS, w_callF, w_and, w_or, w_not, w_if, w_tval, w_tand, w_tor, w_tnot, w_tbl, w_ttrue, w_chain, w_prop, w_meth, w_methK, w_mkK', w_kw, w_sl, w_mpE, w_mpNo, w_vals, wp_ok, wp_bind, wp_nr, List.set, List.length_cons, List.length_nil, Nat.zero_add, Nat.reduceAdd, add_int, sub_int, le_int, lt_int, ge_int, gt_int, eqD_int, eqD_str, sl_tup, len_tup, truth, true_and, and_true, Bool.not_true, Bool.not_false, Bool.false_eq_true, if_false, if_true, List.cons_append, List.nil_append, List.append_nil, decide_true, decide_false, is_integer_str]
    unfold b_is_place_1
    have i1 : vIsi kCs kTys [.str k, .ty "str"] h = .ok (.bl true) h := isi_b rfl kb_ss
    simp only [f_seq, f_asg, f_name, f_tup, f_gcons, f_gnil, f_ret, f_retN, f_expr, f_if, f_nil, f_par, f_par3, f_fld, f_sub, w_op, w_un, w_app, w_acons, w_anil, w_C, w_var0, w_varS, w_callF, w_and, w_or, w_not, w_if, w_tval, w_tand, w_tor, w_tnot, w_tbl, w_ttrue, w_chain, w_prop, w_meth, w_methK, w_mkK', w_kw, w_sl, w_mpE, w_mpNo, w_vals, wp_ok, wp_bind, wp_nr, List.set, List.length_cons, List.length_nil, Nat.zero_add, Nat.reduceAdd, add_int, sub_int, le_int, lt_int, ge_int, gt_int, eqD_int, eqD_str, sl_tup, len_tup, truth, true_and, and_true, Bool.not_true, Bool.not_false, Bool.false_eq_true, if_false, if_true, List.cons_append, List.nil_append, List.append_nil, decide_true, decide_false, i1]
    refine old_songs_ok S o hl hll hnd fun m g e lm kg => ?_
    rw [in_dct false e, hx]
    exact .ok (q g kg)
theorem is_step_ok {b : Bool} (S : SongsAt n d l h) (o : ∀ i ∈ st, itOk i) (hl : st.length ≤ 900) (hll : l.length ≤ 900) (hnd : (l.map (·.1)).Nodup) (P : PlAt l st pv a k) (q : ∀ g, Kp [] h g → QV (.bl true) g) : Wp (f_is_step [.ref n, stV st, .tup [pv, .bl b]] h) QV := by
  unfold f_is_step b_is_step
  rw [w_fn]
  show WpF (msSeq _ _ [some (.ref n), some (stV st), some (.tup [pv, .bl b])] h) _ _
  have it : vIsi kCs kTys [.tup [pv, .bl b], .ty "tuple"] h = .ok (.bl true) h := isi_b rfl kb_tt
  have c2 : decide (((2 : Nat) : Int) = 2) = true := by decide
  simp only [f_seq, f_asg, f_name, f_tup, f_gcons, f_gnil, f_ret, f_retN, f_expr, f_if, f_nil, f_par, f_par3, f_fld, f_sub, w_op, w_un, w_app, w_acons, w_anil, w_C, w_var0, w_varS, w_callF, w_and, w_or, w_not, w_if, w_tval, w_tand, w_tor, w_tnot, w_tbl, w_ttrue, w_chain, w_prop, w_meth, w_methK, w_mkK', w_kw, w_sl, w_mpE, w_mpNo, w_vals, wp_ok, wp_bind, wp_nr, List.set, List.length_cons, List.length_nil, Nat.zero_add, Nat.reduceAdd, add_int, sub_int, le_int, lt_int, ge_int, gt_int, eqD_int, eqD_str, sl_tup, len_tup, truth, true_and, and_true, Bool.not_true, Bool.not_false, Bool.false_eq_true, if_false, if_true, List.cons_append, List.nil_append, List.append_nil, decide_true, decide_false, it, c2]
  unfold b_is_step_1
  have x0 : ∀ g, vIx (.tup [pv, .bl b]) (.int 0) g = .ok pv g := fun g => ix_tup (k := 0) rfl g
  have x1 : ∀ g, vIx (.tup [pv, .bl b]) (.int 1) g = .ok (.bl b) g := fun g => ix_tup (k := 1) rfl g
  simp only [f_seq, f_asg, f_name, f_tup, f_gcons, f_gnil, f_ret, f_retN, f_expr, f_if, f_nil, f_par, f_par3, f_fld, f_sub, w_op, w_un, w_app, w_acons, w_anil, w_C, w_var0, w_varS, w_callF, w_and, w_or, w_not, w_if, w_tval, w_tand, w_tor, w_tnot, w_tbl, w_ttrue, w_chain, w_prop, w_meth, w_methK, w_mkK', w_kw, w_sl, w_mpE, w_mpNo, w_vals, wp_ok, wp_bind, wp_nr, List.set, List.length_cons, List.length_nil, Nat.zero_add, Nat.reduceAdd, add_int, sub_int, le_int, lt_int, ge_int, gt_int, eqD_int, eqD_str, sl_tup, len_tup, truth, true_and, and_true, Bool.not_true, Bool.not_false, Bool.false_eq_true, if_false, if_true, List.cons_append, List.nil_append, List.append_nil, decide_true, decide_false, x0]
  refine is_place_ok S o hl hll hnd P fun g kg => ?_
  have ib : vIsi kCs kTys [.bl b, .ty "bool"] g = .ok (.bl true) g := isi_b rfl kb_bb
  simp only [f_seq, f_asg, f_name, f_tup, f_gcons, f_gnil, f_ret, f_retN, f_expr, f_if, f_nil, f_par, f_par3, f_fld, f_sub, w_op, w_un, w_app, w_acons, w_anil, w_C, w_var0, w_varS, w_callF, w_and, w_or, w_not, w_if, w_tval, w_tand, w_tor, w_tnot, w_tbl, w_ttrue, w_chain, w_prop, w_meth, w_methK, w_mkK', w_kw, w_sl, w_mpE, w_mpNo, w_vals, wp_ok, wp_bind, wp_nr, List.set, List.length_cons, List.length_nil, Nat.zero_add, Nat.reduceAdd, add_int, sub_int, le_int, lt_int, ge_int, gt_int, eqD_int, eqD_str, sl_tup, len_tup, truth, true_and, and_true, Bool.not_true, Bool.not_false, Bool.false_eq_true, if_false, if_true, List.cons_append, List.nil_append, List.append_nil, decide_true, decide_false, x1, ib]
  exact q g kg
def fBlank (a : Option Int) (v : Val) : Option Val := match v with
  | .tup [.int i, w] => if a = some (i + 1) then some (.tup []) else some w
  | _ => none
theorem enum_blank (a : Option Int) : ∀ (st : List Itm) (k : Nat), (enumV k (st.map itV)).filterMap (fBlank a) = (blankFrom k a st).map itV
  | [], _ => rfl
  | i :: r, k => by
    rw [List.map_cons, enumV, List.filterMap_cons, blankFrom, List.map_cons, enum_blank a r (k + 1)]
    by_cases e : a = some ((k : Int) + 1)
    · simp [fBlank, e, itV]
    · simp [fBlank, e]
/-- at + 1 == place -/
theorem eq_place (P : PlAt l st pv a k) (i : Int) (h : Hh) : vEqD false (.int i) pv h = .ok (.bl (decide (a = some i))) h := by
  cases P with
  | @age j k b hj =>
    rw [eqD_int]
    have : decide (i = (j : Int) + 1) = decide (some ((j : Int) + 1) = some i) := by
      by_cases e : i = (j : Int) + 1
      · subst e; simp
      · have : ¬ some ((j : Int) + 1) = some i := fun z => e (Option.some.inj z).symm
        simp [e, this]
    rw [this]; rfl
  | @old x hx nx =>
    have nx' : k.cps.all (· < 0x110000) = true := nx
    rw [eqD_ok false rfl (toD_int 29 h i) (toD_str 29 h k) (by simp [PyData.canLay0]) (by simp only [PyData.canLay0, PyData.strOk, nx'])]
    simp [PyData.eqv]
theorem drawn_ok {b : Bool} (o : ∀ i ∈ st, itOk i) (hl : st.length ≤ 900) (P : PlAt l st pv a k) (q : ∀ g, Kp [] h g → QV (stV (drawnS st a k b)) g) : Wp (f_drawn [stV st, pv, .bl b] h) QV := by
  unfold f_drawn b_drawn
  rw [w_fn]
  show WpF (msSeq _ _ [some (stV st), some pv, some (.bl b), none, none, none, none] h) _ _
  have fin : WpF (b_drawn_2 [some (stV st), some pv, some (.bl b), some (.str k), none, none, none] h) (fun _ h' => QV .non h') QV := by
    unfold b_drawn_2
    rw [f_seq, f_asg]
    have hm : miEnum (mVar 0) [some (stV st), some pv, some (.bl b), some (.str k), none, none, none] h = .ok ⟨enumV 0 (st.map itV), fun _ => True, none⟩ h := val_enumT rfl
    have lc := lc_pure (vs := [6, 5]) (tg := .many [6, 5]) (c := tTrue) (e := mIf (tBl (mOp (vEqD false) (mOp vAdd (mVar 6) (mC (.int 1))) (mVar 1))) (mApp vTup maNil) (mVar 5)) (fBlank a) hm rfl (szl (by rw [show (⟨enumV 0 (st.map itV), fun _ => True, none⟩ : Itb).items.length = (st.map itV).length from enumV_len _ _]; simp; omega)) (fun _ => trivial) (fun v hv l => by
      obtain ⟨i, w, hw, rfl⟩ := enum_mem (show v ∈ enumV 0 (st.map itV) from hv)
      have he := eq_place P ((i : Int) + 1) (h ++ [l])
      by_cases z : a = some ((i : Int) + 1)
      · simp [lcB, Tg.bd, wipeL, setAll, tTrue, tBl, mIf, mOp, mApp, maNil, mVar, mC, he, z, tup0, fBlank]
      · simp [lcB, Tg.bd, wipeL, setAll, tTrue, tBl, mIf, mOp, mApp, maNil, mVar, mC, he, z, fBlank])
    rw [show (⟨enumV 0 (st.map itV), fun _ => True, none⟩ : Itb).items.filterMap (fBlank a) = (blank a st).map itV from enum_blank a st 0] at lc
    rw [lc]
    have e1 := app_new h (.lst ((blank a st).map itV))
    have k1 := (Kp.refl [] h).app [.lst ((blank a st).map itV)]
    generalize hr : h.length = r at e1 ⊢
    generalize h ++ [Ob.lst ((blank a st).map itV)] = g1 at e1 k1 ⊢
    unfold b_drawn_1
    simp only [f_seq, f_asg, f_name, f_tup, f_gcons, f_gnil, f_ret, f_retN, f_expr, f_if, f_nil, f_par, f_par3, f_fld, f_sub, w_op, w_un, w_app, w_acons, w_anil, w_C, w_var0, w_varS, w_callF, w_and, w_or, w_not, w_if, w_tval, w_tand, w_tor, w_tnot, w_tbl, w_ttrue, w_chain, w_prop, w_meth, w_methK, w_mkK', w_kw, w_sl, w_mpE, w_mpNo, w_vals, wp_ok, wp_bind, wp_nr, List.set, List.length_cons, List.length_nil, Nat.zero_add, Nat.reduceAdd, add_int, sub_int, le_int, lt_int, ge_int, gt_int, eqD_int, eqD_str, sl_tup, len_tup, truth, true_and, and_true, Bool.not_true, Bool.not_false, Bool.false_eq_true, if_false, if_true, List.cons_append, List.nil_append, List.append_nil, decide_true, decide_false]
    refine k_tup (by simp) ?_
    have hst : Wp (maStar (mVar 4) maNil [some (stV st), some pv, some (.bl b), some (.str k), some (.ref r), none, none] g1) fun xs g => xs = (blank a st).map itV ∧ g = g1 := by
      have : maStar (mVar 4) maNil [some (stV st), some pv, some (.bl b), some (.str k), some (.ref r), none, none] g1 = .ok ((blank a st).map itV) g1 := by
        simp [maStar, maNil, mVar, e1]
      rw [this]; exact .ok ⟨rfl, rfl⟩
    refine hst.mono fun xs g ⟨e2, e3⟩ => ?_
    subst e2 e3
    have hbl := blank_len a st
    rw [tup_v _ (szl (by simp; omega))]
    have ln : vLen [stV st] g = .ok (.int (st.length : Nat)) g := by simp [stV]
    simp only [f_seq, f_asg, f_name, f_tup, f_gcons, f_gnil, f_ret, f_retN, f_expr, f_if, f_nil, f_par, f_par3, f_fld, f_sub, w_op, w_un, w_app, w_acons, w_anil, w_C, w_var0, w_varS, w_callF, w_and, w_or, w_not, w_if, w_tval, w_tand, w_tor, w_tnot, w_tbl, w_ttrue, w_chain, w_prop, w_meth, w_methK, w_mkK', w_kw, w_sl, w_mpE, w_mpNo, w_vals, wp_ok, wp_bind, wp_nr, List.set, List.length_cons, List.length_nil, Nat.zero_add, Nat.reduceAdd, add_int, sub_int, le_int, lt_int, ge_int, gt_int, eqD_int, eqD_str, sl_tup, len_tup, truth, true_and, and_true, Bool.not_true, Bool.not_false, Bool.false_eq_true, if_false, if_true, List.cons_append, List.nil_append, List.append_nil, decide_true, decide_false, ln, cut_to]
    have hfin : Val.tup ((Val.tup [.str k, .bl b] :: (blank a st).map itV).take st.length) = stV (drawnS st a k b) := by
      unfold drawnS stV
      rw [List.map_take]; rfl
    rw [hfin]
    exact q g k1
  cases P with
  | @age j k b0 hj =>
    have x1 : vIx (stV st) (.int ((j : Int) + 1 - 1)) h = .ok (itV (some (k, b0))) h := by
      rw [show (j : Int) + 1 - 1 = (j : Int) by omega]
      exact ix_tup (by rw [List.getElem?_map, hj]; rfl) h
    simp only [f_seq, f_asg, f_name, f_tup, f_gcons, f_gnil, f_ret, f_retN, f_expr, f_if, f_nil, f_par, f_par3, f_fld, f_sub, w_op, w_un, w_app, w_acons, w_anil, w_C, w_var0, w_varS, w_callF, w_and, w_or, w_not, w_if, w_tval, w_tand, w_tor, w_tnot, w_tbl, w_ttrue, w_chain, w_prop, w_meth, w_methK, w_mkK', w_kw, w_sl, w_mpE, w_mpNo, w_vals, wp_ok, wp_bind, wp_nr, List.set, List.length_cons, List.length_nil, Nat.zero_add, Nat.reduceAdd, add_int, sub_int, le_int, lt_int, ge_int, gt_int, eqD_int, eqD_str, sl_tup, len_tup, truth, true_and, and_true, Bool.not_true, Bool.not_false, Bool.false_eq_true, if_false, if_true, List.cons_append, List.nil_append, List.append_nil, decide_true, decide_false, is_integer_int, x1, it_0]
    exact fin
  | @old x hx nx =>
    simp only [f_seq, f_asg, f_name, f_tup, f_gcons, f_gnil, f_ret, f_retN, f_expr, f_if, f_nil, f_par, f_par3, f_fld, f_sub, w_op, w_un, w_app, w_acons, w_anil, w_C, w_var0, w_varS, w_callF, w_and, w_or, w_not, w_if, w_tval, w_tand, w_tor, w_tnot, w_tbl, w_ttrue, w_chain, w_prop, w_meth, w_methK, w_mkK', w_kw, w_sl, w_mpE, w_mpNo, w_vals, wp_ok, wp_bind, wp_nr, List.set, List.length_cons, List.length_nil, Nat.zero_add, Nat.reduceAdd, add_int, sub_int, le_int, lt_int, ge_int, gt_int, eqD_int, eqD_str, sl_tup, len_tup, truth, true_and, and_true, Bool.not_true, Bool.not_false, Bool.false_eq_true, if_false, if_true, List.cons_append, List.nil_append, List.append_nil, decide_true, decide_false, is_integer_str]
    exact fin
theorem behind_ok {r : Nat} {b : Bool} (er : RuleAt r ws ss sp h) (S : SongsAt n d l h) (hn : nmsOk l) (o : okSt l (ws.length - 1) st) (l1 : 1 ≤ ws.length) (l4 : ws.length ≤ 4) (hll : l.length ≤ 900) (hnd : (l.map (·.1)).Nodup) (P : PlAt l st pv a k)
    (q : ∀ g, Kp [] h g → QV (stV (drawnS st a k b)) g) : Wp (f_behind [.ref r, .ref n, stV st, .tup [pv, .bl b]] h) QV := by
  unfold f_behind b_behind
  rw [w_fn]
  show WpF (msSeq _ _ [some (.ref r), some (.ref n), some (stV st), some (.tup [pv, .bl b])] h) _ _
  have hlen := o.len
  have oi := o.it hn
  simp only [f_seq, f_asg, f_name, f_tup, f_gcons, f_gnil, f_ret, f_retN, f_expr, f_if, f_nil, f_par, f_par3, f_fld, f_sub, w_op, w_un, w_app, w_acons, w_anil, w_C, w_var0, w_varS, w_callF, w_and, w_or, w_not, w_if, w_tval, w_tand, w_tor, w_tnot, w_tbl, w_ttrue, w_chain, w_prop, w_meth, w_methK, w_mkK', w_kw, w_sl, w_mpE, w_mpNo, w_vals, wp_ok, wp_bind, wp_nr, List.set, List.length_cons, List.length_nil, Nat.zero_add, Nat.reduceAdd, add_int, sub_int, le_int, lt_int, ge_int, gt_int, eqD_int, eqD_str, sl_tup, len_tup, truth, true_and, and_true, Bool.not_true, Bool.not_false, Bool.false_eq_true, if_false, if_true, List.cons_append, List.nil_append, List.append_nil, decide_true, decide_false]
  refine need_standing_ok er S hn o l1 l4 fun g1 k1 => ?_
  unfold b_behind_2
  simp only [f_seq, f_asg, f_name, f_tup, f_gcons, f_gnil, f_ret, f_retN, f_expr, f_if, f_nil, f_par, f_par3, f_fld, f_sub, w_op, w_un, w_app, w_acons, w_anil, w_C, w_var0, w_varS, w_callF, w_and, w_or, w_not, w_if, w_tval, w_tand, w_tor, w_tnot, w_tbl, w_ttrue, w_chain, w_prop, w_meth, w_methK, w_mkK', w_kw, w_sl, w_mpE, w_mpNo, w_vals, wp_ok, wp_bind, wp_nr, List.set, List.length_cons, List.length_nil, Nat.zero_add, Nat.reduceAdd, add_int, sub_int, le_int, lt_int, ge_int, gt_int, eqD_int, eqD_str, sl_tup, len_tup, truth, true_and, and_true, Bool.not_true, Bool.not_false, Bool.false_eq_true, if_false, if_true, List.cons_append, List.nil_append, List.append_nil, decide_true, decide_false]
  refine is_step_ok (S.k k1) oi (by omega) hll hnd P fun g2 k2 => ?_
  simp only [f_seq, f_asg, f_name, f_tup, f_gcons, f_gnil, f_ret, f_retN, f_expr, f_if, f_nil, f_par, f_par3, f_fld, f_sub, w_op, w_un, w_app, w_acons, w_anil, w_C, w_var0, w_varS, w_callF, w_and, w_or, w_not, w_if, w_tval, w_tand, w_tor, w_tnot, w_tbl, w_ttrue, w_chain, w_prop, w_meth, w_methK, w_mkK', w_kw, w_sl, w_mpE, w_mpNo, w_vals, wp_ok, wp_bind, wp_nr, List.set, List.length_cons, List.length_nil, Nat.zero_add, Nat.reduceAdd, add_int, sub_int, le_int, lt_int, ge_int, gt_int, eqD_int, eqD_str, sl_tup, len_tup, truth, true_and, and_true, Bool.not_true, Bool.not_false, Bool.false_eq_true, if_false, if_true, List.cons_append, List.nil_append, List.append_nil, decide_true, decide_false]
  unfold b_behind_1
  have x0 : ∀ g, vIx (.tup [pv, .bl b]) (.int 0) g = .ok pv g := fun g => ix_tup (k := 0) rfl g
  have x1 : ∀ g, vIx (.tup [pv, .bl b]) (.int 1) g = .ok (.bl b) g := fun g => ix_tup (k := 1) rfl g
  simp only [f_seq, f_asg, f_name, f_tup, f_gcons, f_gnil, f_ret, f_retN, f_expr, f_if, f_nil, f_par, f_par3, f_fld, f_sub, w_op, w_un, w_app, w_acons, w_anil, w_C, w_var0, w_varS, w_callF, w_and, w_or, w_not, w_if, w_tval, w_tand, w_tor, w_tnot, w_tbl, w_ttrue, w_chain, w_prop, w_meth, w_methK, w_mkK', w_kw, w_sl, w_mpE, w_mpNo, w_vals, wp_ok, wp_bind, wp_nr, List.set, List.length_cons, List.length_nil, Nat.zero_add, Nat.reduceAdd, add_int, sub_int, le_int, lt_int, ge_int, gt_int, eqD_int, eqD_str, sl_tup, len_tup, truth, true_and, and_true, Bool.not_true, Bool.not_false, Bool.false_eq_true, if_false, if_true, List.cons_append, List.nil_append, List.append_nil, decide_true, decide_false, x0, x1]
  exact drawn_ok oi (by omega) P fun g3 k3 => q g3 ((k1.trans k2).trans k3)
end
end U
/-! The laws' own helpers: songs of a case, drawn standings. -/
namespace U
open PySem L2
section
variable {σ : Loc} {h h1 : Hh} {QV : Val → Hh → Prop} {N : Loc → Hh → Prop} {R : Val → Hh → Prop}
variable {n d c m : Nat} {l : List (Str × Int)} {st : List Itm} {ws ss : List Int} {sp : Int} {K : Nat} {M : Int}
@[simp] theorem w_items (a : ME) : Wp (mItems a σ h) QV ↔ Wp (a σ h) fun x h1 => Wp (vItems x h1) QV := by simp [mItems]
theorem items_nd {n : Nat} (e : h[n]? = some (.dct (nd l))) : vItems (.ref n) h = .ok (.ref h.length) (h ++ [.lst ((l.map fun p => (p.1, Val.int p.2)).map fun p => .tup [.str p.1, p.2])]) := by
  simp only [vItems, e]
  congr 3
  simp [nd]
/-- dict(list(d.items())) -/
theorem copy_nd {n : Nat} (e : h[n]? = some (.dct (nd l))) (hnd : (l.map (·.1)).Nodup) {Q : Val → Hh → Prop} (q : ∀ m g, g[m]? = some (.dct (nd l)) → h.length ≤ m → Kp [] h g → Q (.ref m) g) : Wp (vItems (.ref n) h) fun v g => Wp (vDict [v] g) Q := by
  rw [items_nd e, wp_ok]
  have e1 := app_new h (.lst ((l.map fun p => (p.1, Val.int p.2)).map fun p => .tup [.str p.1, p.2]))
  have hn2 : ((l.map fun p => (p.1, Val.int p.2)).map (·.1)).Nodup := by rw [List.map_map]; exact hnd
  rw [dict_lst e1 hn2, ← nd_sd, wp_ok]
  refine q _ _ (app_new _ _) (by simp) (((Kp.refl [] h).app _).app _)
theorem songs_in_ok (C : Case c n ws ss sp l h) (ok : okNum l 3 M) (q : ∀ n d g, SongsAt n d (srt l) g → h.length ≤ n → h.length ≤ d → Kp [] h g → QV (.ref n) g) : Wp (f__law_songs_in [.ref c] h) QV := by
  unfold f__law_songs_in b__law_songs_in
  rw [w_fn]
  show WpF (msRet _ [some (.ref c)] h) _ _
  simp only [f_seq, f_asg, f_name, f_tup, f_gcons, f_gnil, f_ret, f_retN, f_expr, f_if, f_nil, f_par, f_par3, f_fld, f_sub, w_op, w_un, w_app, w_acons, w_anil, w_C, w_var0, w_varS, w_callF, w_and, w_or, w_not, w_if, w_tval, w_tand, w_tor, w_tnot, w_tbl, w_ttrue, w_chain, w_prop, w_meth, w_methK, w_mkK', w_kw, w_sl, w_mpE, w_mpNo, w_vals, wp_ok, wp_bind, wp_nr, List.set, List.length_cons, List.length_nil, Nat.zero_add, Nat.reduceAdd, add_int, sub_int, le_int, lt_int, ge_int, gt_int, eqD_int, eqD_str, sl_tup, len_tup, truth, true_and, and_true, Bool.not_true, Bool.not_false, Bool.false_eq_true, if_false, if_true, List.cons_append, List.nil_append, List.append_nil, decide_true, decide_false, w_items, C.numbers]
  refine copy_nd C.en ok.nd fun m g1 e1 l1 k1 => ?_
  exact k_songs ok e1 fun n' d' g2 S l2 l3 k2 => q n' d' g2 S (by have := k1.len; omega) (by have := k1.len; omega) (k1.trans k2)
theorem eqD_strs {a b : Nat} {xs : List Str} (neg : Bool) (hx : ∀ x ∈ xs, nmOk x) (ea : h[a]? = some (.lst (xs.map .str))) (eb : h[b]? = some (.lst [])) : vEqD neg (.ref a) (.ref b) h = .ok (.bl (if neg then !xs.isEmpty else xs.isEmpty)) h := by
  have t : ∀ (k : Nat) (xs : List Str), toDs (k + 1) h (xs.map .str) = some (xs.map .str) := by
    intro k xs
    induction xs with
    | nil => simp [toDs]
    | cons x xs ih => rw [List.map_cons, toDs, toD_str, ih]; rfl
  have c : ∀ xs : List Str, (∀ x ∈ xs, nmOk x) → PyData.canLayAll0 (xs.map .str) = true := by
    intro xs
    induction xs with
    | nil => intro _; simp [PyData.canLayAll0]
    | cons x xs ih =>
      intro hx
      have h1 := hx x (by simp)
      unfold nmOk at h1
      simp only [List.map_cons, PyData.canLayAll0, PyData.canLay0, PyData.strOk, h1, ih fun y hy => hx y (by simp [hy]), Bool.and_self]
  have c1 : (PyData.list (xs.map .str)).canLay0 = true := by simp only [PyData.canLay0]; exact c xs hx
  have c2 : (PyData.list []).canLay0 = true := by simp [PyData.canLay0, PyData.canLayAll0]
  rw [eqD_ok neg rfl (toD_lst (k := 29) ea (t 28 xs)) (toD_lst (k := 29) eb toDs_nil) c1 c2]
  have : PyData.eqv (.list (xs.map .str)) (.list []) = xs.isEmpty := by
    cases xs <;> simp [PyData.eqv, PyData.eqvAll]
  rw [this]
theorem sort_dct {n : Nat} (e : h[n]? = some (.dct (nd l))) (hl : l.length < 64) : vSortS [.ref n] h = .ok (.ref h.length) (h ++ [.lst ((sSort (l.map (·.1))).map Val.str)]) := by
  simp only [vSortS, e, nd_keys, strsOf'_map]
  rw [if_pos (by simpa using hl)]
theorem any_standing_ok (D : Dw h) (C : Case c n ws ss sp l h) (okr : okR ws ss sp) (ok : okNum l 3 M) (q : ∀ st g, okSt l (ws.length - 1) st → Dw g → Kd h g → QV (stV st) g) : Wp (f__law_any_standing [.ref 2, .ref c] h) QV := by
  have hnm : nmsOk l := fun p hp => (ok.nm p hp).nm
  have l4 := okr.l4
  have l1 := okr.l1
  have lK := ok.lK
  unfold f__law_any_standing b__law_any_standing
  rw [w_fn]
  show WpF (msSeq _ _ [some (.ref 2), some (.ref c), none, none, none, none, none] h) _ _
  simp only [f_seq, f_asg, f_name, f_tup, f_gcons, f_gnil, f_ret, f_retN, f_expr, f_if, f_nil, f_par, f_par3, f_fld, f_sub, w_op, w_un, w_app, w_acons, w_anil, w_C, w_var0, w_varS, w_callF, w_and, w_or, w_not, w_if, w_tval, w_tand, w_tor, w_tnot, w_tbl, w_ttrue, w_chain, w_prop, w_meth, w_methK, w_mkK', w_kw, w_sl, w_mpE, w_mpNo, w_vals, wp_ok, wp_bind, wp_nr, List.set, List.length_cons, List.length_nil, Nat.zero_add, Nat.reduceAdd, add_int, sub_int, le_int, lt_int, ge_int, gt_int, eqD_int, eqD_str, sl_tup, len_tup, truth, true_and, and_true, Bool.not_true, Bool.not_false, Bool.false_eq_true, if_false, if_true, List.cons_append, List.nil_append, List.append_nil, decide_true, decide_false, w_items, C.numbers]
  refine copy_nd C.en ok.nd fun lf g1 e1 ll1 k1 => ?_
  refine k_lst (by simp) fun fo g2 e2 ll2 k2 => ?_
  refine k_tup (by simp) ?_
  simp only [f_seq, f_asg, f_name, f_tup, f_gcons, f_gnil, f_ret, f_retN, f_expr, f_if, f_nil, f_par, f_par3, f_fld, f_sub, w_op, w_un, w_app, w_acons, w_anil, w_C, w_var0, w_varS, w_callF, w_and, w_or, w_not, w_if, w_tval, w_tand, w_tor, w_tnot, w_tbl, w_ttrue, w_chain, w_prop, w_meth, w_methK, w_mkK', w_kw, w_sl, w_mpE, w_mpNo, w_vals, wp_ok, wp_bind, wp_nr, List.set, List.length_cons, List.length_nil, Nat.zero_add, Nat.reduceAdd, add_int, sub_int, le_int, lt_int, ge_int, gt_int, eqD_int, eqD_str, sl_tup, len_tup, truth, true_and, and_true, Bool.not_true, Bool.not_false, Bool.false_eq_true, if_false, if_true, List.cons_append, List.nil_append, List.append_nil, decide_true, decide_false]
  have hlD := D.len
  have e1' := k2.k e1
  have hlf := lt_of e1
  have hk1 := k1.len
  have C2 := C.k (k1.trans k2)
  unfold b__law_any_standing_5
  simp only [f_seq, f_asg, f_name, f_tup, f_gcons, f_gnil, f_ret, f_retN, f_expr, f_if, f_nil, f_par, f_par3, f_fld, f_sub, w_op, w_un, w_app, w_acons, w_anil, w_C, w_var0, w_varS, w_callF, w_and, w_or, w_not, w_if, w_tval, w_tand, w_tor, w_tnot, w_tbl, w_ttrue, w_chain, w_prop, w_meth, w_methK, w_mkK', w_kw, w_sl, w_mpE, w_mpNo, w_vals, wp_ok, wp_bind, wp_nr, List.set, List.length_cons, List.length_nil, Nat.zero_add, Nat.reduceAdd, add_int, sub_int, le_int, lt_int, ge_int, gt_int, eqD_int, eqD_str, sl_tup, len_tup, truth, true_and, and_true, Bool.not_true, Bool.not_false, Bool.false_eq_true, if_false, if_true, List.cons_append, List.nil_append, List.append_nil, decide_true, decide_false]
  have hm : miRng1 (mOp vSub (mApp vLen (maCons (mOp vIx (mVar 1) (mC (.str "weights"))) maNil)) (mC (.int 1))) [some (.ref 2), some (.ref c), some (.ref lf), some (.ref fo), none, none, none] g2 = .ok ⟨(List.range (ws.length - 1)).map fun i => .int ((i : Nat) : Int), fun _ => True, none⟩ g2 := by
    rw [val_rng (j := (ws.length : Int) - 1) (h1 := g2) (by simp [mOp, mApp, maCons, maNil, mC, C2.weights]) (by omega), show ((ws.length : Int) - 1).toNat = ws.length - 1 by omega]
  refine f_forE (fun k σ g => ∃ (st : List Itm) (lv : List (Str × Int)) (x4 x5 x6 : Option Val), σ = [some (.ref 2), some (.ref c), some (.ref lf), some (.ref fo), x4, x5, x6] ∧ st.length = k ∧ (∀ k b, some (k, b) ∈ st → (l.lookup k).isSome = true) ∧ lv.map (·.1) = l.map (·.1) ∧
    (∀ x, lv.lookup x = (l.lookup x).map fun i => i - (cnt st x : Int)) ∧ (∀ x i, lv.lookup x = some i → 0 ≤ i) ∧ g[lf]? = some (.dct (nd lv)) ∧ g[fo]? = some (.lst (st.map itV)) ∧ Dw g ∧ Kd h g) hm rfl
    ⟨[], l, none, none, none, rfl, rfl, by simp, rfl, fun x => by simp [cnt], fun x i e => (ok.vl _ (lookup_some_mem e)).1, e1', e2, D.k (k1.trans k2), (k1.trans k2).kd⟩ (fun _ _ _ _ => trivial) ?_ ?_
  · rintro k v σ g ev ⟨st, lv, x4, x5, x6, rfl, hlen, hkd, hkeys, hlk, hpos, elf, efo, Dg, Kg⟩
    have hk : k < ws.length - 1 := by
      have := (List.getElem?_eq_some_iff.mp ev).1
      simpa using this
    have hlvl : lv.length = l.length := by have := congrArg List.length hkeys; simpa using this
    have hlvnd : (lv.map (·.1)).Nodup := by rw [hkeys]; exact ok.nd
    simp only [f_seq, f_asg, f_name, f_tup, f_gcons, f_gnil, f_ret, f_retN, f_expr, f_if, f_nil, f_par, f_par3, f_fld, f_sub, w_op, w_un, w_app, w_acons, w_anil, w_C, w_var0, w_varS, w_callF, w_and, w_or, w_not, w_if, w_tval, w_tand, w_tor, w_tnot, w_tbl, w_ttrue, w_chain, w_prop, w_meth, w_methK, w_mkK', w_kw, w_sl, w_mpE, w_mpNo, w_vals, wp_ok, wp_bind, wp_nr, List.set, List.length_cons, List.length_nil, Nat.zero_add, Nat.reduceAdd, add_int, sub_int, le_int, lt_int, ge_int, gt_int, eqD_int, eqD_str, sl_tup, len_tup, truth, true_and, and_true, Bool.not_true, Bool.not_false, Bool.false_eq_true, if_false, if_true, List.cons_append, List.nil_append, List.append_nil, decide_true, decide_false]
    -- the kinds that have songs left
    have hs := sort_dct elf (by omega)
    have es := app_new g (.lst ((sSort (lv.map (·.1))).map Val.str))
    have hmi : miVal (mApp vSortS (maCons (mVar 2) maNil)) [some (.ref 2), some (.ref c), some (.ref lf), some (.ref fo), some v, x5, x6] g = .ok ⟨(sSort (lv.map (·.1))).map Val.str, fun h => h[g.length]? = some (.lst ((sSort (lv.map (·.1))).map Val.str)), none⟩ (g ++ [.lst ((sSort (lv.map (·.1))).map Val.str)]) :=
      val_lst (n := g.length) (by simp [mApp, maCons, maNil, hs]) es
    have hln : ((sSort (lv.map (·.1))).map Val.str).length ≤ 1000 := by
      have := (sSort_perm (lv.map (·.1))).length_eq
      simp at this ⊢; omega
    refine pure_k (lc_pure (fun v => match v with | .str x => if 0 < (lv.lookup x).getD 0 then some (.str x) else none | _ => none) hmi rfl (szl hln) (fun l => app_at [l] es) fun v hv l => ?_) ?_
    · obtain ⟨x, hx, rfl⟩ := List.mem_map.mp (show v ∈ (sSort (lv.map (·.1))).map Val.str from hv)
      have hx2 := (sSort_perm _).mem_iff.mp hx
      obtain ⟨p, hp, rfl⟩ := List.mem_map.mp hx2
      have hlp := lookup_mem hlvnd hp
      have hix := ix_nd (app_at [l] (app_at [.lst ((sSort (lv.map (·.1))).map Val.str)] elf)) hlp
      by_cases z : 0 < p.2
      · simp [-List.append_assoc, lcB, Tg.bd, wipeL, tBl, mOp, mC, mVar, hix, hlp, z]
      · simp [-List.append_assoc, lcB, Tg.bd, wipeL, tBl, mOp, mC, mVar, hix, hlp, z]
    · have hfm : (((sSort (lv.map (·.1))).map Val.str).filterMap fun v => match v with | .str x => if 0 < (lv.lookup x).getD 0 then some (.str x) else none | _ => none) = ((sSort (lv.map (·.1))).filter fun x => decide (0 < (lv.lookup x).getD 0)).map Val.str := by
        rw [List.filterMap_map, ← List.filterMap_eq_filter, List.map_filterMap]
        congr 1
        funext x
        simp only [Function.comp, Option.guard]
        by_cases z : 0 < (lv.lookup x).getD 0 <;> simp [z]
      rw [hfm]
      have hxs : ∀ x ∈ (sSort (lv.map (·.1))).filter (fun x => decide (0 < (lv.lookup x).getD 0)), ∃ i, lv.lookup x = some i ∧ 0 < i := fun x hx => by
        obtain ⟨h1, h2⟩ := List.mem_filter.mp hx
        cases e : lv.lookup x with
        | none => rw [e] at h2; simp at h2
        | some i => rw [e] at h2; exact ⟨i, rfl, by simpa using h2⟩
      have hxl : ((sSort (lv.map (·.1))).filter fun x => decide (0 < (lv.lookup x).getD 0)).length ≤ 3 := by
        refine Nat.le_trans (List.length_filter_le _ _) ?_
        have := (sSort_perm (lv.map (·.1))).length_eq
        simp at this; omega
      generalize (sSort (lv.map (·.1))).filter (fun x => decide (0 < (lv.lookup x).getD 0)) = xs at hxs hxl ⊢
      have e3 := app_new (g ++ [.lst ((sSort (lv.map (·.1))).map Val.str)]) (.lst (xs.map Val.str))
      have k3 := ((Kp.refl [] g).app [.lst ((sSort (lv.map (·.1))).map Val.str)]).app [.lst (xs.map Val.str)]
      have hl3 : g.length ≤ (g ++ [Ob.lst ((sSort (lv.map (·.1))).map Val.str)]).length := by simp
      generalize (g ++ [Ob.lst ((sSort (lv.map (·.1))).map Val.str)]).length = so at e3 hl3 ⊢
      generalize g ++ [Ob.lst ((sSort (lv.map (·.1))).map Val.str)] ++ [Ob.lst (xs.map Val.str)] = g3 at e3 k3 ⊢
      have elf3 := k3.k elf
      have efo3 := k3.k efo
      have D3 := Dg.k k3
      have hlg := Dg.len
      have hxnm : ∀ x ∈ xs, nmOk x := fun x hx => by
        obtain ⟨i, hi, _⟩ := hxs x hx
        rw [hlk] at hi
        cases e : l.lookup x with
        | none => rw [e] at hi; cases hi
        | some j => exact hnm _ (lookup_some_mem e)
      unfold b__law_any_standing_3
      simp only [f_seq, f_asg, f_name, f_tup, f_gcons, f_gnil, f_ret, f_retN, f_expr, f_if, f_nil, f_par, f_par3, f_fld, f_sub, w_op, w_un, w_app, w_acons, w_anil, w_C, w_var0, w_varS, w_callF, w_and, w_or, w_not, w_if, w_tval, w_tand, w_tor, w_tnot, w_tbl, w_ttrue, w_chain, w_prop, w_meth, w_methK, w_mkK', w_kw, w_sl, w_mpE, w_mpNo, w_vals, wp_ok, wp_bind, wp_nr, List.set, List.length_cons, List.length_nil, Nat.zero_add, Nat.reduceAdd, add_int, sub_int, le_int, lt_int, ge_int, gt_int, eqD_int, eqD_str, sl_tup, len_tup, truth, true_and, and_true, Bool.not_true, Bool.not_false, Bool.false_eq_true, if_false, if_true, List.cons_append, List.nil_append, List.append_nil, decide_true, decide_false]
      refine k_lst (by simp) fun n4 g4 e4 l4' k4 => ?_
      rw [eqD_strs false hxnm (k4.k e3) e4]
      have elf4 := k4.k elf3
      have efo4 := k4.k efo3
      have D4 := D3.k k4
      have hf4 : 4 ≤ fo := by omega
      have hlf4 : 4 ≤ lf := by omega
      have hlff : lf ≠ fo := by omega
      have none_end : ∀ g', g'[lf]? = some (.dct (nd lv)) → g'[fo]? = some (.lst (st.map itV)) → Dw g' → Kd h g' → WpF (msExpr (mMt "list" vAppend (mVar 3) (maCons (mApp vTup maNil) maNil)) [some (.ref 2), some (.ref c), some (.ref lf), some (.ref fo), some v, some (.ref so), x6] g') (fun σ g => ∃ (st : List Itm) (lv : List (Str × Int)) (x4 x5 x6 : Option Val), σ = [some (.ref 2), some (.ref c), some (.ref lf), some (.ref fo), x4, x5, x6] ∧ st.length = k + 1 ∧ (∀ k b, some (k, b) ∈ st → (l.lookup k).isSome = true) ∧ lv.map (·.1) = l.map (·.1) ∧
          (∀ x, lv.lookup x = (l.lookup x).map fun i => i - (cnt st x : Int)) ∧ (∀ x i, lv.lookup x = some i → 0 ≤ i) ∧ g[lf]? = some (.dct (nd lv)) ∧ g[fo]? = some (.lst (st.map itV)) ∧ Dw g ∧ Kd h g) QV := fun g' a1 a2 a3 a4 => by
        rw [f_expr]
        unfold mMt
        have hi : isT "list" (.ref fo) g' = true := by simp [isT, a2]
        simp only [f_seq, f_asg, f_name, f_tup, f_gcons, f_gnil, f_ret, f_retN, f_expr, f_if, f_nil, f_par, f_par3, f_fld, f_sub, w_op, w_un, w_app, w_acons, w_anil, w_C, w_var0, w_varS, w_callF, w_and, w_or, w_not, w_if, w_tval, w_tand, w_tor, w_tnot, w_tbl, w_ttrue, w_chain, w_prop, w_meth, w_methK, w_mkK', w_kw, w_sl, w_mpE, w_mpNo, w_vals, wp_ok, wp_bind, wp_nr, List.set, List.length_cons, List.length_nil, Nat.zero_add, Nat.reduceAdd, add_int, sub_int, le_int, lt_int, ge_int, gt_int, eqD_int, eqD_str, sl_tup, len_tup, truth, true_and, and_true, Bool.not_true, Bool.not_false, Bool.false_eq_true, if_false, if_true, List.cons_append, List.nil_append, List.append_nil, decide_true, decide_false, hi, tup0]
        simp only [vAppend, a2]
        rw [if_pos (szlt (by simp; omega))]
        refine .ok ⟨st ++ [none], lv, _, _, _, rfl, by simp [hlen], fun k b hb => ?_, hkeys, fun x => ?_, hpos, set_at a1 (by omega), ?_, a3.kp ((Kp.refl [fo] g').set _ _ (.inl (by simp))) (by simp; omega), a4.set' (by omega)⟩
        · rcases List.mem_append.mp hb with hb | hb
          · exact hkd k b hb
          · simp at hb
        · rw [hlk]; simp [cnt, isK]
        · rw [set_self a2]; simp [itV]
      by_cases hx0 : xs = []
      · subst hx0
        simp only [f_seq, f_asg, f_name, f_tup, f_gcons, f_gnil, f_ret, f_retN, f_expr, f_if, f_nil, f_par, f_par3, f_fld, f_sub, w_op, w_un, w_app, w_acons, w_anil, w_C, w_var0, w_varS, w_callF, w_and, w_or, w_not, w_if, w_tval, w_tand, w_tor, w_tnot, w_tbl, w_ttrue, w_chain, w_prop, w_meth, w_methK, w_mkK', w_kw, w_sl, w_mpE, w_mpNo, w_vals, wp_ok, wp_bind, wp_nr, List.set, List.length_cons, List.length_nil, Nat.zero_add, Nat.reduceAdd, add_int, sub_int, le_int, lt_int, ge_int, gt_int, eqD_int, eqD_str, sl_tup, len_tup, truth, true_and, and_true, Bool.not_true, Bool.not_false, Bool.false_eq_true, if_false, if_true, List.cons_append, List.nil_append, List.append_nil, decide_true, decide_false, List.isEmpty_nil]
        exact f_expr.mp (none_end g4 elf4 efo4 D4 (Kg.trans (k3.trans k4).kd))
      · have hxe : xs.isEmpty = false := by cases xs with | nil => exact absurd rfl hx0 | cons _ _ => rfl
        simp only [f_seq, f_asg, f_name, f_tup, f_gcons, f_gnil, f_ret, f_retN, f_expr, f_if, f_nil, f_par, f_par3, f_fld, f_sub, w_op, w_un, w_app, w_acons, w_anil, w_C, w_var0, w_varS, w_callF, w_and, w_or, w_not, w_if, w_tval, w_tand, w_tor, w_tnot, w_tbl, w_ttrue, w_chain, w_prop, w_meth, w_methK, w_mkK', w_kw, w_sl, w_mpE, w_mpNo, w_vals, wp_ok, wp_bind, wp_nr, List.set, List.length_cons, List.length_nil, Nat.zero_add, Nat.reduceAdd, add_int, sub_int, le_int, lt_int, ge_int, gt_int, eqD_int, eqD_str, sl_tup, len_tup, truth, true_and, and_true, Bool.not_true, Bool.not_false, Bool.false_eq_true, if_false, if_true, List.cons_append, List.nil_append, List.append_nil, decide_true, decide_false, hxe]
        refine take_d D4 (by omega) (by omega) fun t g5 t0 t1 D5 K5 => ?_
        have elf5 := K5.d elf4 hlf4
        have efo5 := K5.d efo4 hf4
        have e35 := K5.d (k4.k e3) (by omega)
        simp only [f_seq, f_asg, f_name, f_tup, f_gcons, f_gnil, f_ret, f_retN, f_expr, f_if, f_nil, f_par, f_par3, f_fld, f_sub, w_op, w_un, w_app, w_acons, w_anil, w_C, w_var0, w_varS, w_callF, w_and, w_or, w_not, w_if, w_tval, w_tand, w_tor, w_tnot, w_tbl, w_ttrue, w_chain, w_prop, w_meth, w_methK, w_mkK', w_kw, w_sl, w_mpE, w_mpNo, w_vals, wp_ok, wp_bind, wp_nr, List.set, List.length_cons, List.length_nil, Nat.zero_add, Nat.reduceAdd, add_int, sub_int, le_int, lt_int, ge_int, gt_int, eqD_int, eqD_str, sl_tup, len_tup, truth, true_and, and_true, Bool.not_true, Bool.not_false, Bool.false_eq_true, if_false, if_true, List.cons_append, List.nil_append, List.append_nil, decide_true, decide_false]
        by_cases tz : t = 0
        · rw [decide_eq_true tz]
          simp only [f_seq, f_asg, f_name, f_tup, f_gcons, f_gnil, f_ret, f_retN, f_expr, f_if, f_nil, f_par, f_par3, f_fld, f_sub, w_op, w_un, w_app, w_acons, w_anil, w_C, w_var0, w_varS, w_callF, w_and, w_or, w_not, w_if, w_tval, w_tand, w_tor, w_tnot, w_tbl, w_ttrue, w_chain, w_prop, w_meth, w_methK, w_mkK', w_kw, w_sl, w_mpE, w_mpNo, w_vals, wp_ok, wp_bind, wp_nr, List.set, List.length_cons, List.length_nil, Nat.zero_add, Nat.reduceAdd, add_int, sub_int, le_int, lt_int, ge_int, gt_int, eqD_int, eqD_str, sl_tup, len_tup, truth, true_and, and_true, Bool.not_true, Bool.not_false, Bool.false_eq_true, if_false, if_true, List.cons_append, List.nil_append, List.append_nil, decide_true, decide_false]
          exact f_expr.mp (none_end g5 elf5 efo5 D5 ((Kg.trans (k3.trans k4).kd).trans K5))
        · rw [decide_eq_false tz]
          simp only [f_seq, f_asg, f_name, f_tup, f_gcons, f_gnil, f_ret, f_retN, f_expr, f_if, f_nil, f_par, f_par3, f_fld, f_sub, w_op, w_un, w_app, w_acons, w_anil, w_C, w_var0, w_varS, w_callF, w_and, w_or, w_not, w_if, w_tval, w_tand, w_tor, w_tnot, w_tbl, w_ttrue, w_chain, w_prop, w_meth, w_methK, w_mkK', w_kw, w_sl, w_mpE, w_mpNo, w_vals, wp_ok, wp_bind, wp_nr, List.set, List.length_cons, List.length_nil, Nat.zero_add, Nat.reduceAdd, add_int, sub_int, le_int, lt_int, ge_int, gt_int, eqD_int, eqD_str, sl_tup, len_tup, truth, true_and, and_true, Bool.not_true, Bool.not_false, Bool.false_eq_true, if_false, if_true, List.cons_append, List.nil_append, List.append_nil, decide_true, decide_false]
          refine pick_d D5 e35 (by omega) (by cases xs with | nil => exact absurd rfl hx0 | cons _ _ => simp) (by simp; omega) fun u g6 hu D6 K6 => ?_
          obtain ⟨x, hx, rfl⟩ := List.mem_map.mp hu
          obtain ⟨i, hi, hi0⟩ := hxs x hx
          have elf6 := K6.d elf5 hlf4
          have efo6 := K6.d efo5 hf4
          unfold b__law_any_standing_2
          have hlv1000 : lv.length ≤ 1000 := by omega
          simp only [f_seq, f_asg, f_name, f_tup, f_gcons, f_gnil, f_ret, f_retN, f_expr, f_if, f_nil, f_par, f_par3, f_fld, f_sub, w_op, w_un, w_app, w_acons, w_anil, w_C, w_var0, w_varS, w_callF, w_and, w_or, w_not, w_if, w_tval, w_tand, w_tor, w_tnot, w_tbl, w_ttrue, w_chain, w_prop, w_meth, w_methK, w_mkK', w_kw, w_sl, w_mpE, w_mpNo, w_vals, wp_ok, wp_bind, wp_nr, List.set, List.length_cons, List.length_nil, Nat.zero_add, Nat.reduceAdd, add_int, sub_int, le_int, lt_int, ge_int, gt_int, eqD_int, eqD_str, sl_tup, len_tup, truth, true_and, and_true, Bool.not_true, Bool.not_false, Bool.false_eq_true, if_false, if_true, List.cons_append, List.nil_append, List.append_nil, decide_true, decide_false, ix_nd elf6 hi, set_nd elf6 hlv1000]
          have elf7 := set_self (o' := .dct (nd (sput lv x (i - 1)))) elf6
          have efo7 := set_at (o' := .dct (nd (sput lv x (i - 1)))) efo6 hlff
          have D7 := D6.kp ((Kp.refl [lf] g6).set lf (.dct (nd (sput lv x (i - 1)))) (.inl (by simp))) (by simp; omega)
          have K7 : Kd h (g6.set lf (.dct (nd (sput lv x (i - 1))))) := (((Kg.trans (k3.trans k4).kd).trans K5).trans K6).set' (by omega)
          generalize g6.set lf (.dct (nd (sput lv x (i - 1)))) = g7 at elf7 efo7 D7 K7 ⊢
          unfold b__law_any_standing_1
          rw [f_expr]
          unfold mMt
          have hit : isT "list" (.ref fo) g7 = true := by simp [isT, efo7]
          simp only [f_seq, f_asg, f_name, f_tup, f_gcons, f_gnil, f_ret, f_retN, f_expr, f_if, f_nil, f_par, f_par3, f_fld, f_sub, w_op, w_un, w_app, w_acons, w_anil, w_C, w_var0, w_varS, w_callF, w_and, w_or, w_not, w_if, w_tval, w_tand, w_tor, w_tnot, w_tbl, w_ttrue, w_chain, w_prop, w_meth, w_methK, w_mkK', w_kw, w_sl, w_mpE, w_mpNo, w_vals, wp_ok, wp_bind, wp_nr, List.set, List.length_cons, List.length_nil, Nat.zero_add, Nat.reduceAdd, add_int, sub_int, le_int, lt_int, ge_int, gt_int, eqD_int, eqD_str, sl_tup, len_tup, truth, true_and, and_true, Bool.not_true, Bool.not_false, Bool.false_eq_true, if_false, if_true, List.cons_append, List.nil_append, List.append_nil, decide_true, decide_false, hit]
          refine take_d D7 (by omega) (by omega) fun t2 g8 _ _ D8 K8 => ?_
          have elf8 := K8.d elf7 hlf4
          have efo8 := K8.d efo7 hf4
          simp only [f_seq, f_asg, f_name, f_tup, f_gcons, f_gnil, f_ret, f_retN, f_expr, f_if, f_nil, f_par, f_par3, f_fld, f_sub, w_op, w_un, w_app, w_acons, w_anil, w_C, w_var0, w_varS, w_callF, w_and, w_or, w_not, w_if, w_tval, w_tand, w_tor, w_tnot, w_tbl, w_ttrue, w_chain, w_prop, w_meth, w_methK, w_mkK', w_kw, w_sl, w_mpE, w_mpNo, w_vals, wp_ok, wp_bind, wp_nr, List.set, List.length_cons, List.length_nil, Nat.zero_add, Nat.reduceAdd, add_int, sub_int, le_int, lt_int, ge_int, gt_int, eqD_int, eqD_str, sl_tup, len_tup, truth, true_and, and_true, Bool.not_true, Bool.not_false, Bool.false_eq_true, if_false, if_true, List.cons_append, List.nil_append, List.append_nil, decide_true, decide_false]
          refine k_tup (by simp) ?_
          simp only [vAppend, efo8]
          rw [if_pos (szlt (by simp; omega))]
          have hxl2 : l.lookup x = some (i + (cnt st x : Int)) := by
            have := hlk x
            rw [hi] at this
            cases e : l.lookup x with
            | none => rw [e] at this; cases this
            | some j => rw [e] at this; simp at this; congr 1; omega
          refine .ok ⟨st ++ [some (x, decide (t2 = 0))], sput lv x (i - 1), _, _, _, rfl, by simp [hlen], fun k b hb => ?_, ?_, fun y => ?_, fun y j hj => ?_, set_at elf8 (by omega), ?_, D8.kp ((Kp.refl [fo] g8).set _ _ (.inl (by simp))) (by simp; omega), (K7.trans K8).set' (by omega)⟩
          · rcases List.mem_append.mp hb with hb | hb
            · exact hkd k b hb
            · simp at hb; rw [hb.1, hxl2]; rfl
          · rw [sput_keys, if_pos, hkeys]
            exact List.mem_map.mpr ⟨_, lookup_some_mem hi, rfl⟩
          · rw [lookup_sput]
            have hc : cnt (st ++ [some (x, decide (t2 = 0))]) y = cnt st y + (if y = x then 1 else 0) := by
              unfold cnt
              rw [List.countP_append]
              by_cases z : y = x
              · subst z; simp [isK]
              · simp [isK, z, Ne.symm z]
            rw [hc]
            by_cases z : y = x
            · subst z
              rw [if_pos rfl, if_pos rfl, hxl2]
              simp; omega
            · rw [if_neg z, if_neg z, hlk]; simp
          · rw [lookup_sput] at hj
            by_cases z : y = x
            · rw [if_pos z] at hj; simp at hj; omega
            · rw [if_neg z] at hj; exact hpos y j hj
          · rw [set_self efo8]; simp [itV]
  · rintro σ g ⟨st, lv, x4, x5, x6, rfl, hlen, hkd, hkeys, hlk, hpos, elf, efo, Dg, Kg⟩
    unfold b__law_any_standing_4
    simp only [f_seq, f_asg, f_name, f_tup, f_gcons, f_gnil, f_ret, f_retN, f_expr, f_if, f_nil, f_par, f_par3, f_fld, f_sub, w_op, w_un, w_app, w_acons, w_anil, w_C, w_var0, w_varS, w_callF, w_and, w_or, w_not, w_if, w_tval, w_tand, w_tor, w_tnot, w_tbl, w_ttrue, w_chain, w_prop, w_meth, w_methK, w_mkK', w_kw, w_sl, w_mpE, w_mpNo, w_vals, wp_ok, wp_bind, wp_nr, List.set, List.length_cons, List.length_nil, Nat.zero_add, Nat.reduceAdd, add_int, sub_int, le_int, lt_int, ge_int, gt_int, eqD_int, eqD_str, sl_tup, len_tup, truth, true_and, and_true, Bool.not_true, Bool.not_false, Bool.false_eq_true, if_false, if_true, List.cons_append, List.nil_append, List.append_nil, decide_true, decide_false, tuple_lst efo]
    have hl : st.length = ws.length - 1 := by simpa using hlen
    refine q st g ⟨hl, hkd, fun k i hi => ?_⟩ Dg Kg
    have := hlk k
    rw [hi] at this
    have h2 := hpos k _ this
    simp only at h2
    omega
end
end U
/-! The laws' own helpers: the rows of a standing. -/
namespace U
open PySem L2
abbrev Row := Val × Int × Int
def rowV (r : Row) : Val := .tup [r.1, .int r.2.1, .int r.2.2]
def bars (sp : Nat) (st : List Itm) : List Str := (st.take sp).filterMap fun i => i.map (·.1)
def bar0 (bs : List Str) (x : Str) : Int := if x ∈ bs then 0 else 1
def ageRowsN (ws ss : List Int) (bs : List Str) (st : List Itm) : Nat → List Row
  | 0 => []
  | k + 1 => ageRowsN ws ss bs st k ++ (match st[k]? with
    | some (some (x, b)) => [(.int ((k : Int) + 1), 1, ((if b then ss else ws).getD k 0) * bar0 bs x)]
    | _ => [])
def kindRows (ws : List Int) (bs : List Str) (ol : List (Str × Int)) : List Row := ol.map fun p => (.str p.1, p.2, (ws.getD (ws.length - 1) 0) * bar0 bs p.1)
def rawRows (ws ss : List Int) (sp : Nat) (l : List (Str × Int)) (st : List Itm) : List Row := ageRowsN ws ss (bars sp st) st st.length ++ kindRows ws (bars sp st) (olds l st)
def isS : Val → Bool
  | .str _ => true
  | _ => false
def eqAge : Val → Val → Bool
  | .int a, .int b => decide (a = b)
  | _, _ => false
def finRows (raw : List Row) : List Row := if raw.any (fun r => decide (0 < r.2.2)) = true then raw else match raw.getLast? with
  | some r => if isS r.1 = true then raw.map (fun q => (q.1, q.2.1, if isS q.1 = true then 1 else 0)) else raw.map (fun q => (q.1, q.2.1, if eqAge q.1 r.1 = true then 1 else 0))
  | none => raw
/-- the place of a row -/
def plV (v : Val) : Prop := (∃ a : Int, v = .int a) ∨ ∃ x, nmOk x ∧ v = .str x
section
variable {σ : Loc} {h h1 : Hh} {QV : Val → Hh → Prop} {N : Loc → Hh → Prop} {R : Val → Hh → Prop}
variable {n d c m : Nat} {l : List (Str × Int)} {st : List Itm} {ws ss : List Int} {sp : Int} {K : Nat} {M : Int}
def rowD (r : Row) : PyData := .tuple [(match r.1 with | .int a => .int a | .str x => .str x | _ => .none), .int r.2.1, .int r.2.2]
theorem toD_row (k : Nat) (h : Hh) {r : Row} (p : plV r.1) : toD (k + 2) h (rowV r) = some (rowD r) := by
  obtain ⟨v, a, b⟩ := r
  rcases p with ⟨x, rfl⟩ | ⟨x, _, rfl⟩ <;> simp [rowV, rowD, toD, toDs]
theorem canLay_row {r : Row} (p : plV r.1) : (rowD r).canLay0 = true := by
  obtain ⟨v, a, b⟩ := r
  rcases p with ⟨x, rfl⟩ | ⟨x, hx, rfl⟩
  · simp [rowD, PyData.canLay0, PyData.canLayAll0]
  · unfold nmOk at hx
    simp only [rowD, PyData.canLay0, PyData.canLayAll0, PyData.strOk, hx, Bool.and_self]
theorem eqD_rows {a b : Nat} {rs : List Row} (neg : Bool) (hr : ∀ r ∈ rs, plV r.1) (ea : h[a]? = some (.lst (rs.map rowV))) (eb : h[b]? = some (.lst [])) : vEqD neg (.ref a) (.ref b) h = .ok (.bl (if neg then !rs.isEmpty else rs.isEmpty)) h := by
  have t : ∀ (k : Nat) (rs : List Row), (∀ r ∈ rs, plV r.1) → toDs (k + 2) h (rs.map rowV) = some (rs.map rowD) := by
    intro k rs
    induction rs with
    | nil => intro _; simp [toDs]
    | cons x xs ih => intro hx; rw [List.map_cons, toDs, toD_row k h (hx x (by simp)), ih fun r hr => hx r (by simp [hr])]; rfl
  have cc : ∀ rs : List Row, (∀ r ∈ rs, plV r.1) → PyData.canLayAll0 (rs.map rowD) = true := by
    intro rs
    induction rs with
    | nil => intro _; simp [PyData.canLayAll0]
    | cons x xs ih => intro hx; simp only [List.map_cons, PyData.canLayAll0, canLay_row (hx x (by simp)), ih fun y hy => hx y (by simp [hy]), Bool.and_self]
  have c1 : (PyData.list (rs.map rowD)).canLay0 = true := by simp only [PyData.canLay0]; exact cc rs hr
  have c2 : (PyData.list []).canLay0 = true := by simp [PyData.canLay0, PyData.canLayAll0]
  rw [eqD_ok neg rfl (toD_lst (k := 29) ea (t 27 rs hr)) (toD_lst (k := 29) eb toDs_nil) c1 c2]
  have : PyData.eqv (.list (rs.map rowD)) (.list []) = rs.isEmpty := by
    cases rs <;> simp [PyData.eqv, PyData.eqvAll]
  rw [this]
theorem app_lst {fo : Nat} {vs : List Val} {v : Val} (e : h[fo]? = some (.lst vs)) (hl : vs.length ≤ 1000) : vAppend [.ref fo, v] h = .ok .non (h.set fo (.lst (vs ++ [v]))) := by
  simp only [vAppend, e]
  rw [if_pos (szlt hl)]
@[simp] theorem w_mt (T : String) (f : Fn) (a : ME) (mm : MA) : Wp (mMt T f a mm σ h) QV ↔ Wp (a σ h) fun x h1 => isT T x h1 = true ∧ Wp (mm σ h1) fun xs h2 => Wp (f (x :: xs) h2) QV := by
  unfold mMt
  simp only [wp_bind]
  refine iff_of_eq (congrArg _ (funext fun x => funext fun h3 => ?_))
  by_cases e : isT T x h3 = true <;> simp [e]
theorem isT_lst {n : Nat} {vs : List Val} (e : h[n]? = some (.lst vs)) : isT "list" (.ref n) h = true := by simp [isT, e]
theorem ageRowsN_len (bs : List Str) : ∀ k, (ageRowsN ws ss bs st k).length ≤ k
  | 0 => by simp [ageRowsN]
  | k + 1 => by
    have := ageRowsN_len bs k
    unfold ageRowsN
    rw [List.length_append]
    split <;> simp <;> omega
theorem ageRowsN_pl (bs : List Str) : ∀ k, ∀ r ∈ ageRowsN ws ss bs st k, ∃ (j : Nat) (p : Str × Bool), st[j]? = some (some p) ∧ r.1 = .int ((j : Int) + 1)
  | 0, r, hr => by cases hr
  | k + 1, r, hr => by
    unfold ageRowsN at hr
    rcases List.mem_append.mp hr with hr | hr
    · exact ageRowsN_pl bs k r hr
    · cases e : st[k]? with
      | none => rw [e] at hr; cases hr
      | some i =>
        cases i with
        | none => rw [e] at hr; cases hr
        | some p =>
          obtain ⟨x, b⟩ := p
          rw [e] at hr
          have hr' := List.mem_singleton.mp hr
          subst hr'
          exact ⟨k, (x, b), e, rfl⟩
theorem olds_mem {x : Str} {i : Int} (hp : (x, i) ∈ olds l st) : ∃ j, (x, j) ∈ l := by
  obtain ⟨p, hp, e⟩ := List.mem_filterMap.mp hp
  split at e
  · simp at e; exact ⟨p.2, by rw [← e.1]; exact hp⟩
  · cases e
theorem raw_pl {sp : Nat} (hn : nmsOk l) : ∀ r ∈ rawRows ws ss sp l st, plV r.1 := by
  intro r hr
  rcases List.mem_append.mp hr with hr | hr
  · obtain ⟨j, p, _, e⟩ := ageRowsN_pl _ _ r hr
    exact .inl ⟨_, e⟩
  · obtain ⟨p, hp, rfl⟩ := List.mem_map.mp hr
    obtain ⟨j, hj⟩ := olds_mem (x := p.1) (i := p.2) hp
    exact .inr ⟨p.1, hn (p.1, j) hj, rfl⟩
theorem olds_nodup (hnd : (l.map (·.1)).Nodup) : ((olds l st).map (·.1)).Nodup := by
  have : ((olds l st).map (·.1)).Sublist (l.map (·.1)) := by
    unfold olds
    induction l with
    | nil => exact List.Sublist.refl _
    | cons p l ih =>
      rw [List.filterMap_cons]
      have ih' := ih (List.nodup_cons.mp (by simpa using hnd)).2
      split
      · rename_i e; exact ih'.cons _
      · rename_i q e
        split at e
        · cases e; simp only [List.map_cons]; exact ih'.cons₂ _
        · cases e
  exact hnd.sublist this
theorem raw_ne {sp : Nat} (hp : 0 < (l.map (·.2)).sum) (hv : ∀ p ∈ l, 0 ≤ p.2) : rawRows ws ss sp l st ≠ [] := by
  intro z
  obtain ⟨z1, z2⟩ := List.append_eq_nil_iff.mp z
  have hall : ∀ (k : Nat) (bs : List Str), ageRowsN ws ss bs st k = [] → ∀ j, j < k → ∀ p, st[j]? ≠ some (some p) := by
    intro k bs
    induction k with
    | zero => intro _ j hj; omega
    | succ k ih =>
      intro e j hj p ep
      unfold ageRowsN at e
      obtain ⟨e1, e2⟩ := List.append_eq_nil_iff.mp e
      by_cases hjk : j = k
      · subst hjk; obtain ⟨x, b⟩ := p; rw [ep] at e2; simp at e2
      · exact ih e1 j (by omega) p ep
  have hc : ∀ x, cnt st x = 0 := fun x => by
    unfold cnt
    rw [List.countP_eq_zero]
    intro i hi e
    obtain ⟨j, hj, ej⟩ := List.getElem_of_mem hi
    cases i with
    | none => cases e
    | some p => exact hall _ _ z1 j hj p (by rw [List.getElem?_eq_getElem hj, ej])
  have ho : olds l st = [] := by
    unfold kindRows at z2
    exact List.map_eq_nil_iff.mp z2
  have : ∀ p ∈ l, p.2 = 0 := fun p hpl => by
    have := List.filterMap_eq_nil_iff.mp ho p hpl
    rw [hc] at this
    have hv' := hv p hpl
    by_cases z : 0 < p.2 - ((0 : Nat) : Int)
    · rw [if_pos z] at this; cases this
    · omega
  have hs : (l.map (·.2)).sum = 0 := by
    clear hp hv z z1 z2 hall hc ho
    induction l with
    | nil => rfl
    | cons p l ih => simp only [List.map_cons, List.sum_cons]; rw [this p (by simp), ih fun q hq => this q (by simp [hq])]; rfl
  omega
/-- the last part: the replaced weights -/
theorem rows_at_end {fo : Nat} {rs : List Row} {x2 x4 x5 x6 x7 x8 x9 : Option Val} {x0 : Val} (hr : ∀ r ∈ rs, plV r.1) (hne : rs ≠ []) (hl : rs.length ≤ 900) (ef : h[fo]? = some (.lst (rs.map rowV))) (hf : h1.length ≤ fo) (K1 : Kp [] h1 h)
    (q : ∀ m g, g[m]? = some (.lst ((finRows rs).map rowV)) → h1.length ≤ m → Kp [] h1 g → QV (.ref m) g) :
    WpF (b__law_rows_at_6 [some x0, some (stV st), x2, some (.ref fo), x4, x5, x6, x7, x8, x9, none, none] h) N QV := by
  unfold b__law_rows_at_6
  simp only [f_seq, f_asg, f_name, f_tup, f_gcons, f_gnil, f_ret, f_retN, f_expr, f_if, f_nil, f_par, f_par3, f_fld, f_sub, w_op, w_un, w_app, w_acons, w_anil, w_C, w_var0, w_varS, w_callF, w_and, w_or, w_not, w_if, w_tval, w_tand, w_tor, w_tnot, w_tbl, w_ttrue, w_chain, w_prop, w_meth, w_methK, w_mkK', w_kw, w_sl, w_mpE, w_mpNo, w_vals, wp_ok, wp_bind, wp_nr, List.set, List.length_cons, List.length_nil, Nat.zero_add, Nat.reduceAdd, add_int, sub_int, le_int, lt_int, ge_int, gt_int, eqD_int, eqD_str, sl_tup, len_tup, truth, true_and, and_true, Bool.not_true, Bool.not_false, Bool.false_eq_true, if_false, if_true, List.cons_append, List.nil_append, List.append_nil, decide_true, decide_false]
  have hmi : miVal (mVar 3) [some x0, some (stV st), x2, some (.ref fo), x4, x5, x6, x7, x8, x9, none, none] h = .ok ⟨rs.map rowV, fun h => h[fo]? = some (.lst (rs.map rowV)), none⟩ h := val_lst rfl ef
  have hz : (rs.map rowV).length ≤ sizeLine := szl (by simp; omega)
  let F : Val → Option Val := fun v => match v with | .tup [_, _, .int e] => if 0 < e then some v else none | _ => none
  have hlc := lc_pure (vs := [10]) (tg := .one 10) (c := tBl (mOp vGt (mOp vIx (mVar 10) (mC (.int 2))) (mC (.int 0)))) (e := mVar 10) F hmi rfl hz (fun l => app_at [l] ef) fun v hv l => by
    obtain ⟨r, hr', rfl⟩ := List.mem_map.mp (show v ∈ rs.map rowV from hv)
    have hix : vIx (.tup [r.1, .int r.2.1, .int r.2.2]) (.int 2) (h ++ [l]) = .ok (.int r.2.2) (h ++ [l]) := ix_tup (k := 2) rfl _
    by_cases z : 0 < r.2.2
    · simp [lcB, Tg.bd, wipeL, tBl, mOp, mC, mVar, hix, z, F, rowV]
    · simp [lcB, Tg.bd, wipeL, tBl, mOp, mC, mVar, hix, z, F, rowV]
  have hfm : (rs.map rowV).filterMap F = (rs.filter fun r => decide (0 < r.2.2)).map rowV := by
    rw [List.filterMap_map, ← List.filterMap_eq_filter, List.map_filterMap]
    congr 1
    funext r
    simp only [Function.comp, Option.guard, F, rowV]
    by_cases z : 0 < r.2.2 <;> simp [z, rowV]
  rw [show (⟨rs.map rowV, fun h => h[fo]? = some (.lst (rs.map rowV)), none⟩ : Itb).items.filterMap F = _ from hfm] at hlc
  refine pure_k hlc ?_
  have e1 := app_new h (.lst ((rs.filter fun r => decide (0 < r.2.2)).map rowV))
  have ef1 := app_at [.lst ((rs.filter fun r => decide (0 < r.2.2)).map rowV)] ef
  have k1 := K1.app [.lst ((rs.filter fun r => decide (0 < r.2.2)).map rowV)]
  generalize h.length = a1 at e1 ⊢
  generalize h ++ [Ob.lst ((rs.filter fun r => decide (0 < r.2.2)).map rowV)] = g1 at e1 ef1 k1 ⊢
  refine k_lst (by simp) fun n2 g2 e2 l2 k2 => ?_
  rw [eqD_rows true (fun r hr' => hr r (List.mem_filter.mp hr').1) (k2.k e1) e2]
  have ef2 := k2.k ef1
  have k12 := k1.trans k2
  by_cases hany : rs.any (fun r => decide (0 < r.2.2)) = true
  · have hfe : (rs.filter fun r => decide (0 < r.2.2)).isEmpty = false := by
      obtain ⟨r, hr1, hr2⟩ := List.any_eq_true.mp hany
      have : r ∈ rs.filter fun r => decide (0 < r.2.2) := List.mem_filter.mpr ⟨hr1, hr2⟩
      cases e : rs.filter fun r => decide (0 < r.2.2) with
      | nil => rw [e] at this; cases this
      | cons _ _ => rfl
    simp only [f_seq, f_asg, f_name, f_tup, f_gcons, f_gnil, f_ret, f_retN, f_expr, f_if, f_nil, f_par, f_par3, f_fld, f_sub, w_op, w_un, w_app, w_acons, w_anil, w_C, w_var0, w_varS, w_callF, w_and, w_or, w_not, w_if, w_tval, w_tand, w_tor, w_tnot, w_tbl, w_ttrue, w_chain, w_prop, w_meth, w_methK, w_mkK', w_kw, w_sl, w_mpE, w_mpNo, w_vals, wp_ok, wp_bind, wp_nr, List.set, List.length_cons, List.length_nil, Nat.zero_add, Nat.reduceAdd, add_int, sub_int, le_int, lt_int, ge_int, gt_int, eqD_int, eqD_str, sl_tup, len_tup, truth, true_and, and_true, Bool.not_true, Bool.not_false, Bool.false_eq_true, if_false, if_true, List.cons_append, List.nil_append, List.append_nil, decide_true, decide_false, hfe]
    exact q fo g2 (by rw [ef2]; simp only [finRows, if_pos hany]) hf k12
  · have hfe : (rs.filter fun r => decide (0 < r.2.2)).isEmpty = true := by
      rw [List.isEmpty_iff, List.filter_eq_nil_iff]
      intro r hr1 hr2
      exact hany (List.any_eq_true.mpr ⟨r, hr1, hr2⟩)
    simp only [f_seq, f_asg, f_name, f_tup, f_gcons, f_gnil, f_ret, f_retN, f_expr, f_if, f_nil, f_par, f_par3, f_fld, f_sub, w_op, w_un, w_app, w_acons, w_anil, w_C, w_var0, w_varS, w_callF, w_and, w_or, w_not, w_if, w_tval, w_tand, w_tor, w_tnot, w_tbl, w_ttrue, w_chain, w_prop, w_meth, w_methK, w_mkK', w_kw, w_sl, w_mpE, w_mpNo, w_vals, wp_ok, wp_bind, wp_nr, List.set, List.length_cons, List.length_nil, Nat.zero_add, Nat.reduceAdd, add_int, sub_int, le_int, lt_int, ge_int, gt_int, eqD_int, eqD_str, sl_tup, len_tup, truth, true_and, and_true, Bool.not_true, Bool.not_false, Bool.false_eq_true, if_false, if_true, List.cons_append, List.nil_append, List.append_nil, decide_true, decide_false, hfe]
    unfold b__law_rows_at_5
    have hlen : 1 ≤ (rs.map rowV).length := by rw [List.length_map]; exact List.length_pos_iff.mpr hne
    have hlast : ∃ r, rs.getLast? = some r ∧ r ∈ rs := ⟨rs.getLast hne, List.getLast?_eq_some_getLast hne, List.getLast_mem hne⟩
    obtain ⟨r, er, hrm⟩ := hlast
    have hix : vIx (.ref fo) (.int (-1)) g2 = .ok (rowV r) g2 := by
      have : (rs.map rowV)[(rs.map rowV).length - 1]? = some (rowV r) := by
        rw [List.length_map, List.getElem?_map, ← List.getLast?_eq_getElem?, er]; rfl
      simp only [vIx, ef2, atI_m1 _ hlen, this]
    have hix0 : ∀ (q : Row) (g : Hh), vIx (rowV q) (.int 0) g = .ok q.1 g := fun q g => ix_tup (k := 0) rfl g
    simp only [f_seq, f_asg, f_name, f_tup, f_gcons, f_gnil, f_ret, f_retN, f_expr, f_if, f_nil, f_par, f_par3, f_fld, f_sub, w_op, w_un, w_app, w_acons, w_anil, w_C, w_var0, w_varS, w_callF, w_and, w_or, w_not, w_if, w_tval, w_tand, w_tor, w_tnot, w_tbl, w_ttrue, w_chain, w_prop, w_meth, w_methK, w_mkK', w_kw, w_sl, w_mpE, w_mpNo, w_vals, wp_ok, wp_bind, wp_nr, List.set, List.length_cons, List.length_nil, Nat.zero_add, Nat.reduceAdd, add_int, sub_int, le_int, lt_int, ge_int, gt_int, eqD_int, eqD_str, sl_tup, len_tup, truth, true_and, and_true, Bool.not_true, Bool.not_false, Bool.false_eq_true, if_false, if_true, List.cons_append, List.nil_append, List.append_nil, decide_true, decide_false, vNeg, hix, hix0]
    unfold b__law_rows_at_4
    have hmi2 : ∀ x9, miVal (mVar 3) [some x0, some (stV st), x2, some (.ref fo), x4, x5, x6, x7, x8, x9, none, none] g2 = .ok ⟨rs.map rowV, fun h => h[fo]? = some (.lst (rs.map rowV)), none⟩ g2 := fun x9 => val_lst rfl ef2
    have fin : ∀ (G : Row → Row), (∀ r, (G r).1 = r.1) → finRows rs = rs.map G → ∀ {vs : List Nat} {tg : Tg} {cc : MT} {ee : ME} {x9 : Option Val}, (∀ q ∈ rs, ∀ l, lcB vs tg cc ee [some x0, some (stV st), x2, some (.ref fo), x4, x5, x6, x7, x8, x9, none, none] (rowV q) (g2 ++ [l]) = .ok (some (rowV (G q))) (g2 ++ [l])) →
        Wp (mLc (miVal (mVar 3)) vs tg cc ee [some x0, some (stV st), x2, some (.ref fo), x4, x5, x6, x7, x8, x9, none, none] g2) QV := by
      intro G _ hG vs tg cc ee x9 hb
      have hfin : ∃ F2 : Val → Option Val, ∀ q ∈ rs, F2 (rowV q) = some (rowV (G q)) := by
        classical
        refine ⟨fun v => if hx : ∃ q ∈ rs, rowV q = v then some (rowV (G (Classical.choose hx))) else none, fun q hq => ?_⟩
        have hx : ∃ q' ∈ rs, rowV q' = rowV q := ⟨q, hq, rfl⟩
        dsimp only
        rw [dif_pos hx]
        have := (Classical.choose_spec hx).2
        have hinj : Classical.choose hx = q := by
          generalize Classical.choose hx = q' at this
          obtain ⟨v1, m1, e1⟩ := q'
          obtain ⟨v2, m2, e2⟩ := q
          simp [rowV] at this
          obtain ⟨h1, h2, h3⟩ := this
          rw [h1, h2, h3]
        rw [hinj]
      obtain ⟨F2, hF2⟩ := hfin
      refine pure_k (lc_pure F2 (hmi2 x9) rfl hz (fun l => app_at [l] ef2) fun v hv l => ?_) ?_
      · obtain ⟨q', hq', rfl⟩ := List.mem_map.mp (show v ∈ rs.map rowV from hv)
        rw [hb q' hq' l, hF2 q' hq']
      · have : (rs.map rowV).filterMap F2 = (finRows rs).map rowV := by
          rw [hG, List.filterMap_map, List.map_map]
          have : ∀ xs : List Row, (∀ q ∈ xs, F2 (rowV q) = some (rowV (G q))) → xs.filterMap (F2 ∘ rowV) = xs.map (rowV ∘ G) := by
            intro xs
            induction xs with
            | nil => intro _; rfl
            | cons x xs ih => intro hx; rw [List.filterMap_cons]; simp only [Function.comp, hx x (by simp)]; rw [List.map_cons]; congr 1; exact ih fun q hq => hx q (by simp [hq])
          exact this rs hF2
        rw [show (⟨rs.map rowV, fun h => h[fo]? = some (.lst (rs.map rowV)), none⟩ : Itb).items.filterMap F2 = _ from this]
        refine q _ _ (app_new g2 _) ?_ (k12.app _)
        exact k12.len
    have t3 : ∀ (a b c : Val) (g : Hh), vTup [a, b, c] g = .ok (.tup [a, b, c]) g := fun a b c g => tup_v g (by simp)
    by_cases hs : isS r.1 = true
    · obtain ⟨x, hx⟩ : ∃ x, r.1 = .str x := by
        cases e : r.1 with
        | str x => exact ⟨x, rfl⟩
        | _ => rw [e] at hs; cases hs
      have i1 : vIsi kCs kTys [r.1, .ty "str"] g2 = .ok (.bl true) g2 := by rw [hx]; exact isi_b rfl kb_ss
      simp only [f_seq, f_asg, f_name, f_tup, f_gcons, f_gnil, f_ret, f_retN, f_expr, f_if, f_nil, f_par, f_par3, f_fld, f_sub, w_op, w_un, w_app, w_acons, w_anil, w_C, w_var0, w_varS, w_callF, w_and, w_or, w_not, w_if, w_tval, w_tand, w_tor, w_tnot, w_tbl, w_ttrue, w_chain, w_prop, w_meth, w_methK, w_mkK', w_kw, w_sl, w_mpE, w_mpNo, w_vals, wp_ok, wp_bind, wp_nr, List.set, List.length_cons, List.length_nil, Nat.zero_add, Nat.reduceAdd, add_int, sub_int, le_int, lt_int, ge_int, gt_int, eqD_int, eqD_str, sl_tup, len_tup, truth, true_and, and_true, Bool.not_true, Bool.not_false, Bool.false_eq_true, if_false, if_true, List.cons_append, List.nil_append, List.append_nil, decide_true, decide_false, i1]
      refine fin (fun q => (q.1, q.2.1, if isS q.1 = true then 1 else 0)) (fun _ => rfl) (by simp only [finRows, if_neg hany, er, if_pos hs]) fun q' hq' l => ?_
      have i2 : vIsi kCs kTys [q'.1, .ty "str"] (g2 ++ [l]) = .ok (.bl (isS q'.1)) (g2 ++ [l]) := by
        rcases hr q' hq' with ⟨a, e⟩ | ⟨y, _, e⟩
        · rw [e]; exact isi_b rfl kb_is
        · rw [e]; exact isi_b rfl kb_ss
      cases hq2 : isS q'.1 <;> simp [lcB, Tg.bd, wipeL, setAll, tTrue, mApp, maCons, maNil, mC, mVar, rowV, i2, hq2, vInt, t3]
    · obtain ⟨a, ha⟩ : ∃ a, r.1 = .int a := by
        rcases hr r hrm with ⟨a, e⟩ | ⟨y, _, e⟩
        · exact ⟨a, e⟩
        · rw [e] at hs; exact absurd rfl hs
      have i1 : vIsi kCs kTys [r.1, .ty "str"] g2 = .ok (.bl false) g2 := by rw [ha]; exact isi_b rfl kb_is
      simp only [f_seq, f_asg, f_name, f_tup, f_gcons, f_gnil, f_ret, f_retN, f_expr, f_if, f_nil, f_par, f_par3, f_fld, f_sub, w_op, w_un, w_app, w_acons, w_anil, w_C, w_var0, w_varS, w_callF, w_and, w_or, w_not, w_if, w_tval, w_tand, w_tor, w_tnot, w_tbl, w_ttrue, w_chain, w_prop, w_meth, w_methK, w_mkK', w_kw, w_sl, w_mpE, w_mpNo, w_vals, wp_ok, wp_bind, wp_nr, List.set, List.length_cons, List.length_nil, Nat.zero_add, Nat.reduceAdd, add_int, sub_int, le_int, lt_int, ge_int, gt_int, eqD_int, eqD_str, sl_tup, len_tup, truth, true_and, and_true, Bool.not_true, Bool.not_false, Bool.false_eq_true, if_false, if_true, List.cons_append, List.nil_append, List.append_nil, decide_true, decide_false, i1]
      unfold b__law_rows_at_3
      simp only [f_seq, f_asg, f_name, f_tup, f_gcons, f_gnil, f_ret, f_retN, f_expr, f_if, f_nil, f_par, f_par3, f_fld, f_sub, w_op, w_un, w_app, w_acons, w_anil, w_C, w_var0, w_varS, w_callF, w_and, w_or, w_not, w_if, w_tval, w_tand, w_tor, w_tnot, w_tbl, w_ttrue, w_chain, w_prop, w_meth, w_methK, w_mkK', w_kw, w_sl, w_mpE, w_mpNo, w_vals, wp_ok, wp_bind, wp_nr, List.set, List.length_cons, List.length_nil, Nat.zero_add, Nat.reduceAdd, add_int, sub_int, le_int, lt_int, ge_int, gt_int, eqD_int, eqD_str, sl_tup, len_tup, truth, true_and, and_true, Bool.not_true, Bool.not_false, Bool.false_eq_true, if_false, if_true, List.cons_append, List.nil_append, List.append_nil, decide_true, decide_false]
      refine fin (fun q => (q.1, q.2.1, if eqAge q.1 r.1 = true then 1 else 0)) (fun _ => rfl) (by simp only [finRows, if_neg hany, er, if_neg hs]) fun q' hq' l => ?_
      have i2 : vEqD false q'.1 r.1 (g2 ++ [l]) = .ok (.bl (eqAge q'.1 r.1)) (g2 ++ [l]) := by
        rw [ha]
        rcases hr q' hq' with ⟨b, e⟩ | ⟨y, hy, e⟩
        · rw [e, eqD_int]; rfl
        · unfold nmOk at hy
          rw [e, eqD_ok false rfl (toD_str 29 _ y) (toD_int 29 _ a) (by simp only [PyData.canLay0, PyData.strOk, hy]) (by simp [PyData.canLay0])]
          simp [PyData.eqv, eqAge]
      cases hq2 : eqAge q'.1 r.1 <;> simp [lcB, Tg.bd, wipeL, setAll, tTrue, mOp, mApp, maCons, maNil, mC, mVar, rowV, i2, hq2, vInt, t3]
end
end U
/-! The laws' own helpers: the rows of a standing, all of it; a draw. -/
namespace U
open PySem L2
section
variable {σ : Loc} {h h1 : Hh} {QV : Val → Hh → Prop} {N : Loc → Hh → Prop} {R : Val → Hh → Prop}
variable {n d c m : Nat} {l : List (Str × Int)} {st : List Itm} {ws ss : List Int} {sp : Int} {K : Nat} {M : Int}
theorem srt_lookup {l : List (Str × Int)} (hnd : (l.map (·.1)).Nodup) (x : Str) : (srt l).lookup x = l.lookup x := by
  cases e : l.lookup x with
  | some i => exact lookup_mem (srt_nodup hnd) ((srt_perm hnd).mem_iff.mpr (lookup_some_mem e))
  | none =>
    cases e2 : (srt l).lookup x with
    | none => rfl
    | some i =>
      have := lookup_mem hnd ((srt_perm hnd).mem_iff.mp (lookup_some_mem e2))
      rw [e] at this; cases this
theorem okSt.srt {k : Nat} (o : okSt l k st) (hnd : (l.map (·.1)).Nodup) : okSt (srt l) k st := ⟨o.len, fun k b hb => by rw [srt_lookup hnd]; exact o.kd k b hb, fun k i hi => o.le k i (by rw [← srt_lookup hnd]; exact hi)⟩
theorem nms_srt (hn : nmsOk l) (hnd : (l.map (·.1)).Nodup) : nmsOk (srt l) := fun p hp => hn p ((srt_perm hnd).mem_iff.mp hp)
theorem bars_fm (st : List Itm) (o : ∀ i ∈ st, itOk i) (F : Val → Option Val) (hF : ∀ i, F (itV i) = i.map fun p => .str p.1) : (st.map itV).filterMap F = (st.filterMap fun i => i.map (·.1)).map Val.str := by
  rw [List.filterMap_map, List.map_filterMap]
  congr 1
  funext i
  simp only [Function.comp, hF]
  cases i <;> rfl
theorem cnt_len (st : List Itm) (x : Str) : (st.filter (isK x)).length = cnt st x := by
  unfold cnt
  rw [List.countP_eq_length_filter]
theorem rows_at_ok (C : Case c n ws ss sp l h) (okr : okR ws ss sp) (ok : okNum l 3 M) (o : okSt l (ws.length - 1) st)
    (q : ∀ m g, g[m]? = some (.lst ((finRows (rawRows ws ss sp.toNat (srt l) st)).map rowV)) → h.length ≤ m → Kp [] h g → QV (.ref m) g) : Wp (f__law_rows_at [.ref c, stV st] h) QV := by
  have hnm : nmsOk l := fun p hp => (ok.nm p hp).nm
  have l4 := okr.l4
  have l1 := okr.l1
  have ls := okr.ls
  have p0 := okr.p0
  have lK := ok.lK
  have oi := o.it hnm
  have hlen := o.len
  obtain ⟨s, rfl⟩ : ∃ s : Nat, sp = s := ⟨sp.toNat, by omega⟩
  rw [show ((s : Int)).toNat = s by omega] at q
  unfold f__law_rows_at b__law_rows_at
  rw [w_fn]
  show WpF (msSeq _ _ [some (.ref c), some (stV st), none, none, none, none, none, none, none, none, none, none] h) _ _
  simp only [f_seq, f_asg, f_name, f_tup, f_gcons, f_gnil, f_ret, f_retN, f_expr, f_if, f_nil, f_par, f_par3, f_fld, f_sub, w_op, w_un, w_app, w_acons, w_anil, w_C, w_var0, w_varS, w_callF, w_and, w_or, w_not, w_if, w_tval, w_tand, w_tor, w_tnot, w_tbl, w_ttrue, w_chain, w_prop, w_meth, w_methK, w_mkK', w_kw, w_sl, w_mpE, w_mpNo, w_vals, wp_ok, wp_bind, wp_nr, List.set, List.length_cons, List.length_nil, Nat.zero_add, Nat.reduceAdd, add_int, sub_int, le_int, lt_int, ge_int, gt_int, eqD_int, eqD_str, sl_tup, len_tup, truth, true_and, and_true, Bool.not_true, Bool.not_false, Bool.false_eq_true, if_false, if_true, List.cons_append, List.nil_append, List.append_nil, decide_true, decide_false]
  -- the barred kinds
  have hsl : mSl (mVar 1) mpNo (mpE (mOp vIx (mVar 0) (mC (.str "spread")))) [some (.ref c), some (stV st), none, none, none, none, none, none, none, none, none, none] h = .ok (.tup ((st.take s).map itV)) h := by
    simp [mSl, mpNo, mpE, mOp, mC, C.spread, stV, vSl, cut_to]
  have hmi : miVal (mSl (mVar 1) mpNo (mpE (mOp vIx (mVar 0) (mC (.str "spread"))))) [some (.ref c), some (stV st), none, none, none, none, none, none, none, none, none, none] h = .ok ⟨(st.take s).map itV, fun _ => True, none⟩ h := val_tup hsl
  let F : Val → Option Val := fun v => match v with | .tup [.str x, _] => some (.str x) | _ => none
  refine pure_k (lc_pure F hmi rfl (szl (by simp; omega)) (fun _ => trivial) fun v hv l => ?_) ?_
  · obtain ⟨i, hi, rfl⟩ := List.mem_map.mp (show v ∈ (st.take s).map itV from hv)
    have hne := ne_it (oi i (List.mem_of_mem_take hi)) (h ++ [l])
    cases i with
    | none => simp only [itV] at hne ⊢; simp [lcB, Tg.bd, wipeL, tBl, mOp, mApp, maNil, mVar, tup0, hne, F]
    | some p =>
      obtain ⟨x, b⟩ := p
      have h0 := it_0 x b (h ++ [l])
      simp only [itV] at hne h0 ⊢
      simp [lcB, Tg.bd, wipeL, tBl, mOp, mApp, maNil, mVar, mC, tup0, hne, h0, F]
  have hbar : ((st.take s).map itV).filterMap F = (bars s st).map Val.str := bars_fm (st.take s) (fun i hi => oi i (List.mem_of_mem_take hi)) F fun i => by
    cases i with
    | none => rfl
    | some p => rfl
  rw [show (⟨(st.take s).map itV, fun _ => True, none⟩ : Itb).items.filterMap F = _ from hbar]
  have e1 := app_new h (.lst ((bars s st).map Val.str))
  have k1 := (Kp.refl [] h).app [.lst ((bars s st).map Val.str)]
  have hba : h.length ≤ h.length := Nat.le_refl _
  generalize hbr : h.length = br at e1 ⊢
  have C1 := C.k k1
  generalize h ++ [Ob.lst ((bars s st).map Val.str)] = g1 at e1 k1 C1 ⊢
  refine k_lst (by simp) fun fo g2 e2 l2 k2 => ?_
  have e12 := k2.k e1
  have C2 := C1.k k2
  have lbr := lt_of e1
  have hlk1 := k1.len
  have hbf : br ≠ fo := by omega
  have hcf : c ≠ fo := by have := lt_of C1.ec; omega
  have hnf : n ≠ fo := by have := lt_of C1.en; omega
  -- the ages
  unfold b__law_rows_at_8
  simp only [f_seq, f_asg, f_name, f_tup, f_gcons, f_gnil, f_ret, f_retN, f_expr, f_if, f_nil, f_par, f_par3, f_fld, f_sub, w_op, w_un, w_app, w_acons, w_anil, w_C, w_var0, w_varS, w_callF, w_and, w_or, w_not, w_if, w_tval, w_tand, w_tor, w_tnot, w_tbl, w_ttrue, w_chain, w_prop, w_meth, w_methK, w_mkK', w_kw, w_sl, w_mpE, w_mpNo, w_vals, wp_ok, wp_bind, wp_nr, List.set, List.length_cons, List.length_nil, Nat.zero_add, Nat.reduceAdd, add_int, sub_int, le_int, lt_int, ge_int, gt_int, eqD_int, eqD_str, sl_tup, len_tup, truth, true_and, and_true, Bool.not_true, Bool.not_false, Bool.false_eq_true, if_false, if_true, List.cons_append, List.nil_append, List.append_nil, decide_true, decide_false]
  have hm2 : miEnum (mVar 1) [some (.ref c), some (stV st), some (.ref br), some (.ref fo), none, none, none, none, none, none, none, none] g2 = .ok ⟨enumV 0 (st.map itV), fun _ => True, none⟩ g2 := val_enumT rfl
  refine f_forE (fun k σ g => ∃ x4 x5 x6, σ = [some (.ref c), some (stV st), some (.ref br), some (.ref fo), x4, x5, x6, none, none, none, none, none] ∧ g[fo]? = some (.lst ((ageRowsN ws ss (bars s st) st k).map rowV)) ∧ g[br]? = some (.lst ((bars s st).map Val.str)) ∧ Case c n ws ss s l g ∧ Kp [] h g) hm2 rfl
    ⟨none, none, none, rfl, by simpa [ageRowsN] using e2, e12, C2, k1.trans k2⟩ (fun _ _ _ _ => trivial) ?_ ?_
  · rintro k v σ g ev ⟨x4, x5, x6, rfl, ef, eb, Cg, Kg⟩
    have ev' : (enumV 0 (st.map itV))[k]? = some v := ev
    rw [enumV_get, Nat.zero_add, List.getElem?_map] at ev'
    cases ei : st[k]? with
    | none => rw [ei] at ev'; cases ev'
    | some i =>
      rw [ei] at ev'
      simp at ev'
      subst ev'
      have hk : k < st.length := (List.getElem?_eq_some_iff.mp ei).1
      have hne := ne_it (oi i (List.mem_of_getElem? ei)) g
      have hlr := ageRowsN_len (ws := ws) (ss := ss) (st := st) (bars s st) k
      simp only [f_seq, f_asg, f_name, f_tup, f_gcons, f_gnil, f_ret, f_retN, f_expr, f_if, f_nil, f_par, f_par3, f_fld, f_sub, w_op, w_un, w_app, w_acons, w_anil, w_C, w_var0, w_varS, w_callF, w_and, w_or, w_not, w_if, w_tval, w_tand, w_tor, w_tnot, w_tbl, w_ttrue, w_chain, w_prop, w_meth, w_methK, w_mkK', w_kw, w_sl, w_mpE, w_mpNo, w_vals, wp_ok, wp_bind, wp_nr, List.set, List.length_cons, List.length_nil, Nat.zero_add, Nat.reduceAdd, add_int, sub_int, le_int, lt_int, ge_int, gt_int, eqD_int, eqD_str, sl_tup, len_tup, truth, true_and, and_true, Bool.not_true, Bool.not_false, Bool.false_eq_true, if_false, if_true, List.cons_append, List.nil_append, List.append_nil, decide_true, decide_false, tup0, hne]
      cases i with
      | none =>
        simp only [f_seq, f_asg, f_name, f_tup, f_gcons, f_gnil, f_ret, f_retN, f_expr, f_if, f_nil, f_par, f_par3, f_fld, f_sub, w_op, w_un, w_app, w_acons, w_anil, w_C, w_var0, w_varS, w_callF, w_and, w_or, w_not, w_if, w_tval, w_tand, w_tor, w_tnot, w_tbl, w_ttrue, w_chain, w_prop, w_meth, w_methK, w_mkK', w_kw, w_sl, w_mpE, w_mpNo, w_vals, wp_ok, wp_bind, wp_nr, List.set, List.length_cons, List.length_nil, Nat.zero_add, Nat.reduceAdd, add_int, sub_int, le_int, lt_int, ge_int, gt_int, eqD_int, eqD_str, sl_tup, len_tup, truth, true_and, and_true, Bool.not_true, Bool.not_false, Bool.false_eq_true, if_false, if_true, List.cons_append, List.nil_append, List.append_nil, decide_true, decide_false, Option.isSome_none]
        exact ⟨_, _, _, rfl, by rw [ef]; simp [ageRowsN, ei], eb, Cg, Kg⟩
      | some p =>
        obtain ⟨x, b⟩ := p
        simp only [f_seq, f_asg, f_name, f_tup, f_gcons, f_gnil, f_ret, f_retN, f_expr, f_if, f_nil, f_par, f_par3, f_fld, f_sub, w_op, w_un, w_app, w_acons, w_anil, w_C, w_var0, w_varS, w_callF, w_and, w_or, w_not, w_if, w_tval, w_tand, w_tor, w_tnot, w_tbl, w_ttrue, w_chain, w_prop, w_meth, w_methK, w_mkK', w_kw, w_sl, w_mpE, w_mpNo, w_vals, wp_ok, wp_bind, wp_nr, List.set, List.length_cons, List.length_nil, Nat.zero_add, Nat.reduceAdd, add_int, sub_int, le_int, lt_int, ge_int, gt_int, eqD_int, eqD_str, sl_tup, len_tup, truth, true_and, and_true, Bool.not_true, Bool.not_false, Bool.false_eq_true, if_false, if_true, List.cons_append, List.nil_append, List.append_nil, decide_true, decide_false, Option.isSome_some]
        refine k_lst (by simp) fun n3 g3 e3 l3 k3 => ?_
        have ef3 := k3.k ef
        have eb3 := k3.k eb
        have C3 := Cg.k k3
        have hw : ∃ w, vIx (.ref c) (.str (if b then "skipped" else "weights")) g3 = .ok (.tup (w.map .int)) g3 ∧ w = (if b then ss else ws) := by
          cases b with
          | true => exact ⟨ss, C3.skipped, rfl⟩
          | false => exact ⟨ws, C3.weights, rfl⟩
        obtain ⟨w, hw1, hw2⟩ := hw
        have hsel : vIx (.ref n3) (.int (if b then 1 else 0)) g3 = .ok (.str (if b then "skipped" else "weights")) g3 := by
          cases b with
          | true => exact ix_lst e3 rfl
          | false => exact ix_lst e3 rfl
        have hkw : w[k]? = some (w.getD k 0) := by
          have : k < w.length := by rw [hw2]; split <;> omega
          rw [List.getD_eq_getElem?_getD, List.getElem?_eq_getElem this]; rfl
        have hix : vIx (.tup (w.map Val.int)) (.int (k : Int)) g3 = .ok (.int (w.getD k 0)) g3 := ix_tup (by rw [List.getElem?_map, hkw]; rfl) g3
        simp only [f_seq, f_asg, f_name, f_tup, f_gcons, f_gnil, f_ret, f_retN, f_expr, f_if, f_nil, f_par, f_par3, f_fld, f_sub, w_op, w_un, w_app, w_acons, w_anil, w_C, w_var0, w_varS, w_callF, w_and, w_or, w_not, w_if, w_tval, w_tand, w_tor, w_tnot, w_tbl, w_ttrue, w_chain, w_prop, w_meth, w_methK, w_mkK', w_kw, w_sl, w_mpE, w_mpNo, w_vals, wp_ok, wp_bind, wp_nr, List.set, List.length_cons, List.length_nil, Nat.zero_add, Nat.reduceAdd, add_int, sub_int, le_int, lt_int, ge_int, gt_int, eqD_int, eqD_str, sl_tup, len_tup, truth, true_and, and_true, Bool.not_true, Bool.not_false, Bool.false_eq_true, if_false, if_true, List.cons_append, List.nil_append, List.append_nil, decide_true, decide_false, it_1, vInt]
        rw [hsel]
        simp only [f_seq, f_asg, f_name, f_tup, f_gcons, f_gnil, f_ret, f_retN, f_expr, f_if, f_nil, f_par, f_par3, f_fld, f_sub, w_op, w_un, w_app, w_acons, w_anil, w_C, w_var0, w_varS, w_callF, w_and, w_or, w_not, w_if, w_tval, w_tand, w_tor, w_tnot, w_tbl, w_ttrue, w_chain, w_prop, w_meth, w_methK, w_mkK', w_kw, w_sl, w_mpE, w_mpNo, w_vals, wp_ok, wp_bind, wp_nr, List.set, List.length_cons, List.length_nil, Nat.zero_add, Nat.reduceAdd, add_int, sub_int, le_int, lt_int, ge_int, gt_int, eqD_int, eqD_str, sl_tup, len_tup, truth, true_and, and_true, Bool.not_true, Bool.not_false, Bool.false_eq_true, if_false, if_true, List.cons_append, List.nil_append, List.append_nil, decide_true, decide_false, hw1, hix]
        unfold b__law_rows_at_1
        simp only [f_seq, f_asg, f_name, f_tup, f_gcons, f_gnil, f_ret, f_retN, f_expr, f_if, f_nil, f_par, f_par3, f_fld, f_sub, w_op, w_un, w_app, w_acons, w_anil, w_C, w_var0, w_varS, w_callF, w_and, w_or, w_not, w_if, w_tval, w_tand, w_tor, w_tnot, w_tbl, w_ttrue, w_chain, w_prop, w_meth, w_methK, w_mkK', w_kw, w_sl, w_mpE, w_mpNo, w_vals, wp_ok, wp_bind, wp_nr, List.set, List.length_cons, List.length_nil, Nat.zero_add, Nat.reduceAdd, add_int, sub_int, le_int, lt_int, ge_int, gt_int, eqD_int, eqD_str, sl_tup, len_tup, truth, true_and, and_true, Bool.not_true, Bool.not_false, Bool.false_eq_true, if_false, if_true, List.cons_append, List.nil_append, List.append_nil, decide_true, decide_false, w_mt, isT_lst ef3, it_0, in_strs true eb3]
        have hmul : ∀ z : Bool, vMulA (.int (w.getD k 0)) (.int (if z then 1 else 0)) g3 = .ok (.int (w.getD k 0 * (if z then 1 else 0))) g3 := fun z => mul_int g3 (by cases z <;> simp)
        simp only [vInt]
        simp only [f_seq, f_asg, f_name, f_tup, f_gcons, f_gnil, f_ret, f_retN, f_expr, f_if, f_nil, f_par, f_par3, f_fld, f_sub, w_op, w_un, w_app, w_acons, w_anil, w_C, w_var0, w_varS, w_callF, w_and, w_or, w_not, w_if, w_tval, w_tand, w_tor, w_tnot, w_tbl, w_ttrue, w_chain, w_prop, w_meth, w_methK, w_mkK', w_kw, w_sl, w_mpE, w_mpNo, w_vals, wp_ok, wp_bind, wp_nr, List.set, List.length_cons, List.length_nil, Nat.zero_add, Nat.reduceAdd, add_int, sub_int, le_int, lt_int, ge_int, gt_int, eqD_int, eqD_str, sl_tup, len_tup, truth, true_and, and_true, Bool.not_true, Bool.not_false, Bool.false_eq_true, if_false, if_true, List.cons_append, List.nil_append, List.append_nil, decide_true, decide_false, hmul]
        refine k_tup (by simp) ?_
        rw [app_lst ef3 (by simp; omega), wp_ok]
        have l2' : h.length ≤ fo := by omega
        refine ⟨_, _, _, rfl, ?_, set_at eb3 (by omega), ⟨C3.c4, C3.n4, C3.ne, set_at C3.ec (Ne.symm hcf), set_at C3.en (Ne.symm hnf)⟩, (Kg.trans k3).set' l2'⟩
        rw [set_self ef3]
        congr 2
        simp only [ageRowsN, ei, List.map_append, List.map_cons, List.map_nil, rowV, bar0, ← hw2]
        by_cases hb : x ∈ bars s st <;> simp [hb]
  · rintro σ g ⟨x4, x5, x6, rfl, ef, eb, Cg, Kg⟩
    have hen : (⟨enumV 0 (st.map itV), fun _ => True, none⟩ : Itb).items.length = st.length := by
      show (enumV 0 (st.map itV)).length = _
      rw [enumV_len, List.length_map]
    rw [hen] at ef
    -- the kinds
    unfold b__law_rows_at_7
    simp only [f_seq, f_asg, f_name, f_tup, f_gcons, f_gnil, f_ret, f_retN, f_expr, f_if, f_nil, f_par, f_par3, f_fld, f_sub, w_op, w_un, w_app, w_acons, w_anil, w_C, w_var0, w_varS, w_callF, w_and, w_or, w_not, w_if, w_tval, w_tand, w_tor, w_tnot, w_tbl, w_ttrue, w_chain, w_prop, w_meth, w_methK, w_mkK', w_kw, w_sl, w_mpE, w_mpNo, w_vals, wp_ok, wp_bind, wp_nr, List.set, List.length_cons, List.length_nil, Nat.zero_add, Nat.reduceAdd, add_int, sub_int, le_int, lt_int, ge_int, gt_int, eqD_int, eqD_str, sl_tup, len_tup, truth, true_and, and_true, Bool.not_true, Bool.not_false, Bool.false_eq_true, if_false, if_true, List.cons_append, List.nil_append, List.append_nil, decide_true, decide_false]
    have hs := sort_dct Cg.en (by omega)
    have hsn : (sSort (l.map (·.1))).map Val.str = ((srt l).map (·.1)).map Val.str := by rw [srt_keys]
    rw [hsn] at hs
    have es := app_new g (.lst (((srt l).map (·.1)).map Val.str))
    have hmi2 : miVal (mApp vSortS (maCons (mOp vIx (mVar 0) (mC (.str "numbers"))) maNil)) [some (.ref c), some (stV st), some (.ref br), some (.ref fo), x4, x5, x6, none, none, none, none, none] g = .ok ⟨((srt l).map (·.1)).map Val.str, fun h => h[g.length]? = some (.lst (((srt l).map (·.1)).map Val.str)), none⟩ (g ++ [.lst (((srt l).map (·.1)).map Val.str)]) :=
      val_lst (n := g.length) (by simp [mApp, maCons, maNil, mOp, mC, Cg.numbers, hs]) es
    have k3 := Kg.app [.lst (((srt l).map (·.1)).map Val.str)]
    have C3 := Cg.k ((Kp.refl [] g).app [.lst (((srt l).map (·.1)).map Val.str)])
    let P : Nat → List (Str × Int) := fun k => olds ((srt l).take k) st
    have hsl3 : (srt l).length ≤ 3 := by have := (srt_perm ok.nd).length_eq; omega
    refine f_forE (fun k σ g' => ∃ x7 x8, σ = [some (.ref c), some (stV st), some (.ref br), some (.ref fo), x4, x5, x6, x7, x8, none, none, none] ∧ g'[fo]? = some (.lst ((ageRowsN ws ss (bars s st) st st.length ++ kindRows ws (bars s st) (P k)).map rowV)) ∧ g'[br]? = some (.lst ((bars s st).map Val.str)) ∧ Case c n ws ss s l g' ∧ g'[g.length]? = some (.lst (((srt l).map (·.1)).map Val.str)) ∧ Kp [] h g') hmi2 rfl
      ⟨none, none, rfl, by rw [app_at _ ef]; simp [P, olds, kindRows], app_at _ eb, C3, es, k3⟩ (fun k σ g ⟨_, _, _, _, _, _, e, _⟩ => e) ?_ ?_
    · rintro k v σ g' ev ⟨x7, x8, rfl, ef', eb', C', es', K'⟩
      have ev' : (((srt l).map (·.1)).map Val.str)[k]? = some v := ev
      rw [List.getElem?_map, List.getElem?_map] at ev'
      cases ep : (srt l)[k]? with
      | none => rw [ep] at ev'; cases ev'
      | some p =>
        rw [ep] at ev'
        simp at ev'
        subst ev'
        have hpl : p ∈ l := (srt_perm ok.nd).mem_iff.mp (List.mem_of_getElem? ep)
        have hlk := lookup_mem ok.nd hpl
        have hnp := hnm p hpl
        simp only [f_seq, f_asg, f_name, f_tup, f_gcons, f_gnil, f_ret, f_retN, f_expr, f_if, f_nil, f_par, f_par3, f_fld, f_sub, w_op, w_un, w_app, w_acons, w_anil, w_C, w_var0, w_varS, w_callF, w_and, w_or, w_not, w_if, w_tval, w_tand, w_tor, w_tnot, w_tbl, w_ttrue, w_chain, w_prop, w_meth, w_methK, w_mkK', w_kw, w_sl, w_mpE, w_mpNo, w_vals, wp_ok, wp_bind, wp_nr, List.set, List.length_cons, List.length_nil, Nat.zero_add, Nat.reduceAdd, add_int, sub_int, le_int, lt_int, ge_int, gt_int, eqD_int, eqD_str, sl_tup, len_tup, truth, true_and, and_true, Bool.not_true, Bool.not_false, Bool.false_eq_true, if_false, if_true, List.cons_append, List.nil_append, List.append_nil, decide_true, decide_false, C'.numbers, ix_nd C'.en hlk]
        -- how many items
        have hmi3 : miVal (mVar 1) [some (.ref c), some (stV st), some (.ref br), some (.ref fo), x4, x5, x6, some (.str p.1), x8, none, none, none] g' = .ok ⟨st.map itV, fun _ => True, none⟩ g' := val_tup rfl
        let F3 : Val → Option Val := fun v => match v with | .tup [.str x, _] => if x = p.1 then some v else none | _ => none
        refine pure_k (lc_pure F3 hmi3 rfl (szl (by simp; omega)) (fun _ => trivial) fun v hv l => ?_) ?_
        · obtain ⟨i, hi, rfl⟩ := List.mem_map.mp (show v ∈ st.map itV from hv)
          have hne := ne_it (oi i hi) (g' ++ [l])
          cases i with
          | none => simp only [itV] at hne ⊢; simp [lcB, Tg.bd, wipeL, tAnd2, tBl, mOp, mApp, maNil, mVar, tup0, hne, F3]
          | some q' =>
            obtain ⟨x, b⟩ := q'
            have h0 := it_0 x b (g' ++ [l])
            simp only [itV] at hne h0 ⊢
            by_cases z : x = p.1
            · subst z
              simp [lcB, Tg.bd, wipeL, tAnd2, tBl, mOp, mApp, maNil, mVar, mC, tup0, hne, h0, F3]
            · simp [lcB, Tg.bd, wipeL, tAnd2, tBl, mOp, mApp, maNil, mVar, mC, tup0, hne, h0, F3, z]
        have hF3 : ((st.map itV).filterMap F3).length = cnt st p.1 := by
          rw [List.filterMap_map, ← cnt_len]
          have : ∀ st : List Itm, (st.filterMap (F3 ∘ itV)).length = (st.filter (isK p.1)).length := by
            intro st
            induction st with
            | nil => rfl
            | cons i r ih =>
              rw [List.filterMap_cons, List.filter_cons]
              cases i with
              | none => simpa [F3, itV, isK] using ih
              | some q' =>
                obtain ⟨x, b⟩ := q'
                by_cases z : x = p.1
                · simp [F3, itV, isK, z]; exact ih
                · simp [F3, itV, isK, z]; exact ih
          exact this st
        have e5 := app_new g' (.lst ((st.map itV).filterMap F3))
        have k5 := (Kp.refl [] g').app [.lst ((st.map itV).filterMap F3)]
        rw [show (⟨st.map itV, fun _ => True, none⟩ : Itb).items.filterMap F3 = (st.map itV).filterMap F3 from rfl]
        generalize g'.length = r5 at e5 ⊢
        generalize g' ++ [Ob.lst ((st.map itV).filterMap F3)] = g5 at e5 k5 ⊢
        rw [len_lst e5, hF3]
        simp only [f_seq, f_asg, f_name, f_tup, f_gcons, f_gnil, f_ret, f_retN, f_expr, f_if, f_nil, f_par, f_par3, f_fld, f_sub, w_op, w_un, w_app, w_acons, w_anil, w_C, w_var0, w_varS, w_callF, w_and, w_or, w_not, w_if, w_tval, w_tand, w_tor, w_tnot, w_tbl, w_ttrue, w_chain, w_prop, w_meth, w_methK, w_mkK', w_kw, w_sl, w_mpE, w_mpNo, w_vals, wp_ok, wp_bind, wp_nr, List.set, List.length_cons, List.length_nil, Nat.zero_add, Nat.reduceAdd, add_int, sub_int, le_int, lt_int, ge_int, gt_int, eqD_int, eqD_str, sl_tup, len_tup, truth, true_and, and_true, Bool.not_true, Bool.not_false, Bool.false_eq_true, if_false, if_true, List.cons_append, List.nil_append, List.append_nil, decide_true, decide_false]
        have ef5 := k5.k ef'
        have eb5 := k5.k eb'
        have C5 := C'.k k5
        have es5 := k5.k es'
        have K5 := K'.trans k5
        have hP : P (k + 1) = P k ++ (if 0 < p.2 - (cnt st p.1 : Int) then [(p.1, p.2 - (cnt st p.1 : Int))] else []) := by
          show olds ((srt l).take (k + 1)) st = _
          rw [List.take_add_one, ep]
          unfold olds
          rw [List.filterMap_append]
          congr 1
          show List.filterMap _ [p] = _
          rw [List.filterMap_cons, List.filterMap_nil]
          by_cases z : 0 < p.2 - (cnt st p.1 : Int)
          · simp only [if_pos z]
          · simp only [if_neg z]
        have hPl : (P k).length ≤ 3 := by
          refine Nat.le_trans (List.length_filterMap_le _ _) ?_
          rw [List.length_take]; omega
        unfold b__law_rows_at_2
        simp only [f_seq, f_asg, f_name, f_tup, f_gcons, f_gnil, f_ret, f_retN, f_expr, f_if, f_nil, f_par, f_par3, f_fld, f_sub, w_op, w_un, w_app, w_acons, w_anil, w_C, w_var0, w_varS, w_callF, w_and, w_or, w_not, w_if, w_tval, w_tand, w_tor, w_tnot, w_tbl, w_ttrue, w_chain, w_prop, w_meth, w_methK, w_mkK', w_kw, w_sl, w_mpE, w_mpNo, w_vals, wp_ok, wp_bind, wp_nr, List.set, List.length_cons, List.length_nil, Nat.zero_add, Nat.reduceAdd, add_int, sub_int, le_int, lt_int, ge_int, gt_int, eqD_int, eqD_str, sl_tup, len_tup, truth, true_and, and_true, Bool.not_true, Bool.not_false, Bool.false_eq_true, if_false, if_true, List.cons_append, List.nil_append, List.append_nil, decide_true, decide_false]
        by_cases z : 0 < p.2 - (cnt st p.1 : Int)
        · rw [decide_eq_true z]
          rw [if_pos z] at hP
          have hlw : 1 ≤ (ws.map Val.int).length := by simpa using l1
          have hix : vIx (.tup (ws.map Val.int)) (.int (-1)) g5 = .ok (.int (ws.getD (ws.length - 1) 0)) g5 := by
            have : ws[ws.length - 1]? = some (ws.getD (ws.length - 1) 0) := by
              rw [List.getD_eq_getElem?_getD, List.getElem?_eq_getElem (by omega)]; rfl
            simp only [vIx, atI_m1 _ hlw, List.getElem?_map, List.length_map, this]; rfl
          have hmul : ∀ z : Bool, vMulA (.int (ws.getD (ws.length - 1) 0)) (.int (if z then 1 else 0)) g5 = .ok (.int (ws.getD (ws.length - 1) 0 * (if z then 1 else 0))) g5 := fun z => mul_int g5 (by cases z <;> simp)
          have hal := ageRowsN_len (ws := ws) (ss := ss) (st := st) (bars s st) st.length
          simp only [f_seq, f_asg, f_name, f_tup, f_gcons, f_gnil, f_ret, f_retN, f_expr, f_if, f_nil, f_par, f_par3, f_fld, f_sub, w_op, w_un, w_app, w_acons, w_anil, w_C, w_var0, w_varS, w_callF, w_and, w_or, w_not, w_if, w_tval, w_tand, w_tor, w_tnot, w_tbl, w_ttrue, w_chain, w_prop, w_meth, w_methK, w_mkK', w_kw, w_sl, w_mpE, w_mpNo, w_vals, wp_ok, wp_bind, wp_nr, List.set, List.length_cons, List.length_nil, Nat.zero_add, Nat.reduceAdd, add_int, sub_int, le_int, lt_int, ge_int, gt_int, eqD_int, eqD_str, sl_tup, len_tup, truth, true_and, and_true, Bool.not_true, Bool.not_false, Bool.false_eq_true, if_false, if_true, List.cons_append, List.nil_append, List.append_nil, decide_true, decide_false, w_mt, isT_lst ef5, C5.weights, vNeg, hix, in_strs true eb5]
          simp only [vInt]
          simp only [f_seq, f_asg, f_name, f_tup, f_gcons, f_gnil, f_ret, f_retN, f_expr, f_if, f_nil, f_par, f_par3, f_fld, f_sub, w_op, w_un, w_app, w_acons, w_anil, w_C, w_var0, w_varS, w_callF, w_and, w_or, w_not, w_if, w_tval, w_tand, w_tor, w_tnot, w_tbl, w_ttrue, w_chain, w_prop, w_meth, w_methK, w_mkK', w_kw, w_sl, w_mpE, w_mpNo, w_vals, wp_ok, wp_bind, wp_nr, List.set, List.length_cons, List.length_nil, Nat.zero_add, Nat.reduceAdd, add_int, sub_int, le_int, lt_int, ge_int, gt_int, eqD_int, eqD_str, sl_tup, len_tup, truth, true_and, and_true, Bool.not_true, Bool.not_false, Bool.false_eq_true, if_false, if_true, List.cons_append, List.nil_append, List.append_nil, decide_true, decide_false, hmul]
          refine k_tup (by simp) ?_
          rw [app_lst ef5 (by simp [kindRows]; omega), wp_ok]
          have hgl := lt_of ef
          refine ⟨_, _, rfl, ?_, set_at eb5 (by omega), ⟨C5.c4, C5.n4, C5.ne, set_at C5.ec (Ne.symm hcf), set_at C5.en (Ne.symm hnf)⟩, set_at es5 (by omega), K5.set' (by omega)⟩
          rw [set_self ef5, hP]
          congr 2
          simp only [kindRows, List.map_append, List.map_cons, List.map_nil, rowV, bar0, List.append_assoc]
          by_cases hb : p.1 ∈ bars s st <;> simp [hb]
        · rw [decide_eq_false z]
          rw [if_neg z, List.append_nil] at hP
          simp only [f_seq, f_asg, f_name, f_tup, f_gcons, f_gnil, f_ret, f_retN, f_expr, f_if, f_nil, f_par, f_par3, f_fld, f_sub, w_op, w_un, w_app, w_acons, w_anil, w_C, w_var0, w_varS, w_callF, w_and, w_or, w_not, w_if, w_tval, w_tand, w_tor, w_tnot, w_tbl, w_ttrue, w_chain, w_prop, w_meth, w_methK, w_mkK', w_kw, w_sl, w_mpE, w_mpNo, w_vals, wp_ok, wp_bind, wp_nr, List.set, List.length_cons, List.length_nil, Nat.zero_add, Nat.reduceAdd, add_int, sub_int, le_int, lt_int, ge_int, gt_int, eqD_int, eqD_str, sl_tup, len_tup, truth, true_and, and_true, Bool.not_true, Bool.not_false, Bool.false_eq_true, if_false, if_true, List.cons_append, List.nil_append, List.append_nil, decide_true, decide_false]
          exact ⟨_, _, rfl, by rw [hP]; exact ef5, eb5, C5, es5, K5⟩
    · rintro σ g' ⟨x7, x8, rfl, ef', eb', C', es', K'⟩
      have hil : (⟨((srt l).map (·.1)).map Val.str, fun h => h[g.length]? = some (.lst (((srt l).map (·.1)).map Val.str)), none⟩ : Itb).items.length = (srt l).length := by
        show (((srt l).map (·.1)).map Val.str).length = _
        simp
      rw [hil] at ef'
      have hPe : P (srt l).length = olds (srt l) st := by show olds ((srt l).take (srt l).length) st = _; rw [List.take_length]
      rw [hPe] at ef'
      have hal := ageRowsN_len (ws := ws) (ss := ss) (st := st) (bars s st) st.length
      have hol : (olds (srt l) st).length ≤ 3 := Nat.le_trans (List.length_filterMap_le _ _) hsl3
      have oks := srt_okN ok
      refine rows_at_end (h1 := h) (raw_pl (nms_srt hnm ok.nd)) (raw_ne (sp := s) oks.po fun p hp => (oks.vl p hp).1) (by unfold rawRows kindRows; rw [List.length_append, List.length_map]; omega) ef' (by omega) K' q
end
end U
/-! k08: plays of songs that are told apart, plain. -/
namespace U
open PySem L2
abbrev Song := Str × Nat
abbrev Play := Song × Bool
/-- the standing behind plays, the latest first -/
def ofS : Nat → List Song → List Play → List Itm
  | 0, _, _ => []
  | n + 1, seen, [] => none :: ofS n seen []
  | n + 1, seen, p :: r => (if p.1 ∈ seen then none else some (p.1.1, p.2)) :: ofS n (p.1 :: seen) r
def pres : Nat → List Song → List Play → List Song
  | 0, _, _ => []
  | _ + 1, _, [] => []
  | n + 1, seen, p :: r => (if p.1 ∈ seen then [] else [p.1]) ++ pres n (p.1 :: seen) r
theorem ofS_len : ∀ (n : Nat) (seen : List Song) (rp : List Play), (ofS n seen rp).length = n
  | 0, _, _ => rfl
  | n + 1, seen, [] => by rw [ofS, List.length_cons, ofS_len n]
  | n + 1, seen, p :: r => by rw [ofS, List.length_cons, ofS_len n]
theorem ofS_congr : ∀ (n : Nat) (s1 s2 : List Song) (rp : List Play), (∀ x, x ∈ s1 ↔ x ∈ s2) → ofS n s1 rp = ofS n s2 rp
  | 0, _, _, _, _ => rfl
  | n + 1, s1, s2, [], e => by rw [ofS, ofS, ofS_congr n s1 s2 [] e]
  | n + 1, s1, s2, p :: r, e => by
    rw [ofS, ofS, ofS_congr n (p.1 :: s1) (p.1 :: s2) r fun x => by simp [e]]
    by_cases h : p.1 ∈ s1
    · rw [if_pos h, if_pos ((e _).mp h)]
    · rw [if_neg h, if_neg fun z => h ((e _).mpr z)]
theorem ofS_nil : ∀ (n : Nat) (seen : List Song), ofS n seen [] = List.replicate n none
  | 0, _ => rfl
  | n + 1, seen => by rw [ofS, ofS_nil n, List.replicate_succ]
theorem ofS_get : ∀ (n : Nat) (seen : List Song) (rp : List Play) (j : Nat), j < n → (ofS n seen rp)[j]? = some (match rp[j]? with
    | some p => if p.1 ∈ seen ∨ p.1 ∈ (rp.take j).map (·.1) then none else some (p.1.1, p.2)
    | none => none)
  | 0, _, _, j, h => by omega
  | n + 1, seen, [], j, h => by
    rw [ofS_nil, List.getElem?_replicate, if_pos h]; rfl
  | n + 1, seen, p :: r, 0, h => by simp [ofS]
  | n + 1, seen, p :: r, j + 1, h => by
    rw [ofS, List.getElem?_cons_succ, ofS_get n (p.1 :: seen) r j (by omega), List.getElem?_cons_succ]
    cases e : r[j]? with
    | none => rfl
    | some q =>
      simp only [List.mem_cons, List.take_succ_cons, List.map_cons]
      congr 1
      by_cases a : q.1 = p.1 <;> by_cases b : q.1 ∈ seen <;> by_cases c : q.1 ∈ (r.take j).map (·.1) <;> simp [a, b, c]
theorem pres_not : ∀ (n : Nat) (seen : List Song) (rp : List Play), ∀ x ∈ pres n seen rp, x ∉ seen
  | 0, _, _, x, h => by cases h
  | n + 1, _, [], x, h => by cases h
  | n + 1, seen, p :: r, x, h => by
    rcases List.mem_append.mp h with h | h
    · by_cases z : p.1 ∈ seen
      · rw [if_pos z] at h; cases h
      · rw [if_neg z] at h; simp at h; rw [h]; exact z
    · exact fun z => pres_not n (p.1 :: seen) r x h (by simp [z])
theorem pres_nodup : ∀ (n : Nat) (seen : List Song) (rp : List Play), (pres n seen rp).Nodup
  | 0, _, _ => List.nodup_nil
  | n + 1, _, [] => List.nodup_nil
  | n + 1, seen, p :: r => by
    refine List.nodup_append.mpr ⟨?_, pres_nodup n _ r, fun a ha b hb => ?_⟩
    · split <;> simp
    · by_cases z : p.1 ∈ seen
      · rw [if_pos z] at ha; cases ha
      · rw [if_neg z] at ha
        simp at ha
        intro e
        exact pres_not n (p.1 :: seen) r b hb (by rw [← e, ha]; simp)
theorem pres_mem : ∀ (n : Nat) (seen : List Song) (rp : List Play), ∀ x ∈ pres n seen rp, x ∈ (rp.take n).map (·.1)
  | 0, _, _, x, h => by cases h
  | n + 1, _, [], x, h => by cases h
  | n + 1, seen, p :: r, x, h => by
    rw [List.take_succ_cons, List.map_cons]
    rcases List.mem_append.mp h with h | h
    · by_cases z : p.1 ∈ seen
      · rw [if_pos z] at h; cases h
      · rw [if_neg z] at h; simp at h; rw [h]; simp
    · exact List.mem_cons_of_mem _ (pres_mem n _ r x h)
theorem cnt_pres (K : Str) : ∀ (n : Nat) (seen : List Song) (rp : List Play), cnt (ofS n seen rp) K = ((pres n seen rp).filter fun s => decide (s.1 = K)).length
  | 0, _, _ => rfl
  | n + 1, seen, [] => by
    rw [ofS_nil]
    show (List.replicate (n + 1) none).countP (isK K) = 0
    rw [List.countP_eq_zero]
    intro i hi
    have := List.eq_of_mem_replicate hi
    subst this
    simp [isK]
  | n + 1, seen, p :: r => by
    have ih := cnt_pres K n (p.1 :: seen) r
    unfold cnt at ih ⊢
    rw [ofS, List.countP_cons, ih, pres, List.filter_append, List.length_append]
    by_cases z : p.1 ∈ seen
    · simp [z, isK]
    · by_cases e : p.1.1 = K
      · simp [z, isK, e]; omega
      · simp [z, isK, e]
theorem ofS_kind : ∀ (n : Nat) (seen : List Song) (rp : List Play) (k : Str) (b : Bool), some (k, b) ∈ ofS n seen rp → ∃ s ∈ (rp.take n).map (·.1), s.1 = k
  | 0, _, _, _, _, h => by cases h
  | n + 1, seen, [], k, b, h => by rw [ofS_nil] at h; have := List.eq_of_mem_replicate h; cases this
  | n + 1, seen, p :: r, k, b, h => by
    rw [List.take_succ_cons, List.map_cons]
    rw [ofS] at h
    rcases List.mem_cons.mp h with h | h
    · by_cases z : p.1 ∈ seen
      · rw [if_pos z] at h; cases h
      · rw [if_neg z] at h; simp at h; exact ⟨p.1, by simp, h.1.symm⟩
    · obtain ⟨s, hs, e⟩ := ofS_kind n _ r k b h
      exact ⟨s, List.mem_cons_of_mem _ hs, e⟩
/-- a song of the list -/
def okSong (l : List (Str × Int)) (s : Song) : Prop := ∃ N : Int, l.lookup s.1 = some N ∧ (s.2 : Int) < N
theorem cnt_le {l : List (Str × Int)} {n : Nat} {rp : List Play} (ho : ∀ p ∈ rp, okSong l p.1) {K : Str} {N : Int} (hK : l.lookup K = some N) (x : List Song) (hx : x.Nodup) (hxs : ∀ s ∈ x, okSong l s ∧ s.1 = K ∧ s ∉ pres n [] rp) :
    ((cnt (ofS n [] rp) K + x.length : Nat) : Int) ≤ N ∨ (cnt (ofS n [] rp) K + x.length = 0) := by
  rw [cnt_pres]
  have hl : ∀ ys : List Song, ys.Nodup → (∀ s ∈ ys, okSong l s ∧ s.1 = K) → ys.length = 0 ∨ (ys.length : Int) ≤ N := fun ys nd hy => by
    cases ys with
    | nil => exact .inl rfl
    | cons y ys =>
      refine .inr ?_
      have hN : ∀ s ∈ (y :: ys), (s.2 : Int) < N := fun s hs => by
        obtain ⟨⟨N', e1, e2⟩, e3⟩ := hy s hs
        rw [e3, hK] at e1
        cases e1; exact e2
      have h0 := hN y (by simp)
      have := pig ((y :: ys).map (·.2)) (List.range N.toNat) (List.Pairwise.map _ (fun a b hab => ?_) (List.Pairwise.imp_of_mem (fun ha hb h => (⟨h, ha, hb⟩ : _ ∧ _ ∧ _)) nd)) fun i hi => by
        obtain ⟨s, hs, rfl⟩ := List.mem_map.mp hi
        have := hN s hs
        rw [List.mem_range]; omega
      · rw [List.length_map, List.length_range] at this; omega
      · intro e
        obtain ⟨h1, ha, hb⟩ := hab
        refine h1 ?_
        have k1 := (hy a ha).2
        have k2 := (hy b hb).2
        obtain ⟨a1, a2⟩ := a
        obtain ⟨b1, b2⟩ := b
        simp at k1 k2 e
        rw [k1, k2, e]
  have := hl ((pres n [] rp).filter (fun s => decide (s.1 = K)) ++ x) (List.nodup_append.mpr ⟨(pres_nodup n [] rp).sublist List.filter_sublist, hx, fun a ha b hb e => (hxs b hb).2.2 (e ▸ (List.mem_filter.mp ha).1)⟩) fun s hs => by
    rcases List.mem_append.mp hs with hs | hs
    · obtain ⟨h1, h2⟩ := List.mem_filter.mp hs
      have h3 := pres_mem n [] rp s h1
      obtain ⟨p, hp, rfl⟩ := List.mem_map.mp h3
      exact ⟨ho p (List.mem_of_mem_take hp), by simpa using h2⟩
    · exact ⟨(hxs s hs).1, (hxs s hs).2.1⟩
  rw [List.length_append] at this
  rcases this with h | h
  · exact .inr h
  · exact .inl (by omega)
theorem ofS_ok {l : List (Str × Int)} {n : Nat} {rp : List Play} (ho : ∀ p ∈ rp, okSong l p.1) (hv : ∀ x i, l.lookup x = some i → 0 ≤ i) : okSt l n (ofS n [] rp) := by
  refine ⟨ofS_len n [] rp, fun k b hb => ?_, fun k i hi => ?_⟩
  · obtain ⟨s, hs, rfl⟩ := ofS_kind n [] rp k b hb
    obtain ⟨p, hp, rfl⟩ := List.mem_map.mp hs
    obtain ⟨N, e, _⟩ := ho p (List.mem_of_mem_take hp)
    rw [e]; rfl
  · have := cnt_le (n := n) ho hi [] List.nodup_nil (by simp)
    have := hv k i hi
    simp at *
    omega
/-! ### one play more -/
/-- where a song stands first -/
def fstAt (s : Song) : List Song → Option Nat
  | [] => none
  | x :: r => if x = s then some 0 else (fstAt s r).map (· + 1)
theorem fstAt_none {s : Song} : ∀ {xs : List Song}, fstAt s xs = none ↔ s ∉ xs
  | [] => by simp [fstAt]
  | x :: r => by
    unfold fstAt
    by_cases e : x = s
    · simp [e]
    · simp [e, fstAt_none (xs := r), Ne.symm e]
theorem fstAt_some {s : Song} : ∀ {xs : List Song} {j : Nat}, fstAt s xs = some j → xs[j]? = some s ∧ s ∉ xs.take j
  | [], j, e => by cases e
  | x :: r, j, e => by
    unfold fstAt at e
    by_cases z : x = s
    · rw [if_pos z] at e; cases e; simp [z]
    · rw [if_neg z] at e
      cases q : fstAt s r with
      | none => rw [q] at e; cases e
      | some i =>
        rw [q] at e
        cases e
        obtain ⟨a, b⟩ := fstAt_some q
        exact ⟨by simpa using a, by simp [Ne.symm z, b]⟩
theorem blankFrom_none : ∀ (st : List Itm) (k : Nat), blankFrom k none st = st
  | [], _ => rfl
  | i :: r, k => by rw [blankFrom, blankFrom_none r]; simp
theorem blankFrom_lt {a : Int} : ∀ (st : List Itm) (k : Nat), a ≤ k → blankFrom k (some a) st = st
  | [], _, _ => rfl
  | i :: r, k, h => by
    rw [blankFrom, blankFrom_lt r (k + 1) (by omega), if_neg]
    intro e
    have := Option.some.inj e
    omega
/-- a song seen besides: its first place is blanked -/
theorem ofS_more (s : Song) : ∀ (n : Nat) (seen : List Song) (rp : List Play) (k : Nat), s ∉ seen → ofS n (s :: seen) rp = blankFrom k ((fstAt s ((rp.take n).map (·.1))).map fun j : Nat => (k : Int) + j + 1) (ofS n seen rp)
  | 0, seen, rp, k, hs => by simp [ofS, blankFrom]
  | n + 1, seen, [], k, hs => by
    rw [ofS_nil, ofS_nil]
    simp only [List.take_nil, List.map_nil, fstAt, Option.map_none, blankFrom_none]
  | n + 1, seen, p :: r, k, hs => by
    rw [ofS, ofS, List.take_succ_cons, List.map_cons, fstAt, blankFrom]
    by_cases e : p.1 = s
    · rw [if_pos e]
      simp only [Option.map_some]
      rw [if_pos (show p.1 ∈ s :: seen by rw [e]; simp), if_pos (by simp)]
      congr 1
      rw [show (k : Int) + ((0 : Nat) : Int) + 1 = ((k + 1 : Nat) : Int) by omega, blankFrom_lt _ (k + 1) (by omega)]
      refine ofS_congr _ _ _ _ fun x => by simp [e]
    · rw [if_neg e]
      have hn : ofS n (p.1 :: s :: seen) r = ofS n (s :: p.1 :: seen) r := ofS_congr _ _ _ _ fun x => by
        simp only [List.mem_cons]
        constructor
        · rintro (a | a | a)
          · exact .inr (.inl a)
          · exact .inl a
          · exact .inr (.inr a)
        · rintro (a | a | a)
          · exact .inr (.inl a)
          · exact .inl a
          · exact .inr (.inr a)
      rw [hn, ofS_more s n (p.1 :: seen) r (k + 1) (by simp only [List.mem_cons, not_or]; exact ⟨Ne.symm e, hs⟩)]
      have hm : ((fstAt s ((r.take n).map (·.1))).map (· + 1)).map (fun j : Nat => (k : Int) + j + 1) = (fstAt s ((r.take n).map (·.1))).map fun j : Nat => ((k + 1 : Nat) : Int) + j + 1 := by
        cases fstAt s ((r.take n).map (·.1)) with
        | none => rfl
        | some j => simp; omega
      rw [hm]
      congr 1
      have h1 : (p.1 ∈ s :: seen) ↔ p.1 ∈ seen := by simp [e]
      have h2 : ¬ (fstAt s ((r.take n).map (·.1))).map (fun j : Nat => ((k + 1 : Nat) : Int) + j + 1) = some ((k : Int) + 1) := fun z => by
        cases q : fstAt s ((r.take n).map (·.1)) with
        | none => rw [q] at z; cases z
        | some j => rw [q] at z; have z' : ((k + 1 : Nat) : Int) + (j : Int) + 1 = (k : Int) + 1 := Option.some.inj z; omega
      rw [if_neg h2]
      by_cases z : p.1 ∈ seen
      · rw [if_pos z, if_pos (h1.mpr z)]
      · rw [if_neg z, if_neg fun y => z (h1.mp y)]
theorem ofS_take : ∀ (n m : Nat) (seen : List Song) (rp : List Play), m ≤ n → (ofS n seen rp).take m = ofS m seen rp
  | n, 0, seen, rp, _ => by simp [ofS]
  | 0, m + 1, _, _, h => by omega
  | n + 1, m + 1, seen, [], h => by rw [ofS, ofS, List.take_succ_cons, ofS_take n m seen [] (by omega)]
  | n + 1, m + 1, seen, p :: r, h => by rw [ofS, ofS, List.take_succ_cons, ofS_take n m (p.1 :: seen) r (by omega)]
theorem blankFrom_take (a : Option Int) : ∀ (st : List Itm) (k m : Nat), (blankFrom k a st).take m = blankFrom k a (st.take m)
  | [], k, m => by simp [blankFrom]
  | i :: r, k, 0 => by simp [blankFrom]
  | i :: r, k, m + 1 => by rw [blankFrom, List.take_succ_cons, List.take_succ_cons, blankFrom, blankFrom_take a r]
/-- the standing behind one play more is the drawn one -/
theorem ofS_draw (n : Nat) (p : Play) (rp : List Play) : ofS n [] (p :: rp) = drawnS (ofS n [] rp) ((fstAt p.1 ((rp.take n).map (·.1))).map fun j : Nat => (j : Int) + 1) p.1.1 p.2 := by
  unfold drawnS
  rw [ofS_len]
  cases n with
  | zero => simp [ofS]
  | succ n =>
    rw [List.take_succ_cons, ofS, if_neg (by simp)]
    congr 1
    unfold blank
    have hm := ofS_more p.1 (n + 1) [] rp 0 (by simp)
    have h0 : (fun j : Nat => ((0 : Nat) : Int) + (j : Int) + 1) = fun j : Nat => (j : Int) + 1 := by funext j; omega
    rw [h0] at hm
    rw [← hm, ofS_take (n + 1) n _ _ (by omega)]
end U
/-! k08: standings shown, draws by the law, plays. -/
namespace U
open PySem L2
/-- items with names -/
def okI (st : List Itm) : Prop := ∀ k b, some (k, b) ∈ st → okName k
theorem okI.it {st : List Itm} (o : okI st) : ∀ i ∈ st, itOk i := fun i hi k b e => (o k b (e ▸ hi)).nm
def stD (st : List Itm) : PyData := .tuple (st.map itD)
theorem toDs_its (k : Nat) (h : Hh) : ∀ st : List Itm, toDs (k + 2) h (st.map itV) = some (st.map itD)
  | [] => by simp [toDs]
  | i :: r => by rw [List.map_cons, toDs, toD_it, toDs_its k h r]; rfl
theorem toD_st (k : Nat) (h : Hh) (st : List Itm) : toD (k + 3) h (stV st) = some (stD st) := toD_tup (toDs_its k h st)
theorem canLay_its : ∀ st : List Itm, (∀ i ∈ st, itOk i) → PyData.canLayAll0 (st.map itD) = true
  | [], _ => by simp [PyData.canLayAll0]
  | i :: r, o => by simp only [List.map_cons, PyData.canLayAll0, canLay_it (o i (by simp)), canLay_its r fun j hj => o j (by simp [hj]), Bool.and_self]
theorem canLay_st {st : List Itm} (o : ∀ i ∈ st, itOk i) : (stD st).canLay0 = true := by simp only [stD, PyData.canLay0]; exact canLay_its st o
theorem dz_str {x : Str} (o : okName x) : dz (.str x) ≤ 9 := by
  have h1 := o.nm
  unfold nmOk at h1
  simp only [dz, if_pos h1]
  have := o.l8
  show x.length + 1 ≤ 9
  omega
theorem dz_its : ∀ st : List Itm, okI st → dzs (st.map itD) ≤ 16 * st.length
  | [], _ => by simp [dzs]
  | i :: r, o => by
    have ih := dz_its r fun k b hb => o k b (by simp [hb])
    rw [List.map_cons, dzs, List.length_cons]
    cases i with
    | none => simp only [itD, dz, dzs]; omega
    | some p =>
      obtain ⟨k, b⟩ := p
      have := dz_str (o k b (by simp))
      simp only [itD, dz, dzs] at this ⊢
      omega
section
variable {σ : Loc} {h h1 : Hh} {QV : Val → Hh → Prop} {N : Loc → Hh → Prop} {R : Val → Hh → Prop}
variable {n d c m : Nat} {l : List (Str × Int)} {st : List Itm} {ws ss : List Int} {sp : Int} {K : Nat} {M : Int} {pv : Val} {a : Option Int} {k : Str}
theorem repr_st (o : okI st) (hl : st.length ≤ 900) (h : Hh) : vRepr [stV st] h = .ok (.str (stD st).shown) h := by
  refine repr_ok (toD_st 27 h st) ?_
  have := dz_its st o
  simp only [stD, dz]
  omega
theorem ne_st (o : okI st) (h : Hh) : vEqD true (stV st) (stV st) h = .ok (.bl false) h := by
  rw [eqD_ok true rfl (toD_st 27 h st) (toD_st 27 h st) (canLay_st o.it) (canLay_st o.it), SeqAt.eqv_refl _ (canLay_st o.it)]
  rfl
theorem drawnS_len : (drawnS st a k true).length = (drawnS st a k false).length := by simp [drawnS]
theorem blankFrom_mem {a : Option Int} {i : Str × Bool} : ∀ {st : List Itm} {k : Nat}, some i ∈ blankFrom k a st → some i ∈ st
  | [], _, h => by cases h
  | j :: r, k, h => by
    rw [blankFrom] at h
    rcases List.mem_cons.mp h with h | h
    · split at h
      · cases h
      · rw [h]; simp
    · exact List.mem_cons_of_mem _ (blankFrom_mem h)
theorem drawnS_okI {b : Bool} (o : okI st) (ok : okName k) : okI (drawnS st a k b) := fun x c hx => by
  unfold drawnS at hx
  rcases List.mem_cons.mp (List.mem_of_mem_take hx) with e | e
  · simp at e; rw [e.1]; exact ok
  · exact o x c (blankFrom_mem e)
theorem kb_ti : kitB "int" "str" = some false := by kernel_rfl
theorem drawn_on_ok {b : Bool} (o : ∀ i ∈ st, itOk i) (hl : st.length ≤ 900) (P : PlAt l st pv a k) (q : ∀ g, Kp [] h g → QV (stV (drawnS st a k b)) g) : Wp (f__law_drawn_on [stV st, pv, .bl b] h) QV := by
  unfold f__law_drawn_on b__law_drawn_on
  rw [w_fn]
  show WpF (msSeq _ _ [some (stV st), some pv, some (.bl b), none, none, none, none] h) _ _
  have fin : WpF (b__law_drawn_on_2 [some (stV st), some pv, some (.bl b), some (.str k), none, none, none] h) (fun _ h' => QV .non h') QV := by
    unfold b__law_drawn_on_2
    simp only [f_seq, f_asg, f_name, f_tup, f_gcons, f_gnil, f_ret, f_retN, f_expr, f_if, f_nil, f_par, f_par3, f_fld, f_sub, w_op, w_un, w_app, w_acons, w_anil, w_C, w_var0, w_varS, w_callF, w_and, w_or, w_not, w_if, w_tval, w_tand, w_tor, w_tnot, w_tbl, w_ttrue, w_chain, w_prop, w_meth, w_methK, w_mkK', w_kw, w_sl, w_mpE, w_mpNo, w_vals, wp_ok, wp_bind, wp_nr, List.set, List.length_cons, List.length_nil, Nat.zero_add, Nat.reduceAdd, add_int, sub_int, le_int, lt_int, ge_int, gt_int, eqD_int, eqD_str, sl_tup, len_tup, truth, true_and, and_true, Bool.not_true, Bool.not_false, Bool.false_eq_true, if_false, if_true, List.cons_append, List.nil_append, List.append_nil, decide_true, decide_false]
    refine k_tup (by simp) ?_
    refine k_lst (by simp) fun n1 g1 e1 l1 k1 => ?_
    have hm : miEnum (mVar 0) [some (stV st), some pv, some (.bl b), some (.str k), none, none, none] g1 = .ok ⟨enumV 0 (st.map itV), fun _ => True, none⟩ g1 := val_enumT rfl
    have lc := lc_pure (vs := [6, 5]) (tg := .many [6, 5]) (c := tTrue) (e := mIf (tBl (mOp (vEqD false) (mOp vAdd (mVar 6) (mC (.int 1))) (mVar 1))) (mApp vTup maNil) (mVar 5)) (fBlank a) hm rfl (szl (by rw [show (⟨enumV 0 (st.map itV), fun _ => True, none⟩ : Itb).items.length = (st.map itV).length from enumV_len _ _]; simp; omega)) (fun _ => trivial) (fun v hv l => by
      obtain ⟨i, w, hw, rfl⟩ := enum_mem (show v ∈ enumV 0 (st.map itV) from hv)
      have he := eq_place P ((i : Int) + 1) (g1 ++ [l])
      by_cases z : a = some ((i : Int) + 1)
      · simp [lcB, Tg.bd, wipeL, setAll, tTrue, tBl, mIf, mOp, mApp, maNil, mVar, mC, he, z, tup0, fBlank]
      · simp [lcB, Tg.bd, wipeL, setAll, tTrue, tBl, mIf, mOp, mApp, maNil, mVar, mC, he, z, fBlank])
    rw [show (⟨enumV 0 (st.map itV), fun _ => True, none⟩ : Itb).items.filterMap (fBlank a) = (blank a st).map itV from enum_blank a st 0] at lc
    refine pure_k lc ?_
    have e2 := app_new g1 (.lst ((blank a st).map itV))
    have k2 := k1.app [.lst ((blank a st).map itV)]
    have e1' := app_at [.lst ((blank a st).map itV)] e1
    generalize g1.length = r2 at e2 ⊢
    generalize g1 ++ [Ob.lst ((blank a st).map itV)] = g2 at e2 k2 e1' ⊢
    have hbl := blank_len a st
    refine k_addL e1' e2 (szl (by simp; omega)) fun n3 g3 e3 l3 k3 => ?_
    unfold b__law_drawn_on_1
    have ln : vLen [stV st] g3 = .ok (.int (st.length : Nat)) g3 := by simp [stV]
    simp only [f_seq, f_asg, f_name, f_tup, f_gcons, f_gnil, f_ret, f_retN, f_expr, f_if, f_nil, f_par, f_par3, f_fld, f_sub, w_op, w_un, w_app, w_acons, w_anil, w_C, w_var0, w_varS, w_callF, w_and, w_or, w_not, w_if, w_tval, w_tand, w_tor, w_tnot, w_tbl, w_ttrue, w_chain, w_prop, w_meth, w_methK, w_mkK', w_kw, w_sl, w_mpE, w_mpNo, w_vals, wp_ok, wp_bind, wp_nr, List.set, List.length_cons, List.length_nil, Nat.zero_add, Nat.reduceAdd, add_int, sub_int, le_int, lt_int, ge_int, gt_int, eqD_int, eqD_str, sl_tup, len_tup, truth, true_and, and_true, Bool.not_true, Bool.not_false, Bool.false_eq_true, if_false, if_true, List.cons_append, List.nil_append, List.append_nil, decide_true, decide_false, ln]
    have hsl : vSl (.ref n3) none (some ((st.length : Nat) : Int)) g3 = .ok (.ref g3.length) (g3 ++ [.lst ((Val.tup [.str k, .bl b] :: (blank a st).map itV).take st.length)]) := by
      simp only [vSl, e3, cut_to]; rfl
    rw [hsl, wp_ok, tuple_lst (app_new g3 _), wp_ok]
    have hfin : Val.tup ((Val.tup [.str k, .bl b] :: (blank a st).map itV).take st.length) = stV (drawnS st a k b) := by
      unfold drawnS stV
      rw [List.map_take]; rfl
    rw [hfin]
    exact q _ ((k2.trans k3).app _)
  cases P with
  | @age j k b0 hj =>
    have x1 : vIx (stV st) (.int ((j : Int) + 1 - 1)) h = .ok (itV (some (k, b0))) h := by
      rw [show (j : Int) + 1 - 1 = (j : Int) by omega]
      exact ix_tup (by rw [List.getElem?_map, hj]; rfl) h
    have i1 : vIsi kCs kTys [.int ((j : Int) + 1), .ty "str"] h = .ok (.bl false) h := isi_b rfl kb_is
    simp only [f_seq, f_asg, f_name, f_tup, f_gcons, f_gnil, f_ret, f_retN, f_expr, f_if, f_nil, f_par, f_par3, f_fld, f_sub, w_op, w_un, w_app, w_acons, w_anil, w_C, w_var0, w_varS, w_callF, w_and, w_or, w_not, w_if, w_tval, w_tand, w_tor, w_tnot, w_tbl, w_ttrue, w_chain, w_prop, w_meth, w_methK, w_mkK', w_kw, w_sl, w_mpE, w_mpNo, w_vals, wp_ok, wp_bind, wp_nr, List.set, List.length_cons, List.length_nil, Nat.zero_add, Nat.reduceAdd, add_int, sub_int, le_int, lt_int, ge_int, gt_int, eqD_int, eqD_str, sl_tup, len_tup, truth, true_and, and_true, Bool.not_true, Bool.not_false, Bool.false_eq_true, if_false, if_true, List.cons_append, List.nil_append, List.append_nil, decide_true, decide_false, i1, x1, it_0]
    exact fin
  | @old x hx nx =>
    have i1 : vIsi kCs kTys [.str k, .ty "str"] h = .ok (.bl true) h := isi_b rfl kb_ss
    simp only [f_seq, f_asg, f_name, f_tup, f_gcons, f_gnil, f_ret, f_retN, f_expr, f_if, f_nil, f_par, f_par3, f_fld, f_sub, w_op, w_un, w_app, w_acons, w_anil, w_C, w_var0, w_varS, w_callF, w_and, w_or, w_not, w_if, w_tval, w_tand, w_tor, w_tnot, w_tbl, w_ttrue, w_chain, w_prop, w_meth, w_methK, w_mkK', w_kw, w_sl, w_mpE, w_mpNo, w_vals, wp_ok, wp_bind, wp_nr, List.set, List.length_cons, List.length_nil, Nat.zero_add, Nat.reduceAdd, add_int, sub_int, le_int, lt_int, ge_int, gt_int, eqD_int, eqD_str, sl_tup, len_tup, truth, true_and, and_true, Bool.not_true, Bool.not_false, Bool.false_eq_true, if_false, if_true, List.cons_append, List.nil_append, List.append_nil, decide_true, decide_false, i1]
    exact fin
theorem flat_rep' (vs : List Val) : ∀ k : Nat, (List.replicate k [Val.tup vs]).flatten = List.replicate k (Val.tup vs)
  | 0 => rfl
  | k + 1 => by rw [List.replicate_succ, List.flatten_cons, flat_rep' vs k]; rfl
theorem mulA_tup' {vs : List Val} {k : Nat} (hk : k ≤ 1000) (hv : vs.length ≤ 1000) (h : Hh) : vMulA (.tup vs) (.int k) h = .ok (.tup (List.replicate k vs).flatten) h := by
  have c : -(2 ^ 63) ≤ (k : Int) ∧ (k : Int) ≤ 1000 ∧ vs.length ≤ 1000 := by omega
  simp only [vMulA, isTup, if_true, vMulT, if_pos c, Int.toNat_natCast]
theorem first_one_ok (C : Case c n ws ss sp l h) (l1 : 1 ≤ ws.length) (l4 : ws.length ≤ 4) : f__law_first_one [.ref c] h = .ok (stV (List.replicate (ws.length - 1) none)) h := by
  have e : ((ws.length : Int) - 1) = ((ws.length - 1 : Nat) : Int) := by omega
  have t1 : vTup [Val.tup []] h = .ok (.tup [.tup []]) h := tup_v h (by simp)
  have hm : vMulA (.tup [.tup []]) (.int ((ws.length : Int) - 1)) h = .ok (stV (List.replicate (ws.length - 1) none)) h := by
    rw [e, mulA_tup' (by omega) (by simp), flat_rep']
    simp [stV, itV]
  simp [f__law_first_one, b__law_first_one, mkFn, msRet, mOp, mApp, maCons, maNil, mC, tup0, t1, C.weights, hm]
/-! ### songs that are told apart -/
def songV (s : Song) : Val := .tup [.str s.1, .int (s.2 : Int)]
def songD (s : Song) : PyData := .tuple [.str s.1, .int (s.2 : Int)]
def playV (p : Play) : Val := .tup [songV p.1, .bl p.2]
theorem toD_song (k : Nat) (h : Hh) (s : Song) : toD (k + 2) h (songV s) = some (songD s) := by simp [songV, songD, toD, toDs]
theorem canLay_song {s : Song} (o : nmOk s.1) : (songD s).canLay0 = true := by
  unfold nmOk at o
  simp only [songD, PyData.canLay0, PyData.canLayAll0, PyData.strOk, o, Bool.and_self]
theorem eqv_song (s t : Song) : PyData.eqv (songD s) (songD t) = decide (s = t) := by
  obtain ⟨x, i⟩ := s
  obtain ⟨y, j⟩ := t
  simp only [songD, PyData.eqv, PyData.eqvAll, Bool.and_true]
  by_cases e : x = y <;> by_cases f : i = j <;> simp [e, f]
  omega
theorem toDs_songs (k : Nat) (h : Hh) : ∀ xs : List Song, toDs (k + 2) h (xs.map songV) = some (xs.map songD)
  | [] => by simp [toDs]
  | i :: r => by rw [List.map_cons, toDs, toD_song, toDs_songs k h r]; rfl
theorem canLay_songs : ∀ xs : List Song, (∀ s ∈ xs, nmOk s.1) → PyData.canLayAll0 (xs.map songD) = true
  | [], _ => by simp [PyData.canLayAll0]
  | i :: r, o => by simp only [List.map_cons, PyData.canLayAll0, canLay_song (o i (by simp)), canLay_songs r fun j hj => o j (by simp [hj]), Bool.and_self]
theorem any_songs (s : Song) : ∀ xs : List Song, (xs.map songD).any (fun z => PyData.eqv z (songD s)) = decide (s ∈ xs)
  | [] => rfl
  | x :: r => by
    rw [List.map_cons, List.any_cons, any_songs s r, eqv_song]
    by_cases e : s = x
    · subst e; simp
    · have : ¬ x = s := fun z => e z.symm
      simp [e, this]
theorem in_songL (neg : Bool) {m : Nat} {xs : List Song} {s : Song} (hx : ∀ s ∈ xs, nmOk s.1) (hs : nmOk s.1) (e : h[m]? = some (.lst (xs.map songV))) : vIn neg (songV s) (.ref m) h = .ok (.bl (if neg then !decide (s ∈ xs) else decide (s ∈ xs))) h := by
  have t1 : toD 30 h (songV s) = some (songD s) := toD_song 28 h s
  have t2 : toD 30 h (.ref m) = some (.list (xs.map songD)) := toD_lst (k := 29) e (toDs_songs 27 h xs)
  have c1 := canLay_song hs
  have c2 : (PyData.list (xs.map songD)).canLay0 = true := by simp only [PyData.canLay0]; exact canLay_songs xs hx
  have s1 : SeqAt.shaped (songD s) = true := by have := toD_depth 30 t1; simp [SeqAt.shaped, c1]; omega
  have s2 : SeqAt.shaped (.list (xs.map songD)) = true := by have := toD_depth 30 t2; simp [SeqAt.shaped, c2]; omega
  have n2 : noDs (xs.map songD) = true := by have := noD_of _ c2; simpa [noD] using this
  have hfl : flat (songV s) = false := rfl
  simp only [vIn, e, hfl, Bool.false_and, Bool.false_eq_true, if_false, inDeep, t1, t2, noD_of _ c1, n2, s1, s2, Bool.and_self, if_true, any_songs]
theorem ixD_songs (s : Song) : ∀ xs : List Song, ixD (songD s) (xs.map songD) = fstAt s xs
  | [] => rfl
  | x :: r => by
    rw [List.map_cons, ixD, eqv_song, ixD_songs s r, fstAt]
    by_cases e : x = s <;> simp [e]
theorem index_song {m : Nat} {xs : List Song} {s : Song} {j : Nat} (hx : ∀ s ∈ xs, nmOk s.1) (hs : nmOk s.1) (e : h[m]? = some (.lst (xs.map songV))) (hj : fstAt s xs = some j) : vIndex [.ref m, songV s] h = .ok (.int (j : Nat)) h := by
  have t1 : toD 30 h (songV s) = some (songD s) := toD_song 28 h s
  have t2 : toD 30 h (.ref m) = some (.list (xs.map songD)) := toD_lst (k := 29) e (toDs_songs 27 h xs)
  have c1 := canLay_song hs
  have c2 : (PyData.list (xs.map songD)).canLay0 = true := by simp only [PyData.canLay0]; exact canLay_songs xs hx
  have s1 : SeqAt.shaped (songD s) = true := by have := toD_depth 30 t1; simp [SeqAt.shaped, c1]; omega
  have s2 : SeqAt.shaped (.list (xs.map songD)) = true := by have := toD_depth 30 t2; simp [SeqAt.shaped, c2]; omega
  have n2 : noDs (xs.map songD) = true := by have := noD_of _ c2; simpa [noD] using this
  simp only [vIndex, t1, t2, noD_of _ c1, n2, s1, s2, Bool.and_self, if_true, ixD_songs, hj]
theorem rev_lst {m : Nat} {vs : List Val} (e : h[m]? = some (.lst vs)) : vRev (.ref m) h = .ok (.ref h.length) (h ++ [.lst vs.reverse]) := by simp only [vRev, e]
/-- [play[0] for play in a list of plays] -/
theorem lc_fst {mi : MI} {j : Nat} {ps : List Play} {σ : Loc} {h1 : Hh} {src : Hh → Prop} (hj : j < σ.length) (hm : mi σ h = .ok ⟨ps.map playV, src, none⟩ h1) (hl : ps.length ≤ 900) (hs : ∀ l, src (h1 ++ [l])) :
    mLc mi [j] (.one j) tTrue (mOp vIx (mVar j) (mC (.int 0))) σ h = .ok (.ref h1.length) (h1 ++ [.lst ((ps.map (·.1)).map songV)]) := by
  let F : Val → Option Val := fun v => match v with | .tup [s, _] => some s | _ => none
  have := lc_pure (vs := [j]) (tg := .one j) (c := tTrue) (e := mOp vIx (mVar j) (mC (.int 0))) F hm rfl (szl (by simp; omega)) hs fun v hv l => by
    obtain ⟨p, hp, rfl⟩ := List.mem_map.mp (show v ∈ ps.map playV from hv)
    have h0 : vIx (.tup [songV p.1, .bl p.2]) (.int 0) (h1 ++ [l]) = .ok (songV p.1) (h1 ++ [l]) := ix_tup (k := 0) rfl _
    have hv : mVar j ((wipeL σ [j]).set j (some (.tup [songV p.1, .bl p.2]))) (h1 ++ [l]) = .ok (.tup [songV p.1, .bl p.2]) (h1 ++ [l]) := by
      unfold mVar
      rw [List.getElem?_set_self (by simp [wipeL]; exact hj)]
    simp only [lcB, Tg.bd, tTrue, nr_ok, bind_ok, if_true, mOp, playV, hv, mC, h0, F]
  rw [this]
  congr 4
  show (ps.map playV).filterMap F = _
  rw [List.filterMap_map, List.map_map]
  have : ∀ ps : List Play, ps.filterMap (F ∘ playV) = ps.map (songV ∘ fun x => x.1) := by
    intro ps
    induction ps with
    | nil => rfl
    | cons p ps ih => rw [List.filterMap_cons, List.map_cons, ih]; rfl
  exact this ps
theorem val_rng2 {m m' : ME} {i j : Int} {h2 : Hh} (e : m σ h = .ok (.int i) h1) (e' : m' σ h1 = .ok (.int j) h2) (hb : -(2 ^ 62) ≤ i ∧ i < 2 ^ 62 ∧ -(2 ^ 62) ≤ j ∧ j < 2 ^ 62) : miRng2 m m' σ h = .ok ⟨(List.range (j - i).toNat).map fun t => .int (i + ((t : Nat) : Int)), fun _ => True, none⟩ h2 := by
  unfold miRng2; rw [e, bind_ok, e']; simp only [bind_ok, if_pos hb]
theorem of_songs_ok {pl : Nat} {rp : List Play} (C : Case c n ws ss sp l h) (l1 : 1 ≤ ws.length) (l4 : ws.length ≤ 4) (ep : h[pl]? = some (.lst (rp.reverse.map playV))) (hr : ∀ p ∈ rp, nmOk p.1.1) (hl : rp.length ≤ 20)
    (q : ∀ g, Kp [] h g → QV (stV (ofS (ws.length - 1) [] rp)) g) : Wp (f__law_of_songs [.ref c, .ref pl] h) QV := by
  unfold f__law_of_songs b__law_of_songs
  rw [w_fn]
  show WpF (msSeq _ _ [some (.ref c), some (.ref pl), none, none, none, none, none] h) _ _
  simp only [f_seq, f_asg, f_name, f_tup, f_gcons, f_gnil, f_ret, f_retN, f_expr, f_if, f_nil, f_par, f_par3, f_fld, f_sub, w_op, w_un, w_app, w_acons, w_anil, w_C, w_var0, w_varS, w_callF, w_and, w_or, w_not, w_if, w_tval, w_tand, w_tor, w_tnot, w_tbl, w_ttrue, w_chain, w_prop, w_meth, w_methK, w_mkK', w_kw, w_sl, w_mpE, w_mpNo, w_vals, wp_ok, wp_bind, wp_nr, List.set, List.length_cons, List.length_nil, Nat.zero_add, Nat.reduceAdd, add_int, sub_int, le_int, lt_int, ge_int, gt_int, eqD_int, eqD_str, sl_tup, len_tup, truth, true_and, and_true, Bool.not_true, Bool.not_false, Bool.false_eq_true, if_false, if_true, List.cons_append, List.nil_append, List.append_nil, decide_true, decide_false]
  refine k_lst (by simp) fun fo g1 e1 l2 k1 => ?_
  unfold b__law_of_songs_4
  simp only [f_seq, f_asg, f_name, f_tup, f_gcons, f_gnil, f_ret, f_retN, f_expr, f_if, f_nil, f_par, f_par3, f_fld, f_sub, w_op, w_un, w_app, w_acons, w_anil, w_C, w_var0, w_varS, w_callF, w_and, w_or, w_not, w_if, w_tval, w_tand, w_tor, w_tnot, w_tbl, w_ttrue, w_chain, w_prop, w_meth, w_methK, w_mkK', w_kw, w_sl, w_mpE, w_mpNo, w_vals, wp_ok, wp_bind, wp_nr, List.set, List.length_cons, List.length_nil, Nat.zero_add, Nat.reduceAdd, add_int, sub_int, le_int, lt_int, ge_int, gt_int, eqD_int, eqD_str, sl_tup, len_tup, truth, true_and, and_true, Bool.not_true, Bool.not_false, Bool.false_eq_true, if_false, if_true, List.cons_append, List.nil_append, List.append_nil, decide_true, decide_false]
  have C1 := C.k k1
  have hlen := ofS_len (ws.length - 1) [] rp
  have hm : miRng2 (mC (.int 1)) (mApp vLen (maCons (mOp vIx (mVar 0) (mC (.str "weights"))) maNil)) [some (.ref c), some (.ref pl), some (.ref fo), none, none, none, none] g1 = .ok ⟨(List.range (ws.length - 1)).map fun t => .int (1 + ((t : Nat) : Int)), fun _ => True, none⟩ g1 := by
    have hv : mApp vLen (maCons (mOp vIx (mVar 0) (mC (.str "weights"))) maNil) [some (.ref c), some (.ref pl), some (.ref fo), none, none, none, none] g1 = .ok (.int (ws.length : Nat)) g1 := by simp [mApp, maCons, maNil, mOp, mC, C1.weights]
    rw [val_rng2 (i := 1) (j := (ws.length : Nat)) (h1 := g1) rfl hv (by omega), show (((ws.length : Nat) : Int) - 1).toNat = ws.length - 1 by omega]
  have hplf : pl ≠ fo := by have := lt_of ep; omega
  have hcf : c ≠ fo := by have := lt_of C.ec; omega
  have hnf : n ≠ fo := by have := lt_of C.en; omega
  refine f_forE (fun k σ g => ∃ x3 x4 x5, σ = [some (.ref c), some (.ref pl), some (.ref fo), x3, x4, x5, none] ∧ g[fo]? = some (.lst (((ofS (ws.length - 1) [] rp).take k).map itV)) ∧ g[pl]? = some (.lst (rp.reverse.map playV)) ∧ Kp [] h g) hm rfl ⟨none, none, none, rfl, by simpa using e1, k1.k ep, k1⟩ (fun _ _ _ _ => trivial) ?_ ?_
  · rintro k v σ g ev ⟨x3, x4, x5, rfl, ef, ep', Kg⟩
    have ev' : ((List.range (ws.length - 1)).map fun t => Val.int (1 + ((t : Nat) : Int)))[k]? = some v := ev
    have hk : k < ws.length - 1 := by have := (List.getElem?_eq_some_iff.mp ev').1; simpa using this
    rw [List.getElem?_map, List.getElem?_range hk] at ev'
    simp at ev'
    subst ev'
    have hget := ofS_get (ws.length - 1) [] rp k hk
    have htk : (ofS (ws.length - 1) [] rp).take (k + 1) = (ofS (ws.length - 1) [] rp).take k ++ [match rp[k]? with | some p => if p.1 ∈ ([] : List Song) ∨ p.1 ∈ (rp.take k).map (·.1) then none else some (p.1.1, p.2) | none => none] := by
      rw [List.take_add_one, hget]; rfl
    simp only [f_seq, f_asg, f_name, f_tup, f_gcons, f_gnil, f_ret, f_retN, f_expr, f_if, f_nil, f_par, f_par3, f_fld, f_sub, w_op, w_un, w_app, w_acons, w_anil, w_C, w_var0, w_varS, w_callF, w_and, w_or, w_not, w_if, w_tval, w_tand, w_tor, w_tnot, w_tbl, w_ttrue, w_chain, w_prop, w_meth, w_methK, w_mkK', w_kw, w_sl, w_mpE, w_mpNo, w_vals, wp_ok, wp_bind, wp_nr, List.set, List.length_cons, List.length_nil, Nat.zero_add, Nat.reduceAdd, add_int, sub_int, le_int, lt_int, ge_int, gt_int, eqD_int, eqD_str, sl_tup, len_tup, truth, true_and, and_true, Bool.not_true, Bool.not_false, Bool.false_eq_true, if_false, if_true, List.cons_append, List.nil_append, List.append_nil, decide_true, decide_false, rev_lst ep']
    have er := app_new g (.lst (rp.reverse.map playV).reverse)
    have hrv : (rp.reverse.map playV).reverse = rp.map playV := by rw [List.map_reverse, List.reverse_reverse]
    rw [hrv] at er ⊢
    have kr := (Kp.refl [] g).app [.lst (rp.map playV)]
    have hlg : g.length ≤ g.length := Nat.le_refl _
    have hgl := Kg.len
    generalize hrl : g.length = rl at er ⊢
    generalize g ++ [Ob.lst (rp.map playV)] = g2 at er kr ⊢
    have ef2 := kr.k ef
    have ep2 := kr.k ep'
    have fin : ∀ (it : Itm) (b : Bool) (g3 : Hh), Kp [] g2 g3 → (ofS (ws.length - 1) [] rp).take (k + 1) = (ofS (ws.length - 1) [] rp).take k ++ [it] → (b = true → ∃ p, rp[k]? = some p ∧ it = some (p.1.1, p.2)) → (b = false → it = none) →
        WpF (b__law_of_songs_1 [some (.ref c), some (.ref pl), some (.ref fo), some (.int (1 + (k : Int))), some (.ref rl), some (.bl b), none] g3) (fun σ g => ∃ x3 x4 x5, σ = [some (.ref c), some (.ref pl), some (.ref fo), x3, x4, x5, none] ∧ g[fo]? = some (.lst (((ofS (ws.length - 1) [] rp).take (k + 1)).map itV)) ∧ g[pl]? = some (.lst (rp.reverse.map playV)) ∧ Kp [] h g) QV := by
      intro it b g3 k3 hit h1 h0
      have ef3 := k3.k ef2
      have ep3 := k3.k ep2
      have er3 := k3.k er
      have hfl : (((ofS (ws.length - 1) [] rp).take k).map itV).length ≤ 1000 := by simp; omega
      have done : ∀ v g4, Kp [] g3 g4 → v = itV it → Wp (vAppend [.ref fo, v] g4) fun _ g => ∃ x3 x4 x5, [some (Val.ref c), some (.ref pl), some (.ref fo), some (.int (1 + (k : Int))), some (.ref rl), some (.bl b), none] = [some (.ref c), some (.ref pl), some (.ref fo), x3, x4, x5, none] ∧ g[fo]? = some (.lst (((ofS (ws.length - 1) [] rp).take (k + 1)).map itV)) ∧ g[pl]? = some (.lst (rp.reverse.map playV)) ∧ Kp [] h g := fun v g4 k4 hv => by
        have ef4 := k4.k ef3
        rw [app_lst ef4 hfl, wp_ok]
        refine ⟨_, _, _, rfl, ?_, set_at (k4.k ep3) (by omega), (((Kg.trans kr).trans k3).trans k4).set' (by omega)⟩
        rw [set_self ef4, hit, hv]; simp
      unfold b__law_of_songs_1
      simp only [f_seq, f_asg, f_name, f_tup, f_gcons, f_gnil, f_ret, f_retN, f_expr, f_if, f_nil, f_par, f_par3, f_fld, f_sub, w_op, w_un, w_app, w_acons, w_anil, w_C, w_var0, w_varS, w_callF, w_and, w_or, w_not, w_if, w_tval, w_tand, w_tor, w_tnot, w_tbl, w_ttrue, w_chain, w_prop, w_meth, w_methK, w_mkK', w_kw, w_sl, w_mpE, w_mpNo, w_vals, wp_ok, wp_bind, wp_nr, List.set, List.length_cons, List.length_nil, Nat.zero_add, Nat.reduceAdd, add_int, sub_int, le_int, lt_int, ge_int, gt_int, eqD_int, eqD_str, sl_tup, len_tup, truth, true_and, and_true, Bool.not_true, Bool.not_false, Bool.false_eq_true, if_false, if_true, List.cons_append, List.nil_append, List.append_nil, decide_true, decide_false, w_mt, isT_lst ef3]
      cases b with
      | true =>
        obtain ⟨p, hp, hpi⟩ := h1 rfl
        have hix : vIx (.ref rl) (.int (1 + (k : Int) - 1)) g3 = .ok (playV p) g3 := by
          rw [show (1 + (k : Int) - 1) = (k : Int) by omega]
          exact ix_lst er3 (by rw [atI_nat, List.getElem?_map, hp]; rfl)
        have p0 : vIx (playV p) (.int 0) g3 = .ok (songV p.1) g3 := ix_tup (k := 0) rfl _
        have p1 : vIx (playV p) (.int 1) g3 = .ok (.bl p.2) g3 := ix_tup (k := 1) rfl _
        have s0 : vIx (songV p.1) (.int 0) g3 = .ok (.str p.1.1) g3 := ix_tup (k := 0) rfl _
        simp only [f_seq, f_asg, f_name, f_tup, f_gcons, f_gnil, f_ret, f_retN, f_expr, f_if, f_nil, f_par, f_par3, f_fld, f_sub, w_op, w_un, w_app, w_acons, w_anil, w_C, w_var0, w_varS, w_callF, w_and, w_or, w_not, w_if, w_tval, w_tand, w_tor, w_tnot, w_tbl, w_ttrue, w_chain, w_prop, w_meth, w_methK, w_mkK', w_kw, w_sl, w_mpE, w_mpNo, w_vals, wp_ok, wp_bind, wp_nr, List.set, List.length_cons, List.length_nil, Nat.zero_add, Nat.reduceAdd, add_int, sub_int, le_int, lt_int, ge_int, gt_int, eqD_int, eqD_str, sl_tup, len_tup, truth, true_and, and_true, Bool.not_true, Bool.not_false, Bool.false_eq_true, if_false, if_true, List.cons_append, List.nil_append, List.append_nil, decide_true, decide_false, hix, p0, p1, s0]
        refine k_tup (by simp) ?_
        exact done _ g3 (Kp.refl [] g3) (by rw [hpi]; rfl)
      | false =>
        simp only [f_seq, f_asg, f_name, f_tup, f_gcons, f_gnil, f_ret, f_retN, f_expr, f_if, f_nil, f_par, f_par3, f_fld, f_sub, w_op, w_un, w_app, w_acons, w_anil, w_C, w_var0, w_varS, w_callF, w_and, w_or, w_not, w_if, w_tval, w_tand, w_tor, w_tnot, w_tbl, w_ttrue, w_chain, w_prop, w_meth, w_methK, w_mkK', w_kw, w_sl, w_mpE, w_mpNo, w_vals, wp_ok, wp_bind, wp_nr, List.set, List.length_cons, List.length_nil, Nat.zero_add, Nat.reduceAdd, add_int, sub_int, le_int, lt_int, ge_int, gt_int, eqD_int, eqD_str, sl_tup, len_tup, truth, true_and, and_true, Bool.not_true, Bool.not_false, Bool.false_eq_true, if_false, if_true, List.cons_append, List.nil_append, List.append_nil, decide_true, decide_false, tup0]
        exact done _ g3 (Kp.refl [] g3) (by rw [h0 rfl]; rfl)
    unfold b__law_of_songs_2
    simp only [f_seq, f_asg, f_name, f_tup, f_gcons, f_gnil, f_ret, f_retN, f_expr, f_if, f_nil, f_par, f_par3, f_fld, f_sub, w_op, w_un, w_app, w_acons, w_anil, w_C, w_var0, w_varS, w_callF, w_and, w_or, w_not, w_if, w_tval, w_tand, w_tor, w_tnot, w_tbl, w_ttrue, w_chain, w_prop, w_meth, w_methK, w_mkK', w_kw, w_sl, w_mpE, w_mpNo, w_vals, wp_ok, wp_bind, wp_nr, List.set, List.length_cons, List.length_nil, Nat.zero_add, Nat.reduceAdd, add_int, sub_int, le_int, lt_int, ge_int, gt_int, eqD_int, eqD_str, sl_tup, len_tup, truth, true_and, and_true, Bool.not_true, Bool.not_false, Bool.false_eq_true, if_false, if_true, List.cons_append, List.nil_append, List.append_nil, decide_true, decide_false, len_lst er, List.length_map]
    by_cases hkr : k < rp.length
    · rw [decide_eq_true (show 1 + (k : Int) ≤ (rp.length : Int) by omega)]
      obtain ⟨p, hp⟩ : ∃ p, rp[k]? = some p := ⟨rp[k], List.getElem?_eq_getElem hkr⟩
      have hix : vIx (.ref rl) (.int (1 + (k : Int) - 1)) g2 = .ok (playV p) g2 := by
        rw [show (1 + (k : Int) - 1) = (k : Int) by omega]
        exact ix_lst er (by rw [atI_nat, List.getElem?_map, hp]; rfl)
      have p0 : ∀ g, vIx (playV p) (.int 0) g = .ok (songV p.1) g := fun g => ix_tup (k := 0) rfl _
      simp only [f_seq, f_asg, f_name, f_tup, f_gcons, f_gnil, f_ret, f_retN, f_expr, f_if, f_nil, f_par, f_par3, f_fld, f_sub, w_op, w_un, w_app, w_acons, w_anil, w_C, w_var0, w_varS, w_callF, w_and, w_or, w_not, w_if, w_tval, w_tand, w_tor, w_tnot, w_tbl, w_ttrue, w_chain, w_prop, w_meth, w_methK, w_mkK', w_kw, w_sl, w_mpE, w_mpNo, w_vals, wp_ok, wp_bind, wp_nr, List.set, List.length_cons, List.length_nil, Nat.zero_add, Nat.reduceAdd, add_int, sub_int, le_int, lt_int, ge_int, gt_int, eqD_int, eqD_str, sl_tup, len_tup, truth, true_and, and_true, Bool.not_true, Bool.not_false, Bool.false_eq_true, if_false, if_true, List.cons_append, List.nil_append, List.append_nil, decide_true, decide_false, hix, p0]
      have hsl : mSl (mVar 4) mpNo (mpE (mOp vSub (mVar 3) (mC (.int 1)))) [some (.ref c), some (.ref pl), some (.ref fo), some (.int (1 + (k : Int))), some (.ref rl), x5, none] g2 = .ok (.ref g2.length) (g2 ++ [.lst ((rp.take k).map playV)]) := by
        have : cutL (rp.map playV) none (some (1 + (k : Int) - 1)) = (rp.take k).map playV := by
          rw [show (1 + (k : Int) - 1) = (k : Int) by omega, cut_to, List.map_take]
        simp [mSl, mpNo, mpE, mOp, mC, vSl, er, this]
      have e5 := app_new g2 (.lst ((rp.take k).map playV))
      have hmi : miVal (mSl (mVar 4) mpNo (mpE (mOp vSub (mVar 3) (mC (.int 1))))) [some (.ref c), some (.ref pl), some (.ref fo), some (.int (1 + (k : Int))), some (.ref rl), x5, none] g2 = .ok ⟨(rp.take k).map playV, fun h => h[g2.length]? = some (.lst ((rp.take k).map playV)), none⟩ (g2 ++ [.lst ((rp.take k).map playV)]) := val_lst hsl e5
      refine pure_k (lc_fst (by simp) hmi (by simp; omega) fun l => app_at [l] e5) ?_
      have e6 := app_new (g2 ++ [.lst ((rp.take k).map playV)]) (.lst (((rp.take k).map (·.1)).map songV))
      have k6 := ((Kp.refl [] g2).app [.lst ((rp.take k).map playV)]).app [.lst (((rp.take k).map (·.1)).map songV)]
      have hnm : ∀ s ∈ (rp.take k).map (·.1), nmOk s.1 := fun s hs => by
        obtain ⟨p', hp', rfl⟩ := List.mem_map.mp hs
        exact hr p' (List.mem_of_mem_take hp')
      rw [in_songL true hnm (hr p (List.mem_of_getElem? hp)) e6]
      simp only [f_seq, f_asg, f_name, f_tup, f_gcons, f_gnil, f_ret, f_retN, f_expr, f_if, f_nil, f_par, f_par3, f_fld, f_sub, w_op, w_un, w_app, w_acons, w_anil, w_C, w_var0, w_varS, w_callF, w_and, w_or, w_not, w_if, w_tval, w_tand, w_tor, w_tnot, w_tbl, w_ttrue, w_chain, w_prop, w_meth, w_methK, w_mkK', w_kw, w_sl, w_mpE, w_mpNo, w_vals, wp_ok, wp_bind, wp_nr, List.set, List.length_cons, List.length_nil, Nat.zero_add, Nat.reduceAdd, add_int, sub_int, le_int, lt_int, ge_int, gt_int, eqD_int, eqD_str, sl_tup, len_tup, truth, true_and, and_true, Bool.not_true, Bool.not_false, Bool.false_eq_true, if_false, if_true, List.cons_append, List.nil_append, List.append_nil, decide_true, decide_false]
      rw [hp] at htk
      simp only [List.not_mem_nil, false_or] at htk
      refine fin _ _ _ k6 htk (fun hb => ?_) fun hb => ?_
      · have : p.1 ∉ (rp.take k).map (·.1) := by simpa using hb
        exact ⟨p, hp, by rw [if_neg this]⟩
      · have : p.1 ∈ (rp.take k).map (·.1) := by simpa using hb
        rw [if_pos this]
    · rw [decide_eq_false (show ¬ 1 + (k : Int) ≤ (rp.length : Int) by omega)]
      simp only [f_seq, f_asg, f_name, f_tup, f_gcons, f_gnil, f_ret, f_retN, f_expr, f_if, f_nil, f_par, f_par3, f_fld, f_sub, w_op, w_un, w_app, w_acons, w_anil, w_C, w_var0, w_varS, w_callF, w_and, w_or, w_not, w_if, w_tval, w_tand, w_tor, w_tnot, w_tbl, w_ttrue, w_chain, w_prop, w_meth, w_methK, w_mkK', w_kw, w_sl, w_mpE, w_mpNo, w_vals, wp_ok, wp_bind, wp_nr, List.set, List.length_cons, List.length_nil, Nat.zero_add, Nat.reduceAdd, add_int, sub_int, le_int, lt_int, ge_int, gt_int, eqD_int, eqD_str, sl_tup, len_tup, truth, true_and, and_true, Bool.not_true, Bool.not_false, Bool.false_eq_true, if_false, if_true, List.cons_append, List.nil_append, List.append_nil, decide_true, decide_false]
      have hp : rp[k]? = none := List.getElem?_eq_none (by omega)
      rw [hp] at htk
      exact fin none false g2 (Kp.refl [] g2) htk (fun z => by cases z) fun _ => rfl
  · rintro σ g ⟨x3, x4, x5, rfl, ef, ep', Kg⟩
    unfold b__law_of_songs_3
    simp only [f_seq, f_asg, f_name, f_tup, f_gcons, f_gnil, f_ret, f_retN, f_expr, f_if, f_nil, f_par, f_par3, f_fld, f_sub, w_op, w_un, w_app, w_acons, w_anil, w_C, w_var0, w_varS, w_callF, w_and, w_or, w_not, w_if, w_tval, w_tand, w_tor, w_tnot, w_tbl, w_ttrue, w_chain, w_prop, w_meth, w_methK, w_mkK', w_kw, w_sl, w_mpE, w_mpNo, w_vals, wp_ok, wp_bind, wp_nr, List.set, List.length_cons, List.length_nil, Nat.zero_add, Nat.reduceAdd, add_int, sub_int, le_int, lt_int, ge_int, gt_int, eqD_int, eqD_str, sl_tup, len_tup, truth, true_and, and_true, Bool.not_true, Bool.not_false, Bool.false_eq_true, if_false, if_true, List.cons_append, List.nil_append, List.append_nil, decide_true, decide_false, tuple_lst ef]
    have hil : (⟨(List.range (ws.length - 1)).map fun t => Val.int (1 + ((t : Nat) : Int)), fun _ => True, none⟩ : Itb).items.length = ws.length - 1 := by
      show ((List.range (ws.length - 1)).map fun t => Val.int (1 + ((t : Nat) : Int))).length = _
      simp
    rw [hil, List.take_of_length_le (by omega)]
    exact q g Kg
end
end U
/-! k08: rows of plays, the law. -/
namespace U
open PySem L2
def allS (l : List (Str × Int)) : List Song := l.flatMap fun p => (List.range p.2.toNat).map fun i => (p.1, i)
theorem allS_mem {l : List (Str × Int)} {s : Song} (h : s ∈ allS l) : ∃ N : Int, (s.1, N) ∈ l ∧ (s.2 : Int) < N := by
  obtain ⟨p, hp, h2⟩ := List.mem_flatMap.mp h
  obtain ⟨i, hi, rfl⟩ := List.mem_map.mp h2
  exact ⟨p.2, hp, by have := List.mem_range.mp hi; simp only; omega⟩
theorem olds_lookup {l : List (Str × Int)} {st : List Itm} (hnd : (l.map (·.1)).Nodup) {x : Str} {i : Int} (hl : l.lookup x = some i) (hc : (cnt st x : Int) < i) : (olds l st).lookup x = some (i - (cnt st x : Int)) := by
  refine lookup_mem (p := (x, i - (cnt st x : Int))) (olds_nodup hnd) ?_
  refine List.mem_filterMap.mpr ⟨(x, i), lookup_some_mem hl, ?_⟩
  simp only
  rw [if_pos (by omega)]
section
variable {σ : Loc} {h h1 : Hh} {QV : Val → Hh → Prop} {N : Loc → Hh → Prop} {R : Val → Hh → Prop}
variable {n d c m : Nat} {l : List (Str × Int)} {st : List Itm} {ws ss : List Int} {sp : Int} {K : Nat} {M : Int} {pv : Val} {a : Option Int} {k : Str}
theorem okSt.okI {j : Nat} (o : okSt l j st) (hn : ∀ p ∈ l, okName p.1) : okI st := fun k b hb => by
  obtain ⟨i, hi⟩ := Option.isSome_iff_exists.mp (o.kd k b hb)
  exact hn _ (lookup_some_mem hi)
/-- the turn of a row of plays: where the song stands -/
theorem play_at {rp : List Play} {s : Song} {j : Nat} {n : Nat} (hj : fstAt s ((rp.take n).map (·.1)) = some j) : ∃ b, (ofS n [] rp)[j]? = some (some (s.1, b)) := by
  obtain ⟨h1, h2⟩ := fstAt_some hj
  rw [List.getElem?_map] at h1
  cases e : (rp.take n)[j]? with
  | none => rw [e] at h1; cases h1
  | some p =>
    rw [e] at h1
    have hs : p.1 = s := Option.some.inj h1
    have hjn : j < n := by have := (List.getElem?_eq_some_iff.mp e).1; rw [List.length_take] at this; omega
    have ep : rp[j]? = some p := by rw [List.getElem?_take_of_lt hjn] at e; exact e
    rw [← List.map_take, List.take_take, Nat.min_eq_left (by omega)] at h2
    refine ⟨p.2, ?_⟩
    rw [ofS_get n [] rp j hjn, ep]
    simp only [List.not_mem_nil, false_or]
    rw [hs, if_neg h2]
theorem rows_right_ok (D : Dw h) (C : Case c n ws ss sp l h) (okr : okR ws ss sp) (ok : okNum l 3 M) (hM : M ≤ 100) (q : ∀ g, Dw g → Kd h g → QV (.bl true) g) : Wp (f__law_rows_right [.ref 2, .ref c] h) QV := by
  have l1 := okr.l1
  have l4 := okr.l4
  have hnd := ok.nd
  have oks := srt_okN ok
  have hnds := srt_nodup hnd
  have hnm : ∀ p ∈ srt l, okName p.1 := oks.nm
  have hnms : nmsOk (srt l) := fun p hp => (hnm p hp).nm
  have hv0 : ∀ x i, (srt l).lookup x = some i → 0 ≤ i := fun x i e => (oks.vl _ (lookup_some_mem e)).1
  have lK := oks.lK
  unfold f__law_rows_right b__law_rows_right
  rw [w_fn]
  show WpF (msSeq _ _ [some (.ref 2), some (.ref c), none, none, none, none, none, none, none, none, none, none, none, none, none] h) _ _
  simp only [f_seq, f_asg, f_name, f_tup, f_gcons, f_gnil, f_ret, f_retN, f_expr, f_if, f_nil, f_par, f_par3, f_fld, f_sub, w_op, w_un, w_app, w_acons, w_anil, w_C, w_var0, w_varS, w_callF, w_and, w_or, w_not, w_if, w_tval, w_tand, w_tor, w_tnot, w_tbl, w_ttrue, w_chain, w_prop, w_meth, w_methK, w_mkK', w_kw, w_sl, w_mpE, w_mpNo, w_vals, wp_ok, wp_bind, wp_nr, List.set, List.length_cons, List.length_nil, Nat.zero_add, Nat.reduceAdd, add_int, sub_int, le_int, lt_int, ge_int, gt_int, eqD_int, eqD_str, sl_tup, len_tup, truth, true_and, and_true, Bool.not_true, Bool.not_false, Bool.false_eq_true, if_false, if_true, List.cons_append, List.nil_append, List.append_nil, decide_true, decide_false]
  refine rule_of_ok C okr fun r g1 e1 lr k1 => ?_
  refine songs_in_ok (C.k k1) ok fun sn sd g2 S2 ls ld k2 => ?_
  have hlD := D.len
  have K12 := k1.trans k2
  have hk1 := k1.len
  unfold b__law_rows_right_9
  have C2 := C.k K12
  have er2 := k2.k e1
  simp only [f_seq, f_asg, f_name, f_tup, f_gcons, f_gnil, f_ret, f_retN, f_expr, f_if, f_nil, f_par, f_par3, f_fld, f_sub, w_op, w_un, w_app, w_acons, w_anil, w_C, w_var0, w_varS, w_callF, w_and, w_or, w_not, w_if, w_tval, w_tand, w_tor, w_tnot, w_tbl, w_ttrue, w_chain, w_prop, w_meth, w_methK, w_mkK', w_kw, w_sl, w_mpE, w_mpNo, w_vals, wp_ok, wp_bind, wp_nr, List.set, List.length_cons, List.length_nil, Nat.zero_add, Nat.reduceAdd, add_int, sub_int, le_int, lt_int, ge_int, gt_int, eqD_int, eqD_str, sl_tup, len_tup, truth, true_and, and_true, Bool.not_true, Bool.not_false, Bool.false_eq_true, if_false, if_true, List.cons_append, List.nil_append, List.append_nil, decide_true, decide_false]
  refine k_lst (by simp) fun pl g3 e3 l3 k3 => ?_
  have C3 := C2.k k3
  simp only [f_seq, f_asg, f_name, f_tup, f_gcons, f_gnil, f_ret, f_retN, f_expr, f_if, f_nil, f_par, f_par3, f_fld, f_sub, w_op, w_un, w_app, w_acons, w_anil, w_C, w_var0, w_varS, w_callF, w_and, w_or, w_not, w_if, w_tval, w_tand, w_tor, w_tnot, w_tbl, w_ttrue, w_chain, w_prop, w_meth, w_methK, w_mkK', w_kw, w_sl, w_mpE, w_mpNo, w_vals, wp_ok, wp_bind, wp_nr, List.set, List.length_cons, List.length_nil, Nat.zero_add, Nat.reduceAdd, add_int, sub_int, le_int, lt_int, ge_int, gt_int, eqD_int, eqD_str, sl_tup, len_tup, truth, true_and, and_true, Bool.not_true, Bool.not_false, Bool.false_eq_true, if_false, if_true, List.cons_append, List.nil_append, List.append_nil, decide_true, decide_false, first_one_ok C3 l1 l4]
  refine k_lst (by simp) fun ev g4 e4 l4' k4 => ?_
  have C4 := C3.k k4
  have er4 := k4.k (k3.k er2)
  have S4 := (S2.k k3).k k4
  have e34 := k4.k e3
  have K4 := (K12.trans k3).trans k4
  have hk2 := k2.len
  have hk3 := k3.len
  have D4 := D.k K4
  have hfst : List.replicate (ws.length - 1) none = ofS (ws.length - 1) [] [] := (ofS_nil _ _).symm
  rw [hfst]
  -- all songs
  unfold b__law_rows_right_8
  simp only [f_seq, f_asg, f_name, f_tup, f_gcons, f_gnil, f_ret, f_retN, f_expr, f_if, f_nil, f_par, f_par3, f_fld, f_sub, w_op, w_un, w_app, w_acons, w_anil, w_C, w_var0, w_varS, w_callF, w_and, w_or, w_not, w_if, w_tval, w_tand, w_tor, w_tnot, w_tbl, w_ttrue, w_chain, w_prop, w_meth, w_methK, w_mkK', w_kw, w_sl, w_mpE, w_mpNo, w_vals, wp_ok, wp_bind, wp_nr, List.set, List.length_cons, List.length_nil, Nat.zero_add, Nat.reduceAdd, add_int, sub_int, le_int, lt_int, ge_int, gt_int, eqD_int, eqD_str, sl_tup, len_tup, truth, true_and, and_true, Bool.not_true, Bool.not_false, Bool.false_eq_true, if_false, if_true, List.cons_append, List.nil_append, List.append_nil, decide_true, decide_false]
  have hs := sort_dct C4.en (by have := ok.lK; omega)
  rw [show (sSort (l.map (·.1))).map Val.str = ((srt l).map (·.1)).map Val.str by rw [srt_keys]] at hs
  have es := app_new g4 (.lst (((srt l).map (·.1)).map Val.str))
  have hmi : miVal (mApp vSortS (maCons (mOp vIx (mVar 1) (mC (.str "numbers"))) maNil)) [some (.ref 2), some (.ref c), some (.ref r), some (.ref sn), some (.ref pl), some (stV (ofS (ws.length - 1) [] [])), some (.ref ev), none, none, none, none, none, none, none, none] g4 = .ok ⟨((srt l).map (·.1)).map Val.str, fun h => h[g4.length]? = some (.lst (((srt l).map (·.1)).map Val.str)), none⟩ (g4 ++ [.lst (((srt l).map (·.1)).map Val.str)]) :=
    val_lst (n := g4.length) (by simp [mApp, maCons, maNil, mOp, mC, C4.numbers, hs]) es
  have k5 := (Kp.refl [] g4).app [.lst (((srt l).map (·.1)).map Val.str)]
  refine f_forE (fun k σ g => ∃ x7 ev, σ = [some (.ref 2), some (.ref c), some (.ref r), some (.ref sn), some (.ref pl), some (stV (ofS (ws.length - 1) [] [])), some (.ref ev), x7, none, none, none, none, none, none, none] ∧ 4 ≤ ev ∧ g[ev]? = some (.lst ((allS ((srt l).take k)).map songV)) ∧ (allS ((srt l).take k)).length ≤ 101 * k ∧ Kp [] g4 g ∧ g[g4.length]? = some (.lst (((srt l).map (·.1)).map Val.str))) hmi rfl
    ⟨none, ev, rfl, by omega, by simpa [allS] using app_at _ e4, by simp [allS], k5, es⟩ (fun k σ g ⟨_, _, _, _, _, _, _, e⟩ => e) ?_ ?_
  · rintro k v σ g ev' ⟨x7, ev, rfl, hev, ee, hle, Kg, eg⟩
    have ev'' : (((srt l).map (·.1)).map Val.str)[k]? = some v := ev'
    rw [List.getElem?_map, List.getElem?_map] at ev''
    cases ep : (srt l)[k]? with
    | none => rw [ep] at ev''; cases ev''
    | some p =>
      rw [ep] at ev''
      simp at ev''
      subst ev''
      have hk : k < (srt l).length := (List.getElem?_eq_some_iff.mp ep).1
      have hpm := List.mem_of_getElem? ep
      have hpl : p ∈ l := (srt_perm hnd).mem_iff.mp hpm
      have hlk := lookup_mem hnd hpl
      have hpv := ok.vl p hpl
      have Cg := C4.k Kg
      obtain ⟨x, i⟩ := p
      obtain ⟨i, rfl⟩ : ∃ i' : Nat, i = i' := ⟨i.toNat, by have := hpv.1; simp only at this; omega⟩
      have hi100 : i ≤ 100 := by have := hpv.2; simp only at this; omega
      have hr1 : ∀ σ' : Loc, σ'[1]? = some (some (.ref c)) → σ'[7]? = some (some (.str x)) → miRng1 (mOp vIx (mOp vIx (mVar 1) (mC (.str "numbers"))) (mVar 7)) σ' g = .ok ⟨(List.range i).map fun i => .int ((i : Nat) : Int), fun _ => True, none⟩ g := fun σ' h1 h7 => by
        rw [val_rng (j := (i : Int)) (h1 := g) (by simp [mOp, mC, mVar, h1, h7, Cg.numbers, ix_nd Cg.en hlk]) (by omega), Int.toNat_natCast]
      simp only [f_seq, f_asg, f_name, f_tup, f_gcons, f_gnil, f_ret, f_retN, f_expr, f_if, f_nil, f_par, f_par3, f_fld, f_sub, w_op, w_un, w_app, w_acons, w_anil, w_C, w_var0, w_varS, w_callF, w_and, w_or, w_not, w_if, w_tval, w_tand, w_tor, w_tnot, w_tbl, w_ttrue, w_chain, w_prop, w_meth, w_methK, w_mkK', w_kw, w_sl, w_mpE, w_mpNo, w_vals, wp_ok, wp_bind, wp_nr, List.set, List.length_cons, List.length_nil, Nat.zero_add, Nat.reduceAdd, add_int, sub_int, le_int, lt_int, ge_int, gt_int, eqD_int, eqD_str, sl_tup, len_tup, truth, true_and, and_true, Bool.not_true, Bool.not_false, Bool.false_eq_true, if_false, if_true, List.cons_append, List.nil_append, List.append_nil, decide_true, decide_false]
      refine pure_k (lc_pure (fun v => match v with | .int j => some (.tup [.str x, .int j]) | _ => none) (hr1 _ rfl rfl) rfl (szl (by simp; omega)) (fun _ => trivial) fun v hv l => ?_) ?_
      · obtain ⟨j, hj, rfl⟩ := List.mem_map.mp (show v ∈ (List.range i).map fun i => Val.int ((i : Nat) : Int) from hv)
        have t2 : ∀ (a b : Val) (g : Hh), vTup [a, b] g = .ok (.tup [a, b]) g := fun a b g => tup_v g (by simp)
        simp [lcB, Tg.bd, wipeL, tTrue, mApp, maCons, maNil, mVar, t2]
      · have hfm : ((List.range i).map fun i => Val.int ((i : Nat) : Int)).filterMap (fun v => match v with | .int j => some (.tup [.str x, .int j]) | _ => none) = ((List.range i).map fun j => ((x, j) : Song)).map songV := by
          rw [List.filterMap_map, List.map_map]
          show (List.range i).filterMap (fun j => some (songV (x, j))) = _
          rw [List.filterMap_eq_map']; rfl
        rw [show (⟨(List.range i).map fun i => Val.int ((i : Nat) : Int), fun _ => True, none⟩ : Itb).items.filterMap _ = _ from hfm]
        have e6 := app_new g (.lst (((List.range i).map fun j => ((x, j) : Song)).map songV))
        have k6 := (Kp.refl [] g).app [.lst (((List.range i).map fun j => ((x, j) : Song)).map songV)]
        have ee6 := k6.k ee
        generalize g.length = r6 at e6 ⊢
        generalize g ++ [Ob.lst (((List.range i).map fun j => ((x, j) : Song)).map songV)] = g6 at e6 k6 ee6 ⊢
        refine k_addL ee6 e6 (szl (by simp; omega)) fun n7 g7 e7 l7 k7 => ?_
        have K7 := (Kg.trans k6).trans k7
        have hall : allS ((srt l).take (k + 1)) = allS ((srt l).take k) ++ (List.range i).map fun j => ((x, j) : Song) := by
          rw [List.take_add_one, ep]
          unfold allS
          rw [List.flatMap_append]
          congr 1
          show ((List.range ((i : Int)).toNat).map fun j => ((x, j) : Song)) ++ [] = _
          rw [Int.toNat_natCast, List.append_nil]
        refine ⟨_, n7, rfl, ?_, by rw [e7, hall, List.map_append], by rw [hall]; simp; omega, K7, k7.k (k6.k eg)⟩
        have := lt_of ee6
        have := Kg.len
        have := k6.len
        omega
  · rintro σ g ⟨x7, ev, rfl, hev, ee, hle, Kg, eg⟩
    have hil : (⟨((srt l).map (·.1)).map Val.str, fun h => h[g4.length]? = some (.lst (((srt l).map (·.1)).map Val.str)), none⟩ : Itb).items.length = (srt l).length := by
      show (((srt l).map (·.1)).map Val.str).length = _
      simp
    rw [hil] at ee hle
    rw [List.take_length] at ee hle
    have hne : allS (srt l) ≠ [] := fun z => by
      have : ∀ p ∈ srt l, p.2 = 0 := fun p hp => by
        have hv := (oks.vl p hp).1
        by_cases z0 : p.2 = 0
        · exact z0
        · exfalso
          have : (p.1, 0) ∈ allS (srt l) := List.mem_flatMap.mpr ⟨p, hp, List.mem_map.mpr ⟨0, List.mem_range.mpr (by omega), rfl⟩⟩
          rw [z] at this; cases this
      have hs : ((srt l).map (·.2)).sum = 0 := by
        have key : ∀ l : List (Str × Int), (∀ p ∈ l, p.2 = 0) → (l.map (·.2)).sum = 0 := by
          intro l
          induction l with
          | nil => intro _; rfl
          | cons p l ih => intro hh; simp only [List.map_cons, List.sum_cons]; rw [hh p (by simp), ih fun q hq => hh q (by simp [hq])]; rfl
        exact key _ this
      have := oks.po
      omega
    have hsong : ∀ s ∈ allS (srt l), okSong (srt l) s := fun s hs => by
      obtain ⟨N, h1, h2⟩ := allS_mem hs
      exact ⟨N, lookup_mem hnds h1, h2⟩
    unfold b__law_rows_right_7
    simp only [f_seq, f_asg, f_name, f_tup, f_gcons, f_gnil, f_ret, f_retN, f_expr, f_if, f_nil, f_par, f_par3, f_fld, f_sub, w_op, w_un, w_app, w_acons, w_anil, w_C, w_var0, w_varS, w_callF, w_and, w_or, w_not, w_if, w_tval, w_tand, w_tor, w_tnot, w_tbl, w_ttrue, w_chain, w_prop, w_meth, w_methK, w_mkK', w_kw, w_sl, w_mpE, w_mpNo, w_vals, wp_ok, wp_bind, wp_nr, List.set, List.length_cons, List.length_nil, Nat.zero_add, Nat.reduceAdd, add_int, sub_int, le_int, lt_int, ge_int, gt_int, eqD_int, eqD_str, sl_tup, len_tup, truth, true_and, and_true, Bool.not_true, Bool.not_false, Bool.false_eq_true, if_false, if_true, List.cons_append, List.nil_append, List.append_nil, decide_true, decide_false]
    have hm7 : miRng1 (mC (.int 7)) [some (.ref 2), some (.ref c), some (.ref r), some (.ref sn), some (.ref pl), some (stV (ofS (ws.length - 1) [] [])), some (.ref ev), x7, none, none, none, none, none, none, none] g = .ok ⟨(List.range 7).map fun i => .int ((i : Nat) : Int), fun _ => True, none⟩ g := by
      rw [val_rng (j := 7) (h1 := g) rfl (by omega)]; rfl
    have Dg := D4.k Kg
    have hplc : 4 ≤ pl := by omega
    refine f_forE (fun k σ g => ∃ rp x8 x9 x10 x11 x12, σ = [some (.ref 2), some (.ref c), some (.ref r), some (.ref sn), some (.ref pl), some (stV (ofS (ws.length - 1) [] rp)), some (.ref ev), x7, x8, x9, x10, x11, x12, none, none] ∧ rp.length = k ∧ (∀ p ∈ rp, okSong (srt l) p.1) ∧ g[pl]? = some (.lst (rp.reverse.map playV)) ∧ g[ev]? = some (.lst ((allS (srt l)).map songV)) ∧
      RuleAt r ws ss sp g ∧ SongsAt sn sd (srt l) g ∧ Case c n ws ss sp l g ∧ Dw g ∧ Kd h g) hm7 rfl ⟨[], none, none, none, none, none, rfl, rfl, by simp, Kg.k e34, ee, Kg.k er4, S4.k Kg, C4.k Kg, Dg, (K4.trans Kg).kd⟩ (fun _ _ _ _ => trivial) ?_ ?_
    · rintro k v σ g ev' ⟨rp, x8, x9, x10, x11, x12, rfl, hrp, hos, epl, eev, er, S, C, D, Kh⟩
      have hk : k < 7 := by have := (List.getElem?_eq_some_iff.mp ev').1; simpa using this
      have hpne : pl ≠ ev := fun z => by
        subst z
        rw [epl] at eev
        cases hrp0 : rp with
        | nil =>
          subst hrp0
          simp at eev
          exact hne eev
        | cons p rr =>
          subst hrp0
          have h1 := Option.some.inj eev
          injection h1 with h1
          cases hal : allS (srt l) with
          | nil => exact hne hal
          | cons s ss' =>
            rw [hal] at h1
            have h2 := congrArg (fun vs : List Val => vs[0]?) h1
            simp only [List.map_cons, List.getElem?_cons_zero] at h2
            cases hrr : (p :: rr).reverse with
            | nil => simp at hrr
            | cons p' r' =>
              rw [hrr] at h2
              simp [playV, songV] at h2
      simp only [f_seq, f_asg, f_name, f_tup, f_gcons, f_gnil, f_ret, f_retN, f_expr, f_if, f_nil, f_par, f_par3, f_fld, f_sub, w_op, w_un, w_app, w_acons, w_anil, w_C, w_var0, w_varS, w_callF, w_and, w_or, w_not, w_if, w_tval, w_tand, w_tor, w_tnot, w_tbl, w_ttrue, w_chain, w_prop, w_meth, w_methK, w_mkK', w_kw, w_sl, w_mpE, w_mpNo, w_vals, wp_ok, wp_bind, wp_nr, List.set, List.length_cons, List.length_nil, Nat.zero_add, Nat.reduceAdd, add_int, sub_int, le_int, lt_int, ge_int, gt_int, eqD_int, eqD_str, sl_tup, len_tup, truth, true_and, and_true, Bool.not_true, Bool.not_false, Bool.false_eq_true, if_false, if_true, List.cons_append, List.nil_append, List.append_nil, decide_true, decide_false]
      refine pick_d D eev hev (by simp; exact List.length_pos_iff.mpr hne) (by simp; omega) fun u g1 hu D1 K1 => ?_
      obtain ⟨s, hs, rfl⟩ := List.mem_map.mp hu
      have hos1 := hsong s hs
      obtain ⟨Ns, hNs, hsN⟩ := hos1
      have hnk : okName s.1 := hnm _ (lookup_some_mem hNs)
      refine take_d D1 (by omega) (by omega) fun t g2 t0 t1 D2 K2 => ?_
      simp only [f_seq, f_asg, f_name, f_tup, f_gcons, f_gnil, f_ret, f_retN, f_expr, f_if, f_nil, f_par, f_par3, f_fld, f_sub, w_op, w_un, w_app, w_acons, w_anil, w_C, w_var0, w_varS, w_callF, w_and, w_or, w_not, w_if, w_tval, w_tand, w_tor, w_tnot, w_tbl, w_ttrue, w_chain, w_prop, w_meth, w_methK, w_mkK', w_kw, w_sl, w_mpE, w_mpNo, w_vals, wp_ok, wp_bind, wp_nr, List.set, List.length_cons, List.length_nil, Nat.zero_add, Nat.reduceAdd, add_int, sub_int, le_int, lt_int, ge_int, gt_int, eqD_int, eqD_str, sl_tup, len_tup, truth, true_and, and_true, Bool.not_true, Bool.not_false, Bool.false_eq_true, if_false, if_true, List.cons_append, List.nil_append, List.append_nil, decide_true, decide_false]
      generalize decide (t = 0) = b
      have K12 := K1.trans K2
      have epl2 := K12.d epl hplc
      have eev2 := K12.d eev hev
      have er2' := K12.d er (by omega)
      have S2' := S.d K12 (by omega) (by omega)
      have C2' := C.d K12
      have hnp : ∀ p ∈ rp, nmOk p.1.1 := fun p hp => by
        obtain ⟨N', h1, _⟩ := hos p hp
        exact (hnm _ (lookup_some_mem h1)).nm
      -- late
      unfold b__law_rows_right_5
      simp only [f_seq, f_asg, f_name, f_tup, f_gcons, f_gnil, f_ret, f_retN, f_expr, f_if, f_nil, f_par, f_par3, f_fld, f_sub, w_op, w_un, w_app, w_acons, w_anil, w_C, w_var0, w_varS, w_callF, w_and, w_or, w_not, w_if, w_tval, w_tand, w_tor, w_tnot, w_tbl, w_ttrue, w_chain, w_prop, w_meth, w_methK, w_mkK', w_kw, w_sl, w_mpE, w_mpNo, w_vals, wp_ok, wp_bind, wp_nr, List.set, List.length_cons, List.length_nil, Nat.zero_add, Nat.reduceAdd, add_int, sub_int, le_int, lt_int, ge_int, gt_int, eqD_int, eqD_str, sl_tup, len_tup, truth, true_and, and_true, Bool.not_true, Bool.not_false, Bool.false_eq_true, if_false, if_true, List.cons_append, List.nil_append, List.append_nil, decide_true, decide_false]
      have er3 := app_new g2 (.lst (rp.map playV))
      have hrv : mUn vRev (mVar 4) [some (.ref 2), some (.ref c), some (.ref r), some (.ref sn), some (.ref pl), some (stV (ofS (ws.length - 1) [] rp)), some (.ref ev), x7, some v, some (songV s), some (.bl b), x11, x12, none, none] g2 = .ok (.ref g2.length) (g2 ++ [.lst (rp.map playV)]) := by
        have : (rp.reverse.map playV).reverse = rp.map playV := by rw [List.map_reverse, List.reverse_reverse]
        simp [mUn, rev_lst epl2, this]
      have hmi3 : miVal (mUn vRev (mVar 4)) [some (.ref 2), some (.ref c), some (.ref r), some (.ref sn), some (.ref pl), some (stV (ofS (ws.length - 1) [] rp)), some (.ref ev), x7, some v, some (songV s), some (.bl b), x11, x12, none, none] g2 = .ok ⟨rp.map playV, fun h => h[g2.length]? = some (.lst (rp.map playV)), none⟩ (g2 ++ [.lst (rp.map playV)]) := val_lst hrv er3
      refine pure_k (lc_fst (by simp) hmi3 (by omega) fun l => app_at [l] er3) ?_
      have e4' := app_new (g2 ++ [.lst (rp.map playV)]) (.lst ((rp.map (·.1)).map songV))
      have k4' := ((Kp.refl [] g2).app [.lst (rp.map playV)]).app [.lst ((rp.map (·.1)).map songV)]
      generalize (g2 ++ [Ob.lst (rp.map playV)]).length = r4 at e4' ⊢
      generalize g2 ++ [Ob.lst (rp.map playV)] ++ [Ob.lst ((rp.map (·.1)).map songV)] = g4' at e4' k4' ⊢
      have C4' := C2'.k k4'
      simp only [f_seq, f_asg, f_name, f_tup, f_gcons, f_gnil, f_ret, f_retN, f_expr, f_if, f_nil, f_par, f_par3, f_fld, f_sub, w_op, w_un, w_app, w_acons, w_anil, w_C, w_var0, w_varS, w_callF, w_and, w_or, w_not, w_if, w_tval, w_tand, w_tor, w_tnot, w_tbl, w_ttrue, w_chain, w_prop, w_meth, w_methK, w_mkK', w_kw, w_sl, w_mpE, w_mpNo, w_vals, wp_ok, wp_bind, wp_nr, List.set, List.length_cons, List.length_nil, Nat.zero_add, Nat.reduceAdd, add_int, sub_int, le_int, lt_int, ge_int, gt_int, eqD_int, eqD_str, sl_tup, len_tup, truth, true_and, and_true, Bool.not_true, Bool.not_false, Bool.false_eq_true, if_false, if_true, List.cons_append, List.nil_append, List.append_nil, decide_true, decide_false, C4'.weights, List.length_map]
      have hsl : vSl (.ref r4) none (some ((ws.length : Int) - 1)) g4' = .ok (.ref g4'.length) (g4' ++ [.lst (((rp.take (ws.length - 1)).map (·.1)).map songV)]) := by
        have : cutL ((rp.map (·.1)).map songV) none (some ((ws.length : Int) - 1)) = ((rp.take (ws.length - 1)).map (·.1)).map songV := by
          rw [show (ws.length : Int) - 1 = ((ws.length - 1 : Nat) : Int) by omega, cut_to, ← List.map_take, ← List.map_take]
        simp only [vSl, e4', this]
      rw [hsl, wp_ok]
      have e5 := app_new g4' (.lst (((rp.take (ws.length - 1)).map (·.1)).map songV))
      have k5' := k4'.app [.lst (((rp.take (ws.length - 1)).map (·.1)).map songV)]
      generalize g4'.length = r5 at e5 ⊢
      generalize g4' ++ [Ob.lst (((rp.take (ws.length - 1)).map (·.1)).map songV)] = g5 at e5 k5' ⊢
      have hnl : ∀ s ∈ (rp.take (ws.length - 1)).map (·.1), nmOk s.1 := fun s hs => by
        obtain ⟨p, hp, rfl⟩ := List.mem_map.mp hs
        exact hnp p (List.mem_of_mem_take hp)
      have hst := ofS_ok (n := ws.length - 1) hos hv0
      have hst2 : okSt (srt l) (ws.length - 1) (ofS (ws.length - 1) [] ((s, b) :: rp)) := ofS_ok (fun p hp => by
        rcases List.mem_cons.mp hp with rfl | hp
        · exact ⟨Ns, hNs, hsN⟩
        · exact hos p hp) hv0
      have epl5 := k5'.k epl2
      have er5 := k5'.k er2'
      have S5 := S2'.k k5'
      have C5 := C2'.k k5'
      have D5 := D2.k k5'
      have Kh5 : Kd h g5 := (Kh.trans K12).trans k5'.kd
      have fin : ∀ (pv : Val) (a : Option Int) (g5' : Hh), g5' = g5 → PlAt (srt l) (ofS (ws.length - 1) [] rp) pv a s.1 → a = (fstAt s ((rp.take (ws.length - 1)).map (·.1))).map (fun j : Nat => (j : Int) + 1) →
          WpF (b__law_rows_right_3 [some (.ref 2), some (.ref c), some (.ref r), some (.ref sn), some (.ref pl), some (stV (ofS (ws.length - 1) [] rp)), some (.ref ev), x7, some v, some (songV s), some (.bl b), some (.ref r5), some pv, none, none] g5') (fun σ g => ∃ rp x8 x9 x10 x11 x12, σ = [some (.ref 2), some (.ref c), some (.ref r), some (.ref sn), some (.ref pl), some (stV (ofS (ws.length - 1) [] rp)), some (.ref ev), x7, x8, x9, x10, x11, x12, none, none] ∧ rp.length = k + 1 ∧ (∀ p ∈ rp, okSong (srt l) p.1) ∧ g[pl]? = some (.lst (rp.reverse.map playV)) ∧ g[ev]? = some (.lst ((allS (srt l)).map songV)) ∧
            RuleAt r ws ss sp g ∧ SongsAt sn sd (srt l) g ∧ Case c n ws ss sp l g ∧ Dw g ∧ Kd h g) QV := by
        intro pv a g5' hg P ha
        subst hg
        have hdr : drawnS (ofS (ws.length - 1) [] rp) a s.1 b = ofS (ws.length - 1) [] ((s, b) :: rp) := by
          rw [ofS_draw, ha]
        unfold b__law_rows_right_3
        simp only [f_seq, f_asg, f_name, f_tup, f_gcons, f_gnil, f_ret, f_retN, f_expr, f_if, f_nil, f_par, f_par3, f_fld, f_sub, w_op, w_un, w_app, w_acons, w_anil, w_C, w_var0, w_varS, w_callF, w_and, w_or, w_not, w_if, w_tval, w_tand, w_tor, w_tnot, w_tbl, w_ttrue, w_chain, w_prop, w_meth, w_methK, w_mkK', w_kw, w_sl, w_mpE, w_mpNo, w_vals, wp_ok, wp_bind, wp_nr, List.set, List.length_cons, List.length_nil, Nat.zero_add, Nat.reduceAdd, add_int, sub_int, le_int, lt_int, ge_int, gt_int, eqD_int, eqD_str, sl_tup, len_tup, truth, true_and, and_true, Bool.not_true, Bool.not_false, Bool.false_eq_true, if_false, if_true, List.cons_append, List.nil_append, List.append_nil, decide_true, decide_false, w_mt, isT_lst epl5]
        refine k_tup (by simp) ?_
        rw [app_lst epl5 (by simp; omega), wp_ok]
        have epl6 := set_self (o' := .lst (rp.reverse.map playV ++ [Val.tup [songV s, .bl b]])) epl5
        have hpl' : rp.reverse.map playV ++ [Val.tup [songV s, .bl b]] = ((s, b) :: rp).reverse.map playV := by simp [playV]
        rw [hpl'] at epl6 ⊢
        have hsl2 : ∀ {i : Nat} {o : Ob}, g5'[i]? = some o → i ≠ pl → (g5'.set pl (.lst (((s, b) :: rp).reverse.map playV)))[i]? = some o := fun e ne => set_at e (Ne.symm ne)
        have hrp' : r ≠ pl := by have := lt_of er2; omega
        have hsp' : sn ≠ pl := by have := lt_of S2.e; omega
        have hdp' : sd ≠ pl := by have := lt_of S2.ed; omega
        have hcp' : c ≠ pl := by have := lt_of C2.ec; omega
        have hnp' : n ≠ pl := by have := lt_of C2.en; omega
        have eev6 := hsl2 (k5'.k eev2) (Ne.symm hpne)
        have er6 := hsl2 er5 hrp'
        have S6 : SongsAt sn sd (srt l) (g5'.set pl (.lst (((s, b) :: rp).reverse.map playV))) := ⟨hsl2 S5.e hsp', hsl2 S5.ed hdp'⟩
        have C6 : Case c n ws ss sp l (g5'.set pl (.lst (((s, b) :: rp).reverse.map playV))) := ⟨C5.c4, C5.n4, C5.ne, hsl2 C5.ec hcp', hsl2 C5.en hnp'⟩
        have D6 := D5.kp ((Kp.refl [pl] g5').set pl (.lst (((s, b) :: rp).reverse.map playV)) (.inl (by simp))) (by simp; omega)
        have Kh6 : Kd h (g5'.set pl (.lst (((s, b) :: rp).reverse.map playV))) := Kh5.set' (by omega)
        generalize g5'.set pl (.lst (((s, b) :: rp).reverse.map playV)) = g6 at epl6 eev6 er6 S6 C6 D6 Kh6 ⊢
        unfold b__law_rows_right_2
        simp only [f_seq, f_asg, f_name, f_tup, f_gcons, f_gnil, f_ret, f_retN, f_expr, f_if, f_nil, f_par, f_par3, f_fld, f_sub, w_op, w_un, w_app, w_acons, w_anil, w_C, w_var0, w_varS, w_callF, w_and, w_or, w_not, w_if, w_tval, w_tand, w_tor, w_tnot, w_tbl, w_ttrue, w_chain, w_prop, w_meth, w_methK, w_mkK', w_kw, w_sl, w_mpE, w_mpNo, w_vals, wp_ok, wp_bind, wp_nr, List.set, List.length_cons, List.length_nil, Nat.zero_add, Nat.reduceAdd, add_int, sub_int, le_int, lt_int, ge_int, gt_int, eqD_int, eqD_str, sl_tup, len_tup, truth, true_and, and_true, Bool.not_true, Bool.not_false, Bool.false_eq_true, if_false, if_true, List.cons_append, List.nil_append, List.append_nil, decide_true, decide_false]
        refine k_tup (by simp) ?_
        refine behind_ok er6 S6 hnms hst l1 l4 (by omega) hnds P fun g7 k7 => ?_
        rw [hdr]
        unfold b__law_rows_right_1
        have oI2 := hst2.okI hnm
        have hl2 := hst2.len
        simp only [f_seq, f_asg, f_name, f_tup, f_gcons, f_gnil, f_ret, f_retN, f_expr, f_if, f_nil, f_par, f_par3, f_fld, f_sub, w_op, w_un, w_app, w_acons, w_anil, w_C, w_var0, w_varS, w_callF, w_and, w_or, w_not, w_if, w_tval, w_tand, w_tor, w_tnot, w_tbl, w_ttrue, w_chain, w_prop, w_meth, w_methK, w_mkK', w_kw, w_sl, w_mpE, w_mpNo, w_vals, wp_ok, wp_bind, wp_nr, List.set, List.length_cons, List.length_nil, Nat.zero_add, Nat.reduceAdd, add_int, sub_int, le_int, lt_int, ge_int, gt_int, eqD_int, eqD_str, sl_tup, len_tup, truth, true_and, and_true, Bool.not_true, Bool.not_false, Bool.false_eq_true, if_false, if_true, List.cons_append, List.nil_append, List.append_nil, decide_true, decide_false]
        rw [repr_st oI2 (by omega)]
        simp only [f_seq, f_asg, f_name, f_tup, f_gcons, f_gnil, f_ret, f_retN, f_expr, f_if, f_nil, f_par, f_par3, f_fld, f_sub, w_op, w_un, w_app, w_acons, w_anil, w_C, w_var0, w_varS, w_callF, w_and, w_or, w_not, w_if, w_tval, w_tand, w_tor, w_tnot, w_tbl, w_ttrue, w_chain, w_prop, w_meth, w_methK, w_mkK', w_kw, w_sl, w_mpE, w_mpNo, w_vals, wp_ok, wp_bind, wp_nr, List.set, List.length_cons, List.length_nil, Nat.zero_add, Nat.reduceAdd, add_int, sub_int, le_int, lt_int, ge_int, gt_int, eqD_int, eqD_str, sl_tup, len_tup, truth, true_and, and_true, Bool.not_true, Bool.not_false, Bool.false_eq_true, if_false, if_true, List.cons_append, List.nil_append, List.append_nil, decide_true, decide_false]
        refine of_songs_ok (C6.k k7) l1 l4 (k7.k epl6) (fun p hp => ?_) (by simp; omega) fun g8 k8 => ?_
        · rcases List.mem_cons.mp hp with rfl | hp
          · exact hnk.nm
          · exact hnp p hp
        rw [repr_st oI2 (by omega)]
        simp only [f_seq, f_asg, f_name, f_tup, f_gcons, f_gnil, f_ret, f_retN, f_expr, f_if, f_nil, f_par, f_par3, f_fld, f_sub, w_op, w_un, w_app, w_acons, w_anil, w_C, w_var0, w_varS, w_callF, w_and, w_or, w_not, w_if, w_tval, w_tand, w_tor, w_tnot, w_tbl, w_ttrue, w_chain, w_prop, w_meth, w_methK, w_mkK', w_kw, w_sl, w_mpE, w_mpNo, w_vals, wp_ok, wp_bind, wp_nr, List.set, List.length_cons, List.length_nil, Nat.zero_add, Nat.reduceAdd, add_int, sub_int, le_int, lt_int, ge_int, gt_int, eqD_int, eqD_str, sl_tup, len_tup, truth, true_and, and_true, Bool.not_true, Bool.not_false, Bool.false_eq_true, if_false, if_true, List.cons_append, List.nil_append, List.append_nil, decide_true, decide_false]
        have k78 := k7.trans k8
        refine is_standing_ok (k78.k er6) (S6.k k78) hnms hst2 l1 l4 fun g9 k9 => ?_
        simp only [f_seq, f_asg, f_name, f_tup, f_gcons, f_gnil, f_ret, f_retN, f_expr, f_if, f_nil, f_par, f_par3, f_fld, f_sub, w_op, w_un, w_app, w_acons, w_anil, w_C, w_var0, w_varS, w_callF, w_and, w_or, w_not, w_if, w_tval, w_tand, w_tor, w_tnot, w_tbl, w_ttrue, w_chain, w_prop, w_meth, w_methK, w_mkK', w_kw, w_sl, w_mpE, w_mpNo, w_vals, wp_ok, wp_bind, wp_nr, List.set, List.length_cons, List.length_nil, Nat.zero_add, Nat.reduceAdd, add_int, sub_int, le_int, lt_int, ge_int, gt_int, eqD_int, eqD_str, sl_tup, len_tup, truth, true_and, and_true, Bool.not_true, Bool.not_false, Bool.false_eq_true, if_false, if_true, List.cons_append, List.nil_append, List.append_nil, decide_true, decide_false]
        have k79 := k78.trans k9
        refine ⟨(s, b) :: rp, _, _, _, _, _, rfl, by simp [hrp], fun p hp => ?_, k79.k epl6, k79.k eev6, k79.k er6, S6.k k79, C6.k k79, D6.k k79, Kh6.trans k79.kd⟩
        rcases List.mem_cons.mp hp with rfl | hp
        · exact ⟨Ns, hNs, hsN⟩
        · exact hos p hp
      unfold b__law_rows_right_4
      simp only [f_seq, f_asg, f_name, f_tup, f_gcons, f_gnil, f_ret, f_retN, f_expr, f_if, f_nil, f_par, f_par3, f_fld, f_sub, w_op, w_un, w_app, w_acons, w_anil, w_C, w_var0, w_varS, w_callF, w_and, w_or, w_not, w_if, w_tval, w_tand, w_tor, w_tnot, w_tbl, w_ttrue, w_chain, w_prop, w_meth, w_methK, w_mkK', w_kw, w_sl, w_mpE, w_mpNo, w_vals, wp_ok, wp_bind, wp_nr, List.set, List.length_cons, List.length_nil, Nat.zero_add, Nat.reduceAdd, add_int, sub_int, le_int, lt_int, ge_int, gt_int, eqD_int, eqD_str, sl_tup, len_tup, truth, true_and, and_true, Bool.not_true, Bool.not_false, Bool.false_eq_true, if_false, if_true, List.cons_append, List.nil_append, List.append_nil, decide_true, decide_false, in_songL false hnl hnk.nm e5]
      cases hf : fstAt s ((rp.take (ws.length - 1)).map (·.1)) with
      | none =>
        have hni := fstAt_none.mp hf
        rw [decide_eq_false hni]
        have s0 : vIx (songV s) (.int 0) g5 = .ok (.str s.1) g5 := ix_tup (k := 0) rfl _
        simp only [f_seq, f_asg, f_name, f_tup, f_gcons, f_gnil, f_ret, f_retN, f_expr, f_if, f_nil, f_par, f_par3, f_fld, f_sub, w_op, w_un, w_app, w_acons, w_anil, w_C, w_var0, w_varS, w_callF, w_and, w_or, w_not, w_if, w_tval, w_tand, w_tor, w_tnot, w_tbl, w_ttrue, w_chain, w_prop, w_meth, w_methK, w_mkK', w_kw, w_sl, w_mpE, w_mpNo, w_vals, wp_ok, wp_bind, wp_nr, List.set, List.length_cons, List.length_nil, Nat.zero_add, Nat.reduceAdd, add_int, sub_int, le_int, lt_int, ge_int, gt_int, eqD_int, eqD_str, sl_tup, len_tup, truth, true_and, and_true, Bool.not_true, Bool.not_false, Bool.false_eq_true, if_false, if_true, List.cons_append, List.nil_append, List.append_nil, decide_true, decide_false, s0]
        refine fin _ none g5 rfl (.old ?_ hnk.nm) (by rw [hf]; rfl)
        have hcl := cnt_le (n := ws.length - 1) hos hNs [s] (by simp) fun s' hs' => by
          simp at hs'
          subst hs'
          exact ⟨⟨Ns, hNs, hsN⟩, rfl, fun z => hni (pres_mem _ _ _ _ z)⟩
        rw [olds_lookup hnds hNs (by simp at hcl; omega)]; rfl
      | some j =>
        have hji : s ∈ (rp.take (ws.length - 1)).map (·.1) := List.mem_of_getElem? (fstAt_some hf).1
        rw [decide_eq_true hji]
        simp only [f_seq, f_asg, f_name, f_tup, f_gcons, f_gnil, f_ret, f_retN, f_expr, f_if, f_nil, f_par, f_par3, f_fld, f_sub, w_op, w_un, w_app, w_acons, w_anil, w_C, w_var0, w_varS, w_callF, w_and, w_or, w_not, w_if, w_tval, w_tand, w_tor, w_tnot, w_tbl, w_ttrue, w_chain, w_prop, w_meth, w_methK, w_mkK', w_kw, w_sl, w_mpE, w_mpNo, w_vals, wp_ok, wp_bind, wp_nr, List.set, List.length_cons, List.length_nil, Nat.zero_add, Nat.reduceAdd, add_int, sub_int, le_int, lt_int, ge_int, gt_int, eqD_int, eqD_str, sl_tup, len_tup, truth, true_and, and_true, Bool.not_true, Bool.not_false, Bool.false_eq_true, if_false, if_true, List.cons_append, List.nil_append, List.append_nil, decide_true, decide_false, w_mt, isT_lst e5, index_song hnl hnk.nm e5 hf]
        obtain ⟨b0, hb0⟩ := play_at hf
        exact fin _ (some ((j : Int) + 1)) g5 rfl (.age hb0) (by rw [hf]; rfl)
    · rintro σ g ⟨rp, x8, x9, x10, x11, x12, rfl, hrp, hos, epl, eev, er, S, C, D, Kh⟩
      unfold b__law_rows_right_6
      simp only [f_seq, f_asg, f_name, f_tup, f_gcons, f_gnil, f_ret, f_retN, f_expr, f_if, f_nil, f_par, f_par3, f_fld, f_sub, w_op, w_un, w_app, w_acons, w_anil, w_C, w_var0, w_varS, w_callF, w_and, w_or, w_not, w_if, w_tval, w_tand, w_tor, w_tnot, w_tbl, w_ttrue, w_chain, w_prop, w_meth, w_methK, w_mkK', w_kw, w_sl, w_mpE, w_mpNo, w_vals, wp_ok, wp_bind, wp_nr, List.set, List.length_cons, List.length_nil, Nat.zero_add, Nat.reduceAdd, add_int, sub_int, le_int, lt_int, ge_int, gt_int, eqD_int, eqD_str, sl_tup, len_tup, truth, true_and, and_true, Bool.not_true, Bool.not_false, Bool.false_eq_true, if_false, if_true, List.cons_append, List.nil_append, List.append_nil, decide_true, decide_false]
      exact q g D Kh
/-- the places of the rows -/
theorem fin_pl {raw : List Row} {r : Row} (hr : r ∈ finRows raw) : ∃ r' ∈ raw, r'.1 = r.1 := by
  unfold finRows at hr
  split at hr
  · exact ⟨r, hr, rfl⟩
  · split at hr
    · split at hr
      · obtain ⟨r', h1, rfl⟩ := List.mem_map.mp hr; exact ⟨r', h1, rfl⟩
      · obtain ⟨r', h1, rfl⟩ := List.mem_map.mp hr; exact ⟨r', h1, rfl⟩
    · exact ⟨r, hr, rfl⟩
theorem PlAt.name {l : List (Str × Int)} {st : List Itm} {pv : Val} {a : Option Int} {k : Str} (P : PlAt l st pv a k) (oI : okI st) (hn : ∀ p ∈ l, okName p.1) : okName k := by
  cases P with
  | @age j k b hj => exact oI k b (List.mem_of_getElem? hj)
  | @old x hx nx =>
    obtain ⟨i, hi⟩ := Option.isSome_iff_exists.mp hx
    obtain ⟨j, hj⟩ := olds_mem (lookup_some_mem hi)
    exact hn _ hj

theorem row_place {s : Nat} (hn : nmsOk l) (hnd : (l.map (·.1)).Nodup) {r : Row} (hr : r ∈ rawRows ws ss s l st) : ∃ a k, PlAt l st r.1 a k := by
  rcases List.mem_append.mp hr with hr | hr
  · obtain ⟨j, p, hj, e⟩ := ageRowsN_pl _ _ r hr
    obtain ⟨k, b⟩ := p
    rw [e]
    exact ⟨_, _, .age hj⟩
  · obtain ⟨p, hp, rfl⟩ := List.mem_map.mp hr
    obtain ⟨j, hj⟩ := olds_mem (x := p.1) (i := p.2) hp
    exact ⟨_, _, .old (by rw [lookup_mem (olds_nodup hnd) hp]; rfl) (hn (p.1, j) hj)⟩
theorem law_true (ns : List Int) (hl : ns.length ≤ 63) (hb : ∀ z ∈ ns, PySem.Builtin.Int.intBits z ≤ 1048576) : ∃ h', f_law [.ref 0] [.fro (ns.map Val.int)] = .ok (.bl true) h' := by
  suffices w : Wp (f_law [.ref 0] [.fro (ns.map Val.int)]) fun v _ => v = .bl true by
    obtain ⟨v, g, e, rfl⟩ := w.ex
    exact ⟨g, e⟩
  unfold f_law b_law
  rw [w_fn]
  show WpF (msSeq _ _ [some (.ref 0), none, none, none, none, none, none, none, none, none, none, none] [.fro (ns.map Val.int)]) _ _
  simp only [f_seq, f_asg, f_name, f_tup, f_gcons, f_gnil, f_ret, f_retN, f_expr, f_if, f_nil, f_par, f_par3, f_fld, f_sub, w_op, w_un, w_app, w_acons, w_anil, w_C, w_var0, w_varS, w_callF, w_and, w_or, w_not, w_if, w_tval, w_tand, w_tor, w_tnot, w_tbl, w_ttrue, w_chain, w_prop, w_meth, w_methK, w_mkK', w_kw, w_sl, w_mpE, w_mpNo, w_vals, wp_ok, wp_bind, wp_nr, List.set, List.length_cons, List.length_nil, Nat.zero_add, Nat.reduceAdd, add_int, sub_int, le_int, lt_int, ge_int, gt_int, eqD_int, eqD_str, sl_tup, len_tup, truth, true_and, and_true, Bool.not_true, Bool.not_false, Bool.false_eq_true, if_false, if_true, List.cons_append, List.nil_append, List.append_nil, decide_true, decide_false]
  refine begin_ok (s := 0) (ns := ns) rfl hl fun g D K lg => ?_
  have D : Dw g := D
  have e0 : g[0]? = some (.fro (ns.map Val.int)) := K.k rfl
  unfold b_law_8
  simp only [f_seq, f_asg, f_name, f_tup, f_gcons, f_gnil, f_ret, f_retN, f_expr, f_if, f_nil, f_par, f_par3, f_fld, f_sub, w_op, w_un, w_app, w_acons, w_anil, w_C, w_var0, w_varS, w_callF, w_and, w_or, w_not, w_if, w_tval, w_tand, w_tor, w_tnot, w_tbl, w_ttrue, w_chain, w_prop, w_meth, w_methK, w_mkK', w_kw, w_sl, w_mpE, w_mpNo, w_vals, wp_ok, wp_bind, wp_nr, List.set, List.length_cons, List.length_nil, Nat.zero_add, Nat.reduceAdd, add_int, sub_int, le_int, lt_int, ge_int, gt_int, eqD_int, eqD_str, sl_tup, len_tup, truth, true_and, and_true, Bool.not_true, Bool.not_false, Bool.false_eq_true, if_false, if_true, List.cons_append, List.nil_append, List.append_nil, decide_true, decide_false]
  have hm : ∃ t : Nat, miRng1 (mOp vAdd (mC (.int 4)) (mApp vMin (maCons (mApp vLen (maCons (mVar 0) maNil)) (maCons (mC (.int 16)) maNil)))) [some (.ref 0), some (.ref 2), none, none, none, none, none, none, none, none, none, none] g = .ok ⟨(List.range t).map fun i => .int ((i : Nat) : Int), fun _ => True, none⟩ g := by
    refine ⟨4 + min ns.length 16, ?_⟩
    have hv : mOp vAdd (mC (.int 4)) (mApp vMin (maCons (mApp vLen (maCons (mVar 0) maNil)) (maCons (mC (.int 16)) maNil))) [some (.ref 0), some (.ref 2), none, none, none, none, none, none, none, none, none, none] g = .ok (.int ((4 + min ns.length 16 : Nat) : Int)) g := by
      have : vLen [.ref 0] g = .ok (.int (ns.length : Nat)) g := by simp [vLen, e0]
      simp [mOp, mApp, maCons, maNil, mC, this, vMin]
      split <;> omega
    rw [val_rng hv (by omega), Int.toNat_natCast]
  obtain ⟨t, hm⟩ := hm
  refine f_forE (fun _ σ g => ∃ x2 x3 x4 x5 x6 x7 x8 x9 x10 x11, σ = [some (.ref 0), some (.ref 2), x2, x3, x4, x5, x6, x7, x8, x9, x10, x11] ∧ Dw g) hm rfl ⟨_, _, _, _, _, _, _, _, _, _, rfl, D⟩ (fun _ _ _ _ => trivial) ?_ ?_
  · rintro k v σ g ev ⟨x2, x3, x4, x5, x6, x7, x8, x9, x10, x11, rfl, D⟩
    have hlg := D.len
    simp only [f_seq, f_asg, f_name, f_tup, f_gcons, f_gnil, f_ret, f_retN, f_expr, f_if, f_nil, f_par, f_par3, f_fld, f_sub, w_op, w_un, w_app, w_acons, w_anil, w_C, w_var0, w_varS, w_callF, w_and, w_or, w_not, w_if, w_tval, w_tand, w_tor, w_tnot, w_tbl, w_ttrue, w_chain, w_prop, w_meth, w_methK, w_mkK', w_kw, w_sl, w_mpE, w_mpNo, w_vals, wp_ok, wp_bind, wp_nr, List.set, List.length_cons, List.length_nil, Nat.zero_add, Nat.reduceAdd, add_int, sub_int, le_int, lt_int, ge_int, gt_int, eqD_int, eqD_str, sl_tup, len_tup, truth, true_and, and_true, Bool.not_true, Bool.not_false, Bool.false_eq_true, if_false, if_true, List.cons_append, List.nil_append, List.append_nil, decide_true, decide_false]
    refine k_lst (by simp) fun n1 g1 e1 l1 k1 => ?_
    refine pick_d (D.k k1) e1 (by omega) (by simp) (by simp) fun u g2 hu D2 K2 => ?_
    obtain ⟨M, hM1, hM2, rfl⟩ : ∃ M : Int, 1 ≤ M ∧ M ≤ 100 ∧ u = .int M := by
      simp at hu
      rcases hu with rfl | rfl | rfl
      · exact ⟨1, by omega, by omega, rfl⟩
      · exact ⟨2, by omega, by omega, rfl⟩
      · exact ⟨4, by omega, by omega, rfl⟩
    refine drawn_case_ok (cap := 4) (K := 3) (M := M) D2 (by omega) (by omega) (by omega) fun ws ss sp l c n g3 okr lc ok C ln lc1 D3 K3 => ?_
    have oks := srt_okN ok
    have hnds := srt_nodup ok.nd
    have hnm : ∀ p ∈ srt l, okName p.1 := oks.nm
    have hnms : nmsOk (srt l) := fun p hp => (hnm p hp).nm
    have w1 := okr.l1
    have w4 := okr.l4
    unfold b_law_6
    simp only [f_seq, f_asg, f_name, f_tup, f_gcons, f_gnil, f_ret, f_retN, f_expr, f_if, f_nil, f_par, f_par3, f_fld, f_sub, w_op, w_un, w_app, w_acons, w_anil, w_C, w_var0, w_varS, w_callF, w_and, w_or, w_not, w_if, w_tval, w_tand, w_tor, w_tnot, w_tbl, w_ttrue, w_chain, w_prop, w_meth, w_methK, w_mkK', w_kw, w_sl, w_mpE, w_mpNo, w_vals, wp_ok, wp_bind, wp_nr, List.set, List.length_cons, List.length_nil, Nat.zero_add, Nat.reduceAdd, add_int, sub_int, le_int, lt_int, ge_int, gt_int, eqD_int, eqD_str, sl_tup, len_tup, truth, true_and, and_true, Bool.not_true, Bool.not_false, Bool.false_eq_true, if_false, if_true, List.cons_append, List.nil_append, List.append_nil, decide_true, decide_false]
    refine rule_of_ok C okr fun r g4 e4 l4 k4 => ?_
    refine songs_in_ok (C.k k4) ok fun sn sd g5 S5 l5 l5' k5 => ?_
    have C5 := C.k (k4.trans k5)
    have e5 := k5.k e4
    have D5 := D3.k (k4.trans k5)
    have h3 := D3.len
    have hk4 := k4.len
    unfold b_law_5
    simp only [f_seq, f_asg, f_name, f_tup, f_gcons, f_gnil, f_ret, f_retN, f_expr, f_if, f_nil, f_par, f_par3, f_fld, f_sub, w_op, w_un, w_app, w_acons, w_anil, w_C, w_var0, w_varS, w_callF, w_and, w_or, w_not, w_if, w_tval, w_tand, w_tor, w_tnot, w_tbl, w_ttrue, w_chain, w_prop, w_meth, w_methK, w_mkK', w_kw, w_sl, w_mpE, w_mpNo, w_vals, wp_ok, wp_bind, wp_nr, List.set, List.length_cons, List.length_nil, Nat.zero_add, Nat.reduceAdd, add_int, sub_int, le_int, lt_int, ge_int, gt_int, eqD_int, eqD_str, sl_tup, len_tup, truth, true_and, and_true, Bool.not_true, Bool.not_false, Bool.false_eq_true, if_false, if_true, List.cons_append, List.nil_append, List.append_nil, decide_true, decide_false]
    refine any_standing_ok D5 C5 okr ok fun st g6 ost D6 K6 => ?_
    have C6 := C5.d K6
    have e6 := K6.d e5 (by omega)
    have S6 := S5.d K6 (by omega) (by omega)
    have osts := ost.srt ok.nd
    have oI := osts.okI hnm
    have hstl := ost.len
    unfold b_law_4
    simp only [f_seq, f_asg, f_name, f_tup, f_gcons, f_gnil, f_ret, f_retN, f_expr, f_if, f_nil, f_par, f_par3, f_fld, f_sub, w_op, w_un, w_app, w_acons, w_anil, w_C, w_var0, w_varS, w_callF, w_and, w_or, w_not, w_if, w_tval, w_tand, w_tor, w_tnot, w_tbl, w_ttrue, w_chain, w_prop, w_meth, w_methK, w_mkK', w_kw, w_sl, w_mpE, w_mpNo, w_vals, wp_ok, wp_bind, wp_nr, List.set, List.length_cons, List.length_nil, Nat.zero_add, Nat.reduceAdd, add_int, sub_int, le_int, lt_int, ge_int, gt_int, eqD_int, eqD_str, sl_tup, len_tup, truth, true_and, and_true, Bool.not_true, Bool.not_false, Bool.false_eq_true, if_false, if_true, List.cons_append, List.nil_append, List.append_nil, decide_true, decide_false]
    have hrows : Wp (miVal (mApp (callF 2 f__law_rows_at) (maCons (mVar 3) (maCons (mVar 6) maNil))) [some (.ref 0), some (.ref 2), some v, some (.ref c), some (.ref r), some (.ref sn), some (stV st), x7, x8, x9, x10, x11] g6) fun it g7 => ∃ (m : Nat) (rs : List Row), it = ⟨rs.map rowV, fun h => h[m]? = some (.lst (rs.map rowV)), none⟩ ∧ g7[m]? = some (.lst (rs.map rowV)) ∧ Kp [] g6 g7 ∧ ∀ q ∈ rs, ∃ a k, PlAt (srt l) st q.1 a k := by
      unfold miVal
      rw [wp_bind]
      simp only [f_seq, f_asg, f_name, f_tup, f_gcons, f_gnil, f_ret, f_retN, f_expr, f_if, f_nil, f_par, f_par3, f_fld, f_sub, w_op, w_un, w_app, w_acons, w_anil, w_C, w_var0, w_varS, w_callF, w_and, w_or, w_not, w_if, w_tval, w_tand, w_tor, w_tnot, w_tbl, w_ttrue, w_chain, w_prop, w_meth, w_methK, w_mkK', w_kw, w_sl, w_mpE, w_mpNo, w_vals, wp_ok, wp_bind, wp_nr, List.set, List.length_cons, List.length_nil, Nat.zero_add, Nat.reduceAdd, add_int, sub_int, le_int, lt_int, ge_int, gt_int, eqD_int, eqD_str, sl_tup, len_tup, truth, true_and, and_true, Bool.not_true, Bool.not_false, Bool.false_eq_true, if_false, if_true, List.cons_append, List.nil_append, List.append_nil, decide_true, decide_false]
      refine rows_at_ok C6 okr ok ost fun m g7 e7 l7 k7 => ?_
      dsimp only
      rw [e7]
      refine .ok ⟨m, _, rfl, e7, k7, fun q hq => ?_⟩
      obtain ⟨q', hq1, hq2⟩ := fin_pl hq
      rw [← hq2]
      exact row_place hnms hnds hq1
    obtain ⟨it, g7, hit, m, rs, rfl, e7, k7, hrs⟩ := hrows.ex
    refine f_forE (fun _ σ g => ∃ x7 x8 x9 x10 x11, σ = [some (.ref 0), some (.ref 2), some v, some (.ref c), some (.ref r), some (.ref sn), some (stV st), x7, x8, x9, x10, x11] ∧ g[m]? = some (.lst (rs.map rowV)) ∧ RuleAt r ws ss sp g ∧ SongsAt sn sd (srt l) g ∧ Case c n ws ss sp l g ∧ Dw g) hit rfl ⟨_, _, _, _, _, rfl, e7, k7.k e6, S6.k k7, C6.k k7, D6.k k7⟩ (fun k σ g ⟨_, _, _, _, _, _, e, _⟩ => e) ?_ ?_
    · rintro k' v' σ g8 ev' ⟨x7, x8, x9, x10, x11, rfl, e8, r8, S8, C8, D8⟩
      obtain ⟨q, hq, rfl⟩ := List.mem_map.mp (List.mem_of_getElem? (show (rs.map rowV)[k']? = some v' from ev'))
      obtain ⟨a, kd, P⟩ := hrs q hq
      have hkd : okName kd := P.name oI hnm
      show WpF (mgTup 3 _ (.tup [q.1, .int q.2.1, .int q.2.2]) _ g8) _ _
      simp only [f_seq, f_asg, f_name, f_tup, f_gcons, f_gnil, f_ret, f_retN, f_expr, f_if, f_nil, f_par, f_par3, f_fld, f_sub, w_op, w_un, w_app, w_acons, w_anil, w_C, w_var0, w_varS, w_callF, w_and, w_or, w_not, w_if, w_tval, w_tand, w_tor, w_tnot, w_tbl, w_ttrue, w_chain, w_prop, w_meth, w_methK, w_mkK', w_kw, w_sl, w_mpE, w_mpNo, w_vals, wp_ok, wp_bind, wp_nr, List.set, List.length_cons, List.length_nil, Nat.zero_add, Nat.reduceAdd, add_int, sub_int, le_int, lt_int, ge_int, gt_int, eqD_int, eqD_str, sl_tup, len_tup, truth, true_and, and_true, Bool.not_true, Bool.not_false, Bool.false_eq_true, if_false, if_true, List.cons_append, List.nil_append, List.append_nil, decide_true, decide_false]
      have hmi : miVal (mApp vTup (maCons (mC (.bl false)) (maCons (mC (.bl true)) maNil))) [some (.ref 0), some (.ref 2), some v, some (.ref c), some (.ref r), some (.ref sn), some (stV st), some q.1, some (.int q.2.1), some (.int q.2.2), x10, x11] g8 = .ok ⟨[.bl false, .bl true], fun _ => True, none⟩ g8 := val_tup (by simp [mApp, maCons, maNil, mC]; exact tup_v g8 (by simp))
      refine f_forE (fun _ σ g => ∃ x10 x11, σ = [some (.ref 0), some (.ref 2), some v, some (.ref c), some (.ref r), some (.ref sn), some (stV st), some q.1, some (.int q.2.1), some (.int q.2.2), x10, x11] ∧ g[m]? = some (.lst (rs.map rowV)) ∧ RuleAt r ws ss sp g ∧ SongsAt sn sd (srt l) g ∧ Case c n ws ss sp l g ∧ Dw g) hmi rfl ⟨_, _, rfl, e8, r8, S8, C8, D8⟩ (fun _ _ _ _ => trivial) ?_ ?_
      · rintro k'' v'' σ g9 ev'' ⟨x10, x11, rfl, e9, r9, S9, C9, D9⟩
        obtain ⟨b, rfl⟩ : ∃ b, v'' = .bl b := by
          have := List.mem_of_getElem? (show ([Val.bl false, .bl true] : List Val)[k'']? = some v'' from ev'')
          simp at this
          rcases this with rfl | rfl
          · exact ⟨_, rfl⟩
          · exact ⟨_, rfl⟩
        simp only [f_seq, f_asg, f_name, f_tup, f_gcons, f_gnil, f_ret, f_retN, f_expr, f_if, f_nil, f_par, f_par3, f_fld, f_sub, w_op, w_un, w_app, w_acons, w_anil, w_C, w_var0, w_varS, w_callF, w_and, w_or, w_not, w_if, w_tval, w_tand, w_tor, w_tnot, w_tbl, w_ttrue, w_chain, w_prop, w_meth, w_methK, w_mkK', w_kw, w_sl, w_mpE, w_mpNo, w_vals, wp_ok, wp_bind, wp_nr, List.set, List.length_cons, List.length_nil, Nat.zero_add, Nat.reduceAdd, add_int, sub_int, le_int, lt_int, ge_int, gt_int, eqD_int, eqD_str, sl_tup, len_tup, truth, true_and, and_true, Bool.not_true, Bool.not_false, Bool.false_eq_true, if_false, if_true, List.cons_append, List.nil_append, List.append_nil, decide_true, decide_false]
        have oit := oI.it
        refine drawn_on_ok oit (by omega) P fun g10 k10 => ?_
        have oI2 := drawnS_okI (a := a) (b := b) oI hkd
        have hdl : (drawnS st a kd b).length ≤ 900 := by unfold drawnS; rw [List.length_take]; omega
        unfold b_law_2
        simp only [f_seq, f_asg, f_name, f_tup, f_gcons, f_gnil, f_ret, f_retN, f_expr, f_if, f_nil, f_par, f_par3, f_fld, f_sub, w_op, w_un, w_app, w_acons, w_anil, w_C, w_var0, w_varS, w_callF, w_and, w_or, w_not, w_if, w_tval, w_tand, w_tor, w_tnot, w_tbl, w_ttrue, w_chain, w_prop, w_meth, w_methK, w_mkK', w_kw, w_sl, w_mpE, w_mpNo, w_vals, wp_ok, wp_bind, wp_nr, List.set, List.length_cons, List.length_nil, Nat.zero_add, Nat.reduceAdd, add_int, sub_int, le_int, lt_int, ge_int, gt_int, eqD_int, eqD_str, sl_tup, len_tup, truth, true_and, and_true, Bool.not_true, Bool.not_false, Bool.false_eq_true, if_false, if_true, List.cons_append, List.nil_append, List.append_nil, decide_true, decide_false]
        refine k_tup (by simp) ?_
        refine behind_ok (k10.k r9) (S9.k k10) hnms osts w1 w4 (by have := oks.lK; omega) hnds P fun g11 k11 => ?_
        rw [repr_st oI2 hdl]
        simp only [f_seq, f_asg, f_name, f_tup, f_gcons, f_gnil, f_ret, f_retN, f_expr, f_if, f_nil, f_par, f_par3, f_fld, f_sub, w_op, w_un, w_app, w_acons, w_anil, w_C, w_var0, w_varS, w_callF, w_and, w_or, w_not, w_if, w_tval, w_tand, w_tor, w_tnot, w_tbl, w_ttrue, w_chain, w_prop, w_meth, w_methK, w_mkK', w_kw, w_sl, w_mpE, w_mpNo, w_vals, wp_ok, wp_bind, wp_nr, List.set, List.length_cons, List.length_nil, Nat.zero_add, Nat.reduceAdd, add_int, sub_int, le_int, lt_int, ge_int, gt_int, eqD_int, eqD_str, sl_tup, len_tup, truth, true_and, and_true, Bool.not_true, Bool.not_false, Bool.false_eq_true, if_false, if_true, List.cons_append, List.nil_append, List.append_nil, decide_true, decide_false]
        rw [repr_st oI2 hdl]
        simp only [f_seq, f_asg, f_name, f_tup, f_gcons, f_gnil, f_ret, f_retN, f_expr, f_if, f_nil, f_par, f_par3, f_fld, f_sub, w_op, w_un, w_app, w_acons, w_anil, w_C, w_var0, w_varS, w_callF, w_and, w_or, w_not, w_if, w_tval, w_tand, w_tor, w_tnot, w_tbl, w_ttrue, w_chain, w_prop, w_meth, w_methK, w_mkK', w_kw, w_sl, w_mpE, w_mpNo, w_vals, wp_ok, wp_bind, wp_nr, List.set, List.length_cons, List.length_nil, Nat.zero_add, Nat.reduceAdd, add_int, sub_int, le_int, lt_int, ge_int, gt_int, eqD_int, eqD_str, sl_tup, len_tup, truth, true_and, and_true, Bool.not_true, Bool.not_false, Bool.false_eq_true, if_false, if_true, List.cons_append, List.nil_append, List.append_nil, decide_true, decide_false, bne_self_eq_false]
        unfold b_law_1
        simp only [f_seq, f_asg, f_name, f_tup, f_gcons, f_gnil, f_ret, f_retN, f_expr, f_if, f_nil, f_par, f_par3, f_fld, f_sub, w_op, w_un, w_app, w_acons, w_anil, w_C, w_var0, w_varS, w_callF, w_and, w_or, w_not, w_if, w_tval, w_tand, w_tor, w_tnot, w_tbl, w_ttrue, w_chain, w_prop, w_meth, w_methK, w_mkK', w_kw, w_sl, w_mpE, w_mpNo, w_vals, wp_ok, wp_bind, wp_nr, List.set, List.length_cons, List.length_nil, Nat.zero_add, Nat.reduceAdd, add_int, sub_int, le_int, lt_int, ge_int, gt_int, eqD_int, eqD_str, sl_tup, len_tup, truth, true_and, and_true, Bool.not_true, Bool.not_false, Bool.false_eq_true, if_false, if_true, List.cons_append, List.nil_append, List.append_nil, decide_true, decide_false]
        refine k_tup (by simp) ?_
        refine w_kwF rfl rfl rfl rfl ?_
        have k1011 := k10.trans k11
        refine behind_ok (k1011.k r9) (S9.k k1011) hnms osts w1 w4 (by have := oks.lK; omega) hnds P fun g12 k12 => ?_
        rw [ne_st oI2]
        simp only [f_seq, f_asg, f_name, f_tup, f_gcons, f_gnil, f_ret, f_retN, f_expr, f_if, f_nil, f_par, f_par3, f_fld, f_sub, w_op, w_un, w_app, w_acons, w_anil, w_C, w_var0, w_varS, w_callF, w_and, w_or, w_not, w_if, w_tval, w_tand, w_tor, w_tnot, w_tbl, w_ttrue, w_chain, w_prop, w_meth, w_methK, w_mkK', w_kw, w_sl, w_mpE, w_mpNo, w_vals, wp_ok, wp_bind, wp_nr, List.set, List.length_cons, List.length_nil, Nat.zero_add, Nat.reduceAdd, add_int, sub_int, le_int, lt_int, ge_int, gt_int, eqD_int, eqD_str, sl_tup, len_tup, truth, true_and, and_true, Bool.not_true, Bool.not_false, Bool.false_eq_true, if_false, if_true, List.cons_append, List.nil_append, List.append_nil, decide_true, decide_false]
        have k012 := k1011.trans k12
        exact ⟨_, _, rfl, k012.k e9, k012.k r9, S9.k k012, C9.k k012, D9.k k012⟩
      · rintro σ g9 ⟨x10, x11, rfl, e9, r9, S9, C9, D9⟩
        exact ⟨_, _, _, _, _, rfl, e9, r9, S9, C9, D9⟩
    · rintro σ g8 ⟨x7, x8, x9, x10, x11, rfl, e8, r8, S8, C8, D8⟩
      unfold b_law_3
      simp only [f_seq, f_asg, f_name, f_tup, f_gcons, f_gnil, f_ret, f_retN, f_expr, f_if, f_nil, f_par, f_par3, f_fld, f_sub, w_op, w_un, w_app, w_acons, w_anil, w_C, w_var0, w_varS, w_callF, w_and, w_or, w_not, w_if, w_tval, w_tand, w_tor, w_tnot, w_tbl, w_ttrue, w_chain, w_prop, w_meth, w_methK, w_mkK', w_kw, w_sl, w_mpE, w_mpNo, w_vals, wp_ok, wp_bind, wp_nr, List.set, List.length_cons, List.length_nil, Nat.zero_add, Nat.reduceAdd, add_int, sub_int, le_int, lt_int, ge_int, gt_int, eqD_int, eqD_str, sl_tup, len_tup, truth, true_and, and_true, Bool.not_true, Bool.not_false, Bool.false_eq_true, if_false, if_true, List.cons_append, List.nil_append, List.append_nil, decide_true, decide_false]
      refine rows_right_ok D8 C8 okr ok hM2 fun g9 D9 K9 => ?_
      simp only [f_seq, f_asg, f_name, f_tup, f_gcons, f_gnil, f_ret, f_retN, f_expr, f_if, f_nil, f_par, f_par3, f_fld, f_sub, w_op, w_un, w_app, w_acons, w_anil, w_C, w_var0, w_varS, w_callF, w_and, w_or, w_not, w_if, w_tval, w_tand, w_tor, w_tnot, w_tbl, w_ttrue, w_chain, w_prop, w_meth, w_methK, w_mkK', w_kw, w_sl, w_mpE, w_mpNo, w_vals, wp_ok, wp_bind, wp_nr, List.set, List.length_cons, List.length_nil, Nat.zero_add, Nat.reduceAdd, add_int, sub_int, le_int, lt_int, ge_int, gt_int, eqD_int, eqD_str, sl_tup, len_tup, truth, true_and, and_true, Bool.not_true, Bool.not_false, Bool.false_eq_true, if_false, if_true, List.cons_append, List.nil_append, List.append_nil, decide_true, decide_false]
      exact ⟨_, _, _, _, _, _, _, _, _, _, rfl, D9⟩
  · rintro σ g ⟨x2, x3, x4, x5, x6, x7, x8, x9, x10, x11, rfl, D⟩
    unfold b_law_7
    simp only [f_seq, f_asg, f_name, f_tup, f_gcons, f_gnil, f_ret, f_retN, f_expr, f_if, f_nil, f_par, f_par3, f_fld, f_sub, w_op, w_un, w_app, w_acons, w_anil, w_C, w_var0, w_varS, w_callF, w_and, w_or, w_not, w_if, w_tval, w_tand, w_tor, w_tnot, w_tbl, w_ttrue, w_chain, w_prop, w_meth, w_methK, w_mkK', w_kw, w_sl, w_mpE, w_mpNo, w_vals, wp_ok, wp_bind, wp_nr, List.set, List.length_cons, List.length_nil, Nat.zero_add, Nat.reduceAdd, add_int, sub_int, le_int, lt_int, ge_int, gt_int, eqD_int, eqD_str, sl_tup, len_tup, truth, true_and, and_true, Bool.not_true, Bool.not_false, Bool.false_eq_true, if_false, if_true, List.cons_append, List.nil_append, List.append_nil, decide_true, decide_false]
end
end U
open PySem PySem.W PyProof.Rows
set_option maxRecDepth 100000 in
set_option maxHeartbeats 0 in
theorem PySem.Challenge.cw_unheard_k08_draws_holds : PySem.Challenge.rw_unheard_k08_draws.Holds := by
  w_on; o_law; k_head; (case hw => w_witness2)
  k_fill
  refine U.walk_fk (l := PySem.Challenge.rw_unheard_k08_draws) (n := 63) (k := 8) (x := "_law_script") (G := U.f_law) rfl (by decide) rfl ⟨rfl, by decide, by decide⟩ (by decide +kernel) (fun p => by kernel_rfl) (fun w h Y => PySem.W.kIn_of Y) ?F U.law_true
  case F =>
    intro w mg fa h KX G hmg
    refine' U.all_mk KX G hmg ?g_Songs ?pg_Songs ?hd_Songs ?po_Songs ?sa_Songs ?ha_Songs ?hm_Songs ?bt_Songs_NoneType ?bt_Songs_bool ?bt_Songs_int ?bt_Songs_str ?bt_Songs_tuple ?bt_Songs_list ?bt_Songs_dict ?ty_Songs_bool ?ty_Songs_dict ?ty_Songs_int ?ty_Songs_str ?ty_Songs_tuple ?kk_Songs_Songs ?kk_Songs_Rule ?na_Songs_r_skipped ?na_Songs_r_spread ?na_Songs_r_weights ?na_Songs_s_numbers ?g_Rule ?pg_Rule ?hd_Rule ?po_Rule ?sa_Rule ?ha_Rule ?hm_Rule ?bt_Rule_NoneType ?bt_Rule_bool ?bt_Rule_int ?bt_Rule_str ?bt_Rule_tuple ?bt_Rule_list ?bt_Rule_dict ?ty_Rule_bool ?ty_Rule_dict ?ty_Rule_int ?ty_Rule_str ?ty_Rule_tuple ?kk_Rule_Songs ?kk_Rule_Rule ?na_Rule_r_skipped ?na_Rule_r_spread ?na_Rule_r_weights ?na_Rule_s_numbers ?hn0 ?htk0 ?z_abs ?z_all ?z_bool ?z_dict ?z_divmod ?z_enumerate ?z_int ?z_isinstance ?z_len ?z_list ?z_min ?z_range ?z_repr ?z_sorted ?z_str ?z_sum ?z_tuple ?k_LETTERS ?k_LONGEST_NAME ?k_MOST_CAP ?k_MOST_KINDS ?k_MOST_WEIGHT ?f_a__law_begin ?l__law_begin ?cd_ok__law_begin ?kp__law_begin ?f_a__law_take ?l__law_take ?cd_ok__law_take ?kp__law_take ?f_a__law_pick ?l__law_pick ?cd_ok__law_pick ?kp__law_pick ?f_a__law_some_names ?l__law_some_names ?cd_ok__law_some_names ?kp__law_some_names ?f_a__law_drawn_case ?l__law_drawn_case ?cd_ok__law_drawn_case ?kp__law_drawn_case ?f_a_is_name ?l_is_name ?cd_ok_is_name ?kp_is_name ?f_a_is_integer ?l_is_integer ?cd_ok_is_integer ?kp_is_integer ?f_a_is_number ?l_is_number ?cd_ok_is_number ?kp_is_number ?f_a_Songs_init ?f_i_Songs_init ?f_m_Songs_init ?f_c_Songs_init ?l_Songs_init ?cd_ok_Songs_init ?kp_Songs_init ?f_a__law_songs_in ?l__law_songs_in ?cd_ok__law_songs_in ?kp__law_songs_in ?f_a_are_weights ?l_are_weights ?cd_ok_are_weights ?kp_are_weights ?f_a_Rule_init ?f_i_Rule_init ?f_m_Rule_init ?f_c_Rule_init ?l_Rule_init ?lT_Rule_init ?cd_ok_Rule_init ?kp_Rule_init ?f_a__law_rule_of ?l__law_rule_of ?cd_ok__law_rule_of ?kp__law_rule_of ?f_a__law_any_standing ?l__law_any_standing ?cd_ok__law_any_standing ?kp__law_any_standing ?f_a__law_rows_at ?l__law_rows_at ?cd_ok__law_rows_at ?kp__law_rows_at ?f_a__law_drawn_on ?l__law_drawn_on ?cd_ok__law_drawn_on ?kp__law_drawn_on ?f_p_Rule_cap ?f_g_Rule_cap ?f_t_Rule_cap ?f_r_Rule_cap ?l_Rule_cap ?cd_ok_Rule_cap ?kp_Rule_cap ?f_a_Songs_contains ?f_i_Songs_contains ?l_Songs_contains ?cd_ok_Songs_contains ?kp_Songs_contains ?f_a_is_item ?l_is_item ?cd_ok_is_item ?kp_is_item ?f_a_counts_in ?l_counts_in ?cd_ok_counts_in ?kp_counts_in ?f_a_need_kind ?l_need_kind ?cd_ok_need_kind ?kp_need_kind ?f_a_Songs_getitem ?f_i_Songs_getitem ?l_Songs_getitem ?cd_ok_Songs_getitem ?kp_Songs_getitem ?f_a_is_standing ?l_is_standing ?cd_ok_is_standing ?kp_is_standing ?f_a_need_standing ?l_need_standing ?cd_ok_need_standing ?kp_need_standing ?f_a_ages_in ?l_ages_in ?cd_ok_ages_in ?kp_ages_in ?f_p_Songs_numbers ?f_g_Songs_numbers ?f_t_Songs_numbers ?f_r_Songs_numbers ?l_Songs_numbers ?cd_ok_Songs_numbers ?kp_Songs_numbers ?f_a_old_songs ?l_old_songs ?cd_ok_old_songs ?kp_old_songs ?f_a_is_place ?l_is_place ?cd_ok_is_place ?kp_is_place ?f_a_is_step ?l_is_step ?cd_ok_is_step ?kp_is_step ?f_a_drawn ?l_drawn ?cd_ok_drawn ?kp_drawn ?f_a_behind ?l_behind ?cd_ok_behind ?kp_behind ?f_a__law_first_one ?l__law_first_one ?cd_ok__law_first_one ?kp__law_first_one ?f_a__law_of_songs ?l__law_of_songs ?cd_ok__law_of_songs ?kp__law_of_songs ?f_a__law_rows_right ?l__law_rows_right ?cd_ok__law_rows_right ?kp__law_rows_right ?f_a_law ?l_law ?cd_ok_law ?kp_law
    (case g_Songs => k_is)
    (case pg_Songs => k_is)
    (case hd_Songs => k_is)
    (case po_Songs => k_is)
    (case sa_Songs => k_is)
    (case ha_Songs => k_is)
    (case hm_Songs => k_is)
    (case bt_Songs_NoneType => kernel_rfl)
    (case bt_Songs_bool => kernel_rfl)
    (case bt_Songs_int => kernel_rfl)
    (case bt_Songs_str => kernel_rfl)
    (case bt_Songs_tuple => kernel_rfl)
    (case bt_Songs_list => kernel_rfl)
    (case bt_Songs_dict => kernel_rfl)
    (case ty_Songs_bool => kernel_rfl)
    (case ty_Songs_dict => kernel_rfl)
    (case ty_Songs_int => kernel_rfl)
    (case ty_Songs_str => kernel_rfl)
    (case ty_Songs_tuple => kernel_rfl)
    (case kk_Songs_Songs => kernel_rfl)
    (case kk_Songs_Rule => kernel_rfl)
    (case na_Songs_r_skipped => k_is)
    (case na_Songs_r_spread => k_is)
    (case na_Songs_r_weights => k_is)
    (case na_Songs_s_numbers => k_is)
    (case g_Rule => k_is)
    (case pg_Rule => k_is)
    (case hd_Rule => k_is)
    (case po_Rule => k_is)
    (case sa_Rule => k_is)
    (case ha_Rule => k_is)
    (case hm_Rule => k_is)
    (case bt_Rule_NoneType => kernel_rfl)
    (case bt_Rule_bool => kernel_rfl)
    (case bt_Rule_int => kernel_rfl)
    (case bt_Rule_str => kernel_rfl)
    (case bt_Rule_tuple => kernel_rfl)
    (case bt_Rule_list => kernel_rfl)
    (case bt_Rule_dict => kernel_rfl)
    (case ty_Rule_bool => kernel_rfl)
    (case ty_Rule_dict => kernel_rfl)
    (case ty_Rule_int => kernel_rfl)
    (case ty_Rule_str => kernel_rfl)
    (case ty_Rule_tuple => kernel_rfl)
    (case kk_Rule_Songs => kernel_rfl)
    (case kk_Rule_Rule => kernel_rfl)
    (case na_Rule_r_skipped => k_is)
    (case na_Rule_r_spread => k_is)
    (case na_Rule_r_weights => k_is)
    (case na_Rule_s_numbers => k_is)
    (case hn0 => k_is)
    (case htk0 => k_is)
    (case z_abs => k_is)
    (case z_all => k_is)
    (case z_bool => k_is)
    (case z_dict => k_is)
    (case z_divmod => k_is)
    (case z_enumerate => k_is)
    (case z_int => k_is)
    (case z_isinstance => k_is)
    (case z_len => k_is)
    (case z_list => k_is)
    (case z_min => k_is)
    (case z_range => k_is)
    (case z_repr => k_is)
    (case z_sorted => k_is)
    (case z_str => k_is)
    (case z_sum => k_is)
    (case z_tuple => k_is)
    (case k_LETTERS => k_is)
    (case k_LONGEST_NAME => k_is)
    (case k_MOST_CAP => k_is)
    (case k_MOST_KINDS => k_is)
    (case k_MOST_WEIGHT => k_is)
    (case f_a__law_begin => k_is)
    (case l__law_begin => k_is)
    (case cd_ok__law_begin => k_is)
    (case kp__law_begin => k_is)
    (case f_a__law_take => k_is)
    (case l__law_take => k_is)
    (case cd_ok__law_take => k_is)
    (case kp__law_take => k_is)
    (case f_a__law_pick => k_is)
    (case l__law_pick => k_is)
    (case cd_ok__law_pick => k_is)
    (case kp__law_pick => k_is)
    (case f_a__law_some_names => k_is)
    (case l__law_some_names => k_is)
    (case cd_ok__law_some_names => k_is)
    (case kp__law_some_names => k_is)
    (case f_a__law_drawn_case => k_is)
    (case l__law_drawn_case => k_is)
    (case cd_ok__law_drawn_case => k_is)
    (case kp__law_drawn_case => k_is)
    (case f_a_is_name => k_is)
    (case l_is_name => k_is)
    (case cd_ok_is_name => k_is)
    (case kp_is_name => k_is)
    (case f_a_is_integer => k_is)
    (case l_is_integer => k_is)
    (case cd_ok_is_integer => k_is)
    (case kp_is_integer => k_is)
    (case f_a_is_number => k_is)
    (case l_is_number => k_is)
    (case cd_ok_is_number => k_is)
    (case kp_is_number => k_is)
    (case f_a_Songs_init => k_is)
    (case f_i_Songs_init => k_is)
    (case f_m_Songs_init => k_is)
    (case f_c_Songs_init => k_is)
    (case l_Songs_init => k_is)
    (case cd_ok_Songs_init => k_is)
    (case kp_Songs_init => k_is)
    (case f_a__law_songs_in => k_is)
    (case l__law_songs_in => k_is)
    (case cd_ok__law_songs_in => k_is)
    (case kp__law_songs_in => k_is)
    (case f_a_are_weights => k_is)
    (case l_are_weights => k_is)
    (case cd_ok_are_weights => k_is)
    (case kp_are_weights => k_is)
    (case f_a_Rule_init => k_is)
    (case f_i_Rule_init => k_is)
    (case f_m_Rule_init => k_is)
    (case f_c_Rule_init => k_is)
    (case l_Rule_init => k_is)
    (case lT_Rule_init => k_is)
    (case cd_ok_Rule_init => k_is)
    (case kp_Rule_init => k_is)
    (case f_a__law_rule_of => k_is)
    (case l__law_rule_of => k_is)
    (case cd_ok__law_rule_of => k_is)
    (case kp__law_rule_of => k_is)
    (case f_a__law_any_standing => k_is)
    (case l__law_any_standing => k_is)
    (case cd_ok__law_any_standing => k_is)
    (case kp__law_any_standing => k_is)
    (case f_a__law_rows_at => k_is)
    (case l__law_rows_at => k_is)
    (case cd_ok__law_rows_at => k_is)
    (case kp__law_rows_at => k_is)
    (case f_a__law_drawn_on => k_is)
    (case l__law_drawn_on => k_is)
    (case cd_ok__law_drawn_on => k_is)
    (case kp__law_drawn_on => k_is)
    (case f_p_Rule_cap => k_is)
    (case f_g_Rule_cap => k_is)
    (case f_t_Rule_cap => k_is)
    (case f_r_Rule_cap => k_is)
    (case l_Rule_cap => k_is)
    (case cd_ok_Rule_cap => k_is)
    (case kp_Rule_cap => k_is)
    (case f_a_Songs_contains => k_is)
    (case f_i_Songs_contains => k_is)
    (case l_Songs_contains => k_is)
    (case cd_ok_Songs_contains => k_is)
    (case kp_Songs_contains => k_is)
    (case f_a_is_item => k_is)
    (case l_is_item => k_is)
    (case cd_ok_is_item => k_is)
    (case kp_is_item => k_is)
    (case f_a_counts_in => k_is)
    (case l_counts_in => k_is)
    (case cd_ok_counts_in => k_is)
    (case kp_counts_in => k_is)
    (case f_a_need_kind => k_is)
    (case l_need_kind => k_is)
    (case cd_ok_need_kind => k_is)
    (case kp_need_kind => k_is)
    (case f_a_Songs_getitem => k_is)
    (case f_i_Songs_getitem => k_is)
    (case l_Songs_getitem => k_is)
    (case cd_ok_Songs_getitem => k_is)
    (case kp_Songs_getitem => k_is)
    (case f_a_is_standing => k_is)
    (case l_is_standing => k_is)
    (case cd_ok_is_standing => k_is)
    (case kp_is_standing => k_is)
    (case f_a_need_standing => k_is)
    (case l_need_standing => k_is)
    (case cd_ok_need_standing => k_is)
    (case kp_need_standing => k_is)
    (case f_a_ages_in => k_is)
    (case l_ages_in => k_is)
    (case cd_ok_ages_in => k_is)
    (case kp_ages_in => k_is)
    (case f_p_Songs_numbers => k_is)
    (case f_g_Songs_numbers => k_is)
    (case f_t_Songs_numbers => k_is)
    (case f_r_Songs_numbers => k_is)
    (case l_Songs_numbers => k_is)
    (case cd_ok_Songs_numbers => k_is)
    (case kp_Songs_numbers => k_is)
    (case f_a_old_songs => k_is)
    (case l_old_songs => k_is)
    (case cd_ok_old_songs => k_is)
    (case kp_old_songs => k_is)
    (case f_a_is_place => k_is)
    (case l_is_place => k_is)
    (case cd_ok_is_place => k_is)
    (case kp_is_place => k_is)
    (case f_a_is_step => k_is)
    (case l_is_step => k_is)
    (case cd_ok_is_step => k_is)
    (case kp_is_step => k_is)
    (case f_a_drawn => k_is)
    (case l_drawn => k_is)
    (case cd_ok_drawn => k_is)
    (case kp_drawn => k_is)
    (case f_a_behind => k_is)
    (case l_behind => k_is)
    (case cd_ok_behind => k_is)
    (case kp_behind => k_is)
    (case f_a__law_first_one => k_is)
    (case l__law_first_one => k_is)
    (case cd_ok__law_first_one => k_is)
    (case kp__law_first_one => k_is)
    (case f_a__law_of_songs => k_is)
    (case l__law_of_songs => k_is)
    (case cd_ok__law_of_songs => k_is)
    (case kp__law_of_songs => k_is)
    (case f_a__law_rows_right => k_is)
    (case l__law_rows_right => k_is)
    (case cd_ok__law_rows_right => k_is)
    (case kp__law_rows_right => k_is)
    (case f_a_law => k_is)
    (case l_law => k_is)
    (case cd_ok_law => k_is)
    (case kp_law => k_is)
